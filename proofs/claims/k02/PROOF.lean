import PyProof.Rows.All
import Wide.All
import OpenK.AllK
import Wide.FinOn
import HandS.ForMost
import HandS.TupAny
import HandS.TupMul
import HandS.ForExc
import HandS.Flow
import HandS.Zip
import HandS.IsInst
import HandS.Lambda
import HandS.HotCalls
import HandS.Deep
import KE.KTupSum
import HandS.Conv
import HandS.WordsDict
import HandS.RaiseMore
import HandS.FStr
import KE.DataFind
import HandS.ExcOwn
import HandS.Defaults
import HandS.HeadEnd
import HandS.Style
import HandS.Star
import KE.GoesMore
import HandS.Comp
import KE.KExcInit
import HandS.ExcIs
import HandS.ExcBuiltin
import KE.KTryMore
import HandS.TryMany
import OpenK.KOps
import HandS.Property
import HandS.EndTab
import HandS.More
import HandS.Head0
import HandS.Head1
import HandS.Head2
import HandS.HeadHook1
import HandS.HeadHook2
import HandS.HeadHook4
import KE.KStateDown
import PySem.Challenge.RW_spillhooks_k02_rails_refused
set_option Elab.async false
set_option linter.all false
set_option maxRecDepth 100000
namespace Z
open PySem
inductive T where
  | non | bl (b : Bool) | int (i : Int) | str (x : Str)
  | tup (ts : List T) | lst (ts : List T) | dct (ks vs : List T)
  | ins (c : Nat) (fs : List T) | ref (n : Nat)
deriving Inhabited
inductive Ob where
  | lst (ts : List T) | dct (ks vs : List T) | ins (c : Nat) (fs : List (Option T))
deriving Inhabited
abbrev Store := List Ob
inductive R where
  | val (t : T) | own (i : Nat) | fresh (o : Ob) | hot (c : Nat) (l : List T)
deriving Inhabited
def R.isFresh : R → Bool
  | .fresh _ => true
  | _ => false
inductive Slot where
  | un | val (t : T) | own (o : Ob) | hot (c : Nat) (l : List T) | act
deriving Inhabited
abbrev Env := List Slot
def Slot.seen : Slot → Slot
  | .val t => .val t
  | _ => .un
inductive Out (A : Type) where
  | ok (a : A) (S : Store) | ex (c : Nat) (a : List T) (S : Store) | no
def Out.bind {A B : Type} : Out A → (A → Store → Out B) → Out B
  | .ok a S, f => f a S
  | .ex c a S, _ => .ex c a S
  | .no, _ => .no
def Out.only {A B : Type} : Out A → (A → Store → Out B) → Out B
  | .ok a S, f => f a S
  | _, _ => .no
def Out.of {A : Type} (S : Store) : Option A → Out A
  | some a => .ok a S
  | none => .no
def allSome {A : Type} : List (Option A) → Option (List A)
  | [] => some []
  | some a :: r => (match allSome r with | some l => some (a :: l) | none => none)
  | none :: _ => none
abbrev Ob.toT : Ob → Option T
  | .lst ts => some (.lst ts)
  | .dct ks vs => some (.dct ks vs)
  | .ins c fs => (match allSome fs with | some l => some (.ins c l) | none => none)
abbrev flat (env : Env) (S : Store) : R → Option T
  | .val (.ref n) => (match S[n]? with | some o => o.toT | none => none)
  | .val t => some t
  | .own i => (match env[i]? with | some (.own o) => o.toT | _ => none)
  | .fresh o => o.toT
  | .hot _ _ => none
abbrev sink : R → Option T
  | .val t => some t
  | .fresh o => o.toT
  | .own _ => none
  | .hot _ _ => none
mutual
def toD : T → PyData
  | .non => .none
  | .bl b => .bool b
  | .int i => .int i
  | .str x => .str x
  | .tup ts => .tuple (toDs ts)
  | .lst ts => .list (toDs ts)
  | .dct _ _ => .dict []
  | .ins _ _ => .dict []
  | .ref _ => .dict []
def toDs : List T → List PyData
  | [] => []
  | t :: ts => toD t :: toDs ts
end
def okD : Nat → T → Bool
  | _, .non => true
  | _, .bl _ => true
  | _, .int _ => true
  | _, .str x => PyData.strOk x
  | n + 1, .tup ts => ts.all (okD n)
  | n + 1, .lst ts => ts.all (okD n)
  | _, _ => false
def DEEP : Nat := 40
def eqvT (a b : T) : Bool := PyData.eqv (toD a) (toD b)
inductive BOp where | add | sub | mul | fdiv | mod | pow
deriving DecidableEq
def LIM : Nat := sizeLine
def small64 (i : Int) : Bool := decide (-(2 ^ 64) < i) && decide (i < 2 ^ 64)
def guardT {A : Type} (b : Bool) (a : A) : Option A := match b with | true => some a | false => none
def binT : BOp → T → T → Option R
  | .add, .int a, .int b => some (.val (.int (a + b)))
  | .add, .tup a, .tup b => guardT (decide (a.length + b.length ≤ LIM)) (.val (.tup (a ++ b)))
  | .add, .lst a, .lst b => guardT (decide (a.length + b.length ≤ LIM)) (.fresh (.lst (a ++ b)))
  | .add, .str a, .str b => guardT (decide (a.length + b.length ≤ LIM)) (.val (.str (a ++ b)))
  | .sub, .int a, .int b => some (.val (.int (a - b)))
  | .mul, .int a, .int b => guardT (small64 a || small64 b) (.val (.int (a * b)))
  | .mul, .lst a, .int k => guardT (decide (-(2 ^ 63) ≤ k) && decide (k < 2 ^ 63) && decide (a.length * k.toNat ≤ LIM)) (.fresh (.lst (List.replicate k.toNat a).flatten))
  | .mul, .tup a, .int k => guardT (decide (-(2 ^ 63) ≤ k) && decide (k ≤ 1000) && decide (a.length ≤ 1000)) (.val (.tup (List.replicate k.toNat a).flatten))
  | .fdiv, .int a, .int b => guardT (decide (0 < b) && decide (b < 1073741824)) (.val (.int (a / b)))
  | .mod, .int a, .int b => guardT (decide (0 < b)) (.val (.int (a % b)))
  | .pow, .int a, .int b => guardT (decide (0 ≤ b) && decide (b ≤ 1000000) && decide (a.natAbs < 2 ^ 64)) (.val (.int (a ^ b.toNat)))
  | _, _, _ => none
inductive COp where | eq | ne | lt | le | gt | ge | is | isnot | isin | notin
deriving DecidableEq
def isNon : R → Bool
  | .val .non => true
  | _ => false
def memT (x : T) (ts : List T) : Bool := ts.any fun y => eqvT y x
def cmpT : COp → T → T → Option Bool
  | .eq, a, b => guardT (okD DEEP a && okD DEEP b) (eqvT a b)
  | .ne, a, b => guardT (okD DEEP a && okD DEEP b) (!eqvT a b)
  | .lt, .int a, .int b => some (decide (a < b))
  | .le, .int a, .int b => some (decide (a ≤ b))
  | .gt, .int a, .int b => some (decide (b < a))
  | .ge, .int a, .int b => some (decide (b ≤ a))
  | .isin, a, .lst ts => guardT (okD DEEP a && ts.all (okD DEEP)) (memT a ts)
  | .isin, a, .tup ts => guardT (okD DEEP a && ts.all (okD DEEP)) (memT a ts)
  | .notin, a, .lst ts => guardT (okD DEEP a && ts.all (okD DEEP)) (!memT a ts)
  | .notin, a, .tup ts => guardT (okD DEEP a && ts.all (okD DEEP)) (!memT a ts)
  | _, _, _ => none
def truT : T → Option Bool
  | .non => some false
  | .bl b => some b
  | .int i => some (i != 0)
  | .str x => guardT (decide (x.length ≤ LIM)) (x.length != 0)
  | .tup ts => some (!ts.isEmpty)
  | .lst ts => some (!ts.isEmpty)
  | .dct ks _ => some (!ks.isEmpty)
  | _ => none
def ixN (n : Nat) (i : Int) : Option Nat := if 0 ≤ i then (if i < n then some i.toNat else none) else if -(n : Int) ≤ i then some (i + n).toNat else none
def atT (ts : List T) (i : Int) : Option T := (ixN ts.length i).bind fun j => ts[j]?
def ixT : T → T → Option T
  | .tup ts, .int i => atT ts i
  | .lst ts, .int i => atT ts i
  | _, _ => none
def sIx (n d : Nat) : Option Int → Nat
  | none => d
  | some i => if i < 0 then (i + n).toNat else min i.toNat n
def cutT (ts : List T) (lo hi : Option Int) : List T := (ts.drop (sIx ts.length 0 lo)).take (sIx ts.length ts.length hi - sIx ts.length 0 lo)
def slT (lo hi : Option Int) : T → Option R
  | .tup ts => some (.val (.tup (cutT ts lo hi)))
  | .lst ts => some (.fresh (.lst (cutT ts lo hi)))
  | _ => none
inductive Bi where
  | len | abs | min2 | max2 | divmod | int | tuple | list | sum | all | any | repr | lrange | str | bool | lenr
deriving DecidableEq
def intsT : List T → Option (List Int)
  | [] => some []
  | .int i :: r => (match intsT r with | some l => some (i :: l) | none => none)
  | _ => none
def blsT : List T → Option (List Bool)
  | [] => some []
  | .bl i :: r => (match blsT r with | some l => some (i :: l) | none => none)
  | _ => none
def rangeT (lo hi : Int) : List T := (List.range (hi - lo).toNat).map fun (k : Nat) => .int (lo + (k : Int))
def in62 (i : Int) : Bool := decide (-(2 ^ 62) ≤ i) && decide (i < 2 ^ 62)
def biT : Bi → List T → Option R
  | .len, [.tup ts] => some (.val (.int ts.length))
  | .len, [.lst ts] => some (.val (.int ts.length))
  | .len, [.dct ks _] => some (.val (.int ks.length))
  | .abs, [.int i] => some (.val (.int (if i < 0 then -i else i)))
  | .min2, [.int i, .int j] => some (.val (.int (if j < i then j else i)))
  | .max2, [.int i, .int j] => some (.val (.int (if j > i then j else i)))
  | .divmod, [.int a, .int b] => guardT (decide (0 < b) && decide (b < 1073741824)) (.val (.tup [.int (a / b), .int (a % b)]))
  | .int, [.int i] => some (.val (.int i))
  | .int, [.bl b] => some (.val (.int (if b then 1 else 0)))
  | .tuple, [.lst ts] => some (.val (.tup ts))
  | .tuple, [.tup ts] => some (.val (.tup ts))
  | .list, [.lst ts] => some (.fresh (.lst ts))
  | .list, [.tup ts] => some (.fresh (.lst ts))
  | .lrange, [.int i] => guardT (in62 i && decide (i.toNat ≤ LIM)) (.fresh (.lst (rangeT 0 i)))
  | .sum, [.lst ts] => (match intsT ts with | some l => some (.val (.int l.sum)) | none => none)
  | .sum, [.tup ts] => (match intsT ts with | some l => some (.val (.int l.sum)) | none => none)
  | .all, [.lst ts] => (match blsT ts with | some l => some (.val (.bl (l.all id))) | none => none)
  | .any, [.lst ts] => (match blsT ts with | some l => some (.val (.bl (l.any id))) | none => none)
  | .repr, [t] => guardT (okD DEEP t && (toD t).showable && decide ((toD t).shown.length ≤ LIM)) (.val (.str (toD t).shown))
  | .str, [.int i] => guardT (decide (i.natAbs.log2 < 1920)) (.val (.str (toString i)))
  | .str, [.str x] => some (.val (.str x))
  | .bool, [.int i] => some (.val (.bl (i != 0)))
  | .bool, [.bl b] => some (.val (.bl b))
  | .lenr, [.int i] => guardT (decide (0 ≤ i) && decide (i < 1073741824)) (.val (.int i))
  | _, _ => none
inductive Mb where
  | lcount | lindex | join
deriving DecidableEq
def strsT : List T → Option (List Str)
  | [] => some []
  | .str i :: r => (match strsT r with | some l => some (i :: l) | none => none)
  | _ => none
def findT (x : T) (ts : List T) : Option Nat := ts.findIdx? fun y => eqvT y x
def mbT : Mb → T → List T → Option R
  | .lcount, .lst ts, [x] => guardT (okD DEEP x && ts.all (okD DEEP)) (.val (.int ((ts.countP fun y => eqvT y x : Nat) : Int)))
  | .lindex, .lst ts, [x] => (match okD DEEP x && ts.all (okD DEEP), findT x ts with
    | true, some j => some (.val (.int (j : Nat)))
    | _, _ => none)
  | .join, .str a, [.lst ts] => (match strsT ts with
    | some ys => guardT (decide ((ys.map (·.length)).sum + ys.length * a.length ≤ LIM)) (.val (.str (Txt.join a ys)))
    | none => none)
  | _, _, _ => none
def isMb : Mb → Option T → Bool
  | .lcount, some (.lst _) => true
  | .lindex, some (.lst _) => true
  | .join, some (.str _) => true
  | _, _ => false
def fmtT : T → Option Str
  | .str y => guardT (decide (y.length ≤ LIM)) y
  | .int i => guardT (decide (i.natAbs.log2 < 1920)) (toString i)
  | _ => none
inductive Spk where | len | bool | repr
deriving DecidableEq
def spcR : Spk → R → Option R
  | .len, .val (.int n) => guardT (decide (0 ≤ n) && decide (n < 2 ^ 63)) (.val (.int n))
  | .bool, .val (.int n) => guardT (decide (0 ≤ n) && decide (n < 2 ^ 63)) (.val (.bl (n != 0)))
  | .repr, .val (.str x) => some (.val (.str x))
  | _, _ => none
inductive BTy where
  | int | bool | str | tuple | list | own (c : Nat) | exc (c : Nat)
deriving DecidableEq
def isiT1 : T → BTy → Option Bool
  | _, .exc _ => none
  | .non, _ => some false
  | .bl _, .int => some true
  | .bl _, .bool => some true
  | .bl _, _ => some false
  | .int _, .int => some true
  | .int _, _ => some false
  | .str _, .str => some true
  | .str _, _ => some false
  | .tup _, .tuple => some true
  | .tup _, _ => some false
  | .lst _, .list => some true
  | .lst _, _ => some false
  | .dct _ _, _ => some false
  | .ins c _, .own d => some (c == d)
  | .ins _ _, _ => some false
  | _, _ => none
def isiT (t : T) : List BTy → Option Bool
  | [] => some false
  | b :: r => (match isiT1 t b with
    | some true => some true
    | some false => isiT t r
    | none => none)
mutual
inductive CE where
  | var (i : Nat) | int (i : Int) | bl (b : Bool) | non | str (x : Str)
  | tup (es : CEs) | lst (es : CEs)
  | bin (op : BOp) (a b : CE) | neg (a : CE) | cmp (op : COp) (a b : CE) | chain (o1 o2 : COp) (a b c : CE)
  | band (a b : CE) | bor (a b : CE) | bnot (a : CE) | ife (t a b : CE)
  | ix (a i : CE) | sl (a : CE) (lo hi : CO) | fld (a : CE) (f : Nat)
  | call (g : Nat) (es : CEs) | new (c : Nat) (es : CEs) | bi (b : Bi) (es : CEs)
  | con (k : Nat)
  | keep (e : CE) | isi (a : CE) (cs : List BTy)
  | callk (g : Nat) (ks : List Str) (perm : List Nat) (es fs : CEs)
  | lc (g : CG) (it : CI) (c : CO) (e : CE)
  | callh (g : Nat) (e : CE)
  | lam (g : Nat) (e : CE) | act (i : Nat) | dnil
  | meth (c g : Nat) (a : CE) (es : CEs) | prop (c g : Nat) (a : CE) | spc (k : Spk) (c g : Nat) (a : CE)
  | mb (m : Mb) (a : CE) (es : CEs) | fstr (es : CEs) | tups (a : CE) (es : CEs)
  | newk (c : Nat) (ks : List Str) (perm : List Nat) (fs : CEs)
inductive CEs where
  | nil | cons (e : CE) (es : CEs)
inductive CO where
  | none | some (e : CE)
inductive CI where
  | ce (e : CE) | range1 (a : CE) | range2 (a b : CE) | enum (a : CE) | zip (a b : CE)
inductive CG where
  | name (i : Nat) | tup (gs : CGs)
inductive CGs where
  | nil | cons (g : CG) (gs : CGs)
end
inductive CT where
  | name (i : Nat) | ix (a i : CE) | fld (a : CE) (f : Nat) | pair (g h : CT) | trip (g h k : CT)
mutual
inductive CS where
  | set (i : Nat) (own : Bool) (e : CE)
  | par (i j : Nat) (oi oj : Bool) (a b : CE)
  | par3 (i j l : Nat) (oi oj ol : Bool) (a b c : CE)
  | asg (g : CT) (e : CE)
  | move (i j : Nat)
  | ext (i : Nat) (e : CE)
  | append (a e : CE)
  | augf (a : CE) (f : Nat) (e : CE)
  | expr (e : CE)
  | ret (e : CE) | retN | brk | cnt | pass
  | sif (t : CE) (a b : CSs)
  | sfor (g : CG) (it : CI) (body : CSs)
  | sforo (g : CG) (j : Nat) (body : CSs)
  | swhile (t : CE) (body : CSs)
  | raise (c : Nat) (es : CEs)
  | stry (body : CSs) (hds : CHs)
  | never
inductive CSs where
  | nil | cons (s : CS) (ss : CSs)
inductive CHs where
  | nil | cons (cs : List Nat) (i : Option Nat) (b : CSs) (hs : CHs)
end
abbrev Fn := Nat → List T → Store → Out R
mutual
def setG : CG → T → Env → Option Env
  | .name i, t, env => some (env.set i (.val t))
  | .tup gs, .tup ts, env => setGs gs ts env
  | .tup _, _, _ => none
def setGs : CGs → List T → Env → Option Env
  | .nil, [], env => some env
  | .cons g gs, t :: ts, env => (match setG g t env with | some env' => setGs gs ts env' | none => none)
  | _, _, _ => none
end
mutual
def slotsG : CG → List Nat
  | .name i => [i]
  | .tup gs => slotsGs gs
def slotsGs : CGs → List Nat
  | .nil => []
  | .cons g gs => slotsG g ++ slotsGs gs
end
def wipeE (env : Env) : List Nat → Env
  | [] => env
  | v :: vs => (wipeE env vs).set v .un
def seqR (st : Bool) (env : Env) : R → Option (Bool × List T)
  | .val (.lst ts) => some (false, ts)
  | .val (.tup ts) => some (true, ts)
  | .fresh (.lst ts) => some (false, ts)
  | .own i => (match st with
    | true => none
    | false => (match env[i]? with | some (.own (.lst ts)) => some (false, ts) | _ => none))
  | _ => none
def enumT (i : Int) : List T → List T
  | [] => []
  | t :: ts => .tup [.int i, t] :: enumT (i + 1) ts
def compL (step : Env → Store → Out (Option T)) (set : T → Env → Option Env) (env : Env) : List T → Store → Out (List T)
  | [], S => .ok [] S
  | t :: ts, S => (match set t env with
    | some env' => (step env' S).bind fun r S1 => (compL step set env ts S1).bind fun l S2 => .ok (match r with | some x => x :: l | none => l) S2
    | none => .no)
structure EC where
  call : Fn
  new : Fn
  con : Nat → Option T
  callH : Nat → Nat → List T → Store → Out R
  /-- the parameter that is a lambda, called -/
  act : Store → Out R
  /-- a def called with a lambda -/
  callL : Nat → CE → Env → Store → Out R
  /-- an error's class: its attribute's place -/
  xat : Nat → Option (Option Nat)
  xis : Nat → Nat → Option Bool
  /-- a def some levels below: a property's, __len__, __repr__ -/
  low : Fn
def xisA (x : Nat → Nat → Option Bool) (c : Nat) : List Nat → Option Bool
  | [] => some false
  | d :: r => (match x c d, xisA x c r with
    | some b, some e => some (b || e)
    | _, _ => none)
def hotTy (x : Nat → Nat → Option Bool) (c : Nat) : List BTy → Option Bool
  | [.exc d] => x c d
  | _ => none
def hotFld (C : EC) (c : Nat) (l : List T) (f : Nat) : Option T := match C.xat c, l with
  | some (some g), [t] => (match g == f with | true => some t | false => none)
  | _, _ => none
def isCls (S : Store) (c : Nat) : T → Bool
  | .ins d _ => d == c
  | .ref n => (match S[n]? with | some (.ins d _) => d == c | _ => false)
  | _ => false
def evC (op : COp) (env : Env) (S : Store) (x y : R) : Out Bool := match op with
  | .is => (match y with | .val .non => .ok (isNon x) S | _ => .no)
  | .isnot => (match y with | .val .non => .ok (!isNon x) S | _ => .no)
  | op => (match flat env S x, flat env S y with
    | some t, some u => .of S (cmpT op t u)
    | _, _ => .no)
def fldO (f : Nat) : Ob → Option T
  | .ins _ fs => (match fs[f]? with | some (some t) => some t | _ => none)
  | _ => none
def fldR (env : Env) (S : Store) (x : R) (f : Nat) : Option T := match x with
  | .val (.ins _ fs) => fs[f]?
  | .val (.ref n) => (match S[n]? with | some o => fldO f o | none => none)
  | .own i => (match env[i]? with | some (.own o) => fldO f o | _ => none)
  | .fresh o => fldO f o
  | _ => none
def truO (env : Env) (o : Out R) : Out Bool := o.bind fun x S1 => (match flat env S1 x with
    | some t => .of S1 (truT t)
    | none => .no)
mutual
def evE (C : EC) : CE → Env → Store → Out R
  | .var i, env, S => (match env[i]? with | some (.val t) => .ok (.val t) S | some (.own _) => .ok (.own i) S | some (.hot c l) => .ok (.hot c l) S | _ => .no)
  | .int i, _, S => .ok (.val (.int i)) S
  | .bl b, _, S => .ok (.val (.bl b)) S
  | .non, _, S => .ok (.val .non) S
  | .str x, _, S => .ok (.val (.str x)) S
  | .tup es, env, S => (evEs C es env S).bind fun ts S1 => .ok (.val (.tup ts)) S1
  | .lst es, env, S => (evEs C es env S).bind fun ts S1 => .ok (.fresh (.lst ts)) S1
  | .bin op a b, env, S => (evE C a env S).bind fun x S1 => (evE C b env S1).bind fun y S2 => (match flat env S2 x, flat env S2 y with
    | some t, some u => .of S2 (binT op t u)
    | _, _ => .no)
  | .neg a, env, S => (evE C a env S).bind fun x S1 => (match x with | .val (.int i) => .ok (.val (.int (-i))) S1 | _ => .no)
  | .cmp op a b, env, S => (evE C a env S).bind fun x S1 => (evE C b env S1).bind fun y S2 => (evC op env S2 x y).bind fun k S3 => .ok (.val (.bl k)) S3
  | .chain o1 o2 a b c, env, S => (evE C a env S).bind fun x S1 => (evE C b env S1).bind fun y S2 => (evC o1 env S2 x y).bind fun k S3 => (match k with
    | true => (evE C c env S3).bind fun z S4 => (evC o2 env S4 y z).bind fun k' S5 => .ok (.val (.bl k')) S5
    | false => .ok (.val (.bl false)) S3)
  | .band a b, env, S => (evE C a env S).bind fun x S1 => (match flat env S1 x with
    | some t => (match truT t with | some true => evE C b env S1 | some false => .ok x S1 | none => .no)
    | none => .no)
  | .bor a b, env, S => (evE C a env S).bind fun x S1 => (match flat env S1 x with
    | some t => (match truT t with | some true => .ok x S1 | some false => evE C b env S1 | none => .no)
    | none => .no)
  | .bnot a, env, S => (truO env (evE C a env S)).bind fun k S1 => .ok (.val (.bl (!k))) S1
  | .ife t a b, env, S => (truO env (evE C t env S)).bind fun k S1 => (match k with | true => evE C a env S1 | false => evE C b env S1)
  | .ix a i, env, S => (evE C a env S).bind fun x S1 => (evE C i env S1).bind fun y S2 => (match flat env S2 x, flat env S2 y with
    | some t, some u => .of S2 ((ixT t u).map R.val)
    | _, _ => .no)
  | .sl a lo hi, env, S => (evE C a env S).bind fun x S1 => (evO C lo env S1).bind fun l S2 => (evO C hi env S2).bind fun h S3 => (match flat env S3 x with
    | some t => .of S3 (slT l h t)
    | none => .no)
  | .fld a f, env, S => (evE C a env S).bind fun x S1 => (match x with
    | .hot c l => .of S1 ((hotFld C c l f).map R.val)
    | x => .of S1 ((fldR env S1 x f).map R.val))
  | .call g es, env, S => (evEs C es env S).bind fun ts S1 => C.call g ts S1
  | .new c es, env, S => (evEs C es env S).bind fun ts S1 => C.new c ts S1
  | .bi b es, env, S => (evRs C es env S).bind fun ts S1 => .of S1 (biT b ts)
  | .con k, _, S => .of S ((C.con k).map R.val)
  | .keep e, env, S => (evE C e env S).bind fun x S1 => (match x with | .fresh o => .ok (.val (.ref S1.length)) (S1 ++ [o]) | _ => .no)
  | .isi a cs, env, S => (evE C a env S).bind fun x S1 => (match x with
    | .hot c _ => .of S1 ((hotTy C.xis c cs).map fun b => R.val (.bl b))
    | x => (match flat env S1 x with
      | some t => .of S1 ((isiT t cs).map fun b => R.val (.bl b))
      | none => .no))
  | .lam g e, env, S => C.callL g e (env.map Slot.seen) S
  | .act i, env, S => (match env[i]? with | some .act => C.act S | _ => .no)
  | .dnil, _, S => .ok (.val (.dct [] [])) S
  | .callh g e, env, S => (evE C e env S).bind fun x S1 => (match x with | .hot c l => (C.callH g c l S1).only fun x S2 => .ok x S2 | _ => .no)
  | .meth c g a es, env, S => (evE C a env S).bind fun x S1 => (match sink x with
    | some t => (match isCls S1 c t with
      | true => (evEs C es env S1).bind fun ts S2 => C.call g (t :: ts) S2
      | false => .no)
    | none => .no)
  | .prop c g a, env, S => (evE C a env S).bind fun x S1 => (match sink x with
    | some t => (match isCls S1 c t with
      | true => (C.low g [t] S1).only fun y S2 => .ok y S2
      | false => .no)
    | none => .no)
  | .spc k c g a, env, S => (evE C a env S).bind fun x S1 => (match sink x with
    | some t => (match isCls S1 c t with
      | true => (C.low g [t] S1).only fun y S2 => .of S2 (spcR k y)
      | false => .no)
    | none => .no)
  | .mb m a es, env, S => (evE C a env S).bind fun x S1 => (match isMb m (flat env S1 x) with
    | true => (evRs C es env S1).bind fun ts S2 => (match flat env S2 x with
      | some t => .of S2 (mbT m t ts)
      | none => .no)
    | false => .no)
  | .tups a es, env, S => (evE C a env S).bind fun x S1 => (match x with
    | .val (.tup us) => (evEs C es env S1).bind fun ts S2 => .of S2 (guardT (decide (us.length + ts.length ≤ LIM)) (.val (.tup (us ++ ts))))
    | _ => .no)
  | .fstr es, env, S => (evFs C es Str.empty env S).bind fun y S1 => .ok (.val (.str y)) S1
  | .newk c _ perm fs, env, S => (evEs C fs env S).bind fun us S1 => C.new c (perm.map fun i => (us[i]?).getD .non) S1
  | .callk g _ perm es fs, env, S => (evEs C es env S).bind fun ts S1 => (evEs C fs env S1).bind fun us S2 => C.call g (perm.map fun i => ((ts ++ us)[i]?).getD .non) S2
  | .lc g it c e, env, S => (evI C false it env S).bind fun ts S1 =>
    (compL (fun env' S' => (match c with
      | .none => (evE C e env' S').bind fun x S'' => .of S'' ((sink x).map some)
      | .some c => (truO env' (evE C c env' S')).bind fun k S'' => (match k with
        | true => (evE C e env' S'').bind fun x S3 => .of S3 ((sink x).map some)
        | false => .ok none S''))) (setG g) (wipeE env (slotsG g)) ts S1).only fun l S2 => .of S2 (guardT (decide (l.length ≤ LIM)) (.fresh (.lst l)))
def evEs (C : EC) : CEs → Env → Store → Out (List T)
  | .nil, _, S => .ok [] S
  | .cons e es, env, S => (evE C e env S).bind fun x S1 => (match sink x with
    | some t => (evEs C es env S1).bind fun ts S2 => .ok (t :: ts) S2
    | none => .no)
def evRs (C : EC) : CEs → Env → Store → Out (List T)
  | .nil, _, S => .ok [] S
  | .cons e es, env, S => (evE C e env S).bind fun x S1 => (evRs C es env S1).bind fun ts S2 => (match flat env S2 x with
    | some t => .ok (t :: ts) S2
    | none => .no)
def evFs (C : EC) : CEs → Str → Env → Store → Out Str
  | .nil, acc, _, S => .ok acc S
  | .cons e es, acc, env, S => (evE C e env S).bind fun x S1 => (match x with
    | .val t => (match fmtT t with
      | some y => (match decide ((acc ++ y).length ≤ LIM) with | true => evFs C es (acc ++ y) env S1 | false => .no)
      | none => .no)
    | _ => .no)
def evO (C : EC) : CO → Env → Store → Out (Option Int)
  | .none, _, S => .ok none S
  | .some e, env, S => (evE C e env S).bind fun x S1 => (match x with | .val (.int i) => .ok (some i) S1 | _ => .no)
def evI (C : EC) (st : Bool) : CI → Env → Store → Out (List T)
  | .ce e, env, S => (evE C e env S).bind fun x S1 => (match seqR st env x with
    | some (_, ts) => .ok ts S1
    | none => .no)
  | .range1 a, env, S => (evE C a env S).bind fun x S1 => (match x with | .val (.int i) => .of S1 (guardT (in62 i) (rangeT 0 i)) | _ => .no)
  | .range2 a b, env, S => (evE C a env S).bind fun x S1 => (evE C b env S1).bind fun y S2 => (match x, y with
    | .val (.int i), .val (.int j) => .of S2 (guardT (in62 i && in62 j) (rangeT i j))
    | _, _ => .no)
  | .enum a, env, S => (evE C a env S).bind fun x S1 => (match seqR st env x with
    | some (_, ts) => .ok (enumT 0 ts) S1
    | none => .no)
  | .zip a b, env, S => (evE C a env S).bind fun x S1 => (evE C b env S1).bind fun y S2 => (match seqR st env x, seqR st env y with
    | some (k, ts), some (l, us) => .of S2 (guardT (k == l) (List.zipWith (fun t u => T.tup [t, u]) ts us))
    | _, _ => .no)
end
inductive Fl where
  | nx (env : Env) (S : Store) | rt (r : R) (S : Store) | bk (env : Env) (S : Store) | ct (env : Env) (S : Store)
  | ex (c : Nat) (a : List T) (env : Env) (S : Store) | no
def Fl.of {A : Type} (env : Env) : Out A → (A → Store → Fl) → Fl
  | .ok a S, f => f a S
  | .ex c a S, _ => .ex c a env S
  | .no, _ => .no
abbrev slotOf : Bool → R → Option Slot
  | true, .fresh o => some (.own o)
  | true, _ => none
  | false, .val t => some (.val t)
  | false, .fresh o => o.toT.map Slot.val
  | false, .own _ => none
  | false, .hot _ _ => none
def putIx : Ob → T → T → Option Ob
  | .lst ts, .int i, t => (ixN ts.length i).map fun k => .lst (ts.set k t)
  | _, _, _ => none
def change (env : Env) (S : Store) (x : R) (f : Ob → Option Ob) : Option (Env × Store) := match x with
  | .own i => (match env[i]? with
    | some (.own o) => (f o).map fun o' => (env.set i (.own o'), S)
    | _ => none)
  | .val (.ref n) => (match S[n]? with
    | some o => (f o).map fun o' => (env, S.set n o')
    | none => none)
  | _ => none
def isL (env : Env) (S : Store) : R → Bool
  | .own i => (match env[i]? with | some (.own (.lst _)) => true | _ => false)
  | .val (.ref n) => (match S[n]? with | some (.lst _) => true | _ => false)
  | _ => false
def appT (t : T) : Ob → Option Ob
  | .lst ts => guardT (decide (ts.length < LIM)) (.lst (ts ++ [t]))
  | _ => none
def putF (f : Nat) (t : T) : Ob → Option Ob
  | .ins c fs => guardT (decide (f < fs.length)) (.ins c (fs.set f (some t)))
  | _ => none
def clsO : Option Ob → Option Nat
  | some (.ins c _) => some c
  | _ => none
def clsR (env : Env) (S : Store) : R → Option Nat
  | .val (.ref n) => clsO S[n]?
  | .own i => (match env[i]? with | some (.own o) => clsO (some o) | _ => none)
  | _ => none
def asgT (C : EC) : CT → T → Env → Store → Out Env
  | .name i, t, env, S => .ok (env.set i (.val t)) S
  | .ix a i, t, env, S => (evE C a env S).bind fun x S1 => (evE C i env S1).bind fun y S2 => (match flat env S2 y with
    | some u => (match change env S2 x (fun o => putIx o u t) with | some (env', S') => .ok env' S' | none => .no)
    | none => .no)
  | .fld a f, t, env, S => (evE C a env S).bind fun x S1 => (match change env S1 x (putF f t) with | some (env', S') => .ok env' S' | none => .no)
  | .pair g h, t, env, S => (match t with
    | .tup [t1, t2] => (asgT C g t1 env S).bind fun env1 S1 => asgT C h t2 env1 S1
    | .lst [t1, t2] => (asgT C g t1 env S).bind fun env1 S1 => asgT C h t2 env1 S1
    | _ => .no)
  | .trip g h k, t, env, S => (match t with
    | .tup [t1, t2, t3] => (asgT C g t1 env S).bind fun env1 S1 => (asgT C h t2 env1 S1).bind fun env2 S2 => asgT C k t3 env2 S2
    | .lst [t1, t2, t3] => (asgT C g t1 env S).bind fun env1 S1 => (asgT C h t2 env1 S1).bind fun env2 S2 => asgT C k t3 env2 S2
    | _ => .no)
def forL (set : T → Env → Option Env) (body : Env → Store → Fl) : List T → Env → Store → Fl
  | [], env, S => .nx env S
  | t :: ts, env, S => (match set t env with
    | some env1 => (match body env1 S with
      | .nx env2 S2 => forL set body ts env2 S2
      | .ct env2 S2 => forL set body ts env2 S2
      | .bk env2 S2 => .nx env2 S2
      | r => r)
    | none => .no)
def forO (set : T → Env → Option Env) (j : Nat) (body : Env → Store → Fl) : Nat → Nat → Env → Store → Fl
  | 0, _, _, _ => .no
  | n + 1, k, env, S => (match env[j]? with
    | some (.own (.lst ts)) => (match ts[k]? with
      | some t => (match set t env with
        | some env1 => (match body env1 S with
          | .nx env2 S2 => forO set j body n (k + 1) env2 S2
          | .ct env2 S2 => forO set j body n (k + 1) env2 S2
          | .bk env2 S2 => .nx env2 S2
          | r => r)
        | none => .no)
      | none => .nx env S)
    | _ => .no)
def whileL (test : Env → Store → Out Bool) (body : Env → Store → Fl) : Nat → Env → Store → Fl
  | 0, _, _ => .no
  | n + 1, env, S => Fl.of env (test env S) fun k S1 => (match k with
    | true => (match body env S1 with
      | .nx env2 S2 => whileL test body n env2 S2
      | .ct env2 S2 => whileL test body n env2 S2
      | .bk env2 S2 => .nx env2 S2
      | r => r)
    | false => .nx env S1)
def FUEL : Nat := 1000000000
mutual
def exS (C : EC) : CS → Env → Store → Fl
  | .set i own e, env, S => Fl.of env (evE C e env S) fun x S1 => (match slotOf own x with | some o => .nx (env.set i o) S1 | none => .no)
  | .par i j oi oj a b, env, S => Fl.of env (evE C a env S) fun x S1 => Fl.of env (evE C b env S1) fun y S2 => (match slotOf oi x, slotOf oj y with
    | some o, some u => .nx ((env.set i o).set j u) S2
    | _, _ => .no)
  | .par3 i j l oi oj ol a b c, env, S => Fl.of env (evE C a env S) fun x S1 => Fl.of env (evE C b env S1) fun y S2 => Fl.of env (evE C c env S2) fun z S3 => (match slotOf oi x, slotOf oj y, slotOf ol z with
    | some o, some u, some q => .nx (((env.set i o).set j u).set l q) S3
    | _, _, _ => .no)
  | .asg g e, env, S => Fl.of env (evE C e env S) fun x S1 => (match sink x with
    | some t => (match asgT C g t env S1 with | .ok env' S2 => .nx env' S2 | _ => .no)
    | none => .no)
  | .move i j, env, S => (match env[j]? with
    | some (.own o) => .nx ((env.set j .un).set i (.own o)) S
    | _ => .no)
  | .ext i e, env, S => (match env[i]? with
    | some (.own (.lst ts)) => Fl.of env (evE C e env S) fun y S1 => (match y with
      | .fresh (.lst us) => (match decide (ts.length + us.length ≤ LIM) with
        | true => .nx (env.set i (.own (.lst (ts ++ us)))) S1
        | false => .no)
      | _ => .no)
    | _ => .no)
  | .append a e, env, S => Fl.of env (evE C a env S) fun x S1 => (match isL env S1 x with
    | true => Fl.of env (evE C e env S1) fun y S2 => (match sink y with
      | some t => (match change env S2 x (appT t) with | some (env', S') => .nx env' S' | none => .no)
      | none => .no)
    | false => .no)
  | .augf a f e, env, S => Fl.of env (evE C a env S) fun x S1 => (match fldR env S1 x f with
    | some (.int i) => Fl.of env (evE C e env S1) fun y S2 => (match y with
      | .val (.int j) => (match (clsR env S1 x).isSome && clsR env S2 x == clsR env S1 x with
        | true => (match change env S2 x (putF f (.int (i + j))) with | some (env', S') => .nx env' S' | none => .no)
        | false => .no)
      | _ => .no)
    | _ => .no)
  | .expr e, env, S => Fl.of env (evE C e env S) fun _ S1 => .nx env S1
  | .ret e, env, S => Fl.of env (evE C e env S) fun x S1 => (match x with
    | .own i => (match env[i]? with | some (.own o) => .rt (.fresh o) S1 | _ => .no)
    | .hot _ _ => .no
    | x => .rt x S1)
  | .retN, _, S => .rt (.val .non) S
  | .brk, env, S => .bk env S
  | .cnt, env, S => .ct env S
  | .pass, env, S => .nx env S
  | .sif t a b, env, S => Fl.of env (truO env (evE C t env S)) fun k S1 => (match k with | true => exB C a env S1 | false => exB C b env S1)
  | .sfor g it body, env, S => Fl.of env (evI C true it env S) fun ts S1 => forL (setG g) (fun e s => exB C body e s) ts env S1
  | .sforo g j body, env, S => forO (setG g) j (fun e s => exB C body e s) FUEL 0 env S
  | .swhile t body, env, S => whileL (fun e s => truO e (evE C t e s)) (fun e s => exB C body e s) FUEL env S
  | .never, _, _ => .no
  | .raise c es, env, S => (match evEs C es env S with
    | .ok ts S1 => (match C.xat c, ts with
      | some none, [] => .ex c [] env S1
      | some (some _), [t] => .ex c [t] env S1
      | _, _ => .no)
    | .ex c l S1 => .ex c l env S1
    | .no => .no)
  | .stry b hs, env, S => (match exB C b env S with
    | .ex c l env1 S1 => exH C hs c l env1 S1
    | r => r)
def exH (C : EC) : CHs → Nat → List T → Env → Store → Fl
  | .nil, c, l, env, S => .ex c l env S
  | .cons cs i b hs, c, l, env, S => (match xisA C.xis c cs with
    | some true => (match exB C b (match i with | some i => env.set i (.hot c l) | none => env) S with
      | .rt x s => .rt x s
      | _ => .no)
    | some false => exH C hs c l env S
    | none => .no)
def exB (C : EC) : CSs → Env → Store → Fl
  | .nil, env, S => .nx env S
  | .cons s ss, env, S => (match exS C s env S with
    | .nx env1 S1 => exB C ss env1 S1
    | r => r)
end
structure FDef where
  np : Nat
  nl : Nat
  body : CSs
structure CDef where
  ini : Nat
  nf : Nat
structure Prog where
  fn : Nat → Option FDef
  cl : Nat → Option CDef
  con : Nat → Option T
  xat : Nat → Option (Option Nat)
  xis : Nat → Nat → Option Bool
def slots (n : Nat) (l : List Slot) : Env := l ++ List.replicate (n - l.length) .un
def runF (C : EC) (fd : FDef) (ts : List T) (S : Store) : Out R := match ts.length == fd.np with
  | true => (match exB C fd.body (slots fd.nl (ts.map Slot.val)) S with
    | .nx _ S' => .ok (.val .non) S'
    | .rt r S' => .ok r S'
    | .ex c a _ S' => .ex c a S'
    | _ => .no)
  | false => .no
def runI (C : EC) (c : Nat) (cd : CDef) (fd : FDef) (ts : List T) (S : Store) : Out R := match ts.length + 1 == fd.np with
  | true => (match exB C fd.body (slots fd.nl (.own (.ins c (List.replicate cd.nf none)) :: ts.map Slot.val)) S with
    | .nx env S' => (match (env[0]? : Option Slot) with | some (Slot.own o) => .ok (.fresh o) S' | _ => .no)
    | .ex c a _ S' => .ex c a S'
    | _ => .no)
  | false => .no
def runH (C : EC) (fd : FDef) (c : Nat) (l : List T) (S : Store) : Out R := match fd.np == 1 with
  | true => (match exB C fd.body (slots fd.nl [.hot c l]) S with
    | .nx _ S' => .ok (.val .non) S'
    | .rt r S' => .ok r S'
    | _ => .no)
  | false => .no
def runL (C : EC) (fd : FDef) (S : Store) : Out R := match fd.np == 1 with
  | true => (match exB C fd.body (slots fd.nl [.act]) S with
    | .nx _ S' => .ok (.val .non) S'
    | .rt r S' => .ok r S'
    | .ex c a _ S' => .ex c a S'
    | _ => .no)
  | false => .no
def lev (P : Prog) : Nat → EC
  | 0 => ⟨fun _ _ _ => .no, fun _ _ _ => .no, P.con, fun _ _ _ _ => .no, fun _ => .no, fun _ _ _ _ => .no, P.xat, P.xis, fun _ _ _ => .no⟩
  | k + 1 => ⟨fun g ts S => (match P.fn g with | some fd => runF (lev P k) fd ts S | none => .no),
    (match k with
    | 0 => fun _ _ _ => .no
    | j + 1 => fun c ts S => (match P.cl c with
      | some cd => (match P.fn cd.ini with | some fd => runI (lev P j) c cd fd ts S | none => .no)
      | none => .no)), P.con,
    fun g c l S => (match P.fn g with | some fd => runH (lev P k) fd c l S | none => .no), fun _ => .no,
    (match k with
    | 0 => fun _ _ _ _ => .no
    | j + 1 => fun g e env S => (match P.fn g with | some fd => runL { lev P (j + 1) with act := fun S' => evE (lev P j) e env S' } fd S | none => .no)), P.xat, P.xis,
    (match k with
    | 0 => fun _ _ _ => .no
    | a + 1 => (match a with
      | 0 => fun _ _ _ => .no
      | b + 1 => (match b with
        | 0 => fun _ _ _ => .no
        | j + 1 => fun g ts S => (lev P j).call g ts S)))⟩
theorem lev_low (P : Prog) (k : Nat) : (lev P (k + 4)).low = (lev P k).call := by
  rw [lev.eq_def]
abbrev evT (C : EC) (c : CE) (env : Env) (S : Store) : Out Bool := truO env (evE C c env S)
end Z
set_option Elab.async false
set_option linter.all false
set_option maxRecDepth 100000
set_option maxHeartbeats 2000000
namespace Z
open PySem PySem.Spec PyProof.Rows L2
structure WT where
  K : PySem.W.Frag
  cadr : Nat → Addr
  attr : Nat → Str
  nat : Nat
  inj : ∀ i j, i < nat → j < nat → attr i = attr j → i = j
  few : nat ≤ 900
  cids : List Nat
  /-- the errors' classes: where they stand, their attribute -/
  xcl : Nat → Value
  xat : Nat → Option (Option Nat)
  /-- the error that is handled: its place, class, dict -/
  hx : Addr → Value → Option Addr → Prop
  /-- the tables of code objects -/
  tabs : List (Addr × Str)
  /-- the lambda that a parameter is -/
  fa : Addr → Hp → List Addr → Hp → Prop
  fam : ∀ (a : Addr) (F F' : Hp) (r r' : List Addr) (H H' : Hp), (∀ b o, F b = some o → F' b = some o) → (∀ (n : Nat) (b : Addr), r[n]? = some b → r'[n]? = some b) → (∀ c q, H c = some (LamX.CodeO c q) → H' c = some (LamX.CodeO c q)) → fa a F r H → fa a F' r' H'
structure ClsI (W : WT) (c : Nat) : Prop where
  ha : PySem.W.findIn W.K (.ref (W.cadr c)) "__class__" = some (some (.builtin "object.__class__"))
  hn : PySem.W.specialIn W.K (.builtin "object.__class__") "__get__" = some (some (.builtin "getset_descriptor.__get__"))
  tk : PySem.W.takesIn W.K (.builtin "object.__class__") = some true
  mr : PySem.W.mroIn W.K (W.cadr c) (.type "object") = some true
  bt : ∀ n : String, n ∈ ["int", "bool", "str", "tuple", "list"] → PySem.W.kitOne W.K (.ref (W.cadr c)) (.type n) = some false
  ot : ∀ d ∈ W.cids, PySem.W.kitOne W.K (.ref (W.cadr c)) (.ref (W.cadr d)) = some (c == d)
def WT.cok (W : WT) (c : Nat) : Prop := Cls W.K (W.cadr c) ∧ (∀ i, i < W.nat → NoAttr W.K (W.cadr c) (W.attr i)) ∧ ClsI W c
section
variable {W : WT}
inductive Rep (W : WT) (F : Hp) (rho : List Addr) : T → V → Prop
  | non : Rep W F rho .non .non
  | bl (b : Bool) : Rep W F rho (.bl b) (.bl b)
  | int (i : Int) : Rep W F rho (.int i) (.int i)
  | str (x : Str) : Rep W F rho (.str x) (.str x)
  | tup {ts : List T} {vs : List V} {a : Addr} : SqT W.K F a vs → ts.length = vs.length → (∀ (i : Nat) (t : T) (v : V), ts[i]? = some t → vs[i]? = some v → Rep W F rho t v) → Rep W F rho (.tup ts) (.ref a)
  | lst {ts : List T} {vs : List V} {a : Addr} : SqL W.K F a vs → ts.length = vs.length → (∀ (i : Nat) (t : T) (v : V), ts[i]? = some t → vs[i]? = some v → Rep W F rho t v) → Rep W F rho (.lst ts) (.ref a)
  | ins {c : Nat} {fs : List T} {a dx : Addr} {fvs : List (Str × V)} (g : Nat → V) : F a = some (.ins (W.cadr c) dx fvs) → fs.length ≤ W.nat → (∀ (i : Nat) (t : T), fs[i]? = some t → fvs.lookup (W.attr i) = some (g i)) →
      (∀ (i : Nat) (t : T), fs[i]? = some t → Rep W F rho t (g i)) → (∀ f : Str, (∀ i : Nat, i < fs.length → f ≠ W.attr i) → fvs.lookup f = none) → fvs.length ≤ fs.length → W.cok c → Rep W F rho (.ins c fs) (.ref a)
  | ref {n : Nat} {a : Addr} : rho[n]? = some a → Rep W F rho (.ref n) (.ref a)
  | dnil {a : Addr} : F a = some (.dK []) → Rep W F rho (.dct [] []) (.ref a)
structure RepL (W : WT) (F : Hp) (rho : List Addr) (ts : List T) (vs : List V) : Prop where
  len : ts.length = vs.length
  at_ : ∀ (i : Nat) (t : T) (v : V), ts[i]? = some t → vs[i]? = some v → Rep W F rho t v
def Le (F G : Hp) : Prop := ∀ a o, F a = some o → G a = some o
theorem Le.refl (F : Hp) : Le F F := fun _ _ h => h
theorem Le.trans {F G H : Hp} (a : Le F G) (b : Le G H) : Le F H := fun c o h => b c o (a c o h)
theorem Le.rd {F G : Hp} (l : Le F G) {a : Addr} {u : HO} (h : Rd F a u) : Rd G a u := by
  rcases h with h | ⟨o, h⟩
  · exact .inl (l _ _ h)
  · exact .inr ⟨o, l _ _ h⟩
theorem Le.sqT {F G : Hp} {K : PySem.W.Frag} (l : Le F G) {a : Addr} {vs : List V} (h : SqT K F a vs) : SqT K G a vs := by
  rcases h with h | h
  · exact .inl (l.rd h)
  · exact .inr h
theorem Le.sqL {F G : Hp} {K : PySem.W.Frag} (l : Le F G) {a : Addr} {vs : List V} (h : SqL K F a vs) : SqL K G a vs := by
  rcases h with h | h
  · exact .inl (l.rd h)
  · exact .inr h
def Pre (r r' : List Addr) : Prop := ∀ (n : Nat) (a : Addr), r[n]? = some a → r'[n]? = some a
theorem Pre.refl (r : List Addr) : Pre r r := fun _ _ h => h
theorem Pre.trans {a b c : List Addr} (x : Pre a b) (y : Pre b c) : Pre a c := fun n d h => y n d (x n d h)
theorem Pre.app (r : List Addr) (a : Addr) : Pre r (r ++ [a]) := fun n b h => by
  rw [List.getElem?_append_left (List.getElem?_eq_some_iff.mp h).1]
  exact h
theorem Rep.mono {F F' : Hp} {r r' : List Addr} (l : Le F F') (p : Pre r r') {t : T} {v : V} (h : Rep W F r t v) : Rep W F' r' t v := by
  induction h with
  | non => exact .non
  | bl b => exact .bl b
  | int i => exact .int i
  | str x => exact .str x
  | tup h1 h2 h3 ih => exact .tup (l.sqT h1) h2 ih
  | lst h1 h2 h3 ih => exact .lst (l.sqL h1) h2 ih
  | ins g h1 h2 h3 h4 h5 h6 h7 ih => exact .ins g (l _ _ h1) h2 h3 ih h5 h6 h7
  | ref h => exact .ref (p _ _ h)
  | dnil h => exact .dnil (l _ _ h)
theorem RepL.mono {F F' : Hp} {r r' : List Addr} (l : Le F F') (p : Pre r r') {ts : List T} {vs : List V} (h : RepL W F r ts vs) : RepL W F' r' ts vs :=
  ⟨h.len, fun i t v a b => (h.at_ i t v a b).mono l p⟩
section
variable {F : Hp} {r : List Addr}
theorem RepL.nil : RepL W F r [] [] := ⟨rfl, fun i t v h _ => by simp at h⟩
theorem RepL.cons {t : T} {v : V} {ts : List T} {vs : List V} (h : Rep W F r t v) (hs : RepL W F r ts vs) : RepL W F r (t :: ts) (v :: vs) :=
  ⟨by simp [hs.len], fun i t' v' a b => by
    cases i with
    | zero => simp at a b; subst a b; exact h
    | succ i => exact hs.at_ i t' v' (by simpa using a) (by simpa using b)⟩
theorem RepL.uncons {t : T} {ts : List T} {vs : List V} (h : RepL W F r (t :: ts) vs) : ∃ v ws, vs = v :: ws ∧ Rep W F r t v ∧ RepL W F r ts ws := by
  cases vs with
  | nil => exact absurd h.len (by simp)
  | cons v ws => exact ⟨v, ws, rfl, h.at_ 0 t v rfl rfl, ⟨by simpa using h.len, fun i t' v' a b => h.at_ (i + 1) t' v' (by simpa using a) (by simpa using b)⟩⟩
theorem RepL.unnil {vs : List V} (h : RepL W F r [] vs) : vs = [] := by
  cases vs with
  | nil => rfl
  | cons v ws => exact absurd h.len (by simp)
theorem RepL.get {ts : List T} {vs : List V} {i : Nat} {t : T} (h : RepL W F r ts vs) (a : ts[i]? = some t) : ∃ v, vs[i]? = some v ∧ Rep W F r t v := by
  have hi : i < vs.length := by rw [← h.len]; exact (List.getElem?_eq_some_iff.mp a).1
  exact ⟨vs[i], List.getElem?_eq_getElem hi, h.at_ i t _ a (List.getElem?_eq_getElem hi)⟩
theorem RepL.getV {ts : List T} {vs : List V} {i : Nat} {v : V} (h : RepL W F r ts vs) (a : vs[i]? = some v) : ∃ t, ts[i]? = some t ∧ Rep W F r t v := by
  have hi : i < ts.length := by rw [h.len]; exact (List.getElem?_eq_some_iff.mp a).1
  exact ⟨ts[i], List.getElem?_eq_getElem hi, h.at_ i _ v (List.getElem?_eq_getElem hi) a⟩
theorem RepL.app {ts us : List T} {vs ws : List V} (h : RepL W F r ts vs) (k : RepL W F r us ws) : RepL W F r (ts ++ us) (vs ++ ws) := by
  refine ⟨by simp [h.len, k.len], fun i t v a b => ?_⟩
  by_cases hi : i < ts.length
  · rw [List.getElem?_append_left hi] at a
    rw [List.getElem?_append_left (by rw [← h.len]; exact hi)] at b
    exact h.at_ i t v a b
  · rw [List.getElem?_append_right (by omega)] at a
    rw [List.getElem?_append_right (by rw [← h.len]; omega), ← h.len] at b
    exact k.at_ _ t v a b
theorem RepL.take {ts : List T} {vs : List V} (n : Nat) (h : RepL W F r ts vs) : RepL W F r (ts.take n) (vs.take n) := by
  refine ⟨by simp [h.len], fun i t v a b => ?_⟩
  rw [List.getElem?_take] at a b
  split at a
  · rename_i hi
    rw [if_pos hi] at b
    exact h.at_ i t v a b
  · cases a
theorem RepL.drop {ts : List T} {vs : List V} (n : Nat) (h : RepL W F r ts vs) : RepL W F r (ts.drop n) (vs.drop n) := by
  refine ⟨by simp [h.len], fun i t v a b => ?_⟩
  rw [List.getElem?_drop] at a b
  exact h.at_ _ t v a b
theorem RepL.set {ts : List T} {vs : List V} {t : T} {v : V} (h : RepL W F r ts vs) (k : Rep W F r t v) (i : Nat) : RepL W F r (ts.set i t) (vs.set i v) := by
  refine ⟨by simp [h.len], fun j t' v' a b => ?_⟩
  rw [List.getElem?_set] at a b
  by_cases hij : i = j
  · rw [if_pos hij] at a b
    split at a
    · split at b
      · cases a; cases b; exact k
      · cases b
    · cases a
  · rw [if_neg hij] at a b
    exact h.at_ j t' v' a b
theorem RepL.rep {ts : List T} {vs : List V} (h : RepL W F r ts vs) : ∀ k : Nat, RepL W F r (List.replicate k ts).flatten (List.replicate k vs).flatten
  | 0 => .nil
  | k + 1 => by
    rw [List.replicate_succ, List.replicate_succ, List.flatten_cons, List.flatten_cons]
    exact h.app (RepL.rep h k)
theorem RepL.ofInts : ∀ (l : List Int), RepL W F r (l.map T.int) (l.map V.int)
  | [] => .nil
  | i :: l => .cons (.int i) (RepL.ofInts l)
end
structure FldO (W : WT) (F : Hp) (r : List Addr) (fs : List (Option T)) (fvs : List (Str × V)) : Prop where
  few : fs.length ≤ W.nat
  yes : ∀ (i : Nat) (t : T), fs[i]? = some (some t) → ∃ v, fvs.lookup (W.attr i) = some v ∧ Rep W F r t v
  no : ∀ f : Str, (∀ (i : Nat) (t : T), fs[i]? = some (some t) → f ≠ W.attr i) → fvs.lookup f = none
  len : fvs.length ≤ (fs.filter Option.isSome).length
theorem FldO.mono {F F' : Hp} {r r' : List Addr} {fs : List (Option T)} {fvs : List (Str × V)} (l : Le F F') (p : Pre r r') (q : FldO W F r fs fvs) : FldO W F' r' fs fvs :=
  ⟨q.few, fun i t hi => let ⟨v, a, b⟩ := q.yes i t hi; ⟨v, a, b.mono l p⟩, q.no, q.len⟩
def ObRep (W : WT) (F : Hp) (r : List Addr) (H : Hp) (a : Addr) : Ob → Prop
  | .lst ts => ∃ vs, H a = some (.lst vs) ∧ RepL W F r ts vs
  | .ins c fs => ∃ dx fvs, H a = some (.ins (W.cadr c) dx fvs) ∧ FldO W F r fs fvs ∧ W.cok c
  | .dct _ _ => False
def Vw (W : WT) (F : Hp) (r : List Addr) (H : Hp) : T → V → Prop
  | .tup ts, v => ∃ a vs, v = .ref a ∧ SqT W.K F a vs ∧ RepL W F r ts vs
  | .lst ts, v => ∃ a vs, v = .ref a ∧ SqL W.K H a vs ∧ RepL W F r ts vs
  | .ins c fs, v => ∃ (a dx : Addr) (fvs : List (Str × V)), v = .ref a ∧ H a = some (.ins (W.cadr c) dx fvs) ∧ FldO W F r (fs.map some) fvs ∧ W.cok c
  | .dct ks vs, v => ks = [] ∧ vs = [] ∧ ∃ a, v = .ref a ∧ H a = some (.dK [])
  | .ref _, _ => False
  | .non, v => v = .non
  | .bl b, v => v = .bl b
  | .int i, v => v = .int i
  | .str x, v => v = .str x
theorem tabs_write {T : List (Addr × Str)} {H : Hp} {p : Addr} {u : HO} (t : LamX.Tabs T H) (n1 : ∀ ps, H p ≠ some (.tbl ps)) (n2 : ∀ c q, H p ≠ some (LamX.CodeO c q)) : LamX.Tabs T (upd H p u) := fun z hz => by
  obtain ⟨ps, h1, h2, h3⟩ := t z hz
  refine ⟨ps, ?_, h2, fun pos cv hc => ?_⟩
  · rw [upd_ne (b := z.1) fun e => n1 ps (by rw [← e]; exact h1)]; exact h1
  · obtain ⟨c, e1, e2⟩ := h3 pos cv hc
    exact ⟨c, e1, by rw [upd_ne (b := c) fun e => n2 c z.2 (by rw [← e]; exact e2)]; exact e2⟩
theorem tabs_laid {T : List (Addr × Str)} {H : Hp} {p : Addr} {u : HO} (t : LamX.Tabs T H) (n : H p = none) : LamX.Tabs T (upd H p u) := tabs_write t (fun ps z => by rw [n] at z; cases z) fun c q z => by rw [n] at z; cases z
theorem ObRep.notab {F H : Hp} {r : List Addr} {p : Addr} {o : Ob} (h : ObRep W F r H p o) : (∀ ps, H p ≠ some (.tbl ps)) ∧ ∀ c q, H p ≠ some (LamX.CodeO c q) := by
  cases o with
  | lst ts => obtain ⟨vs, e, _⟩ := h; exact ⟨(fun ps z => by rw [e] at z; cases z), fun c q z => by rw [e] at z; unfold LamX.CodeO at z; cases z⟩
  | ins c fs => obtain ⟨dx, fvs, e, _⟩ := h; exact ⟨(fun ps z => by rw [e] at z; cases z), fun c q z => by rw [e] at z; unfold LamX.CodeO at z; cases z⟩
  | dct ks vs => exact h.elim
theorem code_write {H : Hp} {p : Addr} {u : HO} (n2 : ∀ c q, H p ≠ some (LamX.CodeO c q)) : ∀ c q, H c = some (LamX.CodeO c q) → upd H p u c = some (LamX.CodeO c q) := fun c q h => by
  rw [upd_ne (b := c) fun e => n2 c q (by rw [← e]; exact h)]; exact h
theorem ObRep.code {F H : Hp} {r : List Addr} {p : Addr} {o : Ob} {u : HO} (h : ObRep W F r H p o) : ∀ c q, H c = some (LamX.CodeO c q) → upd H p u c = some (LamX.CodeO c q) := code_write h.notab.2
theorem ObRep.tabs {F H : Hp} {r : List Addr} {p : Addr} {o : Ob} {u : HO} {T : List (Addr × Str)} (h : ObRep W F r H p o) (t : LamX.Tabs T H) : LamX.Tabs T (upd H p u) := tabs_write t h.notab.1 h.notab.2
structure StoreOk (W : WT) (F : Hp) (r : List Addr) (H : Hp) (S : Store) : Prop where
  len : r.length = S.length
  nd : ∀ (i j : Nat) (a : Addr), r[i]? = some a → r[j]? = some a → i = j
  at_ : ∀ (n : Nat) (a : Addr) (o : Ob), r[n]? = some a → S[n]? = some o → F a = none ∧ ObRep W F r H a o
  tb : LamX.Tabs W.tabs H
  nt : ∀ a ps, F a ≠ some (.tbl ps)
def ExV (W : WT) (F : Hp) (r : List Addr) (H : Hp) (c : Nat) (l : List T) (cls : Value) (d : Option Addr) : Prop := cls = W.xcl c ∧ (match W.xat c, l with
  | some none, [] => d = none
  | some (some f), [t] => ∃ dd v, d = some dd ∧ H dd = some (.xd [(W.attr f, v)]) ∧ dd ∉ r ∧ Rep W F r t v
  | _, _ => False)
structure EnvOk (W : WT) (F : Hp) (r : List Addr) (H : Hp) (σ : L2.St) (env : Env) : Prop where
  val : ∀ (i : Nat) (t : T), env[i]? = some (.val t) → ∃ v, σ[i]? = some (some v) ∧ Rep W F r t v
  own : ∀ (i : Nat) (o : Ob), env[i]? = some (.own o) → ∃ p, σ[i]? = some (some (.ref p)) ∧ F p = none ∧ p ∉ r ∧ ObRep W F r H p o
  hot : ∀ (i : Nat) (c : Nat) (l : List T), env[i]? = some (.hot c l) → ∃ a cls d, σ[i]? = some (some (.ref a)) ∧ W.hx a cls d ∧ ExV W F r H c l cls d
  act : ∀ (i : Nat), env[i]? = some .act → ∃ f, σ[i]? = some (some (.ref f)) ∧ W.fa f F r H
  len : env.length = σ.length
  ap : ∀ (i j : Nat) (o u : Ob) (p : Addr), env[i]? = some (.own o) → env[j]? = some (.own u) → σ[i]? = some (some (.ref p)) → σ[j]? = some (some (.ref p)) → i = j
structure Good (W : WT) (F : Hp) (r : List Addr) (H : Hp) (σ : L2.St) (env : Env) (S : Store) : Prop where
  le : Le F H
  st : StoreOk W F r H S
  en : EnvOk W F r H σ env
def OwnAt (σ : L2.St) (env : Env) (p : Addr) : Prop := ∃ (i : Nat) (o : Ob), env[i]? = some (.own o) ∧ σ[i]? = some (some (.ref p))
structure Step (F : Hp) (r : List Addr) (H : Hp) (F' : Hp) (r' : List Addr) (H' : Hp) : Prop where
  le : Le F F'
  new : ∀ a, F' a ≠ none → F a ≠ none ∨ H a = none
  pre : Pre r r'
  rnew : ∀ a, a ∈ r' → a ∈ r ∨ H a = none
  keep : ∀ a o, H a = some o → a ∉ r → (∀ ps, o ≠ .tbl ps) → H' a = some o
  free : ∀ a, H' a = none → H a = none
  code : ∀ c q, H c = some (LamX.CodeO c q) → H' c = some (LamX.CodeO c q)
  nt : (∀ a ps, F a ≠ some (.tbl ps)) → ∀ a ps, F' a ≠ some (.tbl ps)
theorem Step.refl (F : Hp) (r : List Addr) (H : Hp) : Step F r H F r H := ⟨Le.refl F, fun _ h => .inl h, Pre.refl r, fun _ h => .inl h, fun _ _ h _ _ => h, fun _ h => h, fun _ _ h => h, fun h => h⟩
theorem Step.trans {F F1 F2 H H1 H2 : Hp} {r r1 r2 : List Addr} (a : Step F r H F1 r1 H1) (b : Step F1 r1 H1 F2 r2 H2) : Step F r H F2 r2 H2 where
  le := a.le.trans b.le
  new := fun x h => by
    rcases b.new x h with h | h
    · exact a.new x h
    · exact .inr (a.free x h)
  pre := a.pre.trans b.pre
  rnew := fun x h => by
    rcases b.rnew x h with h | h
    · exact a.rnew x h
    · exact .inr (a.free x h)
  keep := fun x o h n nt => b.keep x o (a.keep x o h n nt) (fun hm => by
    rcases a.rnew x hm with z | z
    · exact n z
    · rw [z] at h; cases h) nt
  free := fun x h => a.free x (b.free x h)
  code := fun c q h => b.code c q (a.code c q h)
  nt := fun h => b.nt (a.nt h)
theorem ObRep.step {F F' H H' : Hp} {r r' : List Addr} {p : Addr} {o : Ob} (s : Step F r H F' r' H') (n : p ∉ r) (h : ObRep W F r H p o) : ObRep W F' r' H' p o := by
  cases o with
  | lst ts => obtain ⟨vs, e, q⟩ := h; exact ⟨vs, s.keep _ _ e n (fun _ z => by cases z), q.mono s.le s.pre⟩
  | ins c fs => obtain ⟨dx, fvs, e, q, ck⟩ := h; exact ⟨dx, fvs, s.keep _ _ e n (fun _ z => by cases z), q.mono s.le s.pre, ck⟩
  | dct ks vs => exact h
theorem ObRep.there {F H : Hp} {r : List Addr} {p : Addr} {o : Ob} (h : ObRep W F r H p o) : ∃ u, H p = some u := by
  cases o with
  | lst ts => obtain ⟨vs, e, q⟩ := h; exact ⟨_, e⟩
  | ins c fs => obtain ⟨dx, fvs, e, q, _⟩ := h; exact ⟨_, e⟩
  | dct ks vs => exact h.elim
theorem ExV.step {F F' H H' : Hp} {r r' : List Addr} {c : Nat} {l : List T} {cls : Value} {d : Option Addr} (s : Step F r H F' r' H') (h : ExV W F r H c l cls d) : ExV W F' r' H' c l cls d := by
  refine ⟨h.1, ?_⟩
  have h := h.2
  split at h
  · exact h
  · obtain ⟨dd, v, e1, e2, e3, e4⟩ := h
    refine ⟨dd, v, e1, s.keep _ _ e2 e3 (fun _ z => by cases z), fun hm => ?_, e4.mono s.le s.pre⟩
    rcases s.rnew dd hm with k | k
    · exact e3 k
    · rw [e2] at k; cases k
  · exact h
theorem ExV.other {F H : Hp} {r : List Addr} {c : Nat} {l : List T} {cls : Value} {d : Option Addr} {p : Addr} {o : Ob} {ho : HO} (ob : ObRep W F r H p o) (h : ExV W F r H c l cls d) : ExV W F r (upd H p ho) c l cls d := by
  refine ⟨h.1, ?_⟩
  have h := h.2
  split at h
  · exact h
  · obtain ⟨dd, v, e1, e2, e3, e4⟩ := h
    refine ⟨dd, v, e1, ?_, e3, e4⟩
    rw [upd_ne fun e => ?_]
    · exact e2
    · subst e
      cases o with
      | lst ts => obtain ⟨vs, e, _⟩ := ob; rw [e] at e2; cases e2
      | ins c fs => obtain ⟨dx, fvs, e, _⟩ := ob; rw [e] at e2; cases e2
      | dct ks vs => exact ob
  · exact h
theorem ExV.apart {F H : Hp} {r : List Addr} {c : Nat} {l : List T} {cls : Value} {d : Option Addr} {p : Addr} {ho : HO} (n : ∀ fs, H p ≠ some (.xd fs)) (h : ExV W F r H c l cls d) : ExV W F r (upd H p ho) c l cls d := by
  refine ⟨h.1, ?_⟩
  have h := h.2
  split at h
  · exact h
  · obtain ⟨dd, v, e1, e2, e3, e4⟩ := h
    exact ⟨dd, v, e1, by rw [upd_ne fun e => n _ (by rw [← e]; exact e2)]; exact e2, e3, e4⟩
  · exact h
theorem ExV.laid {F H : Hp} {r : List Addr} {c : Nat} {l : List T} {cls : Value} {d : Option Addr} {p : Addr} {ho : HO} (n : H p = none) (h : ExV W F r H c l cls d) : ExV W F r (upd H p ho) c l cls d := by
  refine ⟨h.1, ?_⟩
  have h := h.2
  split at h
  · exact h
  · obtain ⟨dd, v, e1, e2, e3, e4⟩ := h
    exact ⟨dd, v, e1, by rw [upd_ne (ne_of_none e2 n)]; exact e2, e3, e4⟩
  · exact h
theorem ExV.monoF {F F' H : Hp} {r : List Addr} {c : Nat} {l : List T} {cls : Value} {d : Option Addr} (l' : Le F F') (h : ExV W F r H c l cls d) : ExV W F' r H c l cls d := by
  refine ⟨h.1, ?_⟩
  have h := h.2
  split at h
  · exact h
  · obtain ⟨dd, v, e1, e2, e3, e4⟩ := h
    exact ⟨dd, v, e1, e2, e3, e4.mono l' (Pre.refl r)⟩
  · exact h
theorem EnvOk.step {F F' H H' : Hp} {r r' : List Addr} {σ : L2.St} {env : Env} (s : Step F r H F' r' H') (e : EnvOk W F r H σ env) : EnvOk W F' r' H' σ env where
  val := fun i t h => let ⟨v, a, b⟩ := e.val i t h; ⟨v, a, b.mono s.le s.pre⟩
  own := fun i o h => by
    obtain ⟨p, a, b, c, d⟩ := e.own i o h
    obtain ⟨u, hu⟩ := d.there
    refine ⟨p, a, ?_, fun hm => ?_, d.step s c⟩
    · cases q : F' p with
      | none => rfl
      | some z =>
        rcases s.new p (by rw [q]; simp) with k | k
        · exact absurd b k
        · rw [hu] at k; cases k
    · rcases s.rnew p hm with k | k
      · exact c k
      · rw [hu] at k; cases k
  hot := fun i c l h => let ⟨a, cls, d, z1, z2, z3⟩ := e.hot i c l h; ⟨a, cls, d, z1, z2, z3.step s⟩
  act := fun i h => let ⟨f, z1, z2⟩ := e.act i h; ⟨f, z1, W.fam f _ _ _ _ _ _ s.le s.pre s.code z2⟩
  ap := e.ap
  len := e.len
def RRep (W : WT) (F : Hp) (r : List Addr) (H : Hp) (σ : L2.St) (env : Env) : R → V → Prop
  | .val t, v => Rep W F r t v
  | .own i, v => ∃ o, env[i]? = some (.own o) ∧ σ[i]? = some (some v)
  | .fresh o, v => ∃ p, v = .ref p ∧ F p = none ∧ p ∉ r ∧ ¬ OwnAt σ env p ∧ ObRep W F r H p o
  | .hot c l, v => ∃ a cls d, v = .ref a ∧ W.hx a cls d ∧ ExV W F r H c l cls d
def NewR (H : Hp) : R → V → Prop
  | .fresh _, v => ∀ p, v = .ref p → H p = none
  | _, _ => True
theorem RRep.step {F F' H H' : Hp} {r r' : List Addr} {σ : L2.St} {env : Env} {x : R} {v : V} (s : Step F r H F' r' H') (h : RRep W F r H σ env x v) : RRep W F' r' H' σ env x v := by
  cases x with
  | val t => exact Rep.mono s.le s.pre h
  | own i => exact h
  | hot c l => obtain ⟨a, cls, d, z1, z2, z3⟩ := h; exact ⟨a, cls, d, z1, z2, z3.step s⟩
  | fresh o =>
    obtain ⟨p, a, b, c, e, d⟩ := h
    obtain ⟨u, hu⟩ := d.there
    refine ⟨p, a, ?_, fun hm => ?_, e, d.step s c⟩
    · cases q : F' p with
      | none => rfl
      | some z =>
        rcases s.new p (by rw [q]; simp) with k | k
        · exact absurd b k
        · rw [hu] at k; cases k
    · rcases s.rnew p hm with k | k
      · exact c k
      · rw [hu] at k; cases k
theorem NewR.step {F F' H H' : Hp} {r r' : List Addr} {x : R} {v : V} (s : Step F r H F' r' H') (h : NewR H' x v) : NewR H x v := by
  cases x with
  | fresh o => exact fun p e => s.free p (h p e)
  | _ => trivial
theorem allSome_map {A : Type} : ∀ {l : List (Option A)} {m : List A}, allSome l = some m → l = m.map some
  | [], m, h => by cases h; rfl
  | some a :: r, m, h => by
    unfold allSome at h
    split at h
    · rename_i l hl
      cases h
      rw [allSome_map hl]; rfl
    · cases h
  | none :: r, m, h => by cases h
theorem Vw.of_ob {F H : Hp} {r : List Addr} {p : Addr} {o : Ob} {t : T} (h : ObRep W F r H p o) (e : o.toT = some t) : Vw W F r H t (.ref p) := by
  cases o with
  | lst ts => cases e; obtain ⟨vs, a, b⟩ := h; exact ⟨p, vs, rfl, .of a, b⟩
  | ins c fs =>
    obtain ⟨dx, fvs, a, b, ck⟩ := h
    unfold Ob.toT at e
    dsimp only at e
    split at e
    · rename_i l hl
      cases e
      rw [allSome_map hl] at b
      exact ⟨p, dx, fvs, rfl, a, b, ck⟩
    · cases e
  | dct ks vs => exact h.elim
theorem FldO.of_ins {F : Hp} {r : List Addr} {fs : List T} {fvs : List (Str × V)} {g : Nat → V} (hn : fs.length ≤ W.nat) (h3 : ∀ (i : Nat) (t : T), fs[i]? = some t → fvs.lookup (W.attr i) = some (g i)) (h4 : ∀ (i : Nat) (t : T), fs[i]? = some t → Rep W F r t (g i))
    (h5 : ∀ f : Str, (∀ i : Nat, i < fs.length → f ≠ W.attr i) → fvs.lookup f = none) (hl : fvs.length ≤ fs.length) : FldO W F r (fs.map some) fvs where
  few := by simpa using hn
  yes := fun i t h => by
    rw [List.getElem?_map] at h
    cases e : fs[i]? with
    | none => rw [e] at h; cases h
    | some u => rw [e] at h; cases h; exact ⟨g i, h3 i t e, h4 i t e⟩
  no := fun f hf => h5 f fun i hi => hf i fs[i] (by simp [hi])
  len := by
    rw [List.filter_eq_self.mpr (by simp)]
    simpa using hl
end
end Z
set_option Elab.async false
set_option linter.all false
set_option maxRecDepth 100000
set_option maxHeartbeats 2000000
namespace Z
open PySem PySem.Spec PyProof.Rows L2
structure Univ where
  P : Program
  w : World
  mg : Str → Option Value
  base : Heap
  W : WT
  /-- lambdas may be made -/
  lams : Bool := true
structure Stat where
  N : List Str
  sc : Scope
  fn : Str → Bool
  /-- no error is handled here -/
  calm : Bool := true
  /-- a parameter may be a lambda -/
  act : Bool := false
  /-- lambdas may be made -/
  lam : Bool := false
structure XOk (U : Univ) (st : Stat) (k : Nat) (X : Cx) : Prop where
  prog : X.prog = U.P
  w : X.w = U.w
  K : X.K = U.W.K
  mg : X.mg = U.mg
  base : X.base = U.base
  N : X.N = st.N
  nd : st.N.Nodup
  sc : X.env.scope = st.sc
  fnn : X.fn = st.fn
  calm : st.calm = true → X.calm = true
  nh : st.calm = true → ∀ a cls d, ¬ U.W.hx a cls d
  room : st.calm = true → Room k X.A
  roomH : L2H.RoomH k X.A
  gd : X.A.guards = some []
  hot : ∀ a cls d, U.W.hx a cls d → ∃ oe, (a, oe) ∈ X.pn ∧ Zc cls d oe ∧ ∃ vs, oe.data = .fields vs
  lam : st.lam = true → U.lams = true ∧ ∃ c P, X.env.code = .ref c ∧ LamX.TabB X.base X.mg c P ∧ (P, X.env.qual ++ "<lambda>") ∈ U.W.tabs ∧ ∀ p ∈ U.W.tabs, p.1 = P → p.2 = X.env.qual ++ "<lambda>"
section
variable {W : WT} {F F1 F2 H H1 H2 : Hp} {r r1 r2 : List Addr} {σ : L2.St} {env : Env} {S S1 S2 : Store}
theorem StoreOk.tracked (g : StoreOk W F r H S) {a : Addr} (h : a ∈ r) : ∃ u, H a = some u := by
  obtain ⟨n, hn⟩ := List.mem_iff_getElem?.mp h
  have hl : n < S.length := by rw [← g.len]; exact (List.getElem?_eq_some_iff.mp hn).1
  exact (g.at_ n a S[n] hn (List.getElem?_eq_getElem hl)).2.there
theorem Good.fresh (g : Good W F r H σ env S) {p : Addr} (h : H p = none) : F p = none ∧ p ∉ r ∧ ¬ OwnAt σ env p := by
  refine ⟨?_, fun hm => ?_, fun ⟨i, o, a, b⟩ => ?_⟩
  · cases q : F p with
    | none => rfl
    | some u => rw [g.le _ _ q] at h; cases h
  · obtain ⟨u, hu⟩ := g.st.tracked hm
    rw [hu] at h; cases h
  · obtain ⟨p', e, _, _, d⟩ := g.en.own i o a
    rw [b] at e
    cases e
    obtain ⟨u, hu⟩ := d.there
    rw [hu] at h; cases h
theorem Step.laid (F : Hp) (r : List Addr) {H : Hp} {p : Addr} (h : H p = none) (o : HO) : Step F r H F r (upd H p o) where
  le := Le.refl F
  new := fun _ q => .inl q
  pre := Pre.refl r
  rnew := fun _ q => .inl q
  keep := fun a u q _ _ => by rw [upd_ne (ne_of_none q h)]; exact q
  free := fun a q => by
    by_cases e : a = p
    · rw [e]; exact h
    · rw [upd_ne e] at q; exact q
  code := code_write fun c q z => by rw [h] at z; cases z
  nt := fun z => z
theorem StoreOk.step (s : Step F r H F1 r H1) (hk : ∀ a ∈ r, H1 a = H a) (tb : LamX.Tabs W.tabs H1) (g : StoreOk W F r H S) : StoreOk W F1 r H1 S where
  len := g.len
  nd := g.nd
  tb := tb
  nt := s.nt g.nt
  at_ := fun n a o h1 h2 => by
    obtain ⟨e, ob⟩ := g.at_ n a o h1 h2
    obtain ⟨u, hu⟩ := ob.there
    have hm : a ∈ r := List.mem_of_getElem? h1
    refine ⟨?_, ?_⟩
    · cases q : F1 a with
      | none => rfl
      | some z =>
        rcases s.new a (by rw [q]; simp) with k | k
        · exact absurd e k
        · rw [hu] at k; cases k
    · cases o with
      | lst ts => obtain ⟨vs, x, y⟩ := ob; exact ⟨vs, by rw [hk a hm]; exact x, y.mono s.le s.pre⟩
      | ins c fs => obtain ⟨dx, fvs, x, q, ck⟩ := ob; exact ⟨dx, fvs, by rw [hk a hm]; exact x, q.mono s.le s.pre, ck⟩
      | dct ks vs => exact ob
theorem Good.laid (g : Good W F r H σ env S) {p : Addr} (h : H p = none) (o : HO) : Good W F r (upd H p o) σ env S where
  le := fun a u q => by rw [upd_ne (ne_of_none (g.le a u q) h)]; exact g.le a u q
  st := g.st.step (Step.laid F r h o) (fun a hm => by
    obtain ⟨u, hu⟩ := g.st.tracked hm
    rw [upd_ne (ne_of_none hu h)]) (tabs_laid g.st.tb h)
  en := g.en.step (Step.laid F r h o)
theorem Step.freeze (F : Hp) (r : List Addr) {H0 H : Hp} (s : Step F r H0 F1 r1 H) {p : Addr} {o : HO} (h0 : H0 p = none) (hF : F1 p = none) (no : ∀ ps, o ≠ .tbl ps := by intro _ z; cases z) : Step F r H0 (upd F1 p o) r1 H where
  le := fun a u q => by
    have z := s.le a u q
    rw [upd_ne (ne_of_none z hF)]; exact z
  new := fun a q => by
    by_cases e : a = p
    · rw [e]; exact .inr h0
    · rw [upd_ne e] at q; exact s.new a q
  pre := s.pre
  rnew := s.rnew
  keep := s.keep
  free := s.free
  code := s.code
  nt := fun z a ps q => by
    by_cases e : a = p
    · rw [e, upd_same] at q
      exact no ps (Option.some.inj q)
    · rw [upd_ne e] at q
      exact s.nt z a ps q
theorem le_upd {F : Hp} {p : Addr} {o : HO} (hF : F p = none) : Le F (upd F p o) := fun a u q => by rw [upd_ne (ne_of_none q hF)]; exact q
theorem Good.freeze (g : Good W F r H σ env S) {p : Addr} {o : HO} (hF : F p = none) (hr : p ∉ r) (hown : ¬ OwnAt σ env p) (e : H p = some o) (no : ∀ ps, o ≠ .tbl ps := by intro _ z; cases z) : Good W (upd F p o) r H σ env S where
  le := fun a u q => by
    by_cases z : a = p
    · subst z; rw [upd_same] at q; cases q; exact e
    · rw [upd_ne z] at q; exact g.le a u q
  st := {
    len := g.st.len
    nd := g.st.nd
    tb := g.st.tb
    nt := fun a ps q => by
      by_cases e : a = p
      · rw [e, upd_same] at q
        exact no ps (Option.some.inj q)
      · rw [upd_ne e] at q
        exact g.st.nt a ps q
    at_ := fun n a ob h1 h2 => by
      obtain ⟨x, y⟩ := g.st.at_ n a ob h1 h2
      have hm : a ≠ p := fun z => hr (by rw [← z]; exact List.mem_of_getElem? h1)
      refine ⟨by rw [upd_ne hm]; exact x, ?_⟩
      cases ob with
      | lst ts => obtain ⟨vs, x, y⟩ := y; exact ⟨vs, x, y.mono (le_upd hF) (Pre.refl r)⟩
      | ins c fs => obtain ⟨dx, fvs, x, q, ck⟩ := y; exact ⟨dx, fvs, x, q.mono (le_upd hF) (Pre.refl r), ck⟩
      | dct ks vs => exact y }
  en := {
    val := fun i t h => let ⟨v, a, b⟩ := g.en.val i t h; ⟨v, a, b.mono (le_upd hF) (Pre.refl r)⟩
    own := fun i ob h => by
      obtain ⟨q, a, b, c, d⟩ := g.en.own i ob h
      have hm : q ≠ p := fun z => hown ⟨i, ob, h, by rw [← z]; exact a⟩
      refine ⟨q, a, by rw [upd_ne hm]; exact b, c, ?_⟩
      cases ob with
      | lst ts => obtain ⟨vs, x, y⟩ := d; exact ⟨vs, x, y.mono (le_upd hF) (Pre.refl r)⟩
      | ins c fs => obtain ⟨dx, fvs, x, q, ck⟩ := d; exact ⟨dx, fvs, x, q.mono (le_upd hF) (Pre.refl r), ck⟩
      | dct ks vs => exact d
    hot := fun i c l h => let ⟨a, cls, d, z1, z2, z3⟩ := g.en.hot i c l h; ⟨a, cls, d, z1, z2, z3.monoF (le_upd hF)⟩
    act := fun i h => let ⟨f, z1, z2⟩ := g.en.act i h; ⟨f, z1, W.fam f _ _ _ _ _ _ (le_upd hF) (Pre.refl r) (fun _ _ z => z) z2⟩
    ap := g.en.ap
    len := g.en.len }
def gOf (W : WT) (fvs : List (Str × V)) (i : Nat) : V := (fvs.lookup (W.attr i)).getD .non
theorem sink_ok2 {x : R} {t : T} {v : V} (g : Good W F1 r1 H1 σ env S1) (s : Step F r H F1 r1 H1) (rr : RRep W F1 r1 H1 σ env x v) (nw : NewR H x v) (e : sink x = some t) :
    ∃ F2, Step F r H F2 r1 H1 ∧ Good W F2 r1 H1 σ env S1 ∧ Rep W F2 r1 t v ∧ Le F1 F2 ∧ ∀ q, F2 q ≠ none → F1 q ≠ none ∨ (x.isFresh = true ∧ v = .ref q) := by
  cases x with
  | val t' => cases e; exact ⟨F1, s, g, rr, Le.refl _, fun _ z => .inl z⟩
  | own i => cases e
  | hot c l => cases e
  | fresh o =>
    obtain ⟨p, rfl, hF, hr, hown, ob⟩ := rr
    have h0 := nw p rfl
    have new : ∀ (ho : HO) (q : Addr), upd F1 p ho q ≠ none → F1 q ≠ none ∨ ((R.fresh o).isFresh = true ∧ (V.ref p) = .ref q) := fun ho q z => by
      by_cases e : q = p
      · exact .inr ⟨rfl, by rw [e]⟩
      · rw [upd_ne e] at z; exact .inl z
    cases o with
    | lst ts =>
      cases e
      obtain ⟨vs, ep, rl⟩ := ob
      have l := le_upd (o := .lst vs) hF
      exact ⟨upd F1 p (.lst vs), s.freeze F r h0 hF, g.freeze hF hr hown ep, .lst (.of upd_same) rl.len (rl.mono l (Pre.refl _)).at_, l, new _⟩
    | ins c fs =>
      obtain ⟨dx, fvs, ep, q, ck⟩ := ob
      unfold sink Ob.toT at e
      dsimp only at e
      split at e
      · rename_i l hl
        cases e
        have em := allSome_map hl
        subst em
        have lu := le_upd (o := .ins (W.cadr c) dx fvs) hF
        refine ⟨upd F1 p (.ins (W.cadr c) dx fvs), s.freeze F r h0 hF, g.freeze hF hr hown ep, ?_, lu, new _⟩
        have look : ∀ (i : Nat) (t : T), l[i]? = some t → ∃ v, fvs.lookup (W.attr i) = some v ∧ Rep W F1 r1 t v := fun i t hi => q.yes i t (by rw [List.getElem?_map, hi]; rfl)
        refine .ins (gOf W fvs) upd_same (by simpa using q.few) (fun i t hi => ?_) (fun i t hi => ?_) (fun f hf => q.no f fun i t hi => hf i ?_) ?_ ck
        · obtain ⟨v, a, _⟩ := look i t hi
          unfold gOf; rw [a]; rfl
        · obtain ⟨v, a, b⟩ := look i t hi
          have : gOf W fvs i = v := by unfold gOf; rw [a]; rfl
          rw [this]
          exact b.mono lu (Pre.refl _)
        · have := (List.getElem?_eq_some_iff.mp hi).1
          simpa using this
        · have := q.len
          rw [List.filter_eq_self.mpr (by simp)] at this
          simpa using this
      · cases e
    | dct ks vs => exact ob.elim
theorem sink_ok {x : R} {t : T} {v : V} (g : Good W F1 r1 H1 σ env S1) (s : Step F r H F1 r1 H1) (rr : RRep W F1 r1 H1 σ env x v) (nw : NewR H x v) (e : sink x = some t) :
    ∃ F2, Step F r H F2 r1 H1 ∧ Good W F2 r1 H1 σ env S1 ∧ Rep W F2 r1 t v ∧ Le F1 F2 := let ⟨F2, a, b, c, d, _⟩ := sink_ok2 g s rr nw e; ⟨F2, a, b, c, d⟩
theorem Vw.of_rep {t : T} {v : V} (l : Le F H) (h : Rep W F r t v) (n : ∀ m, t ≠ .ref m) : Vw W F r H t v := by
  cases h with
  | non => rfl
  | bl b => rfl
  | int i => rfl
  | str x => rfl
  | tup h1 h2 h3 => exact ⟨_, _, rfl, h1, h2, h3⟩
  | lst h1 h2 h3 => exact ⟨_, _, rfl, l.sqL h1, h2, h3⟩
  | ins gg h1 h2 h3 h4 h5 h6 h7 => exact ⟨_, _, _, rfl, l _ _ h1, FldO.of_ins h2 h3 h4 h5 h6, h7⟩
  | ref h => exact absurd rfl (n _)
  | dnil h => exact ⟨rfl, rfl, _, rfl, l _ _ h⟩
theorem Vw.of_flat {x : R} {t : T} {v : V} (g : Good W F r H σ env S) (rr : RRep W F r H σ env x v) (e : flat env S x = some t) : Vw W F r H t v := by
  cases x with
  | val t' =>
    by_cases hr : ∃ m, t' = .ref m
    · obtain ⟨m, rfl⟩ := hr
      have rr' : Rep W F r (.ref m) v := rr
      cases rr' with
      | ref h =>
        have e : (match S[m]? with | some o => o.toT | none => none) = some t := e
        cases q : S[m]? with
        | none => rw [q] at e; cases e
        | some o =>
          rw [q] at e
          exact Vw.of_ob (g.st.at_ _ _ o h q).2 e
    · have e' : t' = t := by
        cases t' with
        | ref m => exact absurd ⟨m, rfl⟩ hr
        | _ => exact Option.some.inj e
      subst e'
      exact Vw.of_rep g.le rr fun m z => hr ⟨m, z⟩
  | own i =>
    obtain ⟨o, a, b⟩ := rr
    obtain ⟨p, c, _, _, d⟩ := g.en.own i o a
    rw [b] at c
    cases c
    have e : (match env[i]? with | some (.own o) => o.toT | _ => none) = some t := e
    rw [a] at e
    exact Vw.of_ob d e
  | hot c l => cases e
  | fresh o =>
    obtain ⟨p, rfl, _, _, _, ob⟩ := rr
    exact Vw.of_ob ob e
end
section
variable (W : WT)
def Post (F : Hp) (r : List Addr) (H : Hp) (σ : L2.St) (env : Env) (x : R) (S' : Store) (Q : VK) : Prop :=
  ∀ (v : V) (F' : Hp) (r' : List Addr) (H' : Hp), Step F r H F' r' H' → Good W F' r' H' σ env S' → RRep W F' r' H' σ env x v → NewR H x v → Q v H'
def Rs (wx : WX) (F : Hp) (r : List Addr) (H : Hp) (σ : L2.St) (env : Env) {A : Type} (o : Out A) (K : A → Store → Prop) : Prop := match o with
  | .ok a S' => K a S'
  | .ex c l S' => ∀ (F' : Hp) (r' : List Addr) (H' : Hp) (cls : Value) (d : Option Addr), Step F r H F' r' H' → Good W F' r' H' σ env S' → ExV W F' r' H' c l cls d → wx cls d σ H'
  | .no => False
def PostT (F : Hp) (r : List Addr) (H : Hp) (σ : L2.St) (env : Env) (Q : Bool → Hp → Prop) (b : Bool) (S' : Store) : Prop := ∀ (F' : Hp) (r' : List Addr) (H' : Hp), Step F r H F' r' H' → Good W F' r' H' σ env S' → Q b H'
def PostA (F : Hp) (r : List Addr) (H : Hp) (σ : L2.St) (env : Env) (Q : List V → Hp → Prop) (ts : List T) (S' : Store) : Prop := ∀ (vs : List V) (F' : Hp) (r' : List Addr) (H' : Hp), Step F r H F' r' H' → Good W F' r' H' σ env S' → RepL W F' r' ts vs → Q vs H'
def VwL (F : Hp) (r : List Addr) (H : Hp) (ts : List T) (vs : List V) : Prop := ts.length = vs.length ∧ ∀ (i : Nat) (t : T) (v : V), ts[i]? = some t → vs[i]? = some v → Vw W F r H t v
def PostB (F : Hp) (r : List Addr) (H : Hp) (σ : L2.St) (env : Env) (Q : List V → Hp → Prop) (ts : List T) (S' : Store) : Prop := ∀ (vs : List V) (F' : Hp) (r' : List Addr) (H' : Hp), Step F r H F' r' H' → Good W F' r' H' σ env S' → VwL W F' r' H' ts vs → Q vs H'
def tE (wx : WX) (ev : Env → Store → Out R) : TE := fun σ H Q => ∃ (F : Hp) (r : List Addr) (env : Env) (S : Store), Good W F r H σ env S ∧ Rs W wx F r H σ env (ev env S) fun x S' => Post W F r H σ env x S' Q
def tT (wx : WX) (ev : Env → Store → Out Bool) : TT := fun σ H Q => ∃ (F : Hp) (r : List Addr) (env : Env) (S : Store), Good W F r H σ env S ∧ Rs W wx F r H σ env (ev env S) (PostT W F r H σ env Q)
def tA (wx : WX) (ev : Env → Store → Out (List T)) : TA := fun σ H Q => ∃ (F : Hp) (r : List Addr) (env : Env) (S : Store), Good W F r H σ env S ∧ Rs W wx F r H σ env (ev env S) (PostA W F r H σ env Q)
def tB (wx : WX) (ev : Env → Store → Out (List T)) : TA := fun σ H Q => ∃ (F : Hp) (r : List Addr) (env : Env) (S : Store), Good W F r H σ env S ∧ Rs W wx F r H σ env (ev env S) (PostB W F r H σ env Q)
end
section
variable {W : WT} {wx : WX} {F F1 H H1 : Hp} {r r1 : List Addr} {σ : L2.St} {env : Env} {A B : Type}
theorem Rs.bind {o : Out A} {f : A → Store → Out B} {K : B → Store → Prop} {K' : A → Store → Prop} (h : Rs W wx F r H σ env (o.bind f) K) (k : ∀ a S, Rs W wx F r H σ env (f a S) K → K' a S) : Rs W wx F r H σ env o K' := by
  cases o with
  | ok a S => exact k a S h
  | ex c l S => exact h
  | no => exact h
theorem Rs.on {o : Out A} {K K' : A → Store → Prop} (h : Rs W wx F r H σ env o K) (s : Step F r H F1 r1 H1) (k : ∀ a S, K a S → K' a S) : Rs W wx F1 r1 H1 σ env o K' := by
  cases o with
  | ok a S => exact k a S h
  | ex c l S => exact fun F' r' H' cls d s' => h F' r' H' cls d (s.trans s')
  | no => exact h
theorem Rs.mono {o : Out A} {K K' : A → Store → Prop} (h : Rs W wx F r H σ env o K) (k : ∀ a S, K a S → K' a S) : Rs W wx F r H σ env o K' := h.on (Step.refl F r H) k
theorem Rs.of {o : Option A} {S : Store} {K : A → Store → Prop} (h : Rs W wx F r H σ env (Out.of S o) K) : ∃ a, o = some a ∧ K a S := by
  cases o with
  | none => exact h.elim
  | some a => exact ⟨a, rfl, h⟩
theorem PostT.weak {Q : Bool → Hp → Prop} {b : Bool} {S : Store} (p : PostT W F r H σ env Q b S) (s : Step F r H F1 r1 H1) : PostT W F1 r1 H1 σ env Q b S := fun F' r' H' s' g => p F' r' H' (s.trans s') g
theorem PostA.weak {Q : List V → Hp → Prop} {b : List T} {S : Store} (p : PostA W F r H σ env Q b S) (s : Step F r H F1 r1 H1) : PostA W F1 r1 H1 σ env Q b S := fun vs F' r' H' s' g => p vs F' r' H' (s.trans s') g
theorem PostB.weak {Q : List V → Hp → Prop} {b : List T} {S : Store} (p : PostB W F r H σ env Q b S) (s : Step F r H F1 r1 H1) : PostB W F1 r1 H1 σ env Q b S := fun vs F' r' H' s' g => p vs F' r' H' (s.trans s') g
end
theorem _root_.L2.PE.imp {X : Cx} {e : Expr} {t t' : TE} (h : PE X e t) (i : ∀ σ H Q, t' σ H Q → t σ H Q) : PE X e t' := ⟨fun pins s σ H Q I q => h.run pins s σ H Q I (i σ H Q q)⟩
theorem _root_.L2.PT.imp {X : Cx} {e : Expr} {t t' : TT} (h : PT X e t) (i : ∀ σ H Q, t' σ H Q → t σ H Q) : PT X e t' := ⟨fun pins s σ H Q I q => h.run pins s σ H Q I (i σ H Q q)⟩
theorem _root_.L2.PA.imp {X : Cx} {es : List Expr} {t t' : TA} (h : PA X es t) (i : ∀ σ H Q, t' σ H Q → t σ H Q) : PA X es t' := ⟨fun pos pins s σ H Q I q => h.run pos pins s σ H Q I (i σ H Q q)⟩
theorem bind_ok {A B : Type} {o : Out A} {f : A → Store → Out B} {b : B} {S : Store} (h : o.bind f = .ok b S) : ∃ a S1, o = .ok a S1 ∧ f a S1 = .ok b S := by
  cases o with
  | ok a S1 => exact ⟨a, S1, rfl, h⟩
  | ex c a S1 => cases h
  | no => cases h
theorem of_ok {A : Type} {S S' : Store} {o : Option A} {a : A} (h : Out.of S o = .ok a S') : o = some a ∧ S' = S := by
  cases o with
  | none => cases h
  | some b => cases h; exact ⟨rfl, rfl⟩
theorem guardT_ok {A : Type} {b : Bool} {a c : A} (h : guardT b a = some c) : b = true ∧ c = a := by
  cases b with
  | true => cases h; exact ⟨rfl, rfl⟩
  | false => cases h
section
variable {W : WT} {F H : Hp} {r : List Addr} {σ : L2.St} {env : Env} {S S' : Store} {Q : VK}
theorem Post.same {t : T} {v : V} (p : Post W F r H σ env (.val t) S Q) (g : Good W F r H σ env S) (h : Rep W F r t v) : Q v H :=
  p v F r H (Step.refl F r H) g h True.intro
theorem Post.tup {ts : List T} {vs : List V} {a : Addr} (p : Post W F r H σ env (.val (.tup ts)) S Q) (g : Good W F r H σ env S) (h : RepL W F r ts vs) (n : H a = none) : Q (.ref a) (upd H a (.tup vs)) := by
  obtain ⟨f1, f2, f3⟩ := g.fresh n
  have l := le_upd (o := .tup vs) f1
  have s := (Step.laid F r n (.tup vs)).freeze F r (o := .tup vs) n f1
  exact p _ _ r _ s ((g.laid n (.tup vs)).freeze f1 f2 f3 upd_same) (.tup (.of upd_same) h.len (h.mono l (Pre.refl _)).at_) True.intro
theorem Post.lst {ts : List T} {vs : List V} {a : Addr} (p : Post W F r H σ env (.fresh (.lst ts)) S Q) (g : Good W F r H σ env S) (h : RepL W F r ts vs) (n : H a = none) : Q (.ref a) (upd H a (.lst vs)) := by
  obtain ⟨f1, f2, f3⟩ := g.fresh n
  exact p _ F r _ (Step.laid F r n (.lst vs)) (g.laid n (.lst vs)) ⟨a, rfl, f1, f2, f3, vs, upd_same, h⟩ fun q e => by cases e; exact n
theorem Post.weak {F' H' : Hp} {r' : List Addr} {x : R} (p : Post W F r H σ env x S Q) (s : Step F r H F' r' H') : Post W F' r' H' σ env x S Q :=
  fun v F2 r2 H2 s2 g2 rr nw => p v F2 r2 H2 (s.trans s2) g2 rr (nw.step s)
theorem Rs.later {wx : WX} {F' H' : Hp} {r' : List Addr} {o : Out R} (h : Rs W wx F r H σ env o fun x S' => Post W F r H σ env x S' Q) (s : Step F r H F' r' H') : Rs W wx F' r' H' σ env o fun x S' => Post W F' r' H' σ env x S' Q := h.on s fun _ _ p => p.weak s
end
end Z
set_option Elab.async false
set_option linter.all false
set_option maxRecDepth 100000
set_option maxHeartbeats 4000000
namespace Z
open PySem PySem.Spec PyProof.Rows L2
theorem op_catL {X : Cx} : OpR X (binaryOp .Add) (fun x y H Q => ∃ (l b : Addr) (xs zs : List V), x = .ref l ∧ y = .ref b ∧ SqL X.K H l xs ∧ SqL X.K H b zs ∧ xs.length + zs.length ≤ sizeLine ∧ ∀ p, H p = none → Q (.ref p) (upd H p (.lst (xs ++ zs)))) := by
  intro pins s σ H x y v u Q I rx ry h
  obtain ⟨l, b, xs, zs, rfl, rfl, hH, hB, hz, q⟩ := h
  cases rx
  cases ry
  obtain ⟨its, r1, p1, _⟩ := I.list hH
  obtain ⟨its2, r2, p2, _⟩ := I.list hB
  obtain ⟨⟨cls, dd, data, sl⟩, ho, hc, n, hd⟩ := id p1.isList
  obtain ⟨⟨cls2, dd2, data2, sl2⟩, ho2, hc2, n2, hd2⟩ := id p2.isList
  simp only at hc hd hc2 hd2
  subst hc hd hc2 hd2
  have e : its.toArray ++ its2.toArray = (its ++ its2).toArray := by simp
  have z1 := r1.length
  have z2 := r2.length
  refine concat_meets ⟨_, ho, rfl⟩ ⟨_, ho2, rfl⟩ noFill_list_add seq_list_add PySem.F.slot_list_add PySem.F.entry_list_add (PySem.F.args_list_add_2 _ _) (list_addW l b its.toArray its2.toArray n n2 dd dd2 sl sl2 (by simp only [List.size_toArray]; omega)) ⟨ho, ho2, ?_⟩
  rw [e]
  exact ⟨.ref _, _, I.lnew (t' := s.toks) (r1.append r2) (by rw [List.length_append]; omega), rfl, q _ I.fresh⟩
theorem op_repL {X : Cx} : OpR X (binaryOp .Mult) (fun x y H Q => ∃ (l : Addr) (k : Int) (xs : List V), x = .ref l ∧ y = .int k ∧ SqL X.K H l xs ∧ -(2 ^ 63) ≤ k ∧ k < 2 ^ 63 ∧ xs.length * k.toNat ≤ sizeLine ∧ ∀ p, H p = none → Q (.ref p) (upd H p (.lst (List.replicate k.toNat xs).flatten))) := by
  intro pins s σ H x y v u Q I rx ry h
  obtain ⟨l, k, xs, rfl, rfl, hH, h1, h2, hz, q⟩ := h
  cases rx
  obtain ⟨t, rfl⟩ := ry
  obtain ⟨its, r, p1, _⟩ := I.list hH
  obtain ⟨⟨cls, dd, data, sl⟩, ho, hc, n, hd⟩ := id p1.isList
  simp only at hc hd
  subst hc hd
  have hl := r.length
  have hlen : its.toArray.size * k.toNat ≤ sizeLine := by rw [List.size_toArray, ← hl]; exact hz
  have hcap : ¬ its.toArray.size * k.toNat > (2 ^ 63 - 1) / 8 := by
    have : (sizeLine : Nat) ≤ (2 ^ 63 - 1) / 8 := by decide
    omega
  have hfit : ¬ (!Builtin.List.listFitsIndex k) = true := by
    rw [fitsIndex_both h1 h2]
    exact Bool.false_ne_true
  have hlong : ¬ Builtin.List.listTooLong (its.toArray.size * k.toNat) = true := by
    rw [notLongL hlen]
    exact Bool.false_ne_true
  have hnew : List.foldl (fun x1 x2 => x1 ++ x2) #[] (List.replicate (if its.toArray.isEmpty = true then 0 else k.toNat) its.toArray) = (List.replicate k.toNat its).flatten.toArray := by
    have f0 : ∀ m : Nat, List.foldl (fun x1 x2 => x1 ++ x2) #[] (List.replicate m its.toArray) = (List.replicate m its).flatten.toArray := fun m => by
      have := foldl_rep its m []
      rw [List.nil_append] at this
      exact this
    rw [f0]
    cases its with
    | nil => simp
    | cons a r' => rw [if_neg (by simp)]
  refine wpAny_binaryOp_repeat_ref (T := "list") (U := "int") (by decide) ⟨_, ho, rfl⟩ (fun s' => typeIs_int s' k t) noFill_list_mul F.fills_int_mul F.slot_int_rmul repeat_list F.slot_int_index.lookup
    (call_meets F.slot_int_rmul (typeIs_int s k t) F.entry_int_rmul (F.args_int_rmul_2 _ _) (lm_int_rmul_list_any k t l its.toArray n dd sl)
      ⟨ho, rfl, ⟨_, ho, rfl⟩, call_meets F.slot_list_mul ⟨_, ho, rfl⟩ F.entry_list_mul (F.args_list_mul_2 _ _) (lm_list_mul_any l its.toArray n dd sl k t hfit hcap hlong) ⟨ho, ?_⟩⟩)
  rw [hnew]
  exact ⟨.ref _, _, I.lnew (t' := s.toks) (r.rep k.toNat) (by rw [PyProof.Rows.lm_len_rep_flat, Nat.mul_comm]; exact hz), rfl, q _ I.fresh⟩
theorem tuple_mul1 (l : Addr) (items : Array Value) (n : Nat) (dd : Option Addr) (sl : Array (Option Value)) (x : Int) (u : Tok) (c0 : (decide (x < -(2 ^ 63)) || decide (x ≥ 2 ^ 63)) = false) (c1 : (items.isEmpty || x == 1) = true) :
    Meets (Builtin.«tuple.__mul__» ⟨[.ref l, .int x u], []⟩) (fun _ R s => s.heap.get? l = some { cls := .type "tuple", dict := dd, data := .seq items n, slots := sl } ∧ R (.ok (.ret (Value.ref l))) s) :=
  .of_wp fun prog w A R s h => by
    obtain ⟨hp, g, d, tk, os⟩ := s
    obtain ⟨hl, h⟩ := h
    have f1 := AutoSeq1.idx_int
    wp_walk using wpAny_loadPart' hl
    repeat (first
      | (refine wpAny_ite_false (decide_eq_false (by rw [c0]; exact Bool.false_ne_true)) ?_; wp_walk using wpAny_loadPart' hl)
      | (refine wpAny_ite_true (decide_eq_true (by exact c1)) ?_; wp_walk using wpAny_loadPart' hl))
    first | exact ⟨_, rfl, h⟩ | exact h
theorem tuple_mul0 (l : Addr) (items : Array Value) (n : Nat) (dd : Option Addr) (sl : Array (Option Value)) (x : Int) (u : Tok) (c0 : (decide (x < -(2 ^ 63)) || decide (x ≥ 2 ^ 63)) = false) (c1 : (items.isEmpty || x == 1) = false) (c2 : (decide (x ≤ 0) || items.isEmpty) = true) :
    Meets (Builtin.«tuple.__mul__» ⟨[.ref l, .int x u], []⟩) (fun _ R s => s.heap.get? l = some { cls := .type "tuple", dict := dd, data := .seq items n, slots := sl } ∧
      R (.ok (.ret (Value.ref s.heap.objs.size))) { s with heap := s.heap.push { cls := Value.type "tuple", data := Data.seq #[] }, toks := s.toks }) :=
  .of_wp fun prog w A R s h => by
    obtain ⟨hp, g, d, tk, os⟩ := s
    obtain ⟨hl, h⟩ := h
    have f1 := AutoSeq1.idx_int
    wp_walk using wpAny_loadPart' hl
    repeat (first
      | (refine wpAny_ite_false (decide_eq_false (by rw [c0]; exact Bool.false_ne_true)) ?_; wp_walk using wpAny_loadPart' hl)
      | (refine wpAny_ite_false (decide_eq_false (by rw [c1]; exact Bool.false_ne_true)) ?_; wp_walk using wpAny_loadPart' hl)
      | (refine wpAny_ite_true (decide_eq_true (by exact c2)) ?_; wp_walk using wpAny_loadPart' hl))
    first | exact ⟨_, rfl, h⟩ | exact h
theorem op_repA {X : Cx} : OpR X (binaryOp .Mult) (fun x y H Q => ∃ (l : Addr) (k : Int) (xs : List V), x = .ref l ∧ y = .int k ∧ SqT X.K H l xs ∧ -(2 ^ 63) ≤ k ∧ k ≤ 1000 ∧ xs.length ≤ 1000 ∧
    ((xs = [] ∨ k = 1) → Q (.ref l) H) ∧ (¬ (xs = [] ∨ k = 1) → ∀ p, H p = none → Q (.ref p) (upd H p (.tup (List.replicate k.toNat xs).flatten)))) := by
  intro pins s σ H x y v u Q I rx ry h
  obtain ⟨l, k, xs, rfl, rfl, hT, h1, h2, hz, q1, q2⟩ := h
  by_cases h2k : xs ≠ [] ∧ 2 ≤ k
  · exact op_repT pins s σ H _ _ v u Q I rx ry ⟨l, k, xs, rfl, rfl, hT, h2k.1, h2k.2, h2, hz, q2 fun z => by rcases z with z | z; exact h2k.1 z; omega⟩
  · cases rx
    obtain ⟨t, rfl⟩ := ry
    obtain ⟨its, r, ⟨⟨cls, dd, data, sl⟩, ho, hc, n, hd⟩, hs⟩ := I.tuple hT
    simp only at hc hd
    subst hc hd
    have c0 : (decide (k < -(2 ^ 63)) || decide (k ≥ 2 ^ 63)) = false := by
      rw [decide_eq_false (by omega), decide_eq_false (by omega)] <;> rfl
    by_cases h1k : xs = [] ∨ k = 1
    · have c1 : (its.toArray.isEmpty || k == 1) = true := by
        rcases h1k with z | z
        · rw [z] at r; cases r; rfl
        · rw [z]; simp
      refine wpAny_binaryOp_repeat_ref (T := "tuple") (U := "int") (by decide) ⟨_, ho, rfl⟩ (fun s' => typeIs_int s' k t) noFill_tuple_mul F.fills_int_mul F.slot_int_rmul repeat_tuple F.slot_int_index.lookup
        (call_meets F.slot_int_rmul (typeIs_int s k t) F.entry_int_rmul (F.args_int_rmul_2 _ _) (int_rmul_tuple k t l its.toArray n dd sl)
          ⟨ho, rfl, ⟨_, ho, rfl⟩, call_meets F.slot_tuple_mul ⟨_, ho, rfl⟩ F.entry_tuple_mul (F.args_tuple_mul_2 _ _) (tuple_mul1 l its.toArray n dd sl k t c0 c1) ⟨ho, ?_⟩⟩)
      exact ⟨.ref l, H, I, rfl, q1 h1k⟩
    · have hne : xs ≠ [] := fun z => h1k (.inl z)
      have hk0 : k ≤ 0 := by
        have : ¬ (2 ≤ k) := fun z => h2k ⟨hne, z⟩
        have : k ≠ 1 := fun z => h1k (.inr z)
        omega
      have c1 : (its.toArray.isEmpty || k == 1) = false := by
        have e1 : its.toArray.isEmpty = false := by
          cases r with
          | nil => exact absurd rfl hne
          | cons a b => rfl
        rw [e1, Bool.false_or]
        exact beq_eq_false_iff_ne.mpr (by omega)
      have c2 : (decide (k ≤ 0) || its.toArray.isEmpty) = true := by rw [decide_eq_true hk0]; rfl
      refine wpAny_binaryOp_repeat_ref (T := "tuple") (U := "int") (by decide) ⟨_, ho, rfl⟩ (fun s' => typeIs_int s' k t) noFill_tuple_mul F.fills_int_mul F.slot_int_rmul repeat_tuple F.slot_int_index.lookup
        (call_meets F.slot_int_rmul (typeIs_int s k t) F.entry_int_rmul (F.args_int_rmul_2 _ _) (int_rmul_tuple k t l its.toArray n dd sl)
          ⟨ho, rfl, ⟨_, ho, rfl⟩, call_meets F.slot_tuple_mul ⟨_, ho, rfl⟩ F.entry_tuple_mul (F.args_tuple_mul_2 _ _) (tuple_mul0 l its.toArray n dd sl k t c0 c1 c2) ⟨ho, ?_⟩⟩)
      have e0 : (List.replicate k.toNat xs).flatten = [] := by
        have : k.toNat = 0 := by omega
        rw [this]; rfl
      have hq := q2 h1k s.heap.objs.size (I.hok.fresh (Nat.le_refl _))
      rw [e0] at hq
      refine ⟨.ref s.heap.objs.size, upd H s.heap.objs.size (.tup []), I.laid (t' := s.toks) (fun b u e => Heap.get?_push_of_some _ e) (Nat.le_refl _) ?_, rfl, hq⟩
      exact ⟨Nat.zero_le _, [], .nil, ⟨_, Heap.get?_push_size _ rfl, rfl, _, rfl⟩⟩
section
variable {W : WT} {X : Cx}
def St2 (W : WT) (t u : T) (x : R) (v w : V) (H : Hp) (Q : VK) : Prop := ∃ (F : Hp) (r : List Addr) (σ : L2.St) (env : Env) (S : Store), Good W F r H σ env S ∧ Vw W F r H t v ∧ Vw W F r H u w ∧ Post W F r H σ env x S Q
def rZ (W : WT) (op : BOp) : R2 := fun v w H Q => ∃ (t u : T) (x : R), binT op t u = some x ∧ St2 W t u x v w H Q
def opOf : BOp → Operator
  | .add => .Add | .sub => .Sub | .mul => .Mult | .fdiv => .FloorDiv | .mod => .Mod | .pow => .Pow
theorem bin_add (hK : X.K = W.K) : OpR X (binaryOp .Add) (rZ W .add) := by
  intro pins s σ H v w vv ww Q I rv rw_ h
  obtain ⟨t, u, x, e, F, r, σ', env, S, g, ht, hu, p⟩ := h
  cases t <;> cases u <;> first | (cases e; done) | skip
  · -- ints
    cases e
    have ht : v = .int _ := ht
    have hu : w = .int _ := hu
    subst ht hu
    exact op_add pins s σ H _ _ vv ww Q I rv rw_ ⟨_, _, rfl, rfl, p.same g (.int _)⟩
  · -- texts
    obtain ⟨hb, e2⟩ := guardT_ok e
    subst e2
    have ht : v = .str _ := ht
    have hu : w = .str _ := hu
    subst ht hu
    exact op_add_str pins s σ H _ _ vv ww Q I rv rw_ ⟨_, _, rfl, rfl, of_decide_eq_true hb, p.same g (.str _)⟩
  · -- tuples
    obtain ⟨hb, e2⟩ := guardT_ok e
    subst e2
    obtain ⟨a, vs, rfl, h1, l1⟩ := ht
    obtain ⟨b, ws, rfl, h2, l2⟩ := hu
    have hz := of_decide_eq_true hb
    rw [l1.len, l2.len] at hz
    have lab := l1.app l2
    refine op_catA pins s σ H _ _ vv ww Q I rv rw_ ⟨a, b, vs, ws, rfl, rfl, by rw [hK]; exact g.le.sqT h1, by rw [hK]; exact g.le.sqT h2, hz, fun z => ?_, fun _ z => ?_, fun _ _ q hq => p.tup g lab hq⟩
    · subst z
      have lab : RepL W F r _ ws := lab
      exact p.same g (.tup h2 lab.len lab.at_)
    · subst z
      rw [List.append_nil] at lab
      exact p.same g (.tup h1 lab.len lab.at_)
  · -- lists
    obtain ⟨hb, e2⟩ := guardT_ok e
    subst e2
    obtain ⟨a, vs, rfl, h1, l1⟩ := ht
    obtain ⟨b, ws, rfl, h2, l2⟩ := hu
    have hz := of_decide_eq_true hb
    rw [l1.len, l2.len] at hz
    exact op_catL pins s σ H _ _ vv ww Q I rv rw_ ⟨a, b, vs, ws, rfl, rfl, by rw [hK]; exact h1, by rw [hK]; exact h2, hz, fun q hq => p.lst g (l1.app l2) hq⟩
theorem bin_sub : OpR X (binaryOp .Sub) (rZ W .sub) := by
  intro pins s σ H v w vv ww Q I rv rw_ h
  obtain ⟨t, u, x, e, F, r, σ', env, S, g, ht, hu, p⟩ := h
  cases t <;> cases u <;> first | (cases e; done) | skip
  cases e
  have ht : v = .int _ := ht
  have hu : w = .int _ := hu
  subst ht hu
  exact op_sub pins s σ H _ _ vv ww Q I rv rw_ ⟨_, _, rfl, rfl, p.same g (.int _)⟩
theorem small64_ok {i : Int} (h : small64 i = true) : -(2 ^ 64) < i ∧ i < 2 ^ 64 := by
  unfold small64 at h
  rw [Bool.and_eq_true] at h
  exact ⟨of_decide_eq_true h.1, of_decide_eq_true h.2⟩
theorem bin_mul (hK : X.K = W.K) : OpR X (binaryOp .Mult) (rZ W .mul) := by
  intro pins s σ H v w vv ww Q I rv rw_ h
  obtain ⟨t, u, x, e, F, r, σ', env, S, g, ht, hu, p⟩ := h
  cases t <;> cases u <;> first | (cases e; done) | skip
  · obtain ⟨hb, e2⟩ := guardT_ok e
    subst e2
    have ht : v = .int _ := ht
    have hu : w = .int _ := hu
    subst ht hu
    refine op_mul pins s σ H _ _ vv ww Q I rv rw_ ⟨_, _, rfl, rfl, ?_, p.same g (.int _)⟩
    rcases (Bool.or_eq_true _ _).mp hb with z | z
    · exact .inl (small64_ok z)
    · exact .inr (small64_ok z)
  · obtain ⟨hb, e2⟩ := guardT_ok e
    subst e2
    obtain ⟨a, vs, rfl, h1, l1⟩ := ht
    have hu : w = .int _ := hu
    subst hu
    rw [Bool.and_eq_true, Bool.and_eq_true] at hb
    obtain ⟨⟨b1, b2⟩, b3⟩ := hb
    rename_i ts k
    have b3 := of_decide_eq_true b3
    rw [l1.len] at b3
    refine op_repA pins s σ H _ _ vv ww Q I rv rw_ ⟨a, k, vs, rfl, rfl, by rw [hK]; exact g.le.sqT h1, of_decide_eq_true b1, of_decide_eq_true b2, b3, fun z => ?_, fun _ q hq => p.tup g (l1.rep _) hq⟩
    have er : (List.replicate k.toNat ts).flatten = ts := by
      rcases z with z | z
      · subst z
        have := l1.len
        have e0 := List.eq_nil_of_length_eq_zero this
        subst e0
        simp
      · subst z
        show (List.replicate 1 ts).flatten = ts
        simp
    refine p.same g ?_
    rw [er]
    exact .tup h1 l1.len l1.at_
  · obtain ⟨hb, e2⟩ := guardT_ok e
    subst e2
    obtain ⟨a, vs, rfl, h1, l1⟩ := ht
    have hu : w = .int _ := hu
    subst hu
    rw [Bool.and_eq_true, Bool.and_eq_true] at hb
    obtain ⟨⟨b1, b2⟩, b3⟩ := hb
    have b3 := of_decide_eq_true b3
    rw [l1.len] at b3
    exact op_repL pins s σ H _ _ vv ww Q I rv rw_ ⟨a, _, vs, rfl, rfl, by rw [hK]; exact h1, of_decide_eq_true b1, of_decide_eq_true b2, b3, fun q hq => p.lst g (l1.rep _) hq⟩
theorem bin_fdiv : OpR X (binaryOp .FloorDiv) (rZ W .fdiv) := by
  intro pins s σ H v w vv ww Q I rv rw_ h
  obtain ⟨t, u, x, e, F, r, σ', env, S, g, ht, hu, p⟩ := h
  cases t <;> cases u <;> first | (cases e; done) | skip
  obtain ⟨hb, e2⟩ := guardT_ok e
  subst e2
  have ht : v = .int _ := ht
  have hu : w = .int _ := hu
  subst ht hu
  rw [Bool.and_eq_true] at hb
  exact op_fdiv pins s σ H _ _ vv ww Q I rv rw_ ⟨_, _, rfl, rfl, ⟨of_decide_eq_true hb.1, of_decide_eq_true hb.2⟩, p.same g (.int _)⟩
theorem bin_mod : OpR X (binaryOp .Mod) (rZ W .mod) := by
  intro pins s σ H v w vv ww Q I rv rw_ h
  obtain ⟨t, u, x, e, F, r, σ', env, S, g, ht, hu, p⟩ := h
  cases t <;> cases u <;> first | (cases e; done) | skip
  obtain ⟨hb, e2⟩ := guardT_ok e
  subst e2
  have ht : v = .int _ := ht
  have hu : w = .int _ := hu
  subst ht hu
  exact op_mod pins s σ H _ _ vv ww Q I rv rw_ ⟨_, _, rfl, rfl, of_decide_eq_true hb, p.same g (.int _)⟩
theorem bin_pow : OpR X (binaryOp .Pow) (rZ W .pow) := by
  intro pins s σ H v w vv ww Q I rv rw_ h
  obtain ⟨t, u, x, e, F, r, σ', env, S, g, ht, hu, p⟩ := h
  cases t <;> cases u <;> first | (cases e; done) | skip
  obtain ⟨hb, e2⟩ := guardT_ok e
  subst e2
  have ht : v = .int _ := ht
  have hu : w = .int _ := hu
  subst ht hu
  rw [Bool.and_eq_true, Bool.and_eq_true] at hb
  exact op_pow pins s σ H _ _ vv ww Q I rv rw_ ⟨_, _, rfl, rfl, ⟨of_decide_eq_true hb.1.1, of_decide_eq_true hb.1.2, of_decide_eq_true hb.2⟩, p.same g (.int _)⟩
theorem bin_any (hK : X.K = W.K) (op : BOp) : OpR X (binaryOp (opOf op)) (rZ W op) := by
  cases op with
  | add => exact bin_add hK
  | sub => exact bin_sub
  | mul => exact bin_mul hK
  | fdiv => exact bin_fdiv
  | mod => exact bin_mod
  | pow => exact bin_pow
mutual
theorem Dp.of (W : WT) {F H : Hp} {r : List Addr} (l : Le F H) : ∀ (t : T) (n : Nat) (v : V), okD n t = true → Rep W F r t v → Dp W.K H v (toD t)
  | .non, _, _, _, h => by cases h; simp only [toD]; exact .non
  | .bl b, _, _, _, h => by cases h; simp only [toD]; exact .bl b
  | .int i, _, _, _, h => by cases h; simp only [toD]; exact .int i
  | .str x, _, _, _, h => by cases h; simp only [toD]; exact .str x
  | .tup ts, n, _, k, h => by
    cases n with
    | zero => simp [okD] at k
    | succ n =>
      cases h with
      | tup h1 h2 h3 =>
        simp only [toD]
        exact .tup (l.sqT h1) (Dp.ofAll W l ts n _ (by simpa [okD] using k) ⟨h2, h3⟩)
  | .lst ts, n, _, k, h => by
    cases n with
    | zero => simp [okD] at k
    | succ n =>
      cases h with
      | lst h1 h2 h3 =>
        simp only [toD]
        exact .lst (l.sqL h1) (Dp.ofAll W l ts n _ (by simpa [okD] using k) ⟨h2, h3⟩)
  | .dct _ _, n, _, k, _ => by cases n <;> simp [okD] at k
  | .ins _ _, n, _, k, _ => by cases n <;> simp [okD] at k
  | .ref _, n, _, k, _ => by cases n <;> simp [okD] at k
theorem Dp.ofAll (W : WT) {F H : Hp} {r : List Addr} (l : Le F H) : ∀ (ts : List T) (n : Nat) (vs : List V), (∀ t ∈ ts, okD n t = true) → RepL W F r ts vs → DpAll W.K H vs (toDs ts)
  | [], _, vs, _, h => by
    rw [h.unnil]
    simp only [toDs]
    exact .nil
  | t :: ts, n, vs, k, h => by
    obtain ⟨v, ws, rfl, h1, h2⟩ := h.uncons
    simp only [toDs]
    exact .cons (Dp.of W l t n v (k t List.mem_cons_self) h1) (Dp.ofAll W l ts n ws (fun t ht => k t (List.mem_cons_of_mem _ ht)) h2)
end
theorem Dp.of_vw {F H : Hp} {r : List Addr} (l : Le F H) {t : T} {n : Nat} {v : V} (k : okD n t = true) (h : Vw W F r H t v) : Dp W.K H v (toD t) := by
  cases t with
  | non => cases h; simp only [toD]; exact .non
  | bl b => cases h; simp only [toD]; exact .bl b
  | int i => cases h; simp only [toD]; exact .int i
  | str x => cases h; simp only [toD]; exact .str x
  | tup ts =>
    obtain ⟨a, vs, rfl, h1, h2⟩ := h
    cases n with
    | zero => simp [okD] at k
    | succ n => simp only [toD]; exact .tup (l.sqT h1) (Dp.ofAll W l ts n _ (by simpa [okD] using k) h2)
  | lst ts =>
    obtain ⟨a, vs, rfl, h1, h2⟩ := h
    cases n with
    | zero => simp [okD] at k
    | succ n => simp only [toD]; exact .lst h1 (Dp.ofAll W l ts n _ (by simpa [okD] using k) h2)
  | dct _ _ => cases n <;> simp [okD] at k
  | ins _ _ => cases n <;> simp [okD] at k
  | ref _ => cases n <;> simp [okD] at k
end
end Z
set_option Elab.async false
set_option linter.all false
set_option maxRecDepth 100000
set_option maxHeartbeats 4000000
namespace Z
open PySem PySem.Spec PyProof.Rows L2
mutual
theorem okD_lay : ∀ (t : T) (n : Nat), okD n t = true → (toD t).canLay0 = true ∧ (toD t).depth ≤ n
  | .non, _, _ => by simp [toD, PyData.canLay0, PyData.depth]
  | .bl b, _, _ => by simp [toD, PyData.canLay0, PyData.depth]
  | .int i, _, _ => by simp [toD, PyData.canLay0, PyData.depth]
  | .str x, n, h => by cases n <;> simpa [toD, PyData.canLay0, PyData.depth, okD] using h
  | .tup ts, n, h => by
    cases n with
    | zero => simp [okD] at h
    | succ n =>
      have := okD_layAll ts n (by simpa [okD] using h)
      simp only [toD, PyData.canLay0, PyData.depth]
      exact ⟨this.1, by omega⟩
  | .lst ts, n, h => by
    cases n with
    | zero => simp [okD] at h
    | succ n =>
      have := okD_layAll ts n (by simpa [okD] using h)
      simp only [toD, PyData.canLay0, PyData.depth]
      exact ⟨this.1, by omega⟩
  | .dct _ _, n, h => by cases n <;> simp [okD] at h
  | .ins _ _, n, h => by cases n <;> simp [okD] at h
  | .ref _, n, h => by cases n <;> simp [okD] at h
theorem okD_layAll : ∀ (ts : List T) (n : Nat), (∀ t ∈ ts, okD n t = true) → PyData.canLayAll0 (toDs ts) = true ∧ PyData.depthAll (toDs ts) ≤ n
  | [], _, _ => by simp [toDs, PyData.canLayAll0, PyData.depthAll]
  | t :: ts, n, h => by
    have h1 := okD_lay t n (h t List.mem_cons_self)
    have h2 := okD_layAll ts n fun t ht => h t (List.mem_cons_of_mem _ ht)
    simp only [toDs, PyData.canLayAll0, PyData.depthAll]
    exact ⟨by rw [h1.1, h2.1]; rfl, by omega⟩
end
theorem okD_shaped {t : T} (h : okD DEEP t = true) : SeqAt.shaped (toD t) = true := by
  obtain ⟨a, b⟩ := okD_lay t DEEP h
  unfold SeqAt.shaped
  rw [a, Bool.true_and]
  exact decide_eq_true (Nat.le_trans b (by decide))
theorem okDs_lay {ts : List T} (h : ts.all (okD DEEP) = true) : PyData.canLayAll0 (toDs ts) = true ∧ PyData.depthAll (toDs ts) ≤ DEEP :=
  okD_layAll ts DEEP (by simpa using h)
theorem toDs_map : ∀ ts : List T, toDs ts = ts.map toD
  | [] => rfl
  | t :: ts => by simp only [toDs, List.map_cons, toDs_map ts]
theorem memT_eq (x : T) (ts : List T) : ((toDs ts).any fun z => PyData.eqv z (toD x)) = memT x ts := by
  rw [toDs_map, List.any_map]; rfl
section
variable {W : WT} {X : Cx}
def cOf : COp → CmpOp
  | .eq => .Eq | .ne => .NotEq | .lt => .Lt | .le => .LtE | .gt => .Gt | .ge => .GtE | .is => .Is | .isnot => .IsNot | .isin => .In | .notin => .NotIn
def rC (W : WT) (op : COp) : R2 := fun v w H Q => ∃ (F : Hp) (r : List Addr) (σ : L2.St) (env : Env) (S : Store) (x y : R) (k : Bool) (S' : Store), Good W F r H σ env S ∧ RRep W F r H σ env x v ∧ RRep W F r H σ env y w ∧ evC op env S x y = .ok k S' ∧ Q (.bl k) H
theorem evC_flat {op : COp} {env : Env} {S S' : Store} {x y : R} {k : Bool} (h1 : op ≠ .is) (h2 : op ≠ .isnot) (h : evC op env S x y = .ok k S') : ∃ t u, flat env S x = some t ∧ flat env S y = some u ∧ cmpT op t u = some k ∧ S' = S := by
  unfold evC at h
  split at h
  · exact absurd rfl h1
  · exact absurd rfl h2
  · split at h
    · rename_i t u e1 e2
      obtain ⟨e, e'⟩ := of_ok h
      exact ⟨t, u, e1, e2, e, e'⟩
    · cases h
theorem cmp_int {op : COp} {f : Int → Int → Bool} (h1 : op ≠ .is) (h2 : op ≠ .isnot) (hf : ∀ t u k, cmpT op t u = some k → ∃ i j, t = .int i ∧ u = .int j ∧ k = f i j)
    (ho : OpR X (compareOp (cOf op)) (rI0 fun i j => .bl (f i j))) : OpR X (compareOp (cOf op)) (rC W op) := by
  intro pins s σ H v w vv ww Q I rv rw_ h
  obtain ⟨F, r, σ', env, S, x, y, k, S', g, hx, hy, e, q⟩ := h
  obtain ⟨t, u, e1, e2, e3, _⟩ := evC_flat h1 h2 e
  obtain ⟨i, j, rfl, rfl, rfl⟩ := hf t u k e3
  have a := Vw.of_flat g hx e1
  have b := Vw.of_flat g hy e2
  have a : v = .int i := a
  have b : w = .int j := b
  subst a b
  exact ho pins s σ H _ _ vv ww Q I rv rw_ ⟨i, j, rfl, rfl, q⟩
theorem cmp_any (hK : X.K = W.K) (hu : X.A.units + 65 < cLine) (op : COp) : OpR X (compareOp (cOf op)) (rC W op) := by
  cases op with
  | lt => exact cmp_int (by decide) (by decide) (fun t u k h => by cases t <;> cases u <;> first | (cases h; done) | (cases h; exact ⟨_, _, rfl, rfl, rfl⟩)) op_lt
  | le => exact cmp_int (by decide) (by decide) (fun t u k h => by cases t <;> cases u <;> first | (cases h; done) | (cases h; exact ⟨_, _, rfl, rfl, rfl⟩)) op_le
  | gt => exact cmp_int (f := fun i j => decide (j < i)) (by decide) (by decide) (fun t u k h => by cases t <;> cases u <;> first | (cases h; done) | (cases h; exact ⟨_, _, rfl, rfl, rfl⟩)) op_gt
  | ge => exact cmp_int (f := fun i j => decide (j ≤ i)) (by decide) (by decide) (fun t u k h => by cases t <;> cases u <;> first | (cases h; done) | (cases h; exact ⟨_, _, rfl, rfl, rfl⟩)) op_ge
  | eq =>
    intro pins s σ H v w vv ww Q I rv rw_ h
    obtain ⟨F, r, σ', env, S, x, y, k, S', g, hx, hy, e, q⟩ := h
    obtain ⟨t, u, e1, e2, e3, _⟩ := evC_flat (by decide) (by decide) e
    have e3 : guardT (okD DEEP t && okD DEEP u) (eqvT t u) = some k := by cases t <;> exact e3
    obtain ⟨b, rfl⟩ := guardT_ok e3
    rw [Bool.and_eq_true] at b
    exact op_eqD (by omega) pins s σ H v w vv ww Q I rv rw_ ⟨toD t, toD u, by rw [hK]; exact Dp.of_vw g.le b.1 (Vw.of_flat g hx e1), by rw [hK]; exact Dp.of_vw g.le b.2 (Vw.of_flat g hy e2), okD_shaped b.1, okD_shaped b.2, q⟩
  | ne =>
    intro pins s σ H v w vv ww Q I rv rw_ h
    obtain ⟨F, r, σ', env, S, x, y, k, S', g, hx, hy, e, q⟩ := h
    obtain ⟨t, u, e1, e2, e3, _⟩ := evC_flat (by decide) (by decide) e
    have e3 : guardT (okD DEEP t && okD DEEP u) (!eqvT t u) = some k := by cases t <;> exact e3
    obtain ⟨b, rfl⟩ := guardT_ok e3
    rw [Bool.and_eq_true] at b
    exact op_neD (by omega) pins s σ H v w vv ww Q I rv rw_ ⟨toD t, toD u, by rw [hK]; exact Dp.of_vw g.le b.1 (Vw.of_flat g hx e1), by rw [hK]; exact Dp.of_vw g.le b.2 (Vw.of_flat g hy e2), okD_shaped b.1, okD_shaped b.2, q⟩
  | is =>
    intro pins s σ H v w vv ww Q I rv rw_ h
    obtain ⟨F, r, σ', env, S, x, y, k, S', g, hx, hy, e, q⟩ := h
    have e : (match y with | .val .non => Out.ok (isNon x) S | _ => .no) = .ok k S' := e
    split at e
    · cases e
      cases hy
      refine op_isN pins s σ H v _ vv ww Q I rv rw_ ⟨rfl, ?_⟩
      have : decide (v = V.non) = isNon x := by
        cases x with
        | val t => cases hx <;> simp [isNon]
        | own i =>
          obtain ⟨o, a, b⟩ := hx
          obtain ⟨p, c, _⟩ := g.en.own i o a
          rw [b] at c
          cases c
          simp [isNon]
        | fresh o => obtain ⟨p, rfl, _⟩ := hx; simp [isNon]
        | hot c l => obtain ⟨p, _, _, rfl, _⟩ := hx; simp [isNon]
      rw [this]; exact q
    · cases e
  | isnot =>
    intro pins s σ H v w vv ww Q I rv rw_ h
    obtain ⟨F, r, σ', env, S, x, y, k, S', g, hx, hy, e, q⟩ := h
    have e : (match y with | .val .non => Out.ok (!isNon x) S | _ => .no) = .ok k S' := e
    split at e
    · cases e
      cases hy
      refine op_notN pins s σ H v _ vv ww Q I rv rw_ ⟨rfl, ?_⟩
      have : decide (v = V.non) = isNon x := by
        cases x with
        | val t => cases hx <;> simp [isNon]
        | own i =>
          obtain ⟨o, a, b⟩ := hx
          obtain ⟨p, c, _⟩ := g.en.own i o a
          rw [b] at c
          cases c
          simp [isNon]
        | fresh o => obtain ⟨p, rfl, _⟩ := hx; simp [isNon]
        | hot c l => obtain ⟨p, _, _, rfl, _⟩ := hx; simp [isNon]
      rw [this]; exact q
    · cases e
  | isin =>
    intro pins s σ H v w vv ww Q I rv rw_ h
    obtain ⟨F, r, σ', env, S, x, y, k, S', g, hx, hy, e, q⟩ := h
    obtain ⟨t, u, e1, e2, e3, _⟩ := evC_flat (by decide) (by decide) e
    have vx := Vw.of_flat g hx e1
    have vy := Vw.of_flat g hy e2
    cases u with
    | lst ts =>
      have e3 : guardT (okD DEEP t && ts.all (okD DEEP)) (memT t ts) = some k := by cases t <;> exact e3
      obtain ⟨b, rfl⟩ := guardT_ok e3
      rw [Bool.and_eq_true] at b
      obtain ⟨as, r1⟩ := Dp.reads I (toD t) v vv (by rw [hK]; exact Dp.of_vw g.le b.1 vx) rv
      obtain ⟨bs, r2⟩ := Dp.reads I (.list (toDs ts)) w ww (by
        obtain ⟨a, vs, rfl, h1, h2⟩ := vy
        rw [hK]
        exact .lst h1 (Dp.ofAll W g.le ts DEEP _ (by simpa using b.2) h2)) rw_
      refine SeqAt.in_list_reads r2 r1 (okDs_lay b.2).1 (SeqAt.canLay_of_shaped (okD_shaped b.1)) (room_in_shaped (okD_shaped b.1) hu) ⟨.bl _, H, I, rfl, ?_⟩
      rw [memT_eq]; exact q
    | tup ts =>
      have e3 : guardT (okD DEEP t && ts.all (okD DEEP)) (memT t ts) = some k := by cases t <;> exact e3
      obtain ⟨b, rfl⟩ := guardT_ok e3
      rw [Bool.and_eq_true] at b
      obtain ⟨as, r1⟩ := Dp.reads I (toD t) v vv (by rw [hK]; exact Dp.of_vw g.le b.1 vx) rv
      obtain ⟨bs, r2⟩ := Dp.reads I (.tuple (toDs ts)) w ww (by
        obtain ⟨a, vs, rfl, h1, h2⟩ := vy
        rw [hK]
        exact .tup (g.le.sqT h1) (Dp.ofAll W g.le ts DEEP _ (by simpa using b.2) h2)) rw_
      refine SeqAt.in_tuple_reads r2 r1 (okDs_lay b.2).1 (SeqAt.canLay_of_shaped (okD_shaped b.1)) (room_in_shaped (okD_shaped b.1) hu) ⟨.bl _, H, I, rfl, ?_⟩
      rw [memT_eq]; exact q
    | _ => cases t <;> cases e3
  | notin =>
    intro pins s σ H v w vv ww Q I rv rw_ h
    obtain ⟨F, r, σ', env, S, x, y, k, S', g, hx, hy, e, q⟩ := h
    obtain ⟨t, u, e1, e2, e3, _⟩ := evC_flat (by decide) (by decide) e
    have vx := Vw.of_flat g hx e1
    have vy := Vw.of_flat g hy e2
    cases u with
    | lst ts =>
      have e3 : guardT (okD DEEP t && ts.all (okD DEEP)) (!memT t ts) = some k := by cases t <;> exact e3
      obtain ⟨b, rfl⟩ := guardT_ok e3
      rw [Bool.and_eq_true] at b
      obtain ⟨as, r1⟩ := Dp.reads I (toD t) v vv (by rw [hK]; exact Dp.of_vw g.le b.1 vx) rv
      obtain ⟨bs, r2⟩ := Dp.reads I (.list (toDs ts)) w ww (by
        obtain ⟨a, vs, rfl, h1, h2⟩ := vy
        rw [hK]
        exact .lst h1 (Dp.ofAll W g.le ts DEEP _ (by simpa using b.2) h2)) rw_
      refine SeqAt.notIn_list_reads r2 r1 (okDs_lay b.2).1 (SeqAt.canLay_of_shaped (okD_shaped b.1)) (room_in_shaped (okD_shaped b.1) hu) ⟨.bl _, H, I, rfl, ?_⟩
      rw [memT_eq]; exact q
    | tup ts =>
      have e3 : guardT (okD DEEP t && ts.all (okD DEEP)) (!memT t ts) = some k := by cases t <;> exact e3
      obtain ⟨b, rfl⟩ := guardT_ok e3
      rw [Bool.and_eq_true] at b
      obtain ⟨as, r1⟩ := Dp.reads I (toD t) v vv (by rw [hK]; exact Dp.of_vw g.le b.1 vx) rv
      obtain ⟨bs, r2⟩ := Dp.reads I (.tuple (toDs ts)) w ww (by
        obtain ⟨a, vs, rfl, h1, h2⟩ := vy
        rw [hK]
        exact .tup (g.le.sqT h1) (Dp.ofAll W g.le ts DEEP _ (by simpa using b.2) h2)) rw_
      refine SeqAt.notIn_tuple_reads r2 r1 (okDs_lay b.2).1 (SeqAt.canLay_of_shaped (okD_shaped b.1)) (room_in_shaped (okD_shaped b.1) hu) ⟨.bl _, H, I, rfl, ?_⟩
      rw [memT_eq]; exact q
    | _ => cases t <;> cases e3
theorem ixN_eq (n : Nat) (i : Int) : Z.ixN n i = L2.ixN n i := rfl
def rIxZ (W : WT) : R2 := fun v w H Q => ∃ (F : Hp) (r : List Addr) (σ : L2.St) (env : Env) (S : Store) (t u x : T), Good W F r H σ env S ∧ Vw W F r H t v ∧ Vw W F r H u w ∧ ixT t u = some x ∧ Post W F r H σ env (.val x) S Q
theorem ix_any (hK : X.K = W.K) : IxR X (rIxZ W) := by
  intro value slice pins s σ H v w vv ww Q I rv rw_ h hsub
  obtain ⟨F, r, σ', env, S, t, u, x, g, ht, hu, e, p⟩ := h
  cases t <;> cases u <;> first | (cases e; done) | skip
  · obtain ⟨a, vs, rfl, h1, l1⟩ := ht
    have hu : w = .int _ := hu
    subst hu
    have e : (Z.ixN _ _).bind _ = some x := e
    obtain ⟨j, e1, e2⟩ := Option.bind_eq_some_iff.mp e
    obtain ⟨y, e3, ry⟩ := l1.get e2
    refine ix_tup value slice pins s σ H _ _ vv ww Q I rv rw_ ⟨a, vs, _, y, rfl, rfl, by rw [hK]; exact g.le.sqT h1, ?_, p.same g ry⟩ hsub
    unfold atI
    rw [← l1.len, ← ixN_eq, e1]
    exact e3
  · obtain ⟨a, vs, rfl, h1, l1⟩ := ht
    have hu : w = .int _ := hu
    subst hu
    have e : (Z.ixN _ _).bind _ = some x := e
    obtain ⟨j, e1, e2⟩ := Option.bind_eq_some_iff.mp e
    obtain ⟨y, e3, ry⟩ := l1.get e2
    refine ix_list value slice pins s σ H _ _ vv ww Q I rv rw_ ⟨a, vs, _, y, rfl, rfl, by rw [hK]; exact h1, ?_, p.same g ry⟩ hsub
    unfold atI
    rw [← l1.len, ← ixN_eq, e1]
    exact e3
theorem sIx_eq (n d : Nat) (o : Option Int) : Z.sIx n d o = HT.sIx n d o := by cases o <;> rfl
def rSlZ (W : WT) : V → Option Int → Option Int → Hp → VK → Prop := fun v lo hi H Q => ∃ (F : Hp) (r : List Addr) (σ : L2.St) (env : Env) (S : Store) (t : T) (x : R), Good W F r H σ env S ∧ Vw W F r H t v ∧ slT lo hi t = some x ∧ Post W F r H σ env x S Q
theorem sl_any (hK : X.K = W.K) : SlR X (rSlZ W) := by
  intro pins s σ H v vv vl vu lo hi sl Q I rv hs pl pu h
  obtain ⟨F, r, σ', env, S, t, x, g, ht, e, p⟩ := h
  cases t <;> first | (cases e; done) | skip
  · cases e
    rename_i ts
    obtain ⟨a, vs, rfl, h1, l1⟩ := ht
    have cut : RepL W F r (cutT ts lo hi) (cutV vs lo hi) := by
      unfold cutT cutV
      rw [sIx_eq, sIx_eq, l1.len]
      exact (l1.drop _).take _
    refine sl_tupA pins s σ H _ vv vl vu lo hi sl Q I rv hs pl pu ⟨a, vs, rfl, by rw [hK]; exact g.le.sqT h1, fun z => ?_, fun _ q hq => p.tup g cut hq⟩
    have ec : cutV vs lo hi = vs := by
      unfold cutV
      rw [z.1, z.2]
      simp
    rw [ec] at cut
    exact p.same g (.tup h1 cut.len cut.at_)
  · cases e
    rename_i ts
    obtain ⟨a, vs, rfl, h1, l1⟩ := ht
    have cut : RepL W F r (cutT ts lo hi) (cutV vs lo hi) := by
      unfold cutT cutV
      rw [sIx_eq, sIx_eq, l1.len]
      exact (l1.drop _).take _
    exact sl_list pins s σ H _ vv vl vu lo hi sl Q I rv hs pl pu ⟨a, vs, rfl, by rw [hK]; exact h1, fun q hq => p.lst g cut hq⟩
theorem TruV.of {F H : Hp} {r : List Addr} (l : Le F H) {t : T} {v : V} {k : Bool} (h : Vw W F r H t v) (e : truT t = some k) : TruV W.K v H k := by
  cases t with
  | non => cases h; cases e; rfl
  | bl b => cases h; cases e; rfl
  | int i => cases h; cases e; rfl
  | str x =>
    cases h
    obtain ⟨b, rfl⟩ := guardT_ok e
    refine ⟨of_decide_eq_true b, ?_⟩
    show (x.length != 0) = ((x.length : Int) != 0)
    generalize x.length = n
    cases n with
    | zero => rfl
    | succ n => rw [show ((n + 1 != 0) = true) from by simp, show (((n + 1 : Nat) : Int) != 0) = true from bne_iff_ne.mpr (by omega)]
  | tup ts =>
    obtain ⟨a, vs, rfl, h1, h2⟩ := h
    cases e
    refine .inr (.inl ⟨vs, l.sqT h1, ?_⟩)
    have := h2.len
    cases ts <;> cases vs <;> simp_all
  | lst ts =>
    obtain ⟨a, vs, rfl, h1, h2⟩ := h
    cases e
    refine .inl ⟨vs, h1, ?_⟩
    have := h2.len
    cases ts <;> cases vs <;> simp_all
  | dct ks vs =>
    obtain ⟨rfl, rfl, a, rfl, h1⟩ := h
    cases e
    exact .inr (.inr ⟨[], h1, rfl⟩)
  | ins c fs => cases e
  | ref n => cases e
end
end Z
set_option Elab.async false
set_option linter.all false
set_option maxRecDepth 100000
set_option maxHeartbeats 4000000
namespace Z
open PySem PySem.Spec PyProof.Rows L2
section
variable {W : WT} {X : Cx}
def rB (W : WT) (b : Bi) : List V → Hp → VK → Prop := fun vs H Q => ∃ (F : Hp) (r : List Addr) (σ : L2.St) (env : Env) (S : Store) (ts : List T) (x : R), Good W F r H σ env S ∧ VwL W F r H ts vs ∧ biT b ts = some x ∧ Post W F r H σ env x S Q
theorem VwL.one {F H : Hp} {r : List Addr} {t : T} {vs : List V} (h : VwL W F r H [t] vs) : ∃ v, vs = [v] ∧ Vw W F r H t v := by
  obtain ⟨l, h⟩ := h
  match vs, l with
  | [v], _ => exact ⟨v, rfl, h 0 t v rfl rfl⟩
theorem VwL.two {F H : Hp} {r : List Addr} {t u : T} {vs : List V} (h : VwL W F r H [t, u] vs) : ∃ v w, vs = [v, w] ∧ Vw W F r H t v ∧ Vw W F r H u w := by
  obtain ⟨l, h⟩ := h
  match vs, l with
  | [v, w], _ => exact ⟨v, w, rfl, h 0 t v rfl rfl, h 1 u w rfl rfl⟩
theorem intsT_map : ∀ {ts : List T} {l : List Int}, intsT ts = some l → ts = l.map T.int
  | [], l, h => by cases h; rfl
  | t :: r, l, h => by
    cases t <;> first | (cases h; done) | skip
    have h : (match intsT r with | some l => some (_ :: l) | none => none) = some l := h
    cases e : intsT r with
    | none => rw [e] at h; cases h
    | some m => rw [e] at h; cases h; rw [intsT_map e]; rfl
theorem blsT_map : ∀ {ts : List T} {l : List Bool}, blsT ts = some l → ts = l.map T.bl
  | [], l, h => by cases h; rfl
  | t :: r, l, h => by
    cases t <;> first | (cases h; done) | skip
    have h : (match blsT r with | some l => some (_ :: l) | none => none) = some l := h
    cases e : blsT r with
    | none => rw [e] at h; cases h
    | some m => rw [e] at h; cases h; rw [blsT_map e]; rfl
theorem RepL.ints {F : Hp} {r : List Addr} : ∀ {l : List Int} {vs : List V}, RepL W F r (l.map T.int) vs → vs = l.map V.int
  | [], vs, h => h.unnil
  | i :: l, vs, h => by
    obtain ⟨v, ws, rfl, h1, h2⟩ := RepL.uncons (show RepL W F r (T.int i :: l.map T.int) vs from h)
    cases h1
    rw [RepL.ints h2]; rfl
theorem RepL.bls {F : Hp} {r : List Addr} : ∀ {l : List Bool} {vs : List V}, RepL W F r (l.map T.bl) vs → vs = l.map V.bl
  | [], vs, h => h.unnil
  | i :: l, vs, h => by
    obtain ⟨v, ws, rfl, h1, h2⟩ := RepL.uncons (show RepL W F r (T.bl i :: l.map T.bl) vs from h)
    cases h1
    rw [RepL.bls h2]; rfl
theorem b_len (hK : X.K = W.K) : CallR X (.builtin "len") (rB W .len) := by
  intro pins s σ H vs us Q I rr h
  obtain ⟨F, r, σ', env, S, ts, x, g, vw, e, p⟩ := h
  match ts, e with
  | [.tup ts], e =>
    cases e
    obtain ⟨v, rfl, a, vs, rfl, h1, h2⟩ := vw.one
    exact call_len pins s σ H _ us Q I rr ⟨.ref a, ts.length, rfl, .inr ⟨vs, by rw [hK]; exact g.le.sqT h1, h2.len⟩, p.same g (.int _)⟩
  | [.lst ts], e =>
    cases e
    obtain ⟨v, rfl, a, vs, rfl, h1, h2⟩ := vw.one
    exact call_len pins s σ H _ us Q I rr ⟨.ref a, ts.length, rfl, .inl ⟨vs, by rw [hK]; exact h1, h2.len⟩, p.same g (.int _)⟩
  | [.dct ks ws], e =>
    cases e
    obtain ⟨v, rfl, rfl, rfl, a, rfl, h1⟩ := vw.one
    exact call_lenD pins s σ H _ us Q I rr ⟨a, [], rfl, h1, p.same g (.int _)⟩
theorem b_abs : CallR X (.builtin "abs") (rB W .abs) := by
  intro pins s σ H vs us Q I rr h
  obtain ⟨F, r, σ', env, S, ts, x, g, vw, e, p⟩ := h
  match ts, e with
  | [.int i], e =>
    cases e
    obtain ⟨v, rfl, hv⟩ := vw.one
    cases (show v = .int i from hv)
    exact call_abs pins s σ H _ us Q I rr ⟨i, rfl, p.same g (.int _)⟩
theorem b_min2 (hc : X.calm = true) : CallR X (.builtin "min") (rB W .min2) := by
  intro pins s σ H vs us Q I rr h
  obtain ⟨F, r, σ', env, S, ts, x, g, vw, e, p⟩ := h
  match ts, e with
  | [.int i, .int j], e =>
    cases e
    obtain ⟨v, w, rfl, hv, hw⟩ := vw.two
    cases (show v = .int i from hv)
    cases (show w = .int j from hw)
    exact call_min2 hc pins s σ H _ us Q I rr ⟨i, j, rfl, p.same g (.int _)⟩
theorem b_max2 (hc : X.calm = true) : CallR X (.builtin "max") (rB W .max2) := by
  intro pins s σ H vs us Q I rr h
  obtain ⟨F, r, σ', env, S, ts, x, g, vw, e, p⟩ := h
  match ts, e with
  | [.int i, .int j], e =>
    cases e
    obtain ⟨v, w, rfl, hv, hw⟩ := vw.two
    cases (show v = .int i from hv)
    cases (show w = .int j from hw)
    exact call_max2 hc pins s σ H _ us Q I rr ⟨i, j, rfl, p.same g (.int _)⟩
theorem b_divmod : CallR X (.builtin "divmod") (rB W .divmod) := by
  intro pins s σ H vs us Q I rr h
  obtain ⟨F, r, σ', env, S, ts, x, g, vw, e, p⟩ := h
  match ts, e with
  | [.int i, .int j], e =>
    obtain ⟨b, rfl⟩ := guardT_ok e
    rw [Bool.and_eq_true] at b
    obtain ⟨v, w, rfl, hv, hw⟩ := vw.two
    cases (show v = .int i from hv)
    cases (show w = .int j from hw)
    exact call_divmod pins s σ H _ us Q I rr ⟨i, j, rfl, ⟨of_decide_eq_true b.1, of_decide_eq_true b.2⟩, fun q hq => p.tup g (.cons (.int _) (.cons (.int _) .nil)) hq⟩
theorem b_int : CallR X (.type "int") (rB W .int) := by
  intro pins s σ H vs us Q I rr h
  obtain ⟨F, r, σ', env, S, ts, x, g, vw, e, p⟩ := h
  match ts, e with
  | [.int i], e =>
    cases e
    obtain ⟨v, rfl, hv⟩ := vw.one
    cases (show v = .int i from hv)
    exact call_int1 pins s σ H _ us Q I rr (.inl ⟨i, rfl, p.same g (.int _)⟩)
  | [.bl b], e =>
    cases e
    obtain ⟨v, rfl, hv⟩ := vw.one
    cases (show v = .bl b from hv)
    exact call_int1 pins s σ H _ us Q I rr (.inr ⟨b, rfl, p.same g (.int _)⟩)
theorem b_tuple (hK : X.K = W.K) : CallR X (.type "tuple") (rB W .tuple) := by
  intro pins s σ H vs us Q I rr h
  obtain ⟨F, r, σ', env, S, ts, x, g, vw, e, p⟩ := h
  match ts, e with
  | [.lst ts], e =>
    cases e
    obtain ⟨v, rfl, a, vs, rfl, h1, h2⟩ := vw.one
    exact call_tuple_of pins s σ H _ us Q I rr ⟨a, vs, rfl, .inl ⟨by rw [hK]; exact h1, fun l hl => p.tup g h2 hl⟩⟩
  | [.tup ts], e =>
    cases e
    obtain ⟨v, rfl, a, vs, rfl, h1, h2⟩ := vw.one
    exact call_tuple_of pins s σ H _ us Q I rr ⟨a, vs, rfl, .inr ⟨by rw [hK]; exact g.le.sqT h1, p.same g (.tup h1 h2.len h2.at_)⟩⟩
theorem b_list (hK : X.K = W.K) : CallR X (.type "list") (rB W .list) := by
  intro pins s σ H vs us Q I rr h
  obtain ⟨F, r, σ', env, S, ts, x, g, vw, e, p⟩ := h
  match ts, e with
  | [.lst ts], e =>
    cases e
    obtain ⟨v, rfl, a, vs, rfl, h1, h2⟩ := vw.one
    exact call_list_of pins s σ H _ us Q I rr ⟨a, vs, rfl, .inl (by rw [hK]; exact h1), fun l hl => p.lst g h2 hl⟩
  | [.tup ts], e =>
    cases e
    obtain ⟨v, rfl, a, vs, rfl, h1, h2⟩ := vw.one
    exact call_list_of pins s σ H _ us Q I rr ⟨a, vs, rfl, .inr (by rw [hK]; exact g.le.sqT h1), fun l hl => p.lst g h2 hl⟩
theorem sumT_raw {prog : Program} {w : World} {A : Around} {E : Value → Shared → Prop} {s : Shared} {l : Addr} {its : List Value} {ns : List Int} {Q : Value → Shared → Prop} (hh : A.handled = none) (hl : s.heap.IsTuple l its.toArray) (hi : IntsAre its ns)
    (h : ∀ h' tk t', (∀ b o, s.heap.get? b = some o → h'.get? b = some o) → Q (.int ns.sum t') { s with heap := h', toks := tk }) : wpAny (model prog w) A (call (.builtin "sum") [.ref l]) Q E s := by
  obtain ⟨xs, e⟩ := hi.allInts.items
  have hn : numsOf (intItems xs).toList = ns := by rw [← e]; exact hi.numsOf
  rw [nums_intItems] at hn
  rw [e] at hl
  refine PySem.W.ktm_sumG hh hl fun h' tk t' hk => ?_
  have := h h' tk t' hk
  rw [preSum_eq, List.take_of_length_le (by simp), hn]; exact this
theorem b_sum (hK : X.K = W.K) (hc : X.calm = true) : CallR X (.builtin "sum") (rB W .sum) := by
  intro pins s σ H vs us Q I rr h
  obtain ⟨F, r, σ', env, S, ts, x, g, vw, e, p⟩ := h
  match ts, e with
  | [.lst ts], e =>
    have e : (match intsT ts with | some l => some (R.val (.int l.sum)) | none => none) = some x := e
    cases q : intsT ts with
    | none => rw [q] at e; cases e
    | some l =>
      rw [q] at e
      cases e
      obtain ⟨v, rfl, a, vs, rfl, h1, h2⟩ := vw.one
      rw [intsT_map q] at h2
      rw [h2.ints] at h1
      exact cr_sum hc pins s σ H _ us Q I rr ⟨a, l, rfl, by rw [hK]; exact h1, p.same g (.int _)⟩
  | [.tup ts], e =>
    have e : (match intsT ts with | some l => some (R.val (.int l.sum)) | none => none) = some x := e
    cases q : intsT ts with
    | none => rw [q] at e; cases e
    | some l =>
      rw [q] at e
      cases e
      obtain ⟨v, rfl, a, vs, rfl, h1, h2⟩ := vw.one
      rw [intsT_map q] at h2
      rw [h2.ints] at h1
      obtain ⟨its, rv, hl, _⟩ := I.tuple (by rw [hK]; exact g.le.sqT h1)
      rw [Vals.ref1 rr]
      exact sumT_raw (I.ok.hd hc) hl rv.ints fun h' tk t' hk => ⟨.int _, H, I.kept hk, ⟨_, rfl⟩, p.same g (.int _)⟩
theorem b_all (hK : X.K = W.K) (hc : X.calm = true) : CallR X (.builtin "all") (rB W .all) := by
  intro pins s σ H vs us Q I rr h
  obtain ⟨F, r, σ', env, S, ts, x, g, vw, e, p⟩ := h
  match ts, e with
  | [.lst ts], e =>
    have e : (match blsT ts with | some l => some (R.val (.bl (l.all id))) | none => none) = some x := e
    cases q : blsT ts with
    | none => rw [q] at e; cases e
    | some l =>
      rw [q] at e
      cases e
      obtain ⟨v, rfl, a, vs, rfl, h1, h2⟩ := vw.one
      rw [blsT_map q] at h2
      rw [h2.bls] at h1
      exact cr_all hc pins s σ H _ us Q I rr ⟨a, l, rfl, by rw [hK]; exact h1, p.same g (.bl _)⟩
theorem b_any (hK : X.K = W.K) (hc : X.calm = true) : CallR X (.builtin "any") (rB W .any) := by
  intro pins s σ H vs us Q I rr h
  obtain ⟨F, r, σ', env, S, ts, x, g, vw, e, p⟩ := h
  match ts, e with
  | [.lst ts], e =>
    have e : (match blsT ts with | some l => some (R.val (.bl (l.any id))) | none => none) = some x := e
    cases q : blsT ts with
    | none => rw [q] at e; cases e
    | some l =>
      rw [q] at e
      cases e
      obtain ⟨v, rfl, a, vs, rfl, h1, h2⟩ := vw.one
      rw [blsT_map q] at h2
      rw [h2.bls] at h1
      exact cr_any hc pins s σ H _ us Q I rr ⟨a, l, rfl, by rw [hK]; exact h1, p.same g (.bl _)⟩
mutual
theorem okD_noDict : ∀ (t : T) (n : Nat), okD n t = true → (toD t).hasDict = false
  | .non, _, _ => by simp [toD, PyData.hasDict]
  | .bl b, _, _ => by simp [toD, PyData.hasDict]
  | .int i, _, _ => by simp [toD, PyData.hasDict]
  | .str x, _, _ => by simp [toD, PyData.hasDict]
  | .tup ts, n, h => by
    cases n with
    | zero => simp [okD] at h
    | succ n => simp only [toD, PyData.hasDict]; exact okD_noDictAll ts n (by simpa [okD] using h)
  | .lst ts, n, h => by
    cases n with
    | zero => simp [okD] at h
    | succ n => simp only [toD, PyData.hasDict]; exact okD_noDictAll ts n (by simpa [okD] using h)
  | .dct _ _, n, h => by cases n <;> simp [okD] at h
  | .ins _ _, n, h => by cases n <;> simp [okD] at h
  | .ref _, n, h => by cases n <;> simp [okD] at h
theorem okD_noDictAll : ∀ (ts : List T) (n : Nat), (∀ t ∈ ts, okD n t = true) → PyData.hasDictAll (toDs ts) = false
  | [], _, _ => by simp [toDs, PyData.hasDictAll]
  | t :: ts, n, h => by
    simp only [toDs, PyData.hasDictAll, okD_noDict t n (h t List.mem_cons_self), okD_noDictAll ts n fun t ht => h t (List.mem_cons_of_mem _ ht), Bool.or_self]
end
theorem b_repr (hK : X.K = W.K) (hg : X.A.guards = some []) (hu : X.A.units + 65 < cLine) : CallR X (.builtin "repr") (rB W .repr) := by
  intro pins s σ H vs us Q I rr h
  obtain ⟨F, r, σ', env, S, ts, x, g, vw, e, p⟩ := h
  match ts, e with
  | [t], e =>
    have e : guardT (okD DEEP t && (toD t).showable && decide ((toD t).shown.length ≤ LIM)) (R.val (.str (toD t).shown)) = some x := e
    obtain ⟨b, rfl⟩ := guardT_ok e
    rw [Bool.and_eq_true, Bool.and_eq_true] at b
    obtain ⟨⟨b1, b2⟩, b3⟩ := b
    have b3 : (toD t).shown.length ≤ sizeLine := of_decide_eq_true b3
    obtain ⟨v, rfl, hv⟩ := vw.one
    obtain ⟨u, rfl, rv⟩ := vals1 rr
    have fin : ∀ (h' : Heap) (u' : Tok) (tk : Nat), (∀ b o, s.heap.get? b = some o → h'.get? b = some o) → EP X pins σ Q (.str (toD t).shown u') { s with heap := h', toks := tk } := fun h' u' tk hk => ⟨.str _, H, I.kept hk, ⟨_, rfl⟩, p.same g (.str _)⟩
    obtain ⟨as, rd⟩ := Dp.reads I (toD t) v u (by rw [hK]; exact Dp.of_vw g.le b1 hv) rv
    have hdep := (okD_lay t DEEP b1).2
    have hsm : (toD t).hasDict = true → sysModules ∉ as := fun z => by rw [okD_noDict t DEEP b1] at z; cases z
    have hD : DEEP = 40 := rfl
    cases t with
    | non =>
      cases hv
      cases rv
      have := fin s.heap s.toks (s.toks + 1) fun _ _ e => e
      simp only [toD, PyData.shown] at this
      exact PySem.P.repr_of_none this
    | bl k =>
      cases hv
      cases rv
      have := fin s.heap s.toks (s.toks + 1) fun _ _ e => e
      simp only [toD, PyData.shown] at this
      exact PySem.P.repr_of_bool this
    | int i =>
      cases hv
      obtain ⟨tk, rfl⟩ := rv
      have := fin s.heap s.toks (s.toks + 1) fun _ _ e => e
      simp only [toD, PyData.shown] at this
      exact PySem.P.repr_of_int (by simpa [toD, PyData.showable] using b2) this
    | str z =>
      cases hv
      obtain ⟨tk, rfl⟩ := rv
      have := fin s.heap s.toks (s.toks + 1) fun _ _ e => e
      simp only [toD, PyData.shown] at this
      exact PySem.P.repr_of_str this (by simpa [toD, PyData.shown] using b3)
    | tup ts =>
      obtain ⟨a, ws, rfl, _⟩ := hv
      cases rv
      exact repr_of_reads' rd b2 hsm hg (by omega) (fun _ _ e => e) (fun h' u' tk hk => fin h' u' tk hk) b3
    | lst ts =>
      obtain ⟨a, ws, rfl, _⟩ := hv
      cases rv
      exact repr_of_reads' rd b2 hsm hg (by omega) (fun _ _ e => e) (fun h' u' tk hk => fin h' u' tk hk) b3
    | dct _ _ => simp [okD, DEEP] at b1
    | ins _ _ => simp [okD, DEEP] at b1
    | ref _ => exact hv.elim
theorem b_str : CallR X (.type "str") (rB W .str) := by
  intro pins s σ H vs us Q I rr h
  obtain ⟨F, r, σ', env, S, ts, x, g, vw, e, p⟩ := h
  match ts, e with
  | [.int i], e =>
    obtain ⟨b, rfl⟩ := guardT_ok (show guardT (decide (i.natAbs.log2 < 1920)) (R.val (.str (toString i))) = some x from e)
    obtain ⟨v, rfl, hv⟩ := vw.one
    cases (show v = .int i from hv)
    exact call_str_int pins s σ H _ us Q I rr ⟨i, rfl, of_decide_eq_true b, p.same g (.str _)⟩
  | [.str z], e =>
    cases e
    obtain ⟨v, rfl, hv⟩ := vw.one
    cases (show v = .str z from hv)
    exact SkE.call_str_str pins s σ H _ us Q I rr ⟨z, rfl, p.same g (.str _)⟩
theorem b_bool : CallR X (.type "bool") (rB W .bool) := by
  intro pins s σ H vs us Q I rr h
  obtain ⟨F, r, σ', env, S, ts, x, g, vw, e, p⟩ := h
  match ts, e with
  | [.int i], e =>
    cases e
    obtain ⟨v, rfl, hv⟩ := vw.one
    cases (show v = .int i from hv)
    exact call_bool1 pins s σ H _ us Q I rr (.inl ⟨i, rfl, p.same g (.bl _)⟩)
  | [.bl k], e =>
    cases e
    obtain ⟨v, rfl, hv⟩ := vw.one
    cases (show v = .bl k from hv)
    exact call_bool1 pins s σ H _ us Q I rr (.inr ⟨k, rfl, p.same g (.bl _)⟩)
end
end Z
set_option Elab.async false
set_option linter.all false
set_option maxRecDepth 100000
set_option maxHeartbeats 4000000
namespace Z
open PySem PySem.Spec PyProof.Rows L2
section
variable {W : WT} {wx : WX} {X : Cx} {C : EC} {a b c d : Expr} {ca cb cc cd : CE} {pos : Pos}
abbrev SE (W : WT) (wx : WX) (C : EC) (X : Cx) (e : Expr) (ce : CE) : Prop := PE X e (tE W wx (evE C ce))
abbrev ST (W : WT) (wx : WX) (C : EC) (X : Cx) (e : Expr) (ce : CE) : Prop := PT X e (tT W wx (evT C ce))
abbrev SW (W : WT) (wx : WX) (C : EC) (X : Cx) (e : Expr) (ce : CE) : Prop := PW X e (tT W wx (evT C ce))
abbrev SA (W : WT) (wx : WX) (C : EC) (X : Cx) (es : List Expr) (ce : CEs) : Prop := PA X es (tA W wx (evEs C ce))
abbrev SB (W : WT) (wx : WX) (C : EC) (X : Cx) (es : List Expr) (ce : CEs) : Prop := PA X es (tB W wx (evRs C ce))
theorem e_var {i : Nat} {x : Str} (hN : X.N[i]? = some x) (hv : Vis X.env.scope x) (hd : (x == ("__debug__" : Str)) = false) (hcd : (x == ("__classdict__" : Str)) = false) : SE W wx C X (.Name x pos) (.var i) := by
  refine (pe_var (i := i) hN hv hd hcd).imp fun σ H Q h => ?_
  obtain ⟨F, r, env, S, g, h⟩ := h
  have h : Rs W wx F r H σ env (match (env[i]? : Option Slot) with | some (Slot.val t) => Out.ok (R.val t) S | some (Slot.own _) => Out.ok (R.own i) S | some (Slot.hot c l) => Out.ok (R.hot c l) S | _ => Out.no) (fun x S' => Post W F r H σ env x S' Q) := h
  split at h
  · rename_i t q
    obtain ⟨v, hv, rv⟩ := g.en.val i t q
    exact ⟨v, hv, h v F r H (Step.refl F r H) g rv True.intro⟩
  · rename_i o q
    obtain ⟨pp, hv, _⟩ := g.en.own i o q
    exact ⟨.ref pp, hv, h _ F r H (Step.refl F r H) g ⟨o, q, hv⟩ True.intro⟩
  · rename_i c l q
    obtain ⟨a, cls, d, hv, z1, z2⟩ := g.en.hot i c l q
    exact ⟨.ref a, hv, h _ F r H (Step.refl F r H) g ⟨a, cls, d, rfl, z1, z2⟩ True.intro⟩
  · exact h.elim
theorem e_int {i : Int} {j : Nat} : SE W wx C X (.Constant (.int i) j pos) (.int i) := by
  refine pe_int.imp fun σ H Q h => ?_
  obtain ⟨F, r, env, S, g, p⟩ := h
  exact Post.same p g (.int i)
theorem e_bl {i : Bool} {j : Nat} : SE W wx C X (.Constant (.bool i) j pos) (.bl i) := by
  refine pe_bl.imp fun σ H Q h => ?_
  obtain ⟨F, r, env, S, g, p⟩ := h
  exact Post.same p g (.bl i)
theorem e_non {j : Nat} : SE W wx C X (.Constant .none j pos) .non := by
  refine pe_non.imp fun σ H Q h => ?_
  obtain ⟨F, r, env, S, g, p⟩ := h
  exact Post.same p g .non
theorem e_str {z : Str} {j : Nat} : SE W wx C X (.Constant (.str z) j pos) (.str z) := by
  refine pe_str.imp fun σ H Q h => ?_
  obtain ⟨F, r, env, S, g, p⟩ := h
  exact Post.same p g (.str z)
def CEs.len : CEs → Nat
  | .nil => 0
  | .cons _ es => es.len + 1
theorem evEs_len : ∀ {es : CEs} {env : Env} {S S' : Store} {ts : List T}, evEs C es env S = .ok ts S' → ts.length = es.len
  | .nil, _, _, _, _, e => by cases e; rfl
  | .cons x es, env, S, S', ts, e => by
    obtain ⟨y, S1, e1, e⟩ := bind_ok (show (evE C x env S).bind _ = _ from e)
    split at e
    · obtain ⟨us, S2, e2, e⟩ := bind_ok e
      cases e
      simp only [List.length_cons, CEs.len, evEs_len e2]
    · cases e
theorem Rs.bindE {F H : Hp} {r : List Addr} {σ : L2.St} {env : Env} {A B : Type} {o : Out A} {f : A → Store → Out B} {K : B → Store → Prop} {K' : A → Store → Prop} (h : Rs W wx F r H σ env (o.bind f) K) (k : ∀ a S, o = .ok a S → Rs W wx F r H σ env (f a S) K → K' a S) : Rs W wx F r H σ env o K' := by
  cases o with
  | ok a S => exact k a S rfl h
  | ex c l S => exact h
  | no => exact h
theorem e_tup {es : List Expr} {ces : CEs} {j : Nat} (h : SA W wx C X es ces) (hl : ces.len ≤ 1000) : SE W wx C X (.Tuple es j pos) (.tup ces) := by
  refine (pe_tup h).imp fun σ H Q h => ?_
  obtain ⟨F, r, env, S, g, h⟩ := h
  refine ⟨F, r, env, S, g, Rs.bindE (show Rs W wx F r H σ env ((evEs C ces env S).bind _) _ from h) fun ts S1 e1 p vs F1 r1 H1 s1 g1 rl => ⟨?_, fun q hq => (Post.weak p s1).tup g1 rl hq⟩⟩
  rw [← rl.len, evEs_len e1]
  exact Nat.le_trans hl (by decide)
theorem e_lst {es : List Expr} {ces : CEs} (h : SA W wx C X es ces) (hl : ces.len ≤ 1000) : SE W wx C X (.List es pos) (.lst ces) := by
  refine (pe_lst h).imp fun σ H Q h => ?_
  obtain ⟨F, r, env, S, g, h⟩ := h
  refine ⟨F, r, env, S, g, Rs.bindE (show Rs W wx F r H σ env ((evEs C ces env S).bind _) _ from h) fun ts S1 e1 p vs F1 r1 H1 s1 g1 rl => ⟨?_, fun q hq => (Post.weak p s1).lst g1 rl hq⟩⟩
  rw [← rl.len, evEs_len e1]
  exact Nat.le_trans hl (by decide)
theorem both {ev : Env → Store → Out R} (f : Env → R → R → Store → Out R) {K : R2} {σ : L2.St} {H : Hp} {Q : VK} (hev : ∀ env S, ev env S = (evE C ca env S).bind fun x S1 => (evE C cb env S1).bind fun y S2 => f env x y S2)
    (h : tE W wx ev σ H Q)
    (k : ∀ (F : Hp) (r : List Addr) (env : Env) (S : Store) (H2 : Hp) (x y : R) (v w : V), Good W F r H2 σ env S → RRep W F r H2 σ env x v → RRep W F r H2 σ env y w → Rs W wx F r H2 σ env (f env x y S) (fun z S' => Post W F r H2 σ env z S' Q) → K v w H2 Q) :
    tOp K (tE W wx (evE C ca)) (tE W wx (evE C cb)) σ H Q := by
  obtain ⟨F, r, env, S, g, h⟩ := h
  rw [hev] at h
  exact ⟨F, r, env, S, g, h.bind fun xa S1 h v F1 r1 H1 s1 g1 rr1 n1 => ⟨F1, r1, env, S1, g1, (h.later s1).bind fun xb S2 h w F2 r2 H2 s2 g2 rr2 n2 =>
    k F2 r2 env S2 H2 xa xb v w g2 (rr1.step s2) rr2 (h.later s2)⟩⟩
def fBin (op : BOp) (env : Env) (x y : R) (S2 : Store) : Out R := (match flat env S2 x, flat env S2 y with
    | some t, some u => .of S2 (binT op t u)
    | _, _ => .no)
def fCmp (op : COp) (env : Env) (x y : R) (S2 : Store) : Out R := (evC op env S2 x y).bind fun k S3 => .ok (.val (.bl k)) S3
def fIx (env : Env) (x y : R) (S2 : Store) : Out R := (match flat env S2 x, flat env S2 y with
    | some t, some u => .of S2 ((ixT t u).map R.val)
    | _, _ => .no)
theorem e_bin (hK : X.K = W.K) (op : BOp) (ha : SE W wx C X a ca) (hb : SE W wx C X b cb) : SE W wx C X (.BinOp a (opOf op) b pos) (.bin op ca cb) := by
  refine (pe_op (bin_any hK op) ha hb).imp fun σ H Q h => both (fBin op) (fun _ _ => rfl) h fun F r env S H2 x y v w g rx ry e => ?_
  unfold fBin at e
  split at e
  · rename_i t u e1 e2
    obtain ⟨z, e3, p⟩ := e.of
    exact ⟨t, u, z, e3, F, r, σ, env, S, g, Vw.of_flat g rx e1, Vw.of_flat g ry e2, p⟩
  · exact e.elim
theorem e_neg (ha : SE W wx C X a ca) : SE W wx C X (.UnaryOp .USub a pos) (.neg ca) := by
  refine (pe_un un_neg ha).imp fun σ H Q h => ?_
  obtain ⟨F, r, env, S, g, h⟩ := h
  refine ⟨F, r, env, S, g, Rs.bind (show Rs W wx F r H σ env ((evE C ca env S).bind _) _ from h) fun xa S1 e v F1 r1 H1 s1 g1 rr1 n1 => ?_⟩
  split at e
  · rename_i i
    cases rr1
    exact ⟨i, rfl, (Post.weak e s1).same g1 (.int _)⟩
  · exact e.elim
theorem evC_S {op : COp} {env : Env} {S S' : Store} {x y : R} {k : Bool} (e3 : evC op env S x y = .ok k S') : S' = S := by
  by_cases h1 : op = .is
  · subst h1
    have e3 : (match y with | .val .non => Out.ok (isNon x) S | _ => .no) = .ok k S' := e3
    split at e3 <;> cases e3
    rfl
  · by_cases h2 : op = .isnot
    · subst h2
      have e3 : (match y with | .val .non => Out.ok (!isNon x) S | _ => .no) = .ok k S' := e3
      split at e3 <;> cases e3
      rfl
    · obtain ⟨_, _, _, _, _, q⟩ := evC_flat h1 h2 e3
      exact q
theorem evC_noex {op : COp} {env : Env} {S S' : Store} {x y : R} {c : Nat} {l : List T} : evC op env S x y ≠ .ex c l S' := fun e => by
  unfold evC at e
  split at e
  · split at e <;> cases e
  · split at e <;> cases e
  · split at e
    · rename_i t u _ _
      cases q : cmpT _ t u with
      | none => rw [q] at e; cases e
      | some k => rw [q] at e; cases e
    · cases e
theorem evC_rs {op : COp} {env : Env} {S : Store} {x y : R} {F H : Hp} {r : List Addr} {σ : L2.St} {A : Type} {f : Bool → Store → Out A} {K : A → Store → Prop} (h : Rs W wx F r H σ env ((evC op env S x y).bind f) K) : ∃ k, evC op env S x y = .ok k S ∧ Rs W wx F r H σ env (f k S) K := by
  cases q : evC op env S x y with
  | ok k S' =>
    rw [q] at h
    have := evC_S q
    subst this
    exact ⟨k, rfl, h⟩
  | ex c l S' => exact absurd q evC_noex
  | no => rw [q] at h; exact h.elim
theorem cmp_core (op : COp) {σ : L2.St} {Q : VK} {F : Hp} {r : List Addr} {env : Env} {S : Store} {H2 : Hp} {x y : R} {v w : V} (g : Good W F r H2 σ env S) (rx : RRep W F r H2 σ env x v) (ry : RRep W F r H2 σ env y w) (e : Rs W wx F r H2 σ env (fCmp op env x y S) (fun z S' => Post W F r H2 σ env z S' Q)) : rC W op v w H2 Q := by
  obtain ⟨k, e3, p⟩ := evC_rs e
  exact ⟨F, r, σ, env, S, x, y, k, S, g, rx, ry, e3, Post.same p g (.bl k)⟩
theorem e_cmp (hK : X.K = W.K) (hu : X.A.units + 65 < cLine) (op : COp) (ha : SE W wx C X a ca) (hb : SE W wx C X b cb) (hm : behindInMarks (cOf op) b = false) : SE W wx C X (.Compare a [cOf op] [b] pos) (.cmp op ca cb) :=
  (pe_cmpR (cmp_any (W := W) hK hu op) ha hb hm).imp fun σ H Q h => both (fCmp op) (fun _ _ => rfl) h fun F r env S H2 x y v w g rx ry e => cmp_core op g rx ry e
theorem chain_ok {o1 o2 : COp} {σ : L2.St} {H : Hp} {Q : VK} (h : tE W wx (evE C (.chain o1 o2 ca cb cc)) σ H Q) : tChain (rC W o1) (rC W o2) (tE W wx (evE C ca)) (tE W wx (evE C cb)) (tE W wx (evE C cc)) σ H Q := by
  obtain ⟨F, r, env, S, g, h⟩ := h
  refine ⟨F, r, env, S, g, Rs.bind (show Rs W wx F r H σ env ((evE C ca env S).bind _) _ from h) fun xa S1 h v F1 r1 H1 s1 g1 rr1 n1 => ⟨F1, r1, env, S1, g1, (h.later s1).bind fun xb S2 h w F2 r2 H2 s2 g2 rr2 n2 => ?_⟩⟩
  obtain ⟨k, e3, h⟩ := evC_rs (h.later s2)
  refine ⟨F2, r2, σ, env, S2, xa, xb, k, S2, g2, rr1.step s2, rr2, e3, k, rfl, ?_⟩
  cases k with
  | true =>
    rw [if_pos rfl]
    refine ⟨F2, r2, env, S2, g2, Rs.bind h fun xc S4 h u F3 r3 H3 s3 g3 rr3 n3 => ?_⟩
    obtain ⟨k', e5, p⟩ := evC_rs (h.later s3)
    exact ⟨F3, r3, σ, env, S4, xb, xc, k', S4, g3, rr2.step s3, rr3, e5, Post.same p g3 (.bl k')⟩
  | false =>
    rw [if_neg Bool.false_ne_true]
    exact Post.same h g2 (.bl false)
theorem e_chain (hK : X.K = W.K) (hu : X.A.units + 65 < cLine) (o1 o2 : COp) (ha : SE W wx C X a ca) (hb : SE W wx C X b cb) (hc : SE W wx C X c cc) (hm : lastMarks [cOf o1, cOf o2] [b, c] = false) :
    SE W wx C X (.Compare a [cOf o1, cOf o2] [b, c] pos) (.chain o1 o2 ca cb cc) :=
  (pe_chain (cmp_any (W := W) hK hu o1) (cmp_any (W := W) hK hu o2) ha hb hc hm).imp fun σ H Q h => chain_ok h
theorem tru_rs {env : Env} {o : Out R} {F H : Hp} {r : List Addr} {σ : L2.St} {K : Bool → Store → Prop} (h : Rs W wx F r H σ env (truO env o) K) : Rs W wx F r H σ env o fun x S1 => ∃ t k, flat env S1 x = some t ∧ truT t = some k ∧ K k S1 :=
  Rs.bind (show Rs W wx F r H σ env (o.bind _) K from h) fun x S1 e => by
    split at e
    · rename_i t e2
      obtain ⟨k, e3, p⟩ := e.of
      exact ⟨t, k, e2, e3, p⟩
    · exact e.elim
theorem tru_bind {env : Env} {o : Out R} {F H : Hp} {r : List Addr} {σ : L2.St} {A : Type} {f : Bool → Store → Out A} {K : A → Store → Prop} (h : Rs W wx F r H σ env ((truO env o).bind f) K) : Rs W wx F r H σ env o fun x S1 => ∃ t k, flat env S1 x = some t ∧ truT t = some k ∧ Rs W wx F r H σ env (f k S1) K :=
  tru_rs (h.bind fun k S1 e => e)
theorem t_any (hK : X.K = W.K) (ha : SE W wx C X a ca) (he : ∀ whole, isTrue a X.env whole = (do let v ← whole; standAt a.pos; holding [v] (truthy v))) : ST W wx C X a ca := by
  refine (pt_truth ha he).imp fun σ H Q h => ?_
  obtain ⟨F, r, env, S, g, h⟩ := h
  refine ⟨F, r, env, S, g, (tru_rs h).mono fun x S1 ⟨t, k, e2, e3, p⟩ v F1 r1 H1 s1 g1 rr1 n1 => ⟨k, ?_, p F1 r1 H1 s1 g1⟩⟩
  rw [hK]
  exact TruV.of g1.le (Vw.of_flat g1 rr1 e2) e3
theorem tTest_of {t : TE} (h : ∀ σ H Q, tE W wx (evE C ca) σ H Q → t σ H Q) (hb : ∀ (env : Env) (S S' : Store) (x : R), evE C ca env S = .ok x S' → ∃ k, x = .val (.bl k)) :
    ∀ σ H Q, tT W wx (evT C ca) σ H Q → tTest t σ H Q := fun σ H Q q => by
  obtain ⟨F, r, env, S, g, q⟩ := q
  refine h σ H _ ⟨F, r, env, S, g, ?_⟩
  have q := tru_rs q
  cases e1 : evE C ca env S with
  | ok x S' =>
    rw [e1] at q
    obtain ⟨t, k, e2, e3, p⟩ := q
    obtain ⟨k', rfl⟩ := hb env S S' x e1
    cases e2
    cases e3
    exact fun v F1 r1 H1 s1 g1 rr1 n1 => by
      cases rr1
      exact ⟨k, rfl, p F1 r1 H1 s1 g1⟩
  | ex c l S' => rw [e1] at q; exact q
  | no => rw [e1] at q; exact q.elim
theorem t_cmp (hK : X.K = W.K) (hu : X.A.units + 65 < cLine) (op : COp) (ha : SE W wx C X a ca) (hb : SE W wx C X b cb) (hm : behindInMarks (cOf op) b = false) : ST W wx C X (.Compare a [cOf op] [b] pos) (.cmp op ca cb) := by
  refine (pt_cmpR (cmp_any (W := W) hK hu op) ha hb hm).imp (tTest_of (ca := .cmp op ca cb) (fun σ H Q h => both (fCmp op) (fun _ _ => rfl) h fun F r env S H2 x y v w g rx ry e => cmp_core op g rx ry e) fun env S S' x e => ?_)
  obtain ⟨xa, S1, e1, e⟩ := bind_ok (show (evE C ca env S).bind _ = _ from e)
  obtain ⟨xb, S2, e2, e⟩ := bind_ok e
  obtain ⟨k, S3, e3, e⟩ := bind_ok e
  cases e
  exact ⟨k, rfl⟩
theorem t_chain (hK : X.K = W.K) (hu : X.A.units + 65 < cLine) (o1 o2 : COp) (ha : SE W wx C X a ca) (hb : SE W wx C X b cb) (hc : SE W wx C X c cc) (hm : lastMarks [cOf o1, cOf o2] [b, c] = false) :
    ST W wx C X (.Compare a [cOf o1, cOf o2] [b, c] pos) (.chain o1 o2 ca cb cc) := by
  refine (pt_chain (cmp_any (W := W) hK hu o1) (cmp_any (W := W) hK hu o2) ha hb hc hm).imp (tTest_of (ca := .chain o1 o2 ca cb cc) (fun σ H Q h => chain_ok h) fun env S S' x e => ?_)
  obtain ⟨xa, S1, e1, e⟩ := bind_ok (show (evE C ca env S).bind _ = _ from e)
  obtain ⟨xb, S2, e2, e⟩ := bind_ok e
  obtain ⟨k, S3, e3, e⟩ := bind_ok e
  cases k with
  | true =>
    obtain ⟨xc, S4, e4, e⟩ := bind_ok e
    obtain ⟨k', S5, e5, e⟩ := bind_ok e
    cases e
    exact ⟨k', rfl⟩
  | false => cases e; exact ⟨false, rfl⟩
theorem e_bnot (hK : X.K = W.K) (ha : SE W wx C X a ca) : SE W wx C X (.UnaryOp .Not a pos) (.bnot ca) := by
  refine (pe_notT ha).imp fun σ H Q h => ?_
  obtain ⟨F, r, env, S, g, h⟩ := h
  refine ⟨F, r, env, S, g, (tru_bind (show Rs W wx F r H σ env ((truO env (evE C ca env S)).bind _) _ from h)).mono fun x S1 ⟨t, k, e2, e3, p⟩ v F1 r1 H1 s1 g1 rr1 n1 => ⟨k, ?_, (Post.weak p s1).same g1 (.bl _)⟩⟩
  rw [hK]
  exact TruV.of g1.le (Vw.of_flat g1 rr1 e2) e3
theorem t_bnot (ha : ST W wx C X a ca) : ST W wx C X (.UnaryOp .Not a pos) (.bnot ca) := by
  refine (pt_not ha).imp fun σ H Q h => ?_
  obtain ⟨F, r, env, S, g, h⟩ := h
  refine ⟨F, r, env, S, g, ?_⟩
  have h := tru_rs h
  refine Rs.bind (show Rs W wx F r H σ env ((truO env (evE C ca env S)).bind _) _ from h) fun k S1 e => ?_
  obtain ⟨t, k', e2, e3, p⟩ := (show ∃ t k', flat env S1 (.val (.bl (!k))) = some t ∧ truT t = some k' ∧ PostT W F r H σ env Q k' S1 from e)
  cases e2
  cases e3
  exact p
def fAnd (C : EC) (cb : CE) (env : Env) (x : R) (S1 : Store) : Out R := (match flat env S1 x with
    | some t => (match truT t with | some true => evE C cb env S1 | some false => .ok x S1 | none => .no)
    | none => .no)
def fOr (C : EC) (cb : CE) (env : Env) (x : R) (S1 : Store) : Out R := (match flat env S1 x with
    | some t => (match truT t with | some true => .ok x S1 | some false => evE C cb env S1 | none => .no)
    | none => .no)
theorem and_rs {env : Env} {S1 : Store} {x : R} {F H : Hp} {r : List Addr} {σ : L2.St} {K : R → Store → Prop} (h : Rs W wx F r H σ env (fAnd C cb env x S1) K) : ∃ t k, flat env S1 x = some t ∧ truT t = some k ∧ (k = true → Rs W wx F r H σ env (evE C cb env S1) K) ∧ (k = false → K x S1) := by
  unfold fAnd at h
  split at h
  · rename_i t e2
    split at h
    · rename_i e3; exact ⟨t, true, e2, e3, fun _ => h, fun z => (nomatch z)⟩
    · rename_i e3; exact ⟨t, false, e2, e3, fun z => (nomatch z), fun _ => h⟩
    · exact h.elim
  · exact h.elim
theorem or_rs {env : Env} {S1 : Store} {x : R} {F H : Hp} {r : List Addr} {σ : L2.St} {K : R → Store → Prop} (h : Rs W wx F r H σ env (fOr C cb env x S1) K) : ∃ t k, flat env S1 x = some t ∧ truT t = some k ∧ (k = false → Rs W wx F r H σ env (evE C cb env S1) K) ∧ (k = true → K x S1) := by
  unfold fOr at h
  split at h
  · rename_i t e2
    split at h
    · rename_i e3; exact ⟨t, true, e2, e3, fun z => (nomatch z), fun _ => h⟩
    · rename_i e3; exact ⟨t, false, e2, e3, fun _ => h, fun z => (nomatch z)⟩
    · exact h.elim
  · exact h.elim
variable {rest : List Expr}
theorem e_band (hK : X.K = W.K) (ha : SE W wx C X a ca) (hb : SE W wx C X (.BoolOp .And (b :: rest) pos) cb) : SE W wx C X (.BoolOp .And (a :: b :: rest) pos) (.band ca cb) := by
  refine (pe_andT ha hb).imp fun σ H Q h => ?_
  obtain ⟨F, r, env, S, g, h⟩ := h
  refine ⟨F, r, env, S, g, Rs.bind (show Rs W wx F r H σ env ((evE C ca env S).bind fun x S1 => fAnd C cb env x S1) _ from h) fun y S1 h v F1 r1 H1 s1 g1 rr1 n1 => ?_⟩
  obtain ⟨t, k, e2, e3, hy, hn⟩ := and_rs h
  refine ⟨k, by rw [hK]; exact TruV.of g1.le (Vw.of_flat g1 rr1 e2) e3, ?_⟩
  cases k with
  | true => exact iteT ⟨F1, r1, env, S1, g1, (hy rfl).later s1⟩
  | false => exact iteF (hn rfl v F1 r1 H1 s1 g1 rr1 n1)
theorem e_bor (hK : X.K = W.K) (ha : SE W wx C X a ca) (hb : SE W wx C X (.BoolOp .Or (b :: rest) pos) cb) : SE W wx C X (.BoolOp .Or (a :: b :: rest) pos) (.bor ca cb) := by
  refine (pe_orT ha hb).imp fun σ H Q h => ?_
  obtain ⟨F, r, env, S, g, h⟩ := h
  refine ⟨F, r, env, S, g, Rs.bind (show Rs W wx F r H σ env ((evE C ca env S).bind fun x S1 => fOr C cb env x S1) _ from h) fun y S1 h v F1 r1 H1 s1 g1 rr1 n1 => ?_⟩
  obtain ⟨t, k, e2, e3, hn, hy⟩ := or_rs h
  refine ⟨k, by rw [hK]; exact TruV.of g1.le (Vw.of_flat g1 rr1 e2) e3, ?_⟩
  cases k with
  | false => exact iteF ⟨F1, r1, env, S1, g1, (hn rfl).later s1⟩
  | true => exact iteT (hy rfl v F1 r1 H1 s1 g1 rr1 n1)
theorem w_imp {e : Expr} {t t' : TT} (h : PW X e t) (i : ∀ σ H Q, t' σ H Q → t σ H Q) : PW X e t' := ⟨fun wh pins s σ H Q I q => h.run wh pins s σ H Q I (i σ H Q q)⟩
theorem tru_mk {env : Env} {o : Out R} {F H : Hp} {r : List Addr} {σ : L2.St} {K : Bool → Store → Prop} (h : Rs W wx F r H σ env o fun x S1 => ∃ t k, flat env S1 x = some t ∧ truT t = some k ∧ K k S1) : Rs W wx F r H σ env (truO env o) K := by
  cases o with
  | ok x S1 =>
    obtain ⟨t, k, e1, e2, p⟩ := h
    show Rs W wx F r H σ env (match flat env S1 x with | some t => Out.of S1 (truT t) | none => .no) K
    rw [e1]
    show Rs W wx F r H σ env (Out.of S1 (truT t)) K
    rw [e2]
    exact p
  | ex c l S' => exact h
  | no => exact h.elim
theorem tband {σ : L2.St} {H : Hp} {Q : Bool → Hp → Prop} (h : tT W wx (evT C (.band ca cb)) σ H Q) : tAnd (tT W wx (evT C ca)) (tT W wx (evT C cb)) σ H Q := by
  obtain ⟨F, r, env, S, g, h⟩ := h
  have h := tru_rs h
  refine ⟨F, r, env, S, g, tru_mk (Rs.bind (show Rs W wx F r H σ env ((evE C ca env S).bind fun x S1 => fAnd C cb env x S1) _ from h) fun y S1 h => ?_)⟩
  obtain ⟨t, k, e2, e3, hy, hn⟩ := and_rs h
  refine ⟨t, k, e2, e3, fun F1 r1 H1 s1 g1 => ?_⟩
  cases k with
  | true => exact iteT ⟨F1, r1, env, S1, g1, tru_mk ((hy rfl).on s1 fun x S2 ⟨t, k, z1, z2, p⟩ => ⟨t, k, z1, z2, PostT.weak p s1⟩)⟩
  | false =>
    obtain ⟨t', k', z1, z2, p⟩ := hn rfl
    rw [e2] at z1
    cases z1
    rw [e3] at z2
    cases z2
    exact iteF (p F1 r1 H1 s1 g1)
theorem tbor {σ : L2.St} {H : Hp} {Q : Bool → Hp → Prop} (h : tT W wx (evT C (.bor ca cb)) σ H Q) : tOr (tT W wx (evT C ca)) (tT W wx (evT C cb)) σ H Q := by
  obtain ⟨F, r, env, S, g, h⟩ := h
  have h := tru_rs h
  refine ⟨F, r, env, S, g, tru_mk (Rs.bind (show Rs W wx F r H σ env ((evE C ca env S).bind fun x S1 => fOr C cb env x S1) _ from h) fun y S1 h => ?_)⟩
  obtain ⟨t, k, e2, e3, hn, hy⟩ := or_rs h
  refine ⟨t, k, e2, e3, fun F1 r1 H1 s1 g1 => ?_⟩
  cases k with
  | false => exact iteF ⟨F1, r1, env, S1, g1, tru_mk ((hn rfl).on s1 fun x S2 ⟨t, k, z1, z2, p⟩ => ⟨t, k, z1, z2, PostT.weak p s1⟩)⟩
  | true =>
    obtain ⟨t', k', z1, z2, p⟩ := hy rfl
    rw [e2] at z1
    cases z1
    rw [e3] at z2
    cases z2
    exact iteT (p F1 r1 H1 s1 g1)
theorem w_band (ha : ST W wx C X a ca) (hb : SW W wx C X (.BoolOp .And (b :: rest) pos) cb) : SW W wx C X (.BoolOp .And (a :: b :: rest) pos) (.band ca cb) := w_imp (pw_and ha hb) fun _ _ _ h => tband h
theorem w_bor (ha : ST W wx C X a ca) (hb : SW W wx C X (.BoolOp .Or (b :: rest) pos) cb) : SW W wx C X (.BoolOp .Or (a :: b :: rest) pos) (.bor ca cb) := w_imp (pw_or ha hb) fun _ _ _ h => tbor h
theorem ife_rs {env : Env} {S : Store} {F H : Hp} {r : List Addr} {σ : L2.St} {K : R → Store → Prop} (h : Rs W wx F r H σ env (evE C (.ife cc ca cb) env S) K) : Rs W wx F r H σ env (evT C cc env S) fun k S1 => (k = true → Rs W wx F r H σ env (evE C ca env S1) K) ∧ (k = false → Rs W wx F r H σ env (evE C cb env S1) K) :=
  Rs.bind (show Rs W wx F r H σ env ((truO env (evE C cc env S)).bind fun k S1 => (match k with | true => evE C ca env S1 | false => evE C cb env S1)) K from h) fun k S1 e => by
    cases k with
    | true => exact ⟨fun _ => e, fun z => (nomatch z)⟩
    | false => exact ⟨fun z => (nomatch z), fun _ => e⟩
theorem e_ife (hc : ST W wx C X c cc) (ha : SE W wx C X a ca) (hb : SE W wx C X b cb) : SE W wx C X (.IfExp c a b pos) (.ife cc ca cb) := by
  refine (pe_ifExp hc ha hb).imp fun σ H Q h => ?_
  obtain ⟨F, r, env, S, g, h⟩ := h
  refine ⟨F, r, env, S, g, (ife_rs h).mono fun k S1 ⟨hy, hn⟩ F1 r1 H1 s1 g1 => ?_⟩
  cases k with
  | true => exact iteT ⟨F1, r1, env, S1, g1, (hy rfl).later s1⟩
  | false => exact iteF ⟨F1, r1, env, S1, g1, (hn rfl).later s1⟩
theorem t_ife (hc : ST W wx C X c cc) (ha : ST W wx C X a ca) (hb : ST W wx C X b cb) : ST W wx C X (.IfExp c a b pos) (.ife cc ca cb) := by
  refine ⟨fun pins s σ H Q I h => ?_⟩
  obtain ⟨F, r, env, S, g, h⟩ := h
  have h := ife_rs (tru_rs h)
  show wpAny _ _ (do if ← isTrue c X.env (eval c X.env) then isTrue a X.env (eval a X.env) else isTrue b X.env (eval b X.env)) _ _ s
  refine wpAny_bind (thn (hc.run pins s σ H (fun d H1 => if d = true then tT W wx (evT C ca) σ H1 Q else tT W wx (evT C cb) σ H1 Q) I ⟨F, r, env, S, g, h.mono fun k S1 ⟨hy, hn⟩ F1 r1 H1 s1 g1 => ?_⟩) fun d s1 hd => ?_)
  · cases k with
    | true => exact iteT ⟨F1, r1, env, S1, g1, tru_mk ((hy rfl).on s1 fun x S2 ⟨t, k, z1, z2, p⟩ => ⟨t, k, z1, z2, PostT.weak p s1⟩)⟩
    | false => exact iteF ⟨F1, r1, env, S1, g1, tru_mk ((hn rfl).on s1 fun x S2 ⟨t, k, z1, z2, p⟩ => ⟨t, k, z1, z2, PostT.weak p s1⟩)⟩
  · obtain ⟨H1, I1, q1⟩ := hd
    cases d with
    | true => exact ha.run pins s1 σ H1 Q I1 q1
    | false => exact hb.run pins s1 σ H1 Q I1 q1
end
end Z
set_option Elab.async false
set_option linter.all false
set_option maxRecDepth 100000
set_option maxHeartbeats 4000000
namespace Z
open PySem PySem.Spec PyProof.Rows L2
section
variable {W : WT} {wx : WX} {X : Cx} {C : EC} {a b c d e : Expr} {es : List Expr} {ca cb cc cd ce : CE} {ces : CEs} {pos : Pos}
def plainArg : Expr → Bool
  | .Starred _ _ => false
  | _ => true
theorem star_cons (h : plainArg e = true) (es : List Expr) (env : PySem.Env) : starEach (e :: es) env = (false, eval e env) :: starEach es env := by
  cases e <;> first | rfl | (cases h; done)
theorem star_none : ∀ {es : List Expr} (h : es.all plainArg = true) (pos : Pos) (env : PySem.Env), (backTo pos (starEach es env)).any (·.1) = false
  | [], _, _, _ => rfl
  | e :: es, h, pos, env => by
    rw [List.all_cons, Bool.and_eq_true] at h
    rw [star_cons h.1]
    show (false || (backTo pos (starEach es env)).any (·.1)) = false
    rw [star_none h.2]; rfl
theorem a_nil : SA W wx C X [] .nil := by
  refine pa_nil.imp fun σ H Q h => ?_
  obtain ⟨F, r, env, S, g, p⟩ := h
  exact (show PostA W F r H σ env Q [] S from p) [] F r H (Step.refl F r H) g .nil
theorem a_cons (he : SE W wx C X e ce) (hs : SA W wx C X es ces) (hp : plainArg e = true) : SA W wx C X (e :: es) (.cons ce ces) := by
  refine (pa_cons he hs (star_cons hp _ _)).imp fun σ H Q h => ?_
  obtain ⟨F, r, env, S, g, h⟩ := h
  refine ⟨F, r, env, S, g, Rs.bind (show Rs W wx F r H σ env ((evE C ce env S).bind _) _ from h) fun x S1 e v F1 r1 H1 s1 g1 rr1 n1 => ?_⟩
  split at e
  · rename_i t et
    obtain ⟨F2, s2, g2, rt, l⟩ := sink_ok g1 s1 rr1 n1 et
    exact ⟨F2, r1, env, S1, g2, Rs.bind (e.on s2 fun _ _ z => z) fun us S' p vs F3 r3 H3 s3 g3 rl => (show PostA W F r H σ env Q (t :: us) S' from p) (v :: vs) F3 r3 H3 (s2.trans s3) g3 (.cons (rt.mono s3.le s3.pre) rl)⟩
  · exact e.elim
theorem b_nil : SB W wx C X [] .nil := by
  refine pa_nil.imp fun σ H Q h => ?_
  obtain ⟨F, r, env, S, g, p⟩ := h
  exact (show PostB W F r H σ env Q [] S from p) [] F r H (Step.refl F r H) g ⟨rfl, fun i t v h _ => by simp at h⟩
theorem VwL.cons {F H : Hp} {r : List Addr} {t : T} {v : V} {ts : List T} {vs : List V} (h : Vw W F r H t v) (hs : VwL W F r H ts vs) : VwL W F r H (t :: ts) (v :: vs) :=
  ⟨by simp [hs.1], fun i t' v' a b => by
    cases i with
    | zero => simp at a b; subst a b; exact h
    | succ i => exact hs.2 i t' v' (by simpa using a) (by simpa using b)⟩
theorem b_cons (he : SE W wx C X e ce) (hs : SB W wx C X es ces) (hp : plainArg e = true) : SB W wx C X (e :: es) (.cons ce ces) := by
  refine (pa_cons he hs (star_cons hp _ _)).imp fun σ H Q h => ?_
  obtain ⟨F, r, env, S, g, h⟩ := h
  refine ⟨F, r, env, S, g, Rs.bind (show Rs W wx F r H σ env ((evE C ce env S).bind _) _ from h) fun x S1 e v F1 r1 H1 s1 g1 rr1 n1 => ⟨F1, r1, env, S1, g1, Rs.bind (e.on s1 fun _ _ z => z) fun us S2 e vs F3 r3 H3 s3 g3 rl => ?_⟩⟩
  split at e
  · rename_i t et
    exact (show PostB W F r H σ env Q (t :: us) S2 from e) (v :: vs) F3 r3 H3 (s1.trans s3) g3 (VwL.cons (Vw.of_flat g3 (rr1.step s3) et) rl)
  · exact e.elim
def plainIx : Expr → Bool
  | .Slice _ _ _ _ => false
  | _ => true
theorem plainIx_ok (h : plainIx b = true) : PlainIx b := by
  intro o i
  cases b <;> first | rfl | (cases h; done)
theorem e_ix (hK : X.K = W.K) (ha : SE W wx C X a ca) (hb : SE W wx C X b cb) (hp : plainIx b = true) : SE W wx C X (.Subscript a b pos) (.ix ca cb) := by
  refine (pe_ix (ix_any (W := W) hK) ha hb (plainIx_ok hp)).imp fun σ H Q h => both fIx (fun _ _ => rfl) h fun F r env S H2 x y v w g rx ry e => ?_
  unfold fIx at e
  split at e
  · rename_i t u e1 e2
    obtain ⟨z, e3, p⟩ := e.of
    cases q : ixT t u with
    | none => rw [q] at e3; cases e3
    | some k =>
      rw [q] at e3
      cases e3
      exact ⟨F, r, σ, env, S, t, u, k, g, Vw.of_flat g rx e1, Vw.of_flat g ry e2, q, p⟩
  · exact e.elim
def PostO (W : WT) (F : Hp) (r : List Addr) (H : Hp) (σ : L2.St) (env : Env) (Q : Option Int → Hp → Prop) (b : Option Int) (S' : Store) : Prop := ∀ (F' : Hp) (r' : List Addr) (H' : Hp), Step F r H F' r' H' → Good W F' r' H' σ env S' → Q b H'
def tO (W : WT) (wx : WX) (ev : Env → Store → Out (Option Int)) : TO := fun σ H Q => ∃ (F : Hp) (r : List Addr) (env : Env) (S : Store), Good W F r H σ env S ∧ Rs W wx F r H σ env (ev env S) (PostO W F r H σ env Q)
abbrev SO (W : WT) (wx : WX) (C : EC) (X : Cx) (e : Option Expr) (co : CO) : Prop := PO X e (tO W wx (evO C co))
theorem po_imp {eo : Option Expr} {t t' : TO} (h : PO X eo t) (i : ∀ σ H Q, t' σ H Q → t σ H Q) : PO X eo t' := ⟨fun pins s σ H Q I q => h.run pins s σ H Q I (i σ H Q q)⟩
theorem o_none : SO W wx C X none .none := by
  refine po_imp po_none fun σ H Q h => ?_
  obtain ⟨F, r, env, S, g, p⟩ := h
  exact (show PostO W F r H σ env Q none S from p) F r H (Step.refl F r H) g
theorem o_some (he : SE W wx C X e ce) : SO W wx C X (some e) (.some ce) := by
  refine po_imp (po_some he) fun σ H Q h => ?_
  obtain ⟨F, r, env, S, g, h⟩ := h
  refine ⟨F, r, env, S, g, Rs.bind (show Rs W wx F r H σ env ((evE C ce env S).bind _) _ from h) fun x S1 e v F1 r1 H1 s1 g1 rr1 n1 => ?_⟩
  split at e
  · rename_i i
    cases rr1
    exact ⟨i, rfl, (show PostO W F r H σ env Q (some i) S1 from e) F1 r1 H1 s1 g1⟩
  · exact e.elim
theorem PostO.weak {F F1 H H1 : Hp} {r r1 : List Addr} {σ : L2.St} {env : Env} {Q : Option Int → Hp → Prop} {b : Option Int} {S : Store} (p : PostO W F r H σ env Q b S) (s : Step F r H F1 r1 H1) : PostO W F1 r1 H1 σ env Q b S := fun F' r' H' s' g => p F' r' H' (s.trans s') g
theorem e_sl {lo hi : Option Expr} {cl ch : CO} {p2 : Pos} (hK : X.K = W.K) (ha : SE W wx C X a ca) (hl : SO W wx C X lo cl) (hh : SO W wx C X hi ch) : SE W wx C X (.Subscript a (.Slice lo hi none p2) pos) (.sl ca cl ch) := by
  refine (pe_slice (sl_any (W := W) hK) ha hl hh).imp fun σ H Q h => ?_
  obtain ⟨F, r, env, S, g, h⟩ := h
  refine ⟨F, r, env, S, g, Rs.bind (show Rs W wx F r H σ env ((evE C ca env S).bind _) _ from h) fun xa S1 e v F1 r1 H1 s1 g1 rr1 n1 => ⟨F1, r1, env, S1, g1, Rs.bind (e.later s1) fun l S2 e F2 r2 H2 s2 g2 => ⟨F2, r2, env, S2, g2, Rs.bind (e.later s2) fun h' S3 e F3 r3 H3 s3 g3 => ?_⟩⟩⟩
  split at e
  · rename_i t et
    obtain ⟨x, e4, p⟩ := e.of
    exact ⟨F3, r3, σ, env, S3, t, x, g3, Vw.of_flat g3 ((rr1.step s2).step s3) et, e4, p.weak s3⟩
  · exact e.elim
def plainBase : Expr → Bool
  | .Call _ [] _ _ => false
  | _ => true
theorem plainBase_ok {f : Str} {env : PySem.Env} {wh : Sem Value} (h : plainBase e = true) : attributeBase e f env wh = wh := by
  cases e with
  | Call g as ks p =>
    cases as with
    | nil => cases h
    | cons _ _ => cases g <;> rfl
  | _ => rfl
theorem fldO_ok {F H : Hp} {r : List Addr} {p : Addr} {o : Ob} {f : Nat} {t : T} (h : ObRep W F r H p o) (e : fldO f o = some t) :
    ∃ C dx fs v, H p = some (.ins C dx fs) ∧ Cls W.K C ∧ NoAttr W.K C (W.attr f) ∧ fs.lookup (W.attr f) = some v ∧ Rep W F r t v := by
  cases o with
  | ins c fs =>
    obtain ⟨dx, fvs, e1, q, ck⟩ := h
    have e : (match fs[f]? with | some (some t) => some t | _ => none) = some t := e
    split at e
    · rename_i u hu
      cases e
      obtain ⟨v, a, b⟩ := q.yes f t hu
      exact ⟨_, dx, fvs, v, e1, ck.1, ck.2.1 f (Nat.lt_of_lt_of_le (List.getElem?_eq_some_iff.mp hu).1 q.few), a, b⟩
    · cases e
  | lst ts => cases e
  | dct ks vs => cases e
theorem fldR_ok {F H : Hp} {r : List Addr} {σ : L2.St} {env : Env} {S : Store} {x : R} {v : V} {f : Nat} {t : T} (g : Good W F r H σ env S) (rr : RRep W F r H σ env x v) (e : fldR env S x f = some t) :
    ∃ a C dx fs y, v = .ref a ∧ H a = some (.ins C dx fs) ∧ Cls W.K C ∧ NoAttr W.K C (W.attr f) ∧ fs.lookup (W.attr f) = some y ∧ Rep W F r t y := by
  cases x with
  | val u =>
    cases u with
    | ins c fs =>
      have e : fs[f]? = some t := e
      cases rr with
      | ins gg h1 h2 h3 h4 h5 h6 h7 =>
        exact ⟨_, _, _, _, _, rfl, g.le _ _ h1, h7.1, h7.2.1 f (Nat.lt_of_lt_of_le (List.getElem?_eq_some_iff.mp e).1 h2), h3 f t e, h4 f t e⟩
    | ref n =>
      have e : (match S[n]? with | some o => fldO f o | none => none) = some t := e
      cases q : S[n]? with
      | none => rw [q] at e; cases e
      | some o =>
        rw [q] at e
        have rr : Rep W F r (.ref n) v := rr
        cases rr with
        | ref h =>
          obtain ⟨C, dx, fs, y, h1, h2, h3, h4, h5⟩ := fldO_ok (g.st.at_ _ _ o h q).2 e
          exact ⟨_, C, dx, fs, y, rfl, h1, h2, h3, h4, h5⟩
    | _ => cases e
  | own i =>
    obtain ⟨o, h1, h2⟩ := rr
    have e : (match (env[i]? : Option Slot) with | some (Slot.own o) => fldO f o | _ => none) = some t := e
    rw [h1] at e
    obtain ⟨p, h3, _, _, h4⟩ := g.en.own i o h1
    rw [h2] at h3
    cases h3
    obtain ⟨C, dx, fs, y, h1, h2, h3, h4, h5⟩ := fldO_ok h4 e
    exact ⟨_, C, dx, fs, y, rfl, h1, h2, h3, h4, h5⟩
  | fresh o =>
    obtain ⟨p, rfl, _, _, _, h4⟩ := rr
    obtain ⟨C, dx, fs, y, h1, h2, h3, h4, h5⟩ := fldO_ok h4 e
    exact ⟨_, C, dx, fs, y, rfl, h1, h2, h3, h4, h5⟩
  | hot c l => cases e
def fFld (C : EC) (f : Nat) (env : Env) (x : R) (S1 : Store) : Out R := (match x with
    | .hot c l => .of S1 ((hotFld C c l f).map R.val)
    | x => .of S1 ((fldR env S1 x f).map R.val))
theorem e_fld {f : Nat} (hK : X.K = W.K) (nh : ∀ a cls d, ¬ W.hx a cls d) (ha : SE W wx C X a ca) (hb : plainBase a = true) : SE W wx C X (.Attribute a (W.attr f) pos) (.fld ca f) := by
  refine (pe_fld ha (plainBase_ok hb)).imp fun σ H Q h => ?_
  obtain ⟨F, r, env, S, g, h⟩ := h
  refine ⟨F, r, env, S, g, Rs.bind (show Rs W wx F r H σ env ((evE C ca env S).bind fun x S1 => fFld C f env x S1) _ from h) fun xa S1 e v F1 r1 H1 s1 g1 rr1 n1 => ?_⟩
  have e : Rs W wx F r H σ env (Out.of S1 ((fldR env S1 xa f).map R.val)) (fun x S' => Post W F r H σ env x S' Q) := by
    cases xa with
    | hot c l => obtain ⟨a, cls, d, _, z, _⟩ := rr1; exact absurd z (nh a cls d)
    | _ => exact e
  obtain ⟨x, e2, p⟩ := e.of
  cases q : fldR env S1 xa f with
  | none => rw [q] at e2; cases e2
  | some t =>
    rw [q] at e2
    cases e2
    obtain ⟨a', C', dx, fs, y, h1, h2, h3, h4, h5, h6⟩ := fldR_ok g1 rr1 q
    rw [hK]
    exact ⟨a', C', dx, fs, y, h1, h2, h3, h4, h5, (Post.weak p s1).same g1 h6⟩
def biName : Bi → Str
  | .len => "len" | .abs => "abs" | .min2 => "min" | .max2 => "max" | .divmod => "divmod" | .int => "int" | .tuple => "tuple" | .list => "list" | .sum => "sum" | .all => "all" | .any => "any" | .repr => "repr" | .lrange => "list" | .str => "str" | .bool => "bool" | .lenr => "len"
theorem bi_imp {bi : Bi} {σ : L2.St} {H : Hp} {Q : VK} (h : tE W wx (evE C (.bi bi ces)) σ H Q) : tCB (rB W bi) (tB W wx (evRs C ces)) σ H Q := by
  obtain ⟨F, r, env, S, g, h⟩ := h
  refine ⟨F, r, env, S, g, Rs.bind (show Rs W wx F r H σ env ((evRs C ces env S).bind _) _ from h) fun ts S1 e vs F1 r1 H1 s1 g1 vw => ?_⟩
  obtain ⟨x, e2, p⟩ := e.of
  exact ⟨F1, r1, σ, env, S1, ts, x, g1, vw, e2, Post.weak p s1⟩
theorem e_bi {pf : Pos} (hK : X.K = W.K) (hc : X.calm = true) (hgd : X.A.guards = some []) (hu : X.A.units + 65 < cLine) (bi : Bi) (hb : bi ≠ .lrange) (hb2 : bi ≠ .lenr) (hg : Gl X (biName bi)) (hm : X.mg (biName bi) = none)
    (ha : SB W wx C X (e :: es) ces) (he : plainArg e = true) (hes : es.all plainArg = true) : SE W wx C X (.Call (.Name (biName bi) pf) (e :: es) [] pos) (.bi bi ces) := by
  have st := star_cons he es X.env
  have sn := star_none hes pos X.env
  cases bi with
  | lrange => exact absurd rfl hb
  | lenr => exact absurd rfl hb2
  | len => exact (pe_callB (b_len hK) hg hm PySem.boot_len ha (by decide +kernel) (by decide +kernel) st sn).imp fun _ _ _ h => bi_imp h
  | abs => exact (pe_callB b_abs hg hm (by decide +kernel) ha (by decide +kernel) (by decide +kernel) st sn).imp fun _ _ _ h => bi_imp h
  | min2 => exact (pe_callB (b_min2 hc) hg hm (by decide +kernel) ha (by decide +kernel) (by decide +kernel) st sn).imp fun _ _ _ h => bi_imp h
  | max2 => exact (pe_callB (b_max2 hc) hg hm (by decide +kernel) ha (by decide +kernel) (by decide +kernel) st sn).imp fun _ _ _ h => bi_imp h
  | divmod => exact (pe_callB b_divmod hg hm (by decide +kernel) ha (by decide +kernel) (by decide +kernel) st sn).imp fun _ _ _ h => bi_imp h
  | int => exact (pe_callTy b_int hg hm (by decide +kernel) ha (by decide +kernel) (by decide +kernel) st sn).imp fun _ _ _ h => bi_imp h
  | tuple => exact (pe_callTy (b_tuple hK) hg hm (by decide +kernel) ha (by decide +kernel) (by decide +kernel) st sn).imp fun _ _ _ h => bi_imp h
  | list => exact (pe_callTy (b_list hK) hg hm (by decide +kernel) ha (by decide +kernel) (by decide +kernel) st sn).imp fun _ _ _ h => bi_imp h
  | sum => exact (pe_callB (b_sum hK hc) hg hm (by decide +kernel) ha (by decide +kernel) (by decide +kernel) st sn).imp fun _ _ _ h => bi_imp h
  | all => exact (pe_callB (b_all hK hc) hg hm (by decide +kernel) ha (by decide +kernel) (by decide +kernel) st sn).imp fun _ _ _ h => bi_imp h
  | any => exact (pe_callB (b_any hK hc) hg hm (by decide +kernel) ha (by decide +kernel) (by decide +kernel) st sn).imp fun _ _ _ h => bi_imp h
  | repr => exact (pe_callB (b_repr hK hgd hu) hg hm (by decide +kernel) ha (by decide +kernel) (by decide +kernel) st sn).imp fun _ _ _ h => bi_imp h
  | str => exact (pe_callTy b_str hg hm (by decide +kernel) ha (by decide +kernel) (by decide +kernel) st sn).imp fun _ _ _ h => bi_imp h
  | bool => exact (pe_callTy b_bool hg hm (by decide +kernel) ha (by decide +kernel) (by decide +kernel) st sn).imp fun _ _ _ h => bi_imp h
theorem rangeT_rep {F : Hp} {r : List Addr} (lo hi : Int) : RepL W F r (rangeT lo hi) (rgV lo hi) := by
  refine ⟨by simp [rangeT, rgV], fun i t v a b => ?_⟩
  unfold rangeT at a
  unfold rgV at b
  rw [List.getElem?_map] at a b
  cases q : (List.range (hi - lo).toNat)[i]? with
  | none => rw [q] at a; cases a
  | some k => rw [q] at a b; cases a; cases b; exact .int _
theorem in62_ok {i : Int} (h : in62 i = true) : -(2 ^ 62) ≤ i ∧ i < 2 ^ 62 := by
  unfold in62 at h
  rw [Bool.and_eq_true] at h
  exact ⟨of_decide_eq_true h.1, of_decide_eq_true h.2⟩
theorem e_lrange {pf pr pos2 : Pos} (hc : X.calm = true) (hg : Gl X "list") (hm : X.mg "list" = none) (hg2 : Gl X "range") (hm2 : X.mg "range" = none) (ha : SE W wx C X a ca) (hp : plainArg a = true) :
    SE W wx C X (.Call (.Name "list" pf) [.Call (.Name "range" pr) [a] [] pos2] [] pos) (.bi .lrange (.cons ca .nil)) := by
  refine (pe_listRg hc hg hm (prg_1 hg2 hm2 ha (star_cons hp _ _)) rfl).imp fun σ H Q h => ?_
  obtain ⟨F, r, env, S, g, h⟩ := h
  have h := Rs.bind (show Rs W wx F r H σ env ((evRs C (.cons ca .nil) env S).bind _) _ from h) fun ts S1 e => e
  refine ⟨F, r, env, S, g, Rs.bind (show Rs W wx F r H σ env ((evE C ca env S).bind _) _ from h) fun y S1 e v F1 r1 H1 s1 g1 rr1 n1 => ?_⟩
  have e : Rs W wx F r H σ env (match flat env S1 y with | some t => Out.ok [t] S1 | none => .no) (fun ts S1 => Rs W wx F r H σ env (Out.of S1 (biT .lrange ts)) fun x S' => Post W F r H σ env x S' Q) := e
  split at e
  · rename_i t et
    obtain ⟨x, e2, p⟩ := Rs.of (show Rs W wx F r H σ env (Out.of S1 (biT .lrange [t])) _ from e)
    have ti : ∃ i, t = .int i := by cases t <;> first | (cases e2; done) | exact ⟨_, rfl⟩
    obtain ⟨i, rfl⟩ := ti
    obtain ⟨hb, rfl⟩ := guardT_ok e2
    rw [Bool.and_eq_true] at hb
    obtain ⟨b1, b2⟩ := in62_ok hb.1
    have b3 := of_decide_eq_true hb.2
    have hv : v = .int i := Vw.of_flat g1 rr1 et
    refine ⟨i, hv, ⟨by decide, by decide, b1, b2, ?_⟩, fun q hq => (Post.weak p s1).lst g1 (rangeT_rep 0 i) hq⟩
    have : (LIM : Nat) = 2 ^ 24 := by show sizeLine = 2 ^ 24; rw [sizeLine_eq]
    omega
  · exact e.elim
end
end Z
set_option Elab.async false
set_option linter.all false
set_option maxRecDepth 100000
set_option maxHeartbeats 4000000
namespace Z
open PySem PySem.Spec PyProof.Rows L2
section
variable {W : WT} {wx : WX} {X : Cx} {C : EC} {a b e : Expr} {es : List Expr} {ca ce : CE} {ces : CEs} {pos : Pos}
def mbTy : Mb → String
  | .lcount => "list" | .lindex => "list" | .join => "str"
def mbName : Mb → Str
  | .lcount => "count" | .lindex => "index" | .join => "join"
def mbId : Mb → String
  | .lcount => "list.count" | .lindex => "list.index" | .join => "str.join"
def rM (W : WT) (m : Mb) : V → List V → Hp → VK → Prop := fun v vs H Q => ∃ (F : Hp) (r : List Addr) (σ : L2.St) (env : Env) (S : Store) (t : T) (ts : List T) (x : R), Good W F r H σ env S ∧ Vw W F r H t v ∧ VwL W F r H ts vs ∧ mbT m t ts = some x ∧ Post W F r H σ env x S Q
theorem shaped_lst {ts : List T} (h : ts.all (okD DEEP) = true) : SeqAt.shaped (.list (toDs ts)) = true := by
  obtain ⟨a, b⟩ := okD_lay (.lst ts) (DEEP + 1) (show ts.all (okD DEEP) = true from h)
  simp only [toD] at a b
  unfold SeqAt.shaped
  rw [a, Bool.true_and]
  exact decide_eq_true (Nat.le_trans b (by decide))
theorem okDs {ts : List T} (h : ts.all (okD DEEP) = true) : okD (DEEP + 1) (.lst ts) = true := by
  show ts.all (okD DEEP) = true
  exact h
theorem m_lcount (hK : X.K = W.K) (hu : X.A.units + 65 < cLine) : MtR X "list.count" (rM W .lcount) := by
  intro pins s σ H v vs u us Q I rv rs h
  obtain ⟨F, r, σ', env, S, t, ts, x, g, hv, vw, e, p⟩ := h
  match t, ts, e with
  | .lst ts, [y], e =>
    obtain ⟨b, rfl⟩ := guardT_ok (show guardT (okD DEEP y && ts.all (okD DEEP)) _ = some x from e)
    rw [Bool.and_eq_true] at b
    obtain ⟨w, rfl, hw⟩ := vw.one
    obtain ⟨u1, rfl, r1⟩ := vals1 rs
    obtain ⟨a, ws, rfl, sq, rl⟩ := hv
    cases rv
    obtain ⟨its, ri, pl, hz⟩ := I.list (by rw [hK]; exact sq)
    obtain ⟨as, rd⟩ := Dp.readsAll I (toDs ts) _ its (by rw [hK]; exact Dp.ofAll W g.le ts DEEP ws (fun t ht => List.all_eq_true.mp b.2 t ht) rl) ri
    obtain ⟨bs, re⟩ := Dp.reads I (toD y) w u1 (by rw [hK]; exact Dp.of_vw g.le b.1 hw) r1
    obtain ⟨l1, l2⟩ := okDs_lay b.2
    obtain ⟨l3, l4⟩ := okD_lay y DEEP b.1
    have hD : DEEP = 40 := rfl
    refine SeqAt.count_list_data pl.isList rd re (PyData.plainAll_of_canLay0 _ l1) (PyData.plain_of_canLay0 _ l3) (by have := Nat.min_le_right (PyData.depthAll (toDs ts)) (toD y).depth; omega) ?_
    have ec : ((toDs ts).countP fun z => PyData.eqv z (toD y)) = ts.countP fun z => eqvT z y := by rw [toDs_map, List.countP_map]; rfl
    rw [ec]
    exact ⟨.int _, H, I.tok _, ⟨_, rfl⟩, p.same g (.int _)⟩
theorem m_lindex (hK : X.K = W.K) (hu : X.A.units + 65 < cLine) : MtR X "list.index" (rM W .lindex) := by
  intro pins s σ H v vs u us Q I rv rs h
  obtain ⟨F, r, σ', env, S, t, ts, x, g, hv, vw, e, p⟩ := h
  match t, ts, e with
  | .lst ts, [y], e =>
    have e : (match okD DEEP y && ts.all (okD DEEP), findT y ts with | true, some j => some (R.val (.int (j : Nat))) | _, _ => none) = some x := e
    split at e
    · rename_i j b ef
      cases e
      rw [Bool.and_eq_true] at b
      obtain ⟨w, rfl, hw⟩ := vw.one
      have hv0 := hv
      obtain ⟨a, ws, rfl, sq, rl⟩ := hv
      obtain ⟨hj, ej, en⟩ := List.findIdx?_eq_some_iff_getElem.mp (show ts.findIdx? (fun z => eqvT z y) = some j from ef)
      have at_ : ∀ (m : Nat) (hm : m < ts.length), (toDs ts)[m]? = some (toD ts[m]) := fun m hm => by rw [toDs_map, List.getElem?_map, List.getElem?_eq_getElem hm]; rfl
      refine mt_indexD hu pins s σ H _ _ _ us Q I rv rs ⟨a, w, toD y, toDs ts, j, toD ts[j], rfl, rfl, ?_, ?_, ?_, okD_shaped b.1, at_ j hj, ej, fun m z' hm hz => ?_, p.same g (.int _)⟩
      · rw [hK]; exact .lst sq (Dp.ofAll W g.le ts DEEP ws (fun t ht => List.all_eq_true.mp b.2 t ht) rl)
      · rw [hK]; exact Dp.of_vw g.le b.1 hw
      · obtain ⟨l1, l2⟩ := okDs_lay b.2
        show SeqAt.shaped (.list (toDs ts)) = true
        exact shaped_lst b.2
      · rw [at_ m (by omega)] at hz
        cases hz
        have := en m hm
        simpa [eqvT] using this
    · cases e
theorem strsT_map : ∀ {ts : List T} {l : List Str}, strsT ts = some l → ts = l.map T.str
  | [], _, h => by cases h; rfl
  | .str i :: ts, l, h => by
    unfold strsT at h
    split at h
    · rename_i l' e
      cases h
      rw [strsT_map e]; rfl
    · cases h
  | .non :: _, _, h => nomatch h
  | .bl _ :: _, _, h => nomatch h
  | .int _ :: _, _, h => nomatch h
  | .tup _ :: _, _, h => nomatch h
  | .lst _ :: _, _, h => nomatch h
  | .dct _ _ :: _, _, h => nomatch h
  | .ins _ _ :: _, _, h => nomatch h
  | .ref _ :: _, _, h => nomatch h
theorem RepL.strs {F : Hp} {r : List Addr} : ∀ {l : List Str} {vs : List V}, RepL W F r (l.map T.str) vs → vs = l.map V.str
  | [], vs, h => h.unnil
  | i :: l, vs, h => by
    obtain ⟨v, ws, rfl, h1, h2⟩ := h.uncons
    cases h1
    rw [RepL.strs h2]; rfl
theorem m_join (hK : X.K = W.K) : MtR X "str.join" (rM W .join) := by
  intro pins s σ H v vs u us Q I rv rs h
  obtain ⟨F, r, σ', env, S, t, ts, x, g, hv, vw, e, p⟩ := h
  match t, ts, e with
  | .str z, [.lst ts], e =>
    have e : (match strsT ts with | some ys => guardT (decide ((ys.map (·.length)).sum + ys.length * z.length ≤ LIM)) (R.val (.str (Txt.join z ys))) | none => none) = some x := e
    split at e
    · rename_i ys ey
      obtain ⟨b, rfl⟩ := guardT_ok e
      have b := of_decide_eq_true b
      obtain ⟨w, rfl, a, ws, rfl, sq, rl⟩ := vw.one
      rw [strsT_map ey] at rl
      rw [rl.strs] at sq
      cases (show v = .str z from hv)
      exact mt_join pins s σ H _ _ _ us Q I rv rs ⟨z, a, ys, rfl, rfl, .inl (by rw [hK]; exact sq), b, p.same g (.str _)⟩
    · cases e
theorem e_mb {apos : Pos} (hK : X.K = W.K) (hu : X.A.units + 65 < cLine) (m : Mb) (ha : SE W wx C X a ca) (hb : SB W wx C X [b] ces) (hp : plainArg b = true) (hba : plainBase a = true) (hl : (apos.endLine == pos.line) = true) :
    SE W wx C X (.Call (.Attribute a (mbName m) apos) [b] [] pos) (.mb m ca ces) := by
  have key : ∀ {σ : L2.St} {H : Hp} {Q : VK}, tE W wx (evE C (.mb m ca ces)) σ H Q → tBM X.K (mbTy m) (rM W m) (tE W wx (evE C ca)) (tB W wx (evRs C ces)) σ H Q := fun {σ H Q} h => by
    obtain ⟨F, r, env, S, g, h⟩ := h
    refine ⟨F, r, env, S, g, Rs.bind (show Rs W wx F r H σ env ((evE C ca env S).bind _) _ from h) fun x S1 e v F1 r1 H1 s1 g1 rr n1 => ?_⟩
    split at e
    · rename_i em
      refine ⟨?_, F1, r1, env, S1, g1, Rs.bind (e.on s1 fun _ _ z => z) fun ts S2 e2 vs F2 r2 H2 s2 g2 vw => ?_⟩
      · cases ef : flat env S1 x with
        | none => rw [ef] at em; cases m <;> cases em
        | some t =>
          rw [ef] at em
          have hv := Vw.of_flat g1 rr ef
          rw [hK]
          cases m <;> cases t <;> first | cases em | skip
          · obtain ⟨p, vs, rfl, sq, _⟩ := hv; exact .inl ⟨rfl, vs, sq⟩
          · obtain ⟨p, vs, rfl, sq, _⟩ := hv; exact .inl ⟨rfl, vs, sq⟩
          · cases (show v = .str _ from hv); rfl
      · split at e2
        · rename_i t ef
          obtain ⟨y, e3, p⟩ := e2.of
          exact ⟨F2, r2, σ, env, S2, t, ts, y, g2, Vw.of_flat g2 (rr.step s2) ef, vw, e3, Post.weak p (s1.trans s2)⟩
        · exact e2.elim
    · exact e.elim
  cases m with
  | lcount => exact (pe_bm PySem.F.plainAttrs_list PySem.F.slot_list_count PySem.F.type_list_count (m_lcount hK hu) ha hb (plainBase_ok hba) (by rw [show starEach [b] X.env = [(false, eval b X.env)] from star_cons hp [] X.env]; rfl) hl (star_cons hp [] _) rfl).imp fun _ _ _ h => key h
  | lindex => exact (pe_bm PySem.F.plainAttrs_list PySem.F.slot_list_index PySem.F.type_list_index (m_lindex hK hu) ha hb (plainBase_ok hba) (by rw [show starEach [b] X.env = [(false, eval b X.env)] from star_cons hp [] X.env]; rfl) hl (star_cons hp [] _) rfl).imp fun _ _ _ h => key h
  | join => exact (pe_bm PySem.F.plainAttrs_str PySem.F.slot_str_join PySem.F.type_str_join (m_join hK) ha hb (plainBase_ok hba) (by rw [show starEach [b] X.env = [(false, eval b X.env)] from star_cons hp [] X.env]; rfl) hl (star_cons hp [] _) rfl).imp fun _ _ _ h => key h
def PostF (W : WT) (F : Hp) (r : List Addr) (H : Hp) (σ : L2.St) (env : Env) (Q : Str → Hp → Prop) (y : Str) (S' : Store) : Prop := ∀ (F' : Hp) (r' : List Addr) (H' : Hp), Step F r H F' r' H' → Good W F' r' H' σ env S' → Q y H'
def SF (W : WT) (wx : WX) (C : EC) (X : Cx) (es : List Expr) (ces : CEs) : Prop := ∃ ts, PJ X es ts ∧ ∀ (acc : Str) (σ : L2.St) (H F : Hp) (r : List Addr) (env : Env) (S : Store) (Q : Str → Hp → Prop), Good W F r H σ env S → Rs W wx F r H σ env (evFs C ces acc env S) (PostF W F r H σ env Q) → tJs ts acc σ H Q
theorem fmt_str (y : Str) : fmtT (.str y) = guardT (decide (y.length ≤ LIM)) y := rfl
theorem fmt_int (i : Int) : fmtT (.int i) = guardT (decide (i.natAbs.log2 < 1920)) (Str.ofString (toString i)) := rfl
theorem f_nil : SF W wx C X [] .nil := ⟨[], .nil, fun acc σ H F r env S Q g h => (show PostF W F r H σ env Q acc S from h) F r H (Step.refl F r H) g⟩
theorem f_cons {t : TE} (ht : PE X e t) (hi : ∀ σ H Q, tE W wx (evE C ce) σ H (fun x H1 => (∃ y : Str, x = .str y ∧ y.length ≤ sizeLine ∧ Q (.str y) H1) ∨ ∃ i : Int, x = .int i ∧ i.natAbs.log2 < 1920 ∧ Q (.str (toString i)) H1) → t σ H Q) (hs : SF W wx C X es ces) : SF W wx C X (e :: es) (.cons ce ces) := by
  obtain ⟨ts, pj, k⟩ := hs
  refine ⟨t :: ts, .cons ht pj, fun acc σ H F r env S Q g h => hi σ H _ ⟨F, r, env, S, g, Rs.bind (show Rs W wx F r H σ env ((evE C ce env S).bind _) _ from h) fun x S1 h v F1 r1 H1 s1 g1 rr n1 => ?_⟩⟩
  match x, h with
  | .val t, h =>
    dsimp only at h
    have fin : ∀ y : Str, fmtT t = some y → ∃ y', V.str y = .str y' ∧ (acc ++ y').length ≤ sizeLine ∧ tJs ts (acc ++ y') σ H1 Q := fun y ey => by
      rw [ey] at h
      dsimp only at h
      by_cases hl : (acc ++ y).length ≤ LIM
      · rw [decide_eq_true hl] at h
        exact ⟨y, rfl, hl, k (acc ++ y) σ H1 F1 r1 env S1 Q g1 (h.on s1 fun z S2 p F2 r2 H2 s2 g2 => p F2 r2 H2 (s1.trans s2) g2)⟩
      · rw [decide_eq_false hl] at h
        exact h.elim
    cases t with
    | str y =>
      cases (show v = .str y from Vw.of_rep g1.le rr fun m z => nomatch z)
      by_cases hl : y.length ≤ LIM
      · exact .inl ⟨y, rfl, hl, fin y (by rw [fmt_str, decide_eq_true hl]; rfl)⟩
      · rw [fmt_str, decide_eq_false hl] at h
        exact h.elim
    | int i =>
      cases (show v = .int i from Vw.of_rep g1.le rr fun m z => nomatch z)
      by_cases hl : i.natAbs.log2 < 1920
      · exact .inr ⟨i, rfl, hl, fin _ (by rw [fmt_int, decide_eq_true hl]; rfl)⟩
      · rw [fmt_int, decide_eq_false hl] at h
        exact h.elim
    | _ => exact h.elim
  | .own i, h => exact h.elim
  | .fresh o, h => exact h.elim
  | .hot c l, h => exact h.elim
theorem f_fmt {fp : Pos} (he : SE W wx C X e ce) (hs : SF W wx C X es ces) : SF W wx C X (.FormattedValue e (-1) none fp :: es) (.cons ce ces) :=
  f_cons (pe_fmt he) (fun σ H Q h => h) hs
theorem f_str {z : Str} {j : Nat} {fp : Pos} (hs : SF W wx C X es ces) : SF W wx C X (.Constant (.str z) j fp :: es) (.cons (.str z) ces) := by
  refine f_cons (pe_str (x := z)) (fun σ H Q h => ?_) hs
  obtain ⟨F, r, env, S, g, h⟩ := h
  rcases Post.same (show Post W F r H σ env (.val (.str z)) S _ from h) g (.str z) with ⟨y, e, _, q⟩ | ⟨i, e, _⟩
  · cases e; exact q
  · cases e
theorem e_fstr2 {v1 v2 : Expr} {rest : List Expr} (h : SF W wx C X (v1 :: v2 :: rest) ces) : SE W wx C X (.JoinedStr (v1 :: v2 :: rest) pos) (.fstr ces) := by
  obtain ⟨ts, pj, k⟩ := h
  refine (pe_joined pj).imp fun σ H Q h => ?_
  obtain ⟨F, r, env, S, g, h⟩ := h
  refine k _ σ H F r env S _ g (Rs.bind (show Rs W wx F r H σ env ((evFs C ces Str.empty env S).bind _) _ from h) fun y S1 p F1 r1 H1 s1 g1 => ?_)
  exact (show Post W F r H σ env (.val (.str y)) S1 Q from p) _ F1 r1 H1 s1 g1 (.str y) True.intro
theorem c_range1 : CallR X (.type "range") (fun vs H Q => ∃ i, vs = [V.int i] ∧ ∀ p, H p = none → Q (.ref p) (upd H p (.rng 0 i))) := by
  intro pins s σ H vs us Q I r h
  obtain ⟨i, rfl, q⟩ := h
  obtain ⟨u1, rfl, t, rfl⟩ := vals1 r
  have J := I.laid (o := .rng 0 i) (h' := s.heap.push { cls := .type "range", data := .fields #[.int 0 s.toks, .int i t, .int 1 (s.toks + 1)] }) (t' := s.toks + 1 + 1) (fun b o e => Heap.get?_push_of_some _ e) (Nat.le_refl _) ⟨_, _, _, Heap.get?_push_size _ rfl⟩
  exact call_range_1 ⟨.ref s.heap.objs.size, _, J, rfl, q _ (I.hok.fresh (Nat.le_refl _))⟩
theorem c_lenr : CallR X (.builtin "len") (fun vs H Q => ∃ (p : Addr) (n : Nat), vs = [V.ref p] ∧ H p = some (.rng 0 n) ∧ (n : Int) < 2 ^ 63 ∧ Q (.int n) H) := by
  intro pins s σ H vs us Q I r h
  obtain ⟨p, n, rfl, hp, hn, q⟩ := h
  obtain rfl := Vals.ref1 r
  obtain ⟨t, u, v, e⟩ := I.hok p _ hp
  refine call_len_range (n := n) (c := 1) e ?_ hn ⟨.int n, H, I.tok _, ⟨_, rfl⟩, q⟩
  unfold Builtin.Range.rangeSize
  rw [if_pos (by decide)]
  split <;> omega
theorem e_lenr {pf pr pos2 : Pos} (hg : Gl X "len") (hm : X.mg "len" = none) (hg2 : Gl X "range") (hm2 : X.mg "range" = none) (ha : SE W wx C X a ca) (hp : plainArg a = true) :
    SE W wx C X (.Call (.Name "len" pf) [.Call (.Name "range" pr) [a] [] pos2] [] pos) (.bi .lenr (.cons ca .nil)) := by
  have st := star_cons hp [] X.env
  have pr1 := pe_callTy (X := X) (p := pr) (pos := pos2) c_range1 hg2 hm2 (by decide +kernel) (pa_cons ha pa_nil st) (by decide +kernel) (by decide +kernel) st rfl
  refine (pe_callB (p := pf) (pos := pos) c_lenr hg hm PySem.boot_len (pa_cons pr1 pa_nil rfl) (by decide +kernel) (by decide +kernel) rfl rfl).imp fun σ H Q h => ?_
  obtain ⟨F, r, env, S, g, h⟩ := h
  have h := Rs.bind (show Rs W wx F r H σ env ((evRs C (.cons ca .nil) env S).bind _) _ from h) fun ts S1 e => e
  refine ⟨F, r, env, S, g, Rs.bind (show Rs W wx F r H σ env ((evE C ca env S).bind _) _ from h) fun y S1 e v F1 r1 H1 s1 g1 rr1 n1 => ?_⟩
  have e : Rs W wx F r H σ env (match flat env S1 y with | some t => Out.ok [t] S1 | none => .no) (fun ts S1 => Rs W wx F r H σ env (Out.of S1 (biT .lenr ts)) fun x S' => Post W F r H σ env x S' Q) := e
  split at e
  · rename_i t et
    obtain ⟨x, e2, p⟩ := Rs.of (show Rs W wx F r H σ env (Out.of S1 (biT .lenr [t])) _ from e)
    have ti : ∃ i, t = .int i := by cases t <;> first | (cases e2; done) | exact ⟨_, rfl⟩
    obtain ⟨i, rfl⟩ := ti
    obtain ⟨hb, rfl⟩ := guardT_ok (show guardT (decide (0 ≤ i) && decide (i < 1073741824)) (R.val (.int i)) = some x from e2)
    rw [Bool.and_eq_true] at hb
    have h0 := of_decide_eq_true hb.1
    have h1 := of_decide_eq_true hb.2
    cases (show v = .int i from Vw.of_flat g1 rr1 et)
    obtain ⟨n, rfl⟩ := Int.eq_ofNat_of_zero_le h0
    have big : (1073741824 : Int) ≤ 2 ^ 63 := by decide
    refine ⟨n, rfl, fun q hq => ⟨q, n, rfl, upd_same, by omega, ?_⟩⟩
    exact p (.int n) F1 r1 _ (s1.trans (Step.laid F1 r1 hq _)) (g1.laid hq _) (.int _) True.intro
  · exact e.elim
end
end Z
set_option Elab.async false
set_option linter.all false
set_option maxRecDepth 100000
set_option maxHeartbeats 4000000
namespace Z
open PySem PySem.Spec PyProof.Rows L2
structure RoomG (k : Nat) (A : Around) : Prop where
  room : Room k A
  gd : A.guards = some []
theorem RoomG.mono {j k : Nat} {A : Around} (r : RoomG k A) (h : j ≤ k) : RoomG j A := ⟨r.room.mono h, r.gd⟩
theorem RoomG.deeper {k : Nat} {A : Around} (r : RoomG (k + 1) A) (env : PySem.Env) : RoomG k (A.deeper env) := ⟨r.room.deeper env, r.gd⟩
theorem RoomG.in1 {k : Nat} {A : Around} (r : RoomG (k + 1) A) : RoomG k A.in1 := ⟨r.room.in1, r.gd⟩
theorem RoomG.make {k : Nat} {A : Around} (r : RoomG (k + 1) A) (c : Addr) (us : List Value) (kw : List (Str × Value)) : RoomG k (A.under (.builtin "type.__call__" ⟨.ref c :: us, kw⟩)) := ⟨r.room.make c us kw, by
  have g := r.gd
  first | exact g | (simp [Around.under, Code.guards, Code.isGuard, guardIds, pushGuards, g])⟩
structure FnG (P : Program) (w : World) (K : PySem.W.Frag) (mg : Str → Option Value) (base : Heap) (k : Nat) (f : Addr) (fd : FuncData) (ps : List Str) (sp : Sp) : Prop where
  len : ∀ vs H Q E, sp vs H Q E → vs.length = ps.length
  run : ∀ (A : Around) (ou : List PySem.Env) (s : Shared) (H : Hp) (ar : Args) (us : List Value) (vs : List V) (Q : VK) (E : XK), RoomG k A → Env0 P w K mg base A ou s H → BindsTo s fd ar (ps.zip us) → Vals vs us → sp vs H Q E →
    codeAny (model P w) A (.call (.ref f) ar) (CR (L2.CX P w) ou P w H s Q E) s
section
variable {P : Program} {w : World} {K : PySem.W.Frag} {mg : Str → Option Value} {base : Heap} {j k : Nat} {f : Addr} {fd : FuncData} {ps ks : List Str} {sp sp' : Sp}
theorem FnG.mono (F : FnG P w K mg base j f fd ps sp) (h : j ≤ k) : FnG P w K mg base k f fd ps sp := ⟨F.len, fun A ou s H ar us vs Q E hr => F.run A ou s H ar us vs Q E (hr.mono h)⟩
theorem fnG_of {name qual : Str} {params : Arguments} {body : List Stmt} {scope : Scope} {dvs : List V} {kws : List (Str × V)} {N : List Str} (F : FunD K name qual params body scope dvs kws f fd) (S : FnScope N ps scope)
    (len : ∀ vs H Q E, sp vs H Q E → vs.length = ps.length)
    (hbody : ∀ (cdv : Value) (A : Around) (ou : List PySem.Env) (s : Shared) (H : Hp) (vs : List V) (Q : VK) (E : XK), RoomG k (A.deeper (envOfC qual scope s.heap.objs.size f cdv)) → (∃ (oc : Value) (od : Option Addr) (fd : FuncData) (osl : Array (Option Value)), K.lookup f = some ⟨oc, od, .func fd, osl⟩ ∧ cdv = fd.code) → sp vs H Q E →
      ∃ t, PSs (cxOf (L2.CX P w) P w K mg base N qual scope f cdv A ou s H E) body t ∧ t { nx := fun _ H' => Q .non H', rt := Q } (start N vs) H) : FnG P w K mg base (k + 1) f fd ps sp := by
  obtain ⟨oc, od, dV, kV, doc, pm, an, cdv, ct, osl, rfl, lk, hcd, _, _⟩ := F.ex
  refine ⟨len, fun A ou s H ar us vs Q E hr e0 hb rv hs => ?_⟩
  have kin : K.In s.heap := e0.mod.kin.keeps fun b o e => (e0.bs b o e).1
  have nolim : s.heap.NoLimit := e0.mod.nolimit.keeps fun b o e => (e0.bs b o e).1
  have hp : ∀ y ∈ ps.zip us, scope.names.lookup y.1 = some .local ∨ (scope.names.lookup y.1 = some .cell ∧ ((cellsFrom (s.heap.objs.size + 1) scope.names []).lookup y.1).isSome = true) := fun y hy =>
    (S.par y.1 (List.of_mem_zip (show (y.1, y.2) ∈ _ from hy)).1).imp id fun q => ⟨q, PySem.W.cellsFrom_some _ _ _ (.inl q)⟩
  refine codeAny_call_function hr.room.depth (kin _ _ lk) rfl S.co S.gen rfl (PySem.W.codeRec_of kin hcd) (hb _ _ _ _ (wpAny_newFunctionEnv_cells S.kind hp fun ev he s1 x => ?_))
  subst he
  obtain ⟨t, ht, hq⟩ := hbody cdv A ou s H vs Q E (hr.deeper _) ⟨_, _, _, _, lk, rfl⟩ hs
  have J : Inv (cxOf (L2.CX P w) P w K mg base N qual scope f cdv A ou s H E) [] (start N vs) H s1 := inv_start S hr.room.hd e0 (len _ _ _ _ hs) rv x
  refine ⟨nolim.keeps x.toInCall.keep, codeAny_func (wpAny_mono (ht.run [] s1 (start N vs) H _ J hq) (fun fl s' z => ?_) fun e s' z => z)⟩
  match fl, z with
  | .ret u, ⟨v, _, H', J', ru, q⟩ => exact ⟨v, H', J'.os, J'.bare, J'.base, J'.hok, ru, q⟩
  | .next, ⟨_, H', J', q⟩ => exact ⟨V.non, H', J'.os, J'.bare, J'.base, J'.hok, rfl, q⟩
  | .brk, ⟨_, _, _, q⟩ => exact q.elim
  | .cont, ⟨_, _, _, q⟩ => exact q.elim
end
section
variable {X : Cx} {k : Nat} {f c : Addr} {fd : FuncData} {ps ks : List Str} {sp : Sp} {dvs : List V} {ds : List Value} {E : XK} {x m : Str} {p pos apos : Pos} {e o : Expr} {es : List Expr} {ta : TE} {t tk : TA}
abbrev FnX (X : Cx) (k : Nat) (f : Addr) (fd : FuncData) (ps : List Str) (sp : Sp) : Prop := FnG X.prog X.w X.K X.mg X.base k f fd ps sp
abbrev PassX (X : Cx) (σ : L2.St) (E : XK) : Prop := L2.PassesAt (L2.CX X.prog X.w) X σ E
def wE (wx : WX) (σ : L2.St) : XK := fun cls d H => wx cls d σ H
theorem passW {X : Cx} {wx : WX} (tk : Takes X wx) (σ : L2.St) : PassX X σ (wE wx σ) := L2.passAt tk σ
def tCallW (sp : Sp) (dvs : List V) (E : L2.St → XK) (t : TA) : TE := fun σ H Q => t σ H fun vs H1 => sp (vs ++ dvs) H1 Q (E σ)
def tMakeW (C : Addr) (sp : Sp) (dvs : List V) (E : L2.St → XK) (t : TA) : TE := fun σ H Q => t σ H fun vs H1 => ∀ x dx, H1 x = none → H1 dx = none → dx ≠ x →
  sp (.ref x :: (vs ++ dvs)) (upd (upd H1 dx (.own x)) x (.ins C dx [])) (fun v H2 => v = .non ∧ Q (.ref x) H2) (E σ)
theorem runs {pins : List (Addr × Obj)} {σ : L2.St} {H : Hp} {s : Shared} {Q : VK} {us us' : List Value} {kw : List (Str × Value)} {vs : List V} (F : FnX X k f fd ps sp) (hr : RoomG k X.A) (hb : us'.length = ps.length → BindsTo s fd ⟨us, kw⟩ (ps.zip us')) (hx : PassX X σ E)
    (I : Inv X pins σ H s) (r : Vals vs us') (h : sp vs H Q E) : wpAny (model X.prog X.w) X.A (call (.ref f) us kw) (EP X pins σ Q) X.xe s := by
  have n : us'.length = ps.length := r.length ▸ F.len _ _ _ _ h
  refine wpAny_call (codeAny_mono (F.run X.A X.stack s H ⟨us, kw⟩ us' vs Q E hr I.env0 (hb n) r h) fun z s' q => ?_)
  match z, q with
  | .error u, q => exact hx pins H s u s' I q
  | .ok (.ret u), q => exact I.after q
  | .ok .next, q => exact q.elim
  | .ok .brk, q => exact q.elim
  | .ok .cont, q => exact q.elim
section
variable {E : L2.St → XK}
theorem x_call (F : FnX X k f fd ps sp) (hr : RoomG k X.A) (hg : Gl X x) (hm : X.mg x = some (.ref f)) (hk : PySem.W.keepIn X.K (.ref f) = true) (hb : Binds X.K fd ps ds) (hd : Vals dvs ds) (hx : ∀ σ, PassX X σ (E σ))
    (ha : PA X (e :: es) t) (hdb : (x == ("__debug__" : Str)) = false) (he : starEach (e :: es) X.env = (false, eval e X.env) :: starEach es X.env) (hpl : (backTo pos (starEach es X.env)).any (·.1) = false) :
    PE X (.Call (.Name x p) (e :: es) [] pos) (tCallW sp dvs E t) := ⟨fun pins s σ H Q I h =>
  wpAny_Call_Name_kw (ld_glob I hg hm (PySem.W.callWith_K (h₀ := X.base) I.ok.mod.kin hk (thn (ha.run pos pins s σ H _ I h) fun us s1 ⟨vs, H1, I1, r, q⟩ => ⟨I1.kIn, runs F hr (hb s1 us I1.kIn) (hx σ) I1 (r.append hd) q⟩) he hpl) hdb)⟩
theorem x_call0 (F : FnX X k f fd ps sp) (hr : RoomG k X.A) (hg : Gl X x) (hm : X.mg x = some (.ref f)) (hk : PySem.W.keepIn X.K (.ref f) = true) (hb : Binds X.K fd ps ds) (hd : Vals dvs ds) (hx : ∀ σ, PassX X σ (E σ))
    (hdb : (x == ("__debug__" : Str)) = false) : PE X (.Call (.Name x p) [] [] pos) (tCallW sp dvs E tNil) := ⟨fun pins s σ H Q I h =>
  wpAny_Call_Name_kw (ld_glob I hg hm (PySem.W.callWith_K0 I.kIn hk (runs (us := []) F hr (hb s [] I.kIn) (hx σ) I (Vals.append .nil hd) h)) hdb)⟩
end
theorem makes {pins : List (Addr × Obj)} {σ : L2.St} {H : Hp} {s : Shared} {Q : VK} {us us' : List Value} {vs : List V} (M : Mk X.K c f) (F : FnX X k f fd ps sp) (hr : RoomG (k + 1) X.A)
    (hb : ∀ (s' : Shared) (u : Value), X.K.In s'.heap → (u :: us').length = ps.length → BindsTo s' fd ⟨u :: us, []⟩ (ps.zip (u :: us')))
    (hx : PassX X σ E) (I : Inv X pins σ H s) (r : Vals vs us')
    (h : ∀ x dx, H x = none → H dx = none → dx ≠ x → sp (.ref x :: vs) (upd (upd H dx (.own x)) x (.ins c dx [])) (fun v H2 => v = .non ∧ Q (.ref x) H2) E) :
    wpAny (model X.prog X.w) X.A (call (.ref c) us) (EP X pins σ Q) X.xe s := by
  have q := h (s.heap.objs.size + 1) s.heap.objs.size (I.hok.fresh (Nat.le_succ _)) (I.hok.fresh (Nat.le_refl _)) (fun z => Nat.succ_ne_self _ z.symm)
  have J := Inv.made (C := c) I
  have r' : Vals (V.ref (s.heap.objs.size + 1) :: vs) (Value.ref (s.heap.objs.size + 1) :: us') := .cons rfl r
  have n := r'.length ▸ F.len _ _ _ _ q
  refine wpAny_call (make_map (f := f) I.kIn M.makes M.init (beq_iff_eq.mp M.fn) (codeAny_mono (F.run _ X.stack _ _ ⟨Value.ref (s.heap.objs.size + 1) :: us, []⟩ _ _ _ E (hr.make c us []) (J.env0.make c us []) (hb _ _ J.kIn n) r' q) fun z s' qz => ?_))
  match z, qz with
  | .error u, qz => exact hx pins _ _ u s' J qz
  | .ok (.ret u), qz =>
    obtain ⟨v, H', J', rv, ev, q'⟩ := J.after qz
    subst ev
    exact ⟨rv, V.ref (s.heap.objs.size + 1), H', J', rfl, q'⟩
  | .ok .next, qz => exact qz.elim
  | .ok .brk, qz => exact qz.elim
  | .ok .cont, qz => exact qz.elim
section
variable {E : L2.St → XK}
theorem x_make (M : Mk X.K c f) (F : FnX X k f fd ps sp) (hr : RoomG (k + 1) X.A) (hg : Gl X x) (hm : X.mg x = some (.ref c)) (hb : Binds X.K fd ps ds) (hd : Vals dvs ds) (hx : ∀ σ, PassX X σ (E σ))
    (ha : PA X (e :: es) t) (hdb : (x == ("__debug__" : Str)) = false) (he : starEach (e :: es) X.env = (false, eval e X.env) :: starEach es X.env) (hpl : (backTo pos (starEach es X.env)).any (·.1) = false) :
    PE X (.Call (.Name x p) (e :: es) [] pos) (tMakeW c sp dvs E t) := ⟨fun pins s σ H Q I h =>
  wpAny_Call_Name_kw (ld_glob I hg hm (PySem.W.callWith_K (h₀ := X.base) I.ok.mod.kin M.kp (thn (ha.run pos pins s σ H _ I h) fun us s1 ⟨vs, H1, I1, r, q⟩ =>
    ⟨I1.kIn, makes M F hr (fun s' u kin n => hb s' (u :: us) kin n) (hx σ) I1 (r.append hd) q⟩) he hpl) hdb)⟩
end
end
theorem law_runs {P : Program} {w : World} {K : PySem.W.Frag} {mg mb : Str → Option Value} {k : Nat} {fa a : Addr} {fd : FuncData} {x : Str} {sp : Sp} {s : Shared} {us : List Value} {ns : List Int}
    (kin : K.In s.heap) (gl : s.heap.Ns mainGlobals mg) (bl : s.heap.Ns builtinsNs mb) (bb : ∀ x : Str, x ≠ "__name__" → mb x = bootBuiltins x) (nl : s.heap.NoLimit) (gn : s.gens = #[])
    (at_ : s.heap.get? a = some { cls := .type "list", data := .seq us.toArray }) (ia : IntsAre us ns) (few : ns.length ≤ sizeLine) (hr : Room k callerA)
    (F : ∀ base : Heap, K.In base → base.Ns mainGlobals mg → FnG P w K mg base k fa fd [x] sp) (bd : ∀ (s : Shared) (u : Value), BindsTo s fd ⟨[u], []⟩ [(x, u)])
    (hs : ∀ H : Hp, Only H → SqL K H a (ns.map V.int) → sp [.ref a] H (fun v _ => v = .bl true) fun _ _ _ => False) :
    codeAny (model P w) callerA (.call (.ref fa) ⟨[.ref a], []⟩) (fun r s' => r = .ok (.ret (.bool true)) ∧ OldK s.heap s'.heap ∧ s'.os = s.os ∧ AllBare s'.gens) s := by
  have rv := vals_ints ia
  have go : ∀ H : Hp, Only H → SqL K H a (ns.map V.int) → HOk P w H s.heap → (∀ b, H b ≠ none → b = a ∧ K.lookup a = none) →
      codeAny (model P w) callerA (.call (.ref fa) ⟨[.ref a], []⟩) (fun r s' => r = .ok (.ret (.bool true)) ∧ OldK s.heap s'.heap ∧ s'.os = s.os ∧ AllBare s'.gens) s := by
    intro H only sq hok one
    have out : ∀ {b : Addr}, (b = a → K.lookup a = none → False) → H b = none := fun {b} z => by
      cases q : H b with
      | none => rfl
      | some u =>
        have y := one b (by rw [q]; exact Option.some_ne_none u)
        exact (z y.1 y.2).elim
    have ns' : ∀ {b : Addr} {m : Str → Option Value}, s.heap.Ns b m → (hidT s.heap H).Ns b m := fun {b m} ⟨o, es, ep, e, d, r⟩ => by
      refine ⟨o, es, ep, hidT_get e (out fun z _ => ?_), d, r⟩
      subst z
      rw [at_] at e
      cases e
      cases d
    have kin' : K.In (hidT s.heap H) := fun b o e => hidT_get (kin b o e) (out fun z y => by subst z; rw [y] at e; cases e)
    have nl' : (hidT s.heap H).NoLimit := nl.imp fun mc z => ⟨ns' z.1, z.2⟩
    have en : Env0 P w K mg (hidT s.heap H) callerA [] s H := {
      frames := rfl
      mod := ⟨kin', ns' gl, ⟨mb, ns' bl, bb⟩, nl'⟩
      bs := fun b o e => of_hidT e
      bsz := Nat.le_of_eq (hidT_size _ _)
      funs := trivial
      frf := fun b z => nomatch z
      hok := hok
      bare := .of_eq gn }
    have run := (F _ kin' (ns' gl)).run callerA [] s H ⟨[.ref a], []⟩ [.ref a] [.ref a] _ _ ⟨hr, rfl⟩ en (bd s (.ref a)) (.cons rfl .nil) (hs H only sq)
    refine codeAny_mono run fun r s' q => ?_
    match r, q with
    | .error u, q =>
      obtain ⟨_, _, _, _, _, _, _, _, _, _, _, _, z⟩ := q
      exact z.elim
    | .ok .next, q => exact q.elim
    | .ok .brk, q => exact q.elim
    | .ok .cont, q => exact q.elim
    | .ok (.ret u), ⟨v, H', os, bare, un, hok', ru, e⟩ =>
      have e : v = .bl true := e
      subst e
      have e2 : u = Value.bool true := ru
      refine ⟨by rw [e2], OldK.of_keep fun b o e => ?_, os, bare⟩
      rcases only b with z | ⟨ob, xs, z⟩
      · exact un.keep b o e z (fun y => nomatch y) (fun y => nomatch y)
      · have e1 := (hok b _ z).1
        rw [e] at e1
        cases e1
        exact (hok' b _ (un.frzs b o _ z)).1
  cases hk : K.lookup a with
  | some o =>
    have e := kin a o hk
    rw [at_] at e
    cases e
    exact go (fun _ => none) (fun _ => .inl rfl) (.inr ⟨_, us.toArray, _, hk, rfl, rfl, rfl, by rw [List.size_toArray, ia.length]; exact few, by simpa using rv⟩) (fun b u z => nomatch z) fun b z => (z rfl).elim
  | none =>
    have yes : (fun b => if b = a then some (HO.frz { cls := .type "list", data := .seq us.toArray } (.lst (ns.map V.int))) else none) a = some (HO.frz { cls := .type "list", data := .seq us.toArray } (.lst (ns.map V.int))) := if_pos rfl
    refine go (fun b => if b = a then some (.frz { cls := .type "list", data := .seq us.toArray } (.lst (ns.map V.int))) else none) (fun b => ?_) (.inl (.inr ⟨_, yes⟩)) (fun b u z => ?_) fun b z => ?_
    · by_cases hb : b = a
      · subst hb; exact .inr ⟨_, _, yes⟩
      · exact .inl (if_neg hb)
    · by_cases hb : b = a
      · subst hb
        rw [yes] at z
        cases z
        exact ⟨at_, by rw [List.length_map]; exact few, us, _, rv, at_⟩
      · exact nomatch (if_neg hb).symm.trans z
    · by_cases hb : b = a
      · exact ⟨hb, hk⟩
      · exact (z (if_neg hb)).elim
theorem walk_G {l : PySem.W.OpenLaw} {n k : Nat} {q : Program} {loose : List Str} {XP : (Str → Option Value) → Heap → Prop} {YP : World → Heap → Prop} {d : DefRec} {x : Str}
    (hn : l.most = some n) (hn2 : n ≤ sizeLine) (hdf : d.params.defaults = []) (hr : Room k callerA)
    (F : ∀ (w : World) (mg : Str → Option Value) (fa : Addr) (h : Heap), YP w h → h.Ns mainGlobals mg → mg d.name = some (.ref fa) →
      ∃ (K : PySem.W.Frag) (fd : FuncData) (sp : Sp), K.In h ∧ (∀ (s : Shared) (u : Value), BindsTo s fd ⟨[u], []⟩ [(x, u)]) ∧
        (∀ (H : Hp) (a : Addr) (ns : List Int), ns.length ≤ n → Only H → SqL K H a (ns.map V.int) → sp [.ref a] H (fun v _ => v = .bl true) fun _ _ _ => False) ∧
        ∀ base : Heap, K.In base → base.Ns mainGlobals mg → FnG l.prog w K mg base k fa fd [x] sp) :
    PySem.W.WalkO q loose XP YP l.row.toRowW d [] (fun f vs => PySem.call f vs) := by
  refine Att.attach_call hn hdf fun w _ s mg mb fa o pm cd doc a vs ns G Y _ _ _ hmg at_ ia few gn => ?_
  obtain ⟨K, fd, sp, kin, bd, hs, hF⟩ := F w mg fa _ Y G.T.g hmg
  exact law_runs kin G.T.g G.T.b G.T.builtins G.T.nolimit gn at_ ia (Nat.le_trans few hn2) hr hF bd fun H hO sq => hs H a ns few hO sq
end Z
set_option Elab.async false
set_option linter.all false
set_option maxRecDepth 100000
set_option maxHeartbeats 4000000
namespace Z
open PySem PySem.Spec PyProof.Rows L2
section
variable {W : WT} {F F1 H H1 : Hp} {r r1 : List Addr} {σ : L2.St} {env : Env} {S S1 : Store}
theorem set_val {i j : Nat} {t : T} {s : Slot} (h : (env.set i s)[j]? = some (.val t)) : (j = i ∧ s = .val t ∧ i < env.length) ∨ (j ≠ i ∧ env[j]? = some (.val t)) := by
  by_cases e : j = i
  · subst e
    have hl : j < env.length := by have := (List.getElem?_eq_some_iff.mp h).1; simpa using this
    rw [List.getElem?_set_self hl] at h
    exact .inl ⟨rfl, Option.some.inj h, hl⟩
  · rw [List.getElem?_set_ne (Ne.symm e)] at h
    exact .inr ⟨e, h⟩
theorem set_own {i j : Nat} {o : Ob} {s : Slot} (h : (env.set i s)[j]? = some (.own o)) : (j = i ∧ s = .own o ∧ i < env.length) ∨ (j ≠ i ∧ env[j]? = some (.own o)) := by
  by_cases e : j = i
  · subst e
    have hl : j < env.length := by have := (List.getElem?_eq_some_iff.mp h).1; simpa using this
    rw [List.getElem?_set_self hl] at h
    exact .inl ⟨rfl, Option.some.inj h, hl⟩
  · rw [List.getElem?_set_ne (Ne.symm e)] at h
    exact .inr ⟨e, h⟩
theorem set_hot {i j : Nat} {c : Nat} {l : List T} {s : Slot} (h : (env.set i s)[j]? = some (.hot c l)) : (j = i ∧ s = .hot c l ∧ i < env.length) ∨ (j ≠ i ∧ env[j]? = some (.hot c l)) := by
  by_cases e : j = i
  · subst e
    have hl : j < env.length := by have := (List.getElem?_eq_some_iff.mp h).1; simpa using this
    rw [List.getElem?_set_self hl] at h
    exact .inl ⟨rfl, Option.some.inj h, hl⟩
  · rw [List.getElem?_set_ne (Ne.symm e)] at h
    exact .inr ⟨e, h⟩
theorem set_act {i j : Nat} {s : Slot} (h : (env.set i s)[j]? = some .act) : (j = i ∧ s = .act ∧ i < env.length) ∨ (j ≠ i ∧ env[j]? = some .act) := by
  by_cases e : j = i
  · subst e
    have hl : j < env.length := by have := (List.getElem?_eq_some_iff.mp h).1; simpa using this
    rw [List.getElem?_set_self hl] at h
    exact .inl ⟨rfl, Option.some.inj h, hl⟩
  · rw [List.getElem?_set_ne (Ne.symm e)] at h
    exact .inr ⟨e, h⟩
theorem σset {i : Nat} {v : Option V} (h : i < σ.length) : (σ.set i v)[i]? = some v := by rw [List.getElem?_set_self h]
theorem EnvOk.setVal (e : EnvOk W F r H σ env) {i : Nat} {t : T} {v : V} (h : Rep W F r t v) : EnvOk W F r H (σ.set i (some v)) (env.set i (.val t)) where
  val := fun j u hj => by
    rcases set_val hj with ⟨rfl, q, hl⟩ | ⟨n, q⟩
    · cases q; exact ⟨v, σset (by rw [← e.len]; exact hl), h⟩
    · obtain ⟨w, a, b⟩ := e.val j u q
      exact ⟨w, by rw [List.getElem?_set_ne (Ne.symm n)]; exact a, b⟩
  own := fun j o hj => by
    rcases set_own hj with ⟨rfl, q, hl⟩ | ⟨n, q⟩
    · cases q
    · obtain ⟨p, a, b⟩ := e.own j o q
      exact ⟨p, by rw [List.getElem?_set_ne (Ne.symm n)]; exact a, b⟩
  hot := fun j c l hj => by
    rcases set_hot hj with ⟨rfl, q, hl⟩ | ⟨n, q⟩
    · cases q
    · obtain ⟨a, cls, d, z1, z2⟩ := e.hot j c l q
      exact ⟨a, cls, d, by rw [List.getElem?_set_ne (Ne.symm n)]; exact z1, z2⟩
  act := fun j hj => by
    rcases set_act hj with ⟨rfl, q, hl⟩ | ⟨n, q⟩
    · cases q
    · obtain ⟨f, z1, z2⟩ := e.act j q
      exact ⟨f, by rw [List.getElem?_set_ne (Ne.symm n)]; exact z1, z2⟩
  len := by simpa using e.len
  ap := fun a b o u p ha hb sa sb => by
    rcases set_own ha with ⟨_, q, _⟩ | ⟨n, q⟩
    · cases q
    rcases set_own hb with ⟨_, q2, _⟩ | ⟨n2, q2⟩
    · cases q2
    rw [List.getElem?_set_ne (Ne.symm n)] at sa
    rw [List.getElem?_set_ne (Ne.symm n2)] at sb
    exact e.ap a b o u p q q2 sa sb
theorem EnvOk.setOwn (e : EnvOk W F r H σ env) {i : Nat} {o : Ob} {p : Addr} (hF : F p = none) (hr : p ∉ r) (ho : ∀ j u, j ≠ i → env[j]? = some (.own u) → σ[j]? ≠ some (some (.ref p))) (h : ObRep W F r H p o) : EnvOk W F r H (σ.set i (some (.ref p))) (env.set i (.own o)) where
  val := fun j u hj => by
    rcases set_val hj with ⟨rfl, q, hl⟩ | ⟨n, q⟩
    · cases q
    · obtain ⟨w, a, b⟩ := e.val j u q
      exact ⟨w, by rw [List.getElem?_set_ne (Ne.symm n)]; exact a, b⟩
  own := fun j u hj => by
    rcases set_own hj with ⟨rfl, q, hl⟩ | ⟨n, q⟩
    · cases q; exact ⟨p, σset (by rw [← e.len]; exact hl), hF, hr, h⟩
    · obtain ⟨q', a, b⟩ := e.own j u q
      exact ⟨q', by rw [List.getElem?_set_ne (Ne.symm n)]; exact a, b⟩
  hot := fun j c l hj => by
    rcases set_hot hj with ⟨rfl, q, hl⟩ | ⟨n, q⟩
    · cases q
    · obtain ⟨a, cls, d, z1, z2⟩ := e.hot j c l q
      exact ⟨a, cls, d, by rw [List.getElem?_set_ne (Ne.symm n)]; exact z1, z2⟩
  act := fun j hj => by
    rcases set_act hj with ⟨rfl, q, hl⟩ | ⟨n, q⟩
    · cases q
    · obtain ⟨f, z1, z2⟩ := e.act j q
      exact ⟨f, by rw [List.getElem?_set_ne (Ne.symm n)]; exact z1, z2⟩
  len := by simpa using e.len
  ap := fun a b o1 u p' ha hb sa sb => by
    rcases set_own ha with ⟨ea, q, hl⟩ | ⟨n, q⟩
    · rcases set_own hb with ⟨eb, _, _⟩ | ⟨n2, q2⟩
      · rw [ea, eb]
      · subst ea
        rw [σset (by rw [← e.len]; exact hl)] at sa
        cases sa
        rw [List.getElem?_set_ne (Ne.symm n2)] at sb
        exact absurd sb (ho b u n2 q2)
    · rw [List.getElem?_set_ne (Ne.symm n)] at sa
      rcases set_own hb with ⟨eb, q2, hl⟩ | ⟨n2, q2⟩
      · subst eb
        rw [σset (by rw [← e.len]; exact hl)] at sb
        cases sb
        exact absurd sa (ho a o1 n q)
      · rw [List.getElem?_set_ne (Ne.symm n2)] at sb
        exact e.ap a b o1 u p' q q2 sa sb
theorem EnvOk.forget (e : EnvOk W F r H σ env) {i : Nat} (v : Option V) : EnvOk W F r H (σ.set i v) (env.set i .un) where
  val := fun j u hj => by
    rcases set_val hj with ⟨rfl, q, hl⟩ | ⟨n, q⟩
    · cases q
    · obtain ⟨w, a, b⟩ := e.val j u q
      exact ⟨w, by rw [List.getElem?_set_ne (Ne.symm n)]; exact a, b⟩
  own := fun j o hj => by
    rcases set_own hj with ⟨rfl, q, hl⟩ | ⟨n, q⟩
    · cases q
    · obtain ⟨p, a, b⟩ := e.own j o q
      exact ⟨p, by rw [List.getElem?_set_ne (Ne.symm n)]; exact a, b⟩
  hot := fun j c l hj => by
    rcases set_hot hj with ⟨rfl, q, hl⟩ | ⟨n, q⟩
    · cases q
    · obtain ⟨a, cls, d, z1, z2⟩ := e.hot j c l q
      exact ⟨a, cls, d, by rw [List.getElem?_set_ne (Ne.symm n)]; exact z1, z2⟩
  act := fun j hj => by
    rcases set_act hj with ⟨rfl, q, hl⟩ | ⟨n, q⟩
    · cases q
    · obtain ⟨f, z1, z2⟩ := e.act j q
      exact ⟨f, by rw [List.getElem?_set_ne (Ne.symm n)]; exact z1, z2⟩
  len := by simpa using e.len
  ap := fun a b o u p ha hb sa sb => by
    rcases set_own ha with ⟨_, q, _⟩ | ⟨n, q⟩
    · cases q
    rcases set_own hb with ⟨_, q2, _⟩ | ⟨n2, q2⟩
    · cases q2
    rw [List.getElem?_set_ne (Ne.symm n)] at sa
    rw [List.getElem?_set_ne (Ne.symm n2)] at sb
    exact e.ap a b o u p q q2 sa sb
theorem EnvOk.setHot (e : EnvOk W F r H σ env) {i : Nat} {c : Nat} {l : List T} {a : Addr} {cls : Value} {d : Option Addr} (hh : W.hx a cls d) (ev : ExV W F r H c l cls d) : EnvOk W F r H (σ.set i (some (.ref a))) (env.set i (.hot c l)) where
  val := fun j u hj => by
    rcases set_val hj with ⟨rfl, q, hl⟩ | ⟨n, q⟩
    · cases q
    · obtain ⟨w, a, b⟩ := e.val j u q
      exact ⟨w, by rw [List.getElem?_set_ne (Ne.symm n)]; exact a, b⟩
  own := fun j o hj => by
    rcases set_own hj with ⟨rfl, q, hl⟩ | ⟨n, q⟩
    · cases q
    · obtain ⟨p, a, b⟩ := e.own j o q
      exact ⟨p, by rw [List.getElem?_set_ne (Ne.symm n)]; exact a, b⟩
  hot := fun j c' l' hj => by
    rcases set_hot hj with ⟨rfl, q, hl⟩ | ⟨n, q⟩
    · cases q; exact ⟨a, cls, d, σset (by rw [← e.len]; exact hl), hh, ev⟩
    · obtain ⟨a, cls, d, z1, z2⟩ := e.hot j c' l' q
      exact ⟨a, cls, d, by rw [List.getElem?_set_ne (Ne.symm n)]; exact z1, z2⟩
  act := fun j hj => by
    rcases set_act hj with ⟨rfl, q, hl⟩ | ⟨n, q⟩
    · cases q
    · obtain ⟨f, z1, z2⟩ := e.act j q
      exact ⟨f, by rw [List.getElem?_set_ne (Ne.symm n)]; exact z1, z2⟩
  len := by simpa using e.len
  ap := fun a b o u p ha hb sa sb => by
    rcases set_own ha with ⟨_, q, _⟩ | ⟨n, q⟩
    · cases q
    rcases set_own hb with ⟨_, q2, _⟩ | ⟨n2, q2⟩
    · cases q2
    rw [List.getElem?_set_ne (Ne.symm n)] at sa
    rw [List.getElem?_set_ne (Ne.symm n2)] at sb
    exact e.ap a b o u p q q2 sa sb
theorem Good.setVal (g : Good W F r H σ env S) {i : Nat} {t : T} {v : V} (h : Rep W F r t v) : Good W F r H (σ.set i (some v)) (env.set i (.val t)) S := ⟨g.le, g.st, g.en.setVal h⟩
theorem Good.forget (g : Good W F r H σ env S) {i : Nat} (v : Option V) : Good W F r H (σ.set i v) (env.set i .un) S := ⟨g.le, g.st, g.en.forget v⟩
structure Ent where
  F : Hp
  r : List Addr
  H : Hp
structure At (W : WT) (en : Ent) (F : Hp) (r : List Addr) (H : Hp) (σ : L2.St) (env : Env) (S : Store) : Prop where
  good : Good W F r H σ env S
  step : Step en.F en.r en.H F r H
  newO : ∀ (i : Nat) (o : Ob) (p : Addr), env[i]? = some (.own o) → σ[i]? = some (some (.ref p)) → en.H p = none
variable {en : Ent}
theorem At.on (a : At W en F r H σ env S) (s : Step F r H F1 r1 H1) (g : Good W F1 r1 H1 σ env S1) : At W en F1 r1 H1 σ env S1 := ⟨g, a.step.trans s, a.newO⟩
theorem At.setVal (a : At W en F r H σ env S) {i : Nat} {t : T} {v : V} (h : Rep W F r t v) : At W en F r H (σ.set i (some v)) (env.set i (.val t)) S :=
  ⟨a.good.setVal h, a.step, fun j o p hj hs => by
    rcases set_own hj with ⟨_, q, _⟩ | ⟨n, q⟩
    · cases q
    · rw [List.getElem?_set_ne (Ne.symm n)] at hs; exact a.newO j o p q hs⟩
theorem At.forget (a : At W en F r H σ env S) {i : Nat} (v : Option V) : At W en F r H (σ.set i v) (env.set i .un) S :=
  ⟨a.good.forget v, a.step, fun j o p hj hs => by
    rcases set_own hj with ⟨_, q, _⟩ | ⟨n, q⟩
    · cases q
    · rw [List.getElem?_set_ne (Ne.symm n)] at hs; exact a.newO j o p q hs⟩
theorem At.setOwn (a : At W en F r H σ env S) {i : Nat} {o : Ob} {p : Addr} (hF : F p = none) (hr : p ∉ r) (ho : ∀ j u, j ≠ i → env[j]? = some (.own u) → σ[j]? ≠ some (some (.ref p))) (h : ObRep W F r H p o) (hn : en.H p = none) :
    At W en F r H (σ.set i (some (.ref p))) (env.set i (.own o)) S :=
  ⟨⟨a.good.le, a.good.st, a.good.en.setOwn hF hr ho h⟩, a.step, fun j u p' hj hs => by
    rcases set_own hj with ⟨e, q, hl⟩ | ⟨n, q⟩
    · subst e
      rw [σset (by rw [← a.good.en.len]; exact hl)] at hs
      cases hs; exact hn
    · rw [List.getElem?_set_ne (Ne.symm n)] at hs; exact a.newO j u p' q hs⟩
def ValOf (W : WT) (H0 : Hp) (F : Hp) (r : List Addr) (H : Hp) : R → V → Prop
  | .val t, v => Rep W F r t v
  | .fresh o, v => ∃ p, v = .ref p ∧ H0 p = none ∧ F p = none ∧ p ∉ r ∧ ObRep W F r H p o
  | .own _, _ => False
  | .hot _ _, _ => False
def Keep (fz : List Nat) (σ σ' : L2.St) : Prop := ∀ i ∈ fz, σ'[i]? = σ[i]?
theorem Keep.refl {fz : List Nat} {σ : L2.St} : Keep fz σ σ := fun _ _ => rfl
theorem Keep.trans {fz : List Nat} {σ σ1 σ2 : L2.St} (a : Keep fz σ σ1) (b : Keep fz σ1 σ2) : Keep fz σ σ2 := fun i h => (b i h).trans (a i h)
theorem Keep.set {fz : List Nat} {σ : L2.St} {i : Nat} {v : Option V} (h : i ∉ fz) : Keep fz σ (σ.set i v) := fun j hj => List.getElem?_set_ne (fun (e : i = j) => h (by rw [e]; exact hj))
def Nxt (W : WT) (en : Ent) (fz : List Nat) (F : Hp) (r : List Addr) (σ : L2.St) (env' : Env) (S' : Store) (Q : L2.St → Hp → Prop) : Prop :=
  ∀ (σ' : L2.St) (F' : Hp) (r' : List Addr) (H' : Hp), At W en F' r' H' σ' env' S' → Le F F' → Pre r r' → Keep fz σ σ' → Q σ' H'
def Rtn (W : WT) (en : Ent) (x : R) (S' : Store) (Q : VK) : Prop :=
  ∀ (v : V) (F' : Hp) (r' : List Addr) (H' : Hp), Step en.F en.r en.H F' r' H' → Le F' H' → StoreOk W F' r' H' S' → ValOf W en.H F' r' H' x v → Q v H'
def Nxe (W : WT) (wx : WX) (en : Ent) (fz : List Nat) (F : Hp) (r : List Addr) (σ : L2.St) (c : Nat) (l : List T) (env' : Env) (S' : Store) : Prop :=
  ∀ (σ' : L2.St) (F' : Hp) (r' : List Addr) (H' : Hp) (cls : Value) (d : Option Addr), At W en F' r' H' σ' env' S' → Le F F' → Pre r r' → Keep fz σ σ' → ExV W F' r' H' c l cls d → wx cls d σ' H'
def FlOk (W : WT) (wx : WX) (en : Ent) (fz : List Nat) (F : Hp) (r : List Addr) (σ : L2.St) (D : Ends) : Fl → Prop
  | .nx env' S' => Nxt W en fz F r σ env' S' D.nx
  | .bk env' S' => Nxt W en fz F r σ env' S' D.bk
  | .ct env' S' => Nxt W en fz F r σ env' S' D.ct
  | .rt x S' => Rtn W en x S' D.rt
  | .ex c l env' S' => Nxe W wx en fz F r σ c l env' S'
  | .no => False
def tS (W : WT) (wx : WX) (en : Ent) (fz : List Nat) (ex : Env → Store → Fl) : TS := fun D σ H => ∃ (F : Hp) (r : List Addr) (env : Env) (S : Store), At W en F r H σ env S ∧ FlOk W wx en fz F r σ D (ex env S)
theorem Nxt.on {fz : List Nat} {σ1 : L2.St} {env' : Env} {S' : Store} {Q : L2.St → Hp → Prop} (n : Nxt W en fz F r σ env' S' Q) (l : Le F F1) (p : Pre r r1) (k : Keep fz σ σ1) : Nxt W en fz F1 r1 σ1 env' S' Q :=
  fun σ' F' r' H' a l' p' k' => n σ' F' r' H' a (l.trans l') (p.trans p') (k.trans k')
theorem Nxe.on {wx : WX} {fz : List Nat} {σ1 : L2.St} {c : Nat} {l : List T} {env' : Env} {S' : Store} (n : Nxe W wx en fz F r σ c l env' S') (l' : Le F F1) (p : Pre r r1) (k : Keep fz σ σ1) : Nxe W wx en fz F1 r1 σ1 c l env' S' :=
  fun σ' F' r' H' cls d a l2 p' k' => n σ' F' r' H' cls d a (l'.trans l2) (p.trans p') (k.trans k')
theorem FlOk.on {wx : WX} {fz : List Nat} {σ1 : L2.St} {D : Ends} {f : Fl} (n : FlOk W wx en fz F r σ D f) (l : Le F F1) (p : Pre r r1) (k : Keep fz σ σ1) : FlOk W wx en fz F1 r1 σ1 D f := by
  cases f with
  | nx e s => exact Nxt.on n l p k
  | bk e s => exact Nxt.on n l p k
  | ct e s => exact Nxt.on n l p k
  | rt x s => exact n
  | ex c a e s => exact Nxe.on n l p k
  | no => exact n
end
theorem _root_.L2.PS.imp {X : Cx} {s : Stmt} {t t' : TS} (h : PS X s t) (i : ∀ D σ H, t' D σ H → t D σ H) : PS X s t' := ⟨fun pins s σ H D I q => h.run pins s σ H D I (i D σ H q)⟩
theorem _root_.L2.PSs.imp {X : Cx} {s : List Stmt} {t t' : TS} (h : PSs X s t) (i : ∀ D σ H, t' D σ H → t D σ H) : PSs X s t' := ⟨fun pins s σ H D I q => h.run pins s σ H D I (i D σ H q)⟩
theorem fl_rs {W : WT} {wx : WX} {en : Ent} {fz : List Nat} {F H : Hp} {r : List Addr} {σ : L2.St} {D : Ends} {A : Type} {env : Env} {S : Store} {o : Out A} {f : A → Store → Fl} (a : At W en F r H σ env S) (h : FlOk W wx en fz F r σ D (Fl.of env o f)) : Rs W wx F r H σ env o fun x S1 => FlOk W wx en fz F r σ D (f x S1) := by
  cases o with
  | ok a S1 => exact h
  | ex c l S1 => exact fun F' r' H' cls d s g ev => h σ F' r' H' cls d (a.on s g) s.le s.pre Keep.refl ev
  | no => exact h.elim
section
variable {W : WT} {wx : WX} {en : Ent} {fz : List Nat} {X : Cx} {C : EC} {e : Expr} {ce : CE} {s : Stmt} {st : List Stmt} {cs : CS} {css : CSs} {pos : Pos}
abbrev SS (W : WT) (wx : WX) (en : Ent) (fz : List Nat) (C : EC) (X : Cx) (s : Stmt) (cs : CS) : Prop := PS X s (tS W wx en fz (exS C cs))
abbrev SSs (W : WT) (wx : WX) (en : Ent) (fz : List Nat) (C : EC) (X : Cx) (s : List Stmt) (cs : CSs) : Prop := PSs X s (tS W wx en fz (exB C cs))
theorem tS_e {ev : Env → Store → Out R} {f : Env → R → Store → Fl} {D : Ends} {σ : L2.St} {H : Hp} {Q : VK} (h : tS W wx en fz (fun env S => Fl.of env (ev env S) fun x S1 => f env x S1) D σ H)
    (k : ∀ (F : Hp) (r : List Addr) (env : Env) (x : R) (S' : Store) (v : V) (H' : Hp), At W en F r H' σ env S' → RRep W F r H' σ env x v → (∀ p, x.isFresh = true → v = .ref p → en.H p = none) → FlOk W wx en fz F r σ D (f env x S') → Q v H') : tE W wx ev σ H Q := by
  obtain ⟨F, r, env, S, a, h⟩ := h
  exact ⟨F, r, env, S, a.good, (fl_rs a h).mono fun x S1 h v F1 r1 H1 s1 g1 rr n => k F1 r1 env x S1 v H1 (a.on s1 g1) rr (fun p hx hp => by
    cases x with
    | fresh o => exact a.step.free p (n p hp)
    | _ => cases hx) (h.on s1.le s1.pre Keep.refl)⟩
end
end Z
set_option Elab.async false
set_option linter.all false
set_option maxRecDepth 100000
set_option maxHeartbeats 4000000
namespace Z
open PySem PySem.Spec PyProof.Rows L2
section
variable {W : WT} {wx : WX} {en : Ent} {fz : List Nat} {X : Cx} {C : EC} {e a b : Expr} {ce ca cb : CE} {s : Stmt} {st su : List Stmt} {cs : CS} {css csu : CSs} {pos : Pos}
theorem At.self {F H : Hp} {r : List Addr} {σ : L2.St} {env : Env} {S : Store} {Q : L2.St → Hp → Prop} (a : At W en F r H σ env S) (n : Nxt W en fz F r σ env S Q) : Q σ H := n σ F r H a (Le.refl F) (Pre.refl r) Keep.refl
theorem s_nil : SSs W wx en fz C X [] .nil := pss_nil.imp fun D σ H h => by
  obtain ⟨F, r, env, S, a, h⟩ := h
  exact a.self (show Nxt W en fz F r σ env S D.nx from h)
theorem s_cons (h1 : SS W wx en fz C X s cs) (h2 : SSs W wx en fz C X st css) : SSs W wx en fz C X (s :: st) (.cons cs css) := (pss_cons h1 h2).imp fun D σ H h => by
  obtain ⟨F, r, env, S, a, h⟩ := h
  refine ⟨F, r, env, S, a, ?_⟩
  have h : FlOk W wx en fz F r σ D (match exS C cs env S with | .nx env1 S1 => exB C css env1 S1 | x => x) := h
  cases q : exS C cs env S with
  | nx env1 S1 =>
    rw [q] at h
    exact fun σ' F' r' H' a' l p k => ⟨F', r', env1, S1, a', h.on l p k⟩
  | bk e1 s1 => rw [q] at h; exact h
  | ct e1 s1 => rw [q] at h; exact h
  | rt x s1 => rw [q] at h; exact h
  | ex c l e1 s1 => rw [q] at h; exact h
  | no => rw [q] at h; exact h
theorem s_pass : SS W wx en fz C X (.Pass pos) .pass := ps_pass.imp fun D σ H h => by
  obtain ⟨F, r, env, S, a, h⟩ := h
  exact a.self (show Nxt W en fz F r σ env S D.nx from h)
theorem s_doc {x j p} : SS W wx en fz C X (.Expr (.Constant (.str x) j p) pos) .pass := ps_doc.imp fun D σ H h => by
  obtain ⟨F, r, env, S, a, h⟩ := h
  exact a.self (show Nxt W en fz F r σ env S D.nx from h)
theorem s_brk : SS W wx en fz C X (.Break pos) .brk := ps_break.imp fun D σ H h => by
  obtain ⟨F, r, env, S, a, h⟩ := h
  exact a.self (show Nxt W en fz F r σ env S D.bk from h)
theorem s_cnt : SS W wx en fz C X (.Continue pos) .cnt := ps_continue.imp fun D σ H h => by
  obtain ⟨F, r, env, S, a, h⟩ := h
  exact a.self (show Nxt W en fz F r σ env S D.ct from h)
theorem s_never : SS W wx en fz C X s .never := ps_never.imp fun D σ H h => by
  obtain ⟨F, r, env, S, a, h⟩ := h
  exact h.elim
def noSwap : Expr → Bool
  | .ListComp _ _ _ _ => false
  | .SetComp _ _ _ _ => false
  | .DictComp _ _ _ _ _ => false
  | _ => true
theorem noSwap_ok (h : noSwap e = true) (t : Option Expr) (n : Nat) (env : PySem.Env) : swapsWith e t n env = pure false := by
  cases e <;> first | (cases h; done) | rfl
theorem s_expr (he : SE W wx C X e ce) (h : noSwap e = true) : SS W wx en fz C X (.Expr e pos) (.expr ce) := (ps_expr he (noSwap_ok h _ _ _)).imp fun D σ H h => by
  refine tS_e (ev := evE C ce) (f := fun env x S' => .nx env S') h fun F r env x S' v H' a rr n q => a.self q
theorem s_ret (he : SE W wx C X e ce) : SS W wx en fz C X (.Return (some e) pos) (.ret ce) := (ps_ret he).imp fun D σ H h => by
  refine tS_e (ev := evE C ce) (f := fun env x S1 => (match x with
      | .own i => (match env[i]? with | some (.own o) => .rt (.fresh o) S1 | _ => .no)
      | .hot _ _ => .no
      | x => .rt x S1)) h fun F r env x S' v H' a rr n q => ?_
  cases x with
  | hot c l => exact q.elim
  | val t => exact q v F r H' a.step a.good.le a.good.st rr
  | fresh o =>
    have rr' := rr
    obtain ⟨p, rfl, h1, h2, h3, h4⟩ := rr'
    exact q _ F r H' a.step a.good.le a.good.st ⟨p, rfl, n p rfl rfl, h1, h2, h4⟩
  | own i =>
    obtain ⟨o, eo, es⟩ := rr
    have q : FlOk W wx en fz F r σ D (match env[i]? with | some (.own o) => .rt (.fresh o) S' | _ => .no) := q
    rw [eo] at q
    obtain ⟨p, e1, e2, e3, e4⟩ := a.good.en.own i o eo
    rw [es] at e1
    cases e1
    exact q _ F r H' a.step a.good.le a.good.st ⟨p, rfl, a.newO i o p eo es, e2, e3, e4⟩
theorem s_retN : SS W wx en fz C X (.Return none pos) .retN := ps_retN.imp fun D σ H h => by
  obtain ⟨F, r, env, S, a, h⟩ := h
  exact h _ F r H a.step a.good.le a.good.st .non
theorem s_if (hc : ST W wx C X e ce) (ha : SSs W wx en fz C X st css) (hb : SSs W wx en fz C X su csu) : SS W wx en fz C X (.If e st su pos) (.sif ce css csu) := (ps_if hc ha hb).imp fun D σ H h => by
  obtain ⟨F, r, env, S, a, h⟩ := h
  refine ⟨F, r, env, S, a.good, (fl_rs a (show FlOk W wx en fz F r σ D (Fl.of env (evT C ce env S) fun k S1 => (match k with | true => exB C css env S1 | false => exB C csu env S1)) from h)).mono fun k S1 h F1 r1 H1 s1 g1 => ?_⟩
  cases k with
  | true => exact iteT ⟨F1, r1, env, S1, a.on s1 g1, h.on s1.le s1.pre Keep.refl⟩
  | false => exact iteF ⟨F1, r1, env, S1, a.on s1 g1, h.on s1.le s1.pre Keep.refl⟩
theorem slot_ok {F F0 H : Hp} {r r0 : List Addr} {σ σ0 : L2.St} {env : Env} {S : Store} {x : R} {v : V} {own : Bool} {o : Slot} {i : Nat} {Q : L2.St → Hp → Prop} (a : At W en F r H σ env S) (rr : RRep W F r H σ env x v) (n : ∀ p, x.isFresh = true → v = .ref p → en.H p = none)
    (e : slotOf own x = some o) (hi : i ∉ fz) (q : Nxt W en fz F r σ (env.set i o) S Q) : Q (σ.set i (some v)) H := by
  cases own with
  | true =>
    cases x with
    | fresh ob =>
      cases e
      obtain ⟨p, rfl, h1, h2, h3, h4⟩ := rr
      exact q _ F r H (a.setOwn h1 h2 (fun j u _ ej ej2 => h3 ⟨j, u, ej, ej2⟩) h4 (n p rfl rfl)) (Le.refl F) (Pre.refl r) (Keep.set hi)
    | val t => cases e
    | own j => cases e
    | hot c l => cases e
  | false =>
    have go : ∀ t, sink x = some t → o = .val t → Q (σ.set i (some v)) H := fun t et eo => by
      subst eo
      cases x with
      | val u =>
        cases et
        exact q _ F r H (a.setVal rr) (Le.refl F) (Pre.refl r) (Keep.set hi)
      | own j => cases et
      | hot c l => cases et
      | fresh ob =>
        obtain ⟨F2, s2, g2, rt, l⟩ := sink_ok (F := en.F) (r := en.r) (H := en.H) a.good a.step rr (fun p hp => n p rfl hp) et
        exact q _ F2 r H (At.setVal ⟨g2, s2, a.newO⟩ rt) l (Pre.refl r) (Keep.set hi)
    cases x with
    | val t => cases e; exact go t rfl rfl
    | own j => cases e
    | hot c l => cases e
    | fresh ob =>
      have e : ob.toT.map Slot.val = some o := e
      cases q' : ob.toT with
      | none => rw [q'] at e; cases e
      | some t => rw [q'] at e; cases e; exact go t q' rfl
theorem s_set_of {i : Nat} {own : Bool} (h : PS X s (tAsg (tE W wx (evE C ce)) (gName i))) (hi : i ∉ fz) : SS W wx en fz C X s (.set i own ce) := h.imp fun D σ H h => by
  refine tS_e (ev := evE C ce) (f := fun env x S1 => (match slotOf own x with | some o => .nx (env.set i o) S1 | none => .no)) h fun F r env x S' v H' a rr n q => ?_
  cases eo : slotOf own x with
  | none => rw [eo] at q; exact q.elim
  | some o => rw [eo] at q; exact slot_ok (F0 := F) (r0 := r) (σ0 := σ) a rr n eo hi q
theorem s_set {i : Nat} {x : Str} {own : Bool} {p : Pos} (hN : X.N.Nodup) (hx : X.N[i]? = some x) (hl : Loc X.env.scope x) (hf : X.fn x = true ∨ X.env.scope.names.lookup x = some .local) (he : SE W wx C X e ce) (hs : swapsWith e (some (.Name x p)) pos.line X.env = pure false) (hi : i ∉ fz) :
    SS W wx en fz C X (.Assign [.Name x p] e pos) (.set i own ce) := s_set_of (ps_set hN hx hl he hs hf) hi
theorem s_while {p : Pos} (hp : PassesOwn (model X.prog X.w) X.A X.env X.xe) (hc : ST W wx C X e ce) (hb : SSs W wx en fz C X st css) : SS W wx en fz C X (.While e st [] pos) (.swhile ce css) := (ps_while hp hc hb).imp fun D σ H h => by
  obtain ⟨F, r, env, S, a, h⟩ := h
  refine ⟨fun m σ' H' => ∃ (F' : Hp) (r' : List Addr) (env' : Env) (S' : Store), At W en F' r' H' σ' env' S' ∧ FlOk W wx en fz F' r' σ' D (whileL (fun e s => evT C ce e s) (fun e s => exB C css e s) m env' S'), ⟨FUEL, F, r, env, S, a, h⟩, fun m σ1 H1 w => ?_⟩
  obtain ⟨F1, r1, env1, S1, a1, h1⟩ := w
  cases m with
  | zero => exact h1.elim
  | succ m =>
    have h2 := fl_rs a1 (show FlOk W wx en fz F1 r1 σ1 D (Fl.of env1 (evT C ce env1 S1) fun k S2 => (match k with
      | true => (match exB C css env1 S2 with
        | .nx env2 S2 => whileL (fun e s => evT C ce e s) (fun e s => exB C css e s) m env2 S2
        | .ct env2 S2 => whileL (fun e s => evT C ce e s) (fun e s => exB C css e s) m env2 S2
        | .bk env2 S2 => .nx env2 S2
        | r => r)
      | false => .nx env1 S2)) from h1)
    refine ⟨F1, r1, env1, S1, a1.good, h2.mono fun k S2 h2 F2 r2 H2 s2 g2 => ?_⟩
    have a2 := a1.on s2 g2
    cases k with
    | false => exact iteF (a2.self (show Nxt W en fz F2 r2 σ1 env1 S2 D.nx from h2.on s2.le s2.pre Keep.refl))
    | true =>
      have h3 := h2.on s2.le s2.pre (Keep.refl (fz := fz) (σ := σ1))
      refine iteT ⟨fun σ' H' => ∃ (F' : Hp) (r' : List Addr) (env' : Env) (S' : Store), At W en F' r' H' σ' env' S' ∧ FlOk W wx en fz F' r' σ' D (whileL (fun e s => evT C ce e s) (fun e s => exB C css e s) m env' S'), fun σ' H' q => ⟨m, Nat.lt_succ_self m, q⟩, F2, r2, env1, S2, a2, ?_⟩
      cases q : exB C css env1 S2 with
      | nx e5 s5 => simp only [q] at h3; exact fun σ' F' r' H' a' l p' k' => ⟨F', r', e5, s5, a', h3.on l p' k'⟩
      | ct e5 s5 => simp only [q] at h3; exact fun σ' F' r' H' a' l p' k' => ⟨F', r', e5, s5, a', h3.on l p' k'⟩
      | bk e5 s5 => simp only [q] at h3; exact h3
      | rt x s5 => simp only [q] at h3; exact h3
      | ex c l e5 s5 => simp only [q] at h3; exact h3
      | no => simp only [q] at h3; exact h3
end
end Z
set_option Elab.async false
set_option linter.all false
set_option maxRecDepth 100000
set_option maxHeartbeats 4000000
namespace Z
open PySem PySem.Spec PyProof.Rows L2
section
variable {W : WT} {en : Ent} {F H : Hp} {r : List Addr} {σ : L2.St} {env : Env} {S : Store}
theorem ObRep.other {p a : Addr} {ho : HO} {o : Ob} (n : p ≠ a) (h : ObRep W F r H p o) : ObRep W F r (upd H a ho) p o := by
  cases o with
  | lst ts => obtain ⟨vs, e, q⟩ := h; exact ⟨vs, by rw [upd_ne n]; exact e, q⟩
  | ins c fs => obtain ⟨dx, fvs, e, q, ck⟩ := h; exact ⟨dx, fvs, by rw [upd_ne n]; exact e, q, ck⟩
  | dct ks vs => exact h
theorem le_write {a : Addr} {ho : HO} (l : Le F H) (n : F a = none) : Le F (upd H a ho) := fun b u q => by rw [upd_ne (ne_of_none q n)]; exact l b u q
theorem At.write (a : At W en F r H σ env S) {i : Nat} {p : Addr} {o o' : Ob} {ho : HO} (ei : env[i]? = some (.own o)) (si : σ[i]? = some (some (.ref p))) (new : ObRep W F r (upd H p ho) p o') :
    At W en F r (upd H p ho) σ (env.set i (.own o')) S := by
  obtain ⟨p', e1, hF, hr, hob⟩ := a.good.en.own i o ei
  rw [si] at e1
  cases e1
  have hi : i < env.length := (List.getElem?_eq_some_iff.mp ei).1
  refine ⟨⟨le_write a.good.le hF, ⟨a.good.st.len, a.good.st.nd, fun n b u h1 h2 => ?_, hob.tabs a.good.st.tb, a.good.st.nt⟩, ⟨fun j t hj => ?_, fun j u hj => ?_, fun j c l hj => ?_, fun j hj => ?_, by simpa using a.good.en.len, fun x y u w q hx hy sx sy => ?_⟩⟩, ⟨a.step.le, a.step.new, a.step.pre, a.step.rnew, fun b u h1 h2 nt => ?_, fun b hb => ?_, fun c q z => hob.code c q (a.step.code c q z), a.step.nt⟩, fun j u q hj sj => ?_⟩
  · obtain ⟨z1, z2⟩ := a.good.st.at_ n b u h1 h2
    exact ⟨z1, z2.other fun e => hr (by rw [← e]; exact List.mem_of_getElem? h1)⟩
  · rcases set_val hj with ⟨_, q, _⟩ | ⟨n, q⟩
    · cases q
    · exact a.good.en.val j t q
  · rcases set_own hj with ⟨e, q, _⟩ | ⟨n, q⟩
    · cases q; subst e
      exact ⟨p, si, hF, hr, new⟩
    · obtain ⟨p2, z1, z2, z3, z4⟩ := a.good.en.own j u q
      exact ⟨p2, z1, z2, z3, z4.other fun e => n (a.good.en.ap j i u o p q ei (by rw [← e]; exact z1) si)⟩
  · rcases set_hot hj with ⟨_, q, _⟩ | ⟨n, q⟩
    · cases q
    · obtain ⟨b, cls, d, z1, z2, z3⟩ := a.good.en.hot j c l q
      exact ⟨b, cls, d, z1, z2, z3.other hob⟩
  · rcases set_act hj with ⟨_, q, _⟩ | ⟨n, q⟩
    · cases q
    · obtain ⟨f, z1, z2⟩ := a.good.en.act j q
      exact ⟨f, z1, W.fam f _ _ _ _ _ _ (fun _ _ z => z) (fun _ _ z => z) hob.code z2⟩
  · have hx' : ∃ u', env[x]? = some (.own u') := by
      rcases set_own hx with ⟨e, _, _⟩ | ⟨_, z⟩
      · exact ⟨o, by rw [e]; exact ei⟩
      · exact ⟨u, z⟩
    have hy' : ∃ u', env[y]? = some (.own u') := by
      rcases set_own hy with ⟨e, _, _⟩ | ⟨_, z⟩
      · exact ⟨o, by rw [e]; exact ei⟩
      · exact ⟨w, z⟩
    obtain ⟨u1, h1⟩ := hx'
    obtain ⟨u2, h2⟩ := hy'
    exact a.good.en.ap x y u1 u2 q h1 h2 sx sy
  · have hn := a.newO i o p ei si
    rw [upd_ne (ne_of_none h1 hn)]
    exact a.step.keep b u h1 h2 nt
  · by_cases e : b = p
    · subst e; rw [upd_same] at hb; cases hb
    · rw [upd_ne e] at hb; exact a.step.free b hb
  · rcases set_own hj with ⟨e, _, _⟩ | ⟨n, z⟩
    · subst e; exact a.newO j o q ei sj
    · exact a.newO j u q z sj
theorem At.writeS (a : At W en F r H σ env S) {n : Nat} {p : Addr} {o o' : Ob} {ho : HO} (en1 : S[n]? = some o) (rn : r[n]? = some p) (new : ObRep W F r (upd H p ho) p o') :
    At W en F r (upd H p ho) σ env (S.set n o') := by
  obtain ⟨hF, hob⟩ := a.good.st.at_ n p o rn en1
  have hm : p ∈ r := List.mem_of_getElem? rn
  refine ⟨⟨le_write a.good.le hF, ⟨by simpa using a.good.st.len, a.good.st.nd, fun m b u h1 h2 => ?_, hob.tabs a.good.st.tb, a.good.st.nt⟩, ⟨a.good.en.val, fun j u hj => ?_, fun j c l hj => let ⟨b, cls, d, z1, z2, z3⟩ := a.good.en.hot j c l hj; ⟨b, cls, d, z1, z2, z3.other hob⟩, fun j hj => let ⟨f, z1, z2⟩ := a.good.en.act j hj; ⟨f, z1, W.fam f _ _ _ _ _ _ (fun _ _ z => z) (fun _ _ z => z) hob.code z2⟩, a.good.en.len, a.good.en.ap⟩⟩, ⟨a.step.le, a.step.new, a.step.pre, a.step.rnew, fun b u h1 h2 nt => ?_, fun b hb => ?_, fun c q z => hob.code c q (a.step.code c q z), a.step.nt⟩, a.newO⟩
  · by_cases e : m = n
    · subst e
      rw [rn] at h1
      cases h1
      have hl : m < S.length := (List.getElem?_eq_some_iff.mp en1).1
      rw [List.getElem?_set_self hl] at h2
      cases h2
      exact ⟨hF, new⟩
    · rw [List.getElem?_set_ne (Ne.symm e)] at h2
      obtain ⟨z1, z2⟩ := a.good.st.at_ m b u h1 h2
      exact ⟨z1, z2.other fun e' => e (a.good.st.nd m n p (by rw [← e']; exact h1) rn)⟩
  · obtain ⟨p2, z1, z2, z3, z4⟩ := a.good.en.own j u hj
    exact ⟨p2, z1, z2, z3, z4.other fun e => z3 (by rw [e]; exact hm)⟩
  · have hn : b ≠ p := fun e => by
      subst e
      rcases a.step.rnew b hm with z | z
      · exact h2 z
      · rw [z] at h1; cases h1
    rw [upd_ne hn]
    exact a.step.keep b u h1 h2 nt
  · by_cases e : b = p
    · subst e; rw [upd_same] at hb; cases hb
    · rw [upd_ne e] at hb; exact a.step.free b hb
theorem change_ok {x : R} {v : V} {f : Ob → Option Ob} {env' : Env} {S' : Store} (a : At W en F r H σ env S) (rr : RRep W F r H σ env x v) (e : change env S x f = some (env', S')) :
    ∃ p o o', v = .ref p ∧ F p = none ∧ ObRep W F r H p o ∧ f o = some o' ∧ ∀ ho, ObRep W F r (upd H p ho) p o' → At W en F r (upd H p ho) σ env' S' := by
  cases x with
  | own i =>
    obtain ⟨o, ei, si⟩ := rr
    obtain ⟨p, e1, e2, e3, e4⟩ := a.good.en.own i o ei
    rw [si] at e1
    cases e1
    have e : (match env[i]? with | some (.own o) => (f o).map fun o' => (env.set i (.own o'), S) | _ => none) = some (env', S') := e
    rw [ei] at e
    dsimp only at e
    cases q : f o with
    | none => rw [q] at e; cases e
    | some o' => rw [q] at e; cases e; exact ⟨p, o, o', rfl, e2, e4, q, fun ho new => a.write ei si new⟩
  | val t =>
    cases t with
    | ref n =>
      have rr' : Rep W F r (.ref n) v := rr
      cases rr' with
      | ref h =>
        have e : (match S[n]? with | some o => (f o).map fun o' => (env, S.set n o') | none => none) = some (env', S') := e
        cases q0 : S[n]? with
        | none => rw [q0] at e; cases e
        | some o =>
          rw [q0] at e
          dsimp only at e
          cases q : f o with
          | none => rw [q] at e; cases e
          | some o' => rw [q] at e; cases e; exact ⟨_, o, o', rfl, (a.good.st.at_ _ _ _ h q0).1, (a.good.st.at_ _ _ _ h q0).2, q, fun ho new => a.writeS q0 h new⟩
    | _ => cases e
  | fresh o => cases e
  | hot c l => cases e
theorem At.sink {x : R} {t : T} {v : V} (a : At W en F r H σ env S) (rr : RRep W F r H σ env x v) (n : ∀ p, x.isFresh = true → v = .ref p → en.H p = none) (e : sink x = some t) :
    ∃ F2, At W en F2 r H σ env S ∧ Rep W F2 r t v ∧ Le F F2 := by
  obtain ⟨F2, s2, g2, rt, l⟩ := sink_ok (F := en.F) (r := en.r) (H := en.H) a.good a.step rr (by
    cases x with
    | fresh o => exact fun p hp => n p rfl hp
    | _ => trivial) e
  exact ⟨F2, ⟨g2, s2, a.newO⟩, rt, l⟩
end
section
variable {W : WT} {wx : WX} {en : Ent} {fz : List Nat} {X : Cx} {C : EC} {e a b : Expr} {ce ca cb : CE} {s : Stmt} {pos : Pos}
theorem RRep.keepF {F F2 H : Hp} {r : List Addr} {σ : L2.St} {env : Env} {x : R} {v : V} (s : Step F r H F2 r H) (h : RRep W F r H σ env x v) : RRep W F2 r H σ env x v := h.step s
theorem single_star (h : plainArg e = true) (env : PySem.Env) : starEach [e] env = [(false, eval e env)] := star_cons h [] env
theorem isL_ok {F H : Hp} {r : List Addr} {σ : L2.St} {env : Env} {S : Store} {x : R} {v : V} (a : At W en F r H σ env S) (rr : RRep W F r H σ env x v) (il : isL env S x = true) : ∃ p vs, v = .ref p ∧ H p = some (.lst vs) := by
  cases x with
  | own i =>
    obtain ⟨o, eo, es⟩ := rr
    have il : (match env[i]? with | some (.own (.lst _)) => true | _ => false) = true := il
    rw [eo] at il
    obtain ⟨p, e1, e2, e3, e4⟩ := a.good.en.own i o eo
    rw [es] at e1
    cases e1
    cases o with
    | lst ts => obtain ⟨vs, ev, _⟩ := e4; exact ⟨p, vs, rfl, ev⟩
    | dct ks vs => cases il
    | ins c fs => cases il
  | val t =>
    cases t with
    | ref n =>
      have rr' : Rep W F r (.ref n) v := rr
      cases rr' with
      | ref h =>
        have il : (match S[n]? with | some (.lst _) => true | _ => false) = true := il
        cases q0 : S[n]? with
        | none => rw [q0] at il; cases il
        | some o =>
          rw [q0] at il
          cases o with
          | lst ts => obtain ⟨_, vs, ev, _⟩ := a.good.st.at_ _ _ _ h q0; exact ⟨_, vs, rfl, ev⟩
          | dct ks vs => cases il
          | ins c fs => cases il
    | _ => cases il
  | fresh o => cases il
  | hot c l => cases il
theorem rr_mono {F F2 H : Hp} {r : List Addr} {σ : L2.St} {env : Env} {S : Store} {x : R} {v : V} (rr : RRep W F r H σ env x v) (l : Le F F2) (il : isL env S x = true) : RRep W F2 r H σ env x v := by
  cases x with
  | own i => exact rr
  | val t => exact Rep.mono l (Pre.refl r) rr
  | fresh o => cases il
  | hot c l => cases il
theorem s_append {apos cpos : Pos} (ha : SE W wx C X a ca) (hb : SE W wx C X b cb) (hp : plainArg b = true) (hba : plainBase a = true) (hl : (apos.endLine == cpos.line) = true) :
    SS W wx en fz C X (.Expr (.Call (.Attribute a "append" apos) [b] [] cpos) pos) (.append ca cb) := by
  refine (ps_expr (pe_bm PySem.F.plainAttrs_list PySem.F.slot_list_append PySem.F.type_list_append mt_append ha (pa_cons hb pa_nil (star_cons hp [] _)) (plainBase_ok hba) (by rw [single_star hp]; rfl) hl (star_cons hp [] _) rfl) rfl).imp fun D σ H h => ?_
  refine tS_e (ev := evE C ca) (f := fun env x S1 => (match isL env S1 x with
    | true => Fl.of env (evE C cb env S1) fun y S2 => (match Z.sink y with
      | some t => (match change env S2 x (appT t) with | some (env', S') => .nx env' S' | none => .no)
      | none => .no)
    | false => .no)) h fun F r env x S1 v H1 a1 rr _ q => ?_
  cases il : isL env S1 x with
  | false => rw [il] at q; exact q.elim
  | true =>
    rw [il] at q
    have ls : ∃ p vs, v = .ref p ∧ H1 p = some (.lst vs) := isL_ok a1 rr il
    obtain ⟨p, vs, rfl, ep⟩ := ls
    refine ⟨.inl ⟨rfl, vs, .of ep⟩, ?_⟩
    refine ⟨F, r, env, S1, a1.good, (fl_rs a1 q).mono fun y S2 q w F2 r2 H2 s2 g2 rw2 n2 => ?_⟩
    have q := FlOk.on q s2.le s2.pre (Keep.refl (fz := fz) (σ := σ))
    cases et : Z.sink y with
    | none => rw [et] at q; exact q.elim
    | some t =>
      rw [et] at q
      obtain ⟨F3, a3, rt, l3⟩ := (a1.on s2 g2).sink rw2 (fun p hy hw => by
        cases y with
        | fresh o => exact a1.step.free p (n2 p hw)
        | _ => cases hy) et
      have q := q.on l3 (Pre.refl _) (Keep.refl (fz := fz) (σ := σ))
      have rr3 : RRep W F3 r2 H2 σ env x (.ref p) := rr_mono (rr.step s2) l3 il
      cases ec : change env S2 x (appT t) with
      | none => simp only [ec] at q; exact q.elim
      | some z =>
        obtain ⟨env', S'⟩ := z
        simp only [ec] at q
        obtain ⟨p', o, o', e1, _, ob, ef, wr⟩ := change_ok a3 rr3 ec
        cases e1
        cases o with
        | lst ts =>
          obtain ⟨hz, rfl⟩ := guardT_ok ef
          obtain ⟨ws, ew, rl⟩ := ob
          refine ⟨p, ws, w, rfl, rfl, ew, ?_, ?_⟩
          · rw [← rl.len]; exact of_decide_eq_true hz
          · exact q σ F3 r2 _ (wr _ ⟨ws ++ [w], upd_same, rl.app (.cons rt .nil)⟩) (Le.refl _) (Pre.refl _) Keep.refl
        | dct ks vs => cases ef
        | ins c fs => cases ef
end
end Z
set_option Elab.async false
set_option linter.all false
set_option maxRecDepth 100000
set_option maxHeartbeats 4000000
namespace Z
open PySem PySem.Spec PyProof.Rows L2
section
variable {prog : Program} {w : World} {A : Around} {E : Value → Shared → Prop}
theorem draw_list {it l : Addr} {items : Array Value} (hne : l ≠ it) : ∀ (n i : Nat) (s : Shared) (Q : List Value → Shared → Prop), s.heap.IsListIter it l i → s.heap.IsList l items → i + n ≤ items.size →
    (∀ h', h'.IsListIter it l (i + n) → Heap.SameBut it s.heap h' → Q ((items.toList.drop i).take n) { s with heap := h' }) → wpAny (model prog w) A (draw (.ref it) n) Q E s
  | 0, i, s, Q, hit, _, _, hQ => by
    show wpAny _ _ (pure []) Q E s
    exact wpAny_pure (by simpa using hQ s.heap hit (Heap.SameBut.refl ..))
  | n + 1, i, s, Q, hit, ht, hle, hQ => by
    have hlt : i < items.size := by omega
    show wpAny _ _ (pyNext (.ref it) >>= _) Q E s
    refine wpAny_bind (wpAny_pyNext_list_item hit ht (x := items[i]) (by simp [hlt]) fun h₁ hit₁ hs₁ => ?_)
    refine wpAny_bind (wpAny_holding (draw_list hne n (i + 1) _ _ hit₁ (ht.extBut hs₁.extBut hne) (by omega) fun h₂ hit₂ hs₂ => wpAny_pure ?_))
    have hd : items.toList.drop i = items[i] :: items.toList.drop (i + 1) := by simp [List.drop_eq_getElem_cons, hlt]
    have := hQ h₂ (by rw [show i + (n + 1) = i + 1 + n by omega]; exact hit₂) (hs₁.trans hs₂)
    rw [hd, List.take_succ_cons] at this
    exact this
theorem unpackItems_list {s : Shared} {t : Addr} {items : Array Value} {Q : List Value → Shared → Prop} (hh : A.handled = none) (ht : s.heap.IsList t items)
    (hQ : ∀ h', Heap.ExtBut s.heap.objs.size s.heap h' → Q items.toList { s with heap := h' }) : wpAny (model prog w) A (unpackItems (.ref t) items.size none) Q E s := by
  have hlt : t ≠ s.heap.objs.size := by obtain ⟨o, ho, _⟩ := ht; exact Nat.ne_of_lt (Heap.lt_size ho)
  unfold unpackItems
  refine wpAny_bind ?_
  · unfold notIterableAtAll
    refine wpAny_bind (wpAny_specialOf ht.typeIs PySem.F.slot_list_iter.lookup ?_)
    refine wpAny_pure ?_
    simp only [Bool.false_eq_true, if_false]
    refine wpAny_bind (wpAny_holding (wpAny_pyIter_list ht ?_))
    refine wpAny_bind (wpAny_holding (draw_list hlt items.size 0 _ _ ⟨_, Heap.get?_push_size _ rfl, rfl, rfl⟩ (ht.push _) (by omega) fun h₁ hit₁ hs₁ => ?_))
    have hall : List.take items.size (List.drop 0 items.toList) = items.toList := by
      rw [List.drop_zero]; exact List.take_of_length_le (by simp)
    rw [hall]
    rw [if_neg (by simp)]
    have ht₁ : h₁.IsList t items := (ht.push _).extBut hs₁.extBut hlt
    refine wpAny_bind (wpAny_holding (wpAny_pyNext_list_end hh hit₁ ht₁ (by simp) fun h₂ he₂ => ?_))
    simp only [Option.isSome_none, Bool.false_eq_true, if_false]
    refine wpAny_pure (hQ h₂ fun b o hb e => he₂ b o hb (hs₁.extBut b o hb (Heap.get?_push_of_some _ e)))
theorem assign_Tuple_list {s : Shared} {env : PySem.Env} {elts : List Expr} {x1} {pos : Pos} {t : Addr} {items : Array Value} {Q : Unit → Shared → Prop} (hh : A.handled = none) (ht : s.heap.IsList t items)
    (hn : (assignEach elts env).length = items.size) (hstar : (assignEach elts env).findIdx? (·.1) = none)
    (h : ∀ h', Heap.ExtBut s.heap.objs.size s.heap h' → wpAny (model prog w) A (assignInOrder ((assignEach elts env).map (·.2)) items.toList) Q E { s with heap := h' }) :
    wpAny (model prog w) A (assign (.Tuple elts x1 pos) env (.ref t)) Q E s := by
  rw [arm_assign_Tuple]
  refine wpAny_bind (wpAny_standAt ?_)
  unfold unpack
  rw [hn, hstar]
  exact wpAny_bind (wpAny_holding (unpackItems_list hh ht h))
end
def gTupL (K : PySem.W.Frag) (n : Nat) (t : TGs) : TG := fun v σ H Q => ∃ a xs, v = .ref a ∧ (SqT K H a xs ∨ SqL K H a xs) ∧ xs.length = n ∧ t xs σ H Q
theorem pg_tupL {X : Cx} {pos : Pos} {es : List Expr} {k : Nat} {t : TGs} {n : Nat} (hc : X.calm = true) (h : PGs X es t)
    (hn : (assignEach es X.env).length = n := by rfl) (hst : (assignEach es X.env).findIdx? (·.1) = none := by rfl) : PG X (.Tuple es k pos) (gTupL X.K n t) := by
  refine ⟨fun pins s σ H v u Q I r hw => ?_⟩
  obtain ⟨a, xs, e1, hq, hl, hw⟩ := hw
  rcases hq with hq | hq
  · exact (pg_tup (k := k) (pos := pos) hc h hn hst).run pins s σ H v u Q I r ⟨a, xs, e1, hq, hl, hw⟩
  subst e1
  cases r
  obtain ⟨its, rv, ht, hz⟩ := I.list hq
  refine assign_Tuple_list (I.ok.hd hc) ht.isList (by simp [hn, ← hl, rv.length]) hst fun h' hx => ?_
  have I1 : Inv X pins σ H { s with heap := h' } := I.kept (t' := s.toks) fun b o e => hx b o (Nat.ne_of_lt (Heap.lt_size e)) e
  exact h.run pins _ σ H xs _ Q I1 (by simpa using rv) hw
end Z
set_option Elab.async false
set_option linter.all false
set_option maxRecDepth 100000
set_option maxHeartbeats 4000000
namespace Z
open PySem PySem.Spec PyProof.Rows L2
section
variable {W : WT} {wx : WX} {en : Ent} {fz : List Nat} {X : Cx} {C : EC} {e a b : Expr} {ce ca cb : CE} {s : Stmt} {pos : Pos}
def tGa (W : WT) (en : Ent) (fz : List Nat) (as : T → Env → Store → Out Env) : TG := fun v σ H Q => ∃ (F : Hp) (r : List Addr) (env : Env) (S : Store) (t : T) (env' : Env) (S' : Store), At W en F r H σ env S ∧ Rep W F r t v ∧ as t env S = .ok env' S' ∧ Nxt W en fz F r σ env' S' Q
abbrev SG (W : WT) (wx : WX) (en : Ent) (fz : List Nat) (C : EC) (X : Cx) (e : Expr) (g : CT) : Prop := PG X e (tGa W en fz (asgT C g))
theorem _root_.L2.PG.imp {X : Cx} {e : Expr} {t t' : TG} (h : PG X e t) (i : ∀ v σ H Q, t' v σ H Q → t v σ H Q) : PG X e t' := ⟨fun pins s σ H v u Q I r q => h.run pins s σ H v u Q I r (i v σ H Q q)⟩
theorem _root_.L2.PGs.imp {X : Cx} {e : List Expr} {t t' : TGs} (h : PGs X e t) (i : ∀ v σ H Q, t' v σ H Q → t v σ H Q) : PGs X e t' := ⟨fun pins s σ H v u Q I r q => h.run pins s σ H v u Q I r (i v σ H Q q)⟩
theorem Rs.ok {F H : Hp} {r : List Addr} {σ : L2.St} {env : Env} {A : Type} {o : Out A} {a : A} {S : Store} {K : A → Store → Prop} (e : o = .ok a S) (k : K a S) : Rs W wx F r H σ env o K := by rw [e]; exact k
theorem g_name {i : Nat} {x : Str} (hN : X.N.Nodup) (hx : X.N[i]? = some x) (hl : Loc X.env.scope x) (hf : X.fn x = true ∨ X.env.scope.names.lookup x = some .local) (hi : i ∉ fz) : SG W wx en fz C X (.Name x pos) (.name i) := (pg_name hN hx hl hf).imp fun v σ H Q h => by
  obtain ⟨F, r, env, S, t, env', S', a, rt, e, n⟩ := h
  cases e
  exact n _ F r H (a.setVal rt) (Le.refl F) (Pre.refl r) (Keep.set hi)
theorem g_ix (ha : SE W wx C X a ca) (hb : SE W wx C X b cb) (hs : ∀ v, assign (.Subscript a b pos) X.env v = (do
      let ov ← holding [v] (eval a X.env)
      let iv ← holding [v, ov] (eval b X.env)
      standAt pos
      holding [v, ov, iv] (setItem ov iv v)
      release [v, ov, iv] [])) : SG W wx en fz C X (.Subscript a b pos) (.ix ca cb) := (pg_sub ha hb set_list hs).imp fun v σ H Q h => by
  obtain ⟨F, r, env, S, t, env', S', a0, rt, e, n⟩ := h
  obtain ⟨x, S1, e1, e⟩ := bind_ok (show (evE C ca env S).bind _ = _ from e)
  obtain ⟨y, S2, e2, e⟩ := bind_ok e
  refine ⟨F, r, env, S, a0.good, Rs.ok e1 fun o F1 r1 H1 s1 g1 rr1 n1 => ⟨F1, r1, env, S1, g1, Rs.ok e2 fun i F2 r2 H2 s2 g2 rr2 n2 => ?_⟩⟩
  cases eu : flat env S2 y with
  | none => rw [eu] at e; cases e
  | some u =>
    rw [eu] at e
    dsimp only at e
    cases ec : change env S2 x (fun o => putIx o u t) with
    | none => rw [ec] at e; cases e
    | some z =>
      obtain ⟨env2, S3⟩ := z
      rw [ec] at e
      cases e
      have a2 := (a0.on s1 g1).on s2 g2
      obtain ⟨p, ob, ob', rfl, hF, hob, ep, wr⟩ := change_ok a2 (rr1.step s2) ec
      cases ob with
      | lst ts =>
        cases u <;> first | (cases ep; done) | skip
        rename_i k
        have ep : (Z.ixN ts.length k).map (fun j => Ob.lst (ts.set j t)) = some ob' := ep
        cases ej : Z.ixN ts.length k with
        | none => rw [ej] at ep; cases ep
        | some j =>
          rw [ej] at ep
          cases ep
          obtain ⟨vs, ev, rl⟩ := hob
          have vw := Vw.of_flat g2 rr2 eu
          have vi : i = .int k := vw
          subst vi
          have rt2 : Rep W F2 r2 t v := rt.mono (s1.le.trans s2.le) (s1.pre.trans s2.pre)
          refine ⟨p, vs, k, j, rfl, rfl, ev, by rw [← rl.len]; exact ej, ?_⟩
          exact n _ F2 r2 _ (wr _ ⟨vs.set j v, upd_same, rl.set rt2 j⟩) (s1.le.trans s2.le) (s1.pre.trans s2.pre) Keep.refl
      | dct ks vs => cases ep
      | ins c fs => cases ep
theorem g_nil {σ : L2.St} {H : Hp} {Q : L2.St → Hp → Prop} (h : Q σ H) : gNil [] σ H Q := ⟨rfl, h⟩
theorem rep_tup {F : Hp} {r : List Addr} {ts : List T} {v : V} (h : Rep W F r (.tup ts) v) : ∃ p vs, v = .ref p ∧ SqT W.K F p vs ∧ RepL W F r ts vs := by
  cases h with
  | tup h1 h2 h3 => exact ⟨_, _, rfl, h1, h2, h3⟩
theorem rep_lst {F : Hp} {r : List Addr} {ts : List T} {v : V} (h : Rep W F r (.lst ts) v) : ∃ p vs, v = .ref p ∧ SqL W.K F p vs ∧ RepL W F r ts vs := by
  cases h with
  | lst h1 h2 h3 => exact ⟨_, _, rfl, h1, h2, h3⟩
theorem g_pair {g h : CT} {k : Nat} (hK : X.K = W.K) (hc : X.calm = true) (hg : SG W wx en fz C X a g) (hh : SG W wx en fz C X b h) (h1 : (assignEach [a, b] X.env).map (·.2) = assign a X.env :: (assignEach [b] X.env).map (·.2)) (h2 : (assignEach [b] X.env).map (·.2) = assign b X.env :: (assignEach [] X.env).map (·.2))
    (hn : (assignEach [a, b] X.env).length = 2) (hst : (assignEach [a, b] X.env).findIdx? (·.1) = none) : SG W wx en fz C X (.Tuple [a, b] k pos) (.pair g h) :=
  (pg_tupL (k := k) (pos := pos) (n := 2) hc (pgs_cons hg (pgs_cons hh pgs_nil h2) h1) hn hst).imp fun v σ H Q q => by
  obtain ⟨F, r, env, S, t, env', S', a0, rt, e, n⟩ := q
  have e : (match t with
    | .tup [t1, t2] => (asgT C g t1 env S).bind fun env1 S1 => asgT C h t2 env1 S1
    | .lst [t1, t2] => (asgT C g t1 env S).bind fun env1 S1 => asgT C h t2 env1 S1
    | _ => .no) = .ok env' S' := e
  split at e
  · rename_i t1 t2
    obtain ⟨env1, S1, e1, e2⟩ := bind_ok e
    obtain ⟨p, vs, rfl, sq, rl⟩ := rep_tup rt
    obtain ⟨v1, ws, rfl, rt1, rl⟩ := rl.uncons
    obtain ⟨v2, ws, rfl, rt2, rl⟩ := rl.uncons
    have e0 := rl.unnil
    subst e0
    refine ⟨p, _, rfl, by rw [hK]; exact .inl (a0.good.le.sqT sq), rfl, v1, _, rfl, F, r, env, S, _, env1, S1, a0, rt1, e1, fun σ1 F1 r1 H1 a1 l1 p1 k1 => ?_⟩
    exact ⟨v2, _, rfl, F1, r1, env1, S1, _, env', S', a1, rt2.mono l1 p1, e2, fun σ2 F2 r2 H2 a2 l2 p2 k2 => g_nil (n σ2 F2 r2 H2 a2 (l1.trans l2) (p1.trans p2) (k1.trans k2))⟩
  · rename_i t1 t2
    obtain ⟨env1, S1, e1, e2⟩ := bind_ok e
    obtain ⟨p, vs, rfl, sq, rl⟩ := rep_lst rt
    obtain ⟨v1, ws, rfl, rt1, rl⟩ := rl.uncons
    obtain ⟨v2, ws, rfl, rt2, rl⟩ := rl.uncons
    have e0 := rl.unnil
    subst e0
    refine ⟨p, _, rfl, by rw [hK]; exact .inr (a0.good.le.sqL sq), rfl, v1, _, rfl, F, r, env, S, _, env1, S1, a0, rt1, e1, fun σ1 F1 r1 H1 a1 l1 p1 k1 => ?_⟩
    exact ⟨v2, _, rfl, F1, r1, env1, S1, _, env', S', a1, rt2.mono l1 p1, e2, fun σ2 F2 r2 H2 a2 l2 p2 k2 => g_nil (n σ2 F2 r2 H2 a2 (l1.trans l2) (p1.trans p2) (k1.trans k2))⟩
  · cases e
theorem g_trip {c : Expr} {g h m : CT} {k : Nat} (hK : X.K = W.K) (hc : X.calm = true) (hg : SG W wx en fz C X a g) (hh : SG W wx en fz C X b h) (hm : SG W wx en fz C X c m) (h1 : (assignEach [a, b, c] X.env).map (·.2) = assign a X.env :: (assignEach [b, c] X.env).map (·.2)) (h2 : (assignEach [b, c] X.env).map (·.2) = assign b X.env :: (assignEach [c] X.env).map (·.2))
    (h3 : (assignEach [c] X.env).map (·.2) = assign c X.env :: (assignEach [] X.env).map (·.2)) (hn : (assignEach [a, b, c] X.env).length = 3) (hst : (assignEach [a, b, c] X.env).findIdx? (·.1) = none) : SG W wx en fz C X (.Tuple [a, b, c] k pos) (.trip g h m) :=
  (pg_tupL (k := k) (pos := pos) (n := 3) hc (pgs_cons hg (pgs_cons hh (pgs_cons hm pgs_nil h3) h2) h1) hn hst).imp fun v σ H Q q => by
  obtain ⟨F, r, env, S, t, env', S', a0, rt, e, n⟩ := q
  have e : (match t with
    | .tup [t1, t2, t3] => (asgT C g t1 env S).bind fun env1 S1 => (asgT C h t2 env1 S1).bind fun env2 S2 => asgT C m t3 env2 S2
    | .lst [t1, t2, t3] => (asgT C g t1 env S).bind fun env1 S1 => (asgT C h t2 env1 S1).bind fun env2 S2 => asgT C m t3 env2 S2
    | _ => .no) = .ok env' S' := e
  split at e
  · rename_i t1 t2 t3
    obtain ⟨env1, S1, e1, e2⟩ := bind_ok e
    obtain ⟨env2, S2, e2, e3⟩ := bind_ok e2
    obtain ⟨p, vs, rfl, sq, rl⟩ := rep_tup rt
    obtain ⟨v1, ws, rfl, rt1, rl⟩ := rl.uncons
    obtain ⟨v2, ws, rfl, rt2, rl⟩ := rl.uncons
    obtain ⟨v3, ws, rfl, rt3, rl⟩ := rl.uncons
    have e0 := rl.unnil
    subst e0
    refine ⟨p, _, rfl, by rw [hK]; exact .inl (a0.good.le.sqT sq), rfl, v1, _, rfl, F, r, env, S, _, env1, S1, a0, rt1, e1, fun σ1 F1 r1 H1 a1 l1 p1 k1 => ?_⟩
    refine ⟨v2, _, rfl, F1, r1, env1, S1, _, env2, S2, a1, rt2.mono l1 p1, e2, fun σ2 F2 r2 H2 a2 l2 p2 k2 => ?_⟩
    exact ⟨v3, _, rfl, F2, r2, env2, S2, _, env', S', a2, rt3.mono (l1.trans l2) (p1.trans p2), e3, fun σ3 F3 r3 H3 a3 l3 p3 k3 => g_nil (n σ3 F3 r3 H3 a3 ((l1.trans l2).trans l3) ((p1.trans p2).trans p3) ((k1.trans k2).trans k3))⟩
  · rename_i t1 t2 t3
    obtain ⟨env1, S1, e1, e2⟩ := bind_ok e
    obtain ⟨env2, S2, e2, e3⟩ := bind_ok e2
    obtain ⟨p, vs, rfl, sq, rl⟩ := rep_lst rt
    obtain ⟨v1, ws, rfl, rt1, rl⟩ := rl.uncons
    obtain ⟨v2, ws, rfl, rt2, rl⟩ := rl.uncons
    obtain ⟨v3, ws, rfl, rt3, rl⟩ := rl.uncons
    have e0 := rl.unnil
    subst e0
    refine ⟨p, _, rfl, by rw [hK]; exact .inr (a0.good.le.sqL sq), rfl, v1, _, rfl, F, r, env, S, _, env1, S1, a0, rt1, e1, fun σ1 F1 r1 H1 a1 l1 p1 k1 => ?_⟩
    refine ⟨v2, _, rfl, F1, r1, env1, S1, _, env2, S2, a1, rt2.mono l1 p1, e2, fun σ2 F2 r2 H2 a2 l2 p2 k2 => ?_⟩
    exact ⟨v3, _, rfl, F2, r2, env2, S2, _, env', S', a2, rt3.mono (l1.trans l2) (p1.trans p2), e3, fun σ3 F3 r3 H3 a3 l3 p3 k3 => g_nil (n σ3 F3 r3 H3 a3 ((l1.trans l2).trans l3) ((p1.trans p2).trans p3) ((k1.trans k2).trans k3))⟩
  · cases e
theorem s_asg {tg : Expr} {g : CT} (he : SE W wx C X e ce) (hg : SG W wx en fz C X tg g) (hs : swapsWithSole [tg] e pos.line X.env = pure false) (hw : swappedStores [tg] e X.env = pure none) (h1 : (assignEach [tg] X.env).map (·.2) = [assign tg X.env]) :
    SS W wx en fz C X (.Assign [tg] e pos) (.asg g ce) := (ps_asg he hg hs hw h1).imp fun D σ H h => by
  refine tS_e (ev := evE C ce) (f := fun env x S1 => (match Z.sink x with
    | some t => (match asgT C g t env S1 with | .ok env' S2 => .nx env' S2 | _ => .no)
    | none => .no)) h fun F r env x S1 v H1 a rr n q => ?_
  cases et : Z.sink x with
  | none => rw [et] at q; exact q.elim
  | some t =>
    rw [et] at q
    dsimp only at q
    obtain ⟨F2, a2, rt, l2⟩ := a.sink rr n et
    have q : FlOk W wx en fz F r σ D (match asgT C g t env S1 with | .ok env' S2 => .nx env' S2 | _ => .no) := q
    split at q
    case h_2 => exact q.elim
    rename_i env' S2 e2
    exact ⟨F2, r, env, S1, t, env', S2, a2, rt, e2, Nxt.on (show Nxt W en fz F r σ env' S2 D.nx from q) l2 (Pre.refl r) Keep.refl⟩
theorem putF_same (f : Str) (v : V) : ∀ (fs : List (Str × V)) (w : V), fs.lookup f = some w → (L2.putF f v fs).length = fs.length
  | [], w, h => by cases h
  | (k, x) :: r, w, h => by
    unfold L2.putF
    by_cases hk : k = f
    · rw [if_pos hk]; rfl
    · rw [if_neg hk]
      have hb : (f == k) = false := beq_eq_false_iff_ne.mpr (Ne.symm hk)
      simp only [List.lookup, hb] at h
      simp only [List.length_cons, putF_same f v r w h]
theorem filter_set : ∀ (fs : List (Option T)) (i : Nat) (t : T), i < fs.length → ((fs.set i (some t)).filter Option.isSome).length = (fs.filter Option.isSome).length + (match fs[i]? with | some (some _) => 0 | _ => 1)
  | [], i, t, h => by simp at h
  | none :: r, 0, t, h => by simp
  | some u :: r, 0, t, h => by simp
  | none :: r, i + 1, t, h => by simpa using filter_set r i t (by simpa using h)
  | some u :: r, i + 1, t, h => by
    have := filter_set r i t (by simpa using h)
    simp only [List.set_cons_succ, List.filter_cons, Option.isSome_some, if_true, List.length_cons, List.getElem?_cons_succ, this]
    omega
theorem FldO.put {F : Hp} {r : List Addr} {fs : List (Option T)} {fvs : List (Str × V)} {f : Nat} {t : T} {v : V} (q : FldO W F r fs fvs) (hf : f < fs.length) (h : Rep W F r t v) : FldO W F r (fs.set f (some t)) (L2.putF (W.attr f) v fvs) where
  few := by simpa using q.few
  yes := fun i u hi => by
    by_cases e : i = f
    · subst e
      rw [List.getElem?_set_self hf] at hi
      cases hi
      exact ⟨v, by rw [lookup_putF, if_pos rfl], h⟩
    · rw [List.getElem?_set_ne (Ne.symm e)] at hi
      obtain ⟨w, z1, z2⟩ := q.yes i u hi
      have il : i < W.nat := Nat.lt_of_lt_of_le (List.getElem?_eq_some_iff.mp hi).1 q.few
      exact ⟨w, by rw [lookup_putF, if_neg fun z => e (W.inj i f il (Nat.lt_of_lt_of_le hf q.few) z)]; exact z1, z2⟩
  no := fun g hg => by
    have n : g ≠ W.attr f := hg f t (List.getElem?_set_self hf)
    rw [lookup_putF, if_neg n]
    refine q.no g fun i u hi => ?_
    by_cases e : i = f
    · subst e; exact n
    · exact hg i u (by rw [List.getElem?_set_ne (Ne.symm e)]; exact hi)
  len := by
    rw [filter_set fs f t hf]
    cases e : fs[f]? with
    | none => exact Nat.le_trans (length_putF _ _ _) (Nat.add_le_add_right q.len 1)
    | some o =>
      cases o with
      | none => exact Nat.le_trans (length_putF _ _ _) (Nat.add_le_add_right q.len 1)
      | some u =>
        obtain ⟨w, z1, z2⟩ := q.yes f u e
        rw [putF_same _ _ _ w z1]
        exact q.len
theorem s_fld {p : Pos} {f : Nat} {fx : Str} (hK : X.K = W.K) (hx : W.attr f = fx) (ha : SE W wx C X a ca) (he : SE W wx C X e ce) (hs : swapsWith e (some (.Attribute a fx p)) pos.line X.env = pure false) :
    SS W wx en fz C X (.Assign [.Attribute a fx p] e pos) (.asg (.fld ca f) ce) := (ps_fld ha he hs).imp fun D σ H h => by
  subst hx
  refine tS_e (ev := evE C ce) (f := fun env x S1 => (match Z.sink x with
    | some t => (match asgT C (.fld ca f) t env S1 with | .ok env' S2 => .nx env' S2 | _ => .no)
    | none => .no)) h fun F r env x S1 v H1 a1 rr n q => ?_
  cases et : Z.sink x with
  | none => rw [et] at q; exact q.elim
  | some t =>
    rw [et] at q
    dsimp only at q
    obtain ⟨F2, a2, rt, l2⟩ := a1.sink rr n et
    have q : FlOk W wx en fz F r σ D (match asgT C (.fld ca f) t env S1 with | .ok env' S2 => .nx env' S2 | _ => .no) := q
    split at q
    case h_2 => exact q.elim
    rename_i env' S2 e2
    obtain ⟨y, S3, e3, e2⟩ := bind_ok (show (evE C ca env S1).bind _ = _ from e2)
    refine ⟨F2, r, env, S1, a2.good, Rs.ok e3 fun o F3 r3 H3 s3 g3 rr3 n3 => ?_⟩
    cases ec : change env S3 y (Z.putF f t) with
    | none => rw [ec] at e2; cases e2
    | some z =>
      obtain ⟨env3, S4⟩ := z
      rw [ec] at e2
      cases e2
      have a3 := a2.on s3 g3
      obtain ⟨p, ob, ob', rfl, hF, hob, ep, wr⟩ := change_ok a3 rr3 ec
      cases ob with
      | ins c fs =>
        obtain ⟨hz, rfl⟩ := guardT_ok ep
        have hz := of_decide_eq_true hz
        obtain ⟨dx, fvs, ev, qf, ck⟩ := hob
        have hf : f < W.nat := Nat.lt_of_lt_of_le hz qf.few
        refine ⟨p, _, dx, fvs, rfl, ev, by rw [hK]; exact ck.1, by rw [hK]; exact ck.2.1 f hf, ?_, ?_⟩
        · have h1 := qf.len
          have h2 := List.length_filter_le Option.isSome fs
          have h3 := qf.few
          have h4 := W.few
          omega
        · exact Nxt.on (show Nxt W en fz F r σ env' S2 D.nx from q) (l2.trans s3.le) s3.pre Keep.refl σ F3 r3 _ (wr _ ⟨dx, _, upd_same, qf.put hz (rt.mono s3.le s3.pre), ck⟩) (Le.refl _) (Pre.refl _) Keep.refl
      | lst ts => cases ep
      | dct ks vs => cases ep
theorem set_same {A : Type} : ∀ {l : List A} {i : Nat} {x : A}, l[i]? = some x → l.set i x = l
  | [], i, x, h => by simp at h
  | y :: l, 0, x, h => by simp at h; subst h; rfl
  | y :: l, i + 1, x, h => by simp only [List.set_cons_succ, set_same (show l[i]? = some x by simpa using h)]
theorem s_ext {i : Nat} {x : Str} {p : Pos} (hN : X.N.Nodup) (hx : X.N[i]? = some x) (hl : Loc X.env.scope x) (hf : X.fn x = true ∨ X.env.scope.names.lookup x = some .local) (he : SE W wx C X e ce) :
    SS W wx en fz C X (.AugAssign (.Name x p) .Add e pos) (.ext i ce) := (ps_aug hN hx hl he iop_ext hf).imp fun D σ H h => by
  obtain ⟨F, r, env, S, a, h⟩ := h
  have h : FlOk W wx en fz F r σ D (match env[i]? with
    | some (.own (.lst ts)) => Fl.of env (evE C ce env S) fun y S1 => (match y with
      | .fresh (.lst us) => (match decide (ts.length + us.length ≤ LIM) with
        | true => .nx (env.set i (.own (.lst (ts ++ us)))) S1
        | false => .no)
      | _ => .no)
    | _ => .no) := h
  split at h
  · rename_i ts ei
    obtain ⟨q, si, hF, hr, ob⟩ := a.good.en.own i _ ei
    refine ⟨.ref q, si, F, r, env, S, a.good, (fl_rs a h).mono fun y S1 h w F1 r1 H1 s1 g1 rr1 n1 => ?_⟩
    have a1 := a.on s1 g1
    split at h
    · rename_i us
      cases hz : decide (ts.length + us.length ≤ LIM) with
      | false => rw [hz] at h; exact h.elim
      | true =>
        rw [hz] at h
        have hz := of_decide_eq_true hz
        obtain ⟨p1, rfl, hF1, hr1, ho1, zs, ez, rl1⟩ := rr1
        obtain ⟨q', si', hF', hr', xs, ex, rl⟩ := a1.good.en.own i _ ei
        rw [si] at si'
        cases si'
        refine ⟨q, p1, xs, zs, rfl, rfl, ex, ez, by rw [← rl.len, ← rl1.len]; exact hz, ?_⟩
        show D.nx (List.set σ i (some (V.ref q))) _
        rw [set_same si]
        exact (show Nxt W en fz F r σ (env.set i (.own (.lst (ts ++ us)))) S1 D.nx from h) σ F1 r1 _ (a1.write ei si ⟨xs ++ zs, upd_same, rl.app rl1⟩) s1.le s1.pre Keep.refl
    · exact h.elim
  · exact h.elim
theorem slot_at {F H : Hp} {r : List Addr} {σ : L2.St} {env : Env} {S : Store} {x : R} {v : V} {own : Bool} {o : Slot} {i : Nat} (a : At W en F r H σ env S) (rr : RRep W F r H σ env x v) (n : ∀ p, x.isFresh = true → v = .ref p → en.H p = none) (e : slotOf own x = some o) :
    ∃ F2, At W en F2 r H (σ.set i (some v)) (env.set i o) S ∧ Le F F2 ∧ (∀ p, F2 p ≠ none → F p ≠ none ∨ (x.isFresh = true ∧ v = .ref p)) ∧ ∀ p, OwnAt (σ.set i (some v)) (env.set i o) p → OwnAt σ env p ∨ (x.isFresh = true ∧ v = .ref p) := by
  have hown : ∀ p, OwnAt (σ.set i (some v)) (env.set i o) p → OwnAt σ env p ∨ (x.isFresh = true ∧ v = .ref p) := fun p ⟨j, u, z1, z2⟩ => by
    rcases set_own z1 with ⟨ej, eo, hl⟩ | ⟨nj, z⟩
    · subst ej
      rw [σset (by rw [← a.good.en.len]; exact hl)] at z2
      refine .inr ⟨?_, Option.some.inj (Option.some.inj z2)⟩
      subst eo
      cases own <;> cases x <;> first | rfl | (cases e; done) | skip
    · rw [List.getElem?_set_ne (Ne.symm nj)] at z2
      exact .inl ⟨j, u, z, z2⟩
  cases own with
  | true =>
    cases x with
    | fresh ob =>
      cases e
      obtain ⟨p, rfl, h1, h2, h3, h4⟩ := rr
      exact ⟨F, a.setOwn h1 h2 (fun j u _ ej ej2 => h3 ⟨j, u, ej, ej2⟩) h4 (n p rfl rfl), Le.refl F, fun _ z => .inl z, hown⟩
    | val t => cases e
    | own j => cases e
    | hot c l => cases e
  | false =>
    cases x with
    | val t => cases e; exact ⟨F, a.setVal rr, Le.refl F, fun _ z => .inl z, hown⟩
    | own j => cases e
    | hot c l => cases e
    | fresh ob =>
      have e : ob.toT.map Slot.val = some o := e
      cases q' : ob.toT with
      | none => rw [q'] at e; cases e
      | some t =>
        rw [q'] at e
        cases e
        obtain ⟨F2, s2, g2, rt, l, nw⟩ := sink_ok2 (F := en.F) (r := en.r) (H := en.H) (x := .fresh ob) a.good a.step rr (fun p hp => n p rfl hp) q'
        exact ⟨F2, At.setVal ⟨g2, s2, a.newO⟩ rt, l, nw, hown⟩
theorem s_par {i j : Nat} {oi oj : Bool} {st : Stmt} (h : PS X st (tPar i j (tCons (tE W wx (evE C ca)) (tCons (tE W wx (evE C cb)) tNil)))) (hi : i ∉ fz) (hj : j ∉ fz) (hij : i ≠ j) : SS W wx en fz C X st (.par i j oi oj ca cb) := h.imp fun D σ H h => by
  refine tS_e (ev := evE C ca) (f := fun env x S1 => Fl.of env (evE C cb env S1) fun y S2 => (match slotOf oi x, slotOf oj y with
    | some o, some u => .nx ((env.set i o).set j u) S2
    | _, _ => .no)) h fun F r env x S1 v H1 a1 rr1 n q => ?_
  refine ⟨F, r, env, S1, a1.good, (fl_rs a1 q).mono fun y S2 q w F2 r2 H2 s2 g2 rr2 n2 => ?_⟩
  refine ⟨v, w, rfl, ?_⟩
  have a2 := a1.on s2 g2
  have q := FlOk.on q s2.le s2.pre (Keep.refl (fz := fz) (σ := σ))
  have rr := rr1.step s2
  cases eo : slotOf oi x with
  | none => rw [eo] at q; exact q.elim
  | some o =>
    cases eu : slotOf oj y with
    | none => rw [eo, eu] at q; exact q.elim
    | some u =>
      rw [eo, eu] at q
      have ny : ∀ p, y.isFresh = true → w = .ref p → en.H p = none := fun p hy hw => by
        cases y with
        | fresh o => exact a1.step.free p (n2 p hw)
        | _ => cases hy
      obtain ⟨F3, a3, l3, f3, o3⟩ := slot_at (i := i) a2 rr n eo
      have apart : ∀ p, y.isFresh = true → w = .ref p → F3 p = none ∧ ¬ OwnAt (σ.set i (some v)) (env.set i o) p := fun p hy hw => by
        have ne : ∀ pq, x.isFresh = true → v = .ref pq → pq ≠ p := fun pq hx hv e => by
          subst e
          cases x with
          | fresh ob =>
            cases y with
            | fresh ob2 =>
              obtain ⟨q', e', _, _, _, h4⟩ := rr1
              rw [hv] at e'
              cases e'
              obtain ⟨z, hz⟩ := h4.there
              have := n2 pq hw
              rw [hz] at this
              cases this
            | _ => cases hy
          | _ => cases hx
        cases y with
        | fresh ob =>
          obtain ⟨p', e', h1, h2, h3, h4⟩ := rr2
          rw [hw] at e'
          cases e'
          refine ⟨?_, fun ho => ?_⟩
          · cases q3 : F3 p with
            | none => rfl
            | some z =>
              rcases f3 p (by rw [q3]; simp) with z1 | ⟨z1, z2⟩
              · exact absurd h1 z1
              · exact absurd rfl (ne p z1 z2)
          · rcases o3 p ho with z1 | ⟨z1, z2⟩
            · exact h3 z1
            · exact ne p z1 z2 rfl
        | _ => cases hy
      have ry : RRep W F3 r2 H2 (σ.set i (some v)) (env.set i o) y w := by
        cases y with
        | val t => exact Rep.mono l3 (Pre.refl _) rr2
        | own k => cases oj <;> cases eu
        | hot c l => cases oj <;> cases eu
        | fresh ob =>
          obtain ⟨p, rfl, h1, h2, h3, h4⟩ := rr2
          obtain ⟨z1, z2⟩ := apart p rfl rfl
          exact ⟨p, rfl, z1, h2, z2, by
            cases ob with
            | lst ts => obtain ⟨vs, ev, rl⟩ := h4; exact ⟨vs, ev, rl.mono l3 (Pre.refl _)⟩
            | ins c fs => obtain ⟨dx, fvs, ev, qf, ck⟩ := h4; exact ⟨dx, fvs, ev, qf.mono l3 (Pre.refl _), ck⟩
            | dct ks vs => exact h4⟩
      obtain ⟨F4, a4, l4, _, _⟩ := slot_at (i := j) a3 ry ny eu
      exact (show Nxt W en fz F2 r2 σ ((env.set i o).set j u) S2 D.nx from q) _ F4 r2 _ a4 (l3.trans l4) (Pre.refl _) ((Keep.set hi).trans (Keep.set hj))
theorem rr_after {F F3 H : Hp} {r : List Addr} {σ : L2.St} {env : Env} {x y : R} {v w : V} {o : Slot} {i : Nat} (rr : RRep W F r H σ env y w) (l3 : Le F F3) (f3 : ∀ p, F3 p ≠ none → F p ≠ none ∨ (x.isFresh = true ∧ v = .ref p))
    (o3 : ∀ p, OwnAt (σ.set i (some v)) (env.set i o) p → OwnAt σ env p ∨ (x.isFresh = true ∧ v = .ref p)) (ne : ∀ p, x.isFresh = true → v = .ref p → y.isFresh = true → w = .ref p → False) (nown : ∀ k, y ≠ .own k) (nhot : ∀ c l, y ≠ .hot c l) : RRep W F3 r H (σ.set i (some v)) (env.set i o) y w := by
  cases y with
  | val t => exact Rep.mono l3 (Pre.refl _) rr
  | own k => exact absurd rfl (nown k)
  | hot c l => exact absurd rfl (nhot c l)
  | fresh ob =>
    obtain ⟨p, rfl, h1, h2, h3, h4⟩ := rr
    refine ⟨p, rfl, ?_, h2, fun ho => ?_, ?_⟩
    · cases q3 : F3 p with
      | none => rfl
      | some z =>
        rcases f3 p (by rw [q3]; simp) with z1 | ⟨z1, z2⟩
        · exact absurd h1 z1
        · exact (ne p z1 z2 rfl rfl).elim
    · rcases o3 p ho with z1 | ⟨z1, z2⟩
      · exact h3 z1
      · exact ne p z1 z2 rfl rfl
    · cases ob with
      | lst ts => obtain ⟨vs, ev, rl⟩ := h4; exact ⟨vs, ev, rl.mono l3 (Pre.refl _)⟩
      | ins c fs => obtain ⟨dx, fvs, ev, qf, ck⟩ := h4; exact ⟨dx, fvs, ev, qf.mono l3 (Pre.refl _), ck⟩
      | dct ks vs => exact h4
theorem slot_nown {own : Bool} {x : R} {o : Slot} (e : slotOf own x = some o) (k : Nat) : x ≠ .own k := fun z => by subst z; cases own <;> cases e
theorem slot_nhot {own : Bool} {x : R} {o : Slot} (e : slotOf own x = some o) (c : Nat) (l : List T) : x ≠ .hot c l := fun z => by subst z; cases own <;> cases e
theorem rr_there {F H : Hp} {r : List Addr} {σ : L2.St} {env : Env} {x : R} {v : V} {p : Addr} (rr : RRep W F r H σ env x v) (hx : x.isFresh = true) (hv : v = .ref p) : ∃ u, H p = some u := by
  cases x with
  | fresh ob =>
    obtain ⟨q, e, _, _, _, h4⟩ := rr
    rw [hv] at e
    cases e
    exact h4.there
  | _ => cases hx
theorem s_par3 {i j l : Nat} {oi oj ol : Bool} {c : Expr} {cc : CE} {st : Stmt} (h : PS X st (tPar3 i j l (tCons (tE W wx (evE C ca)) (tCons (tE W wx (evE C cb)) (tCons (tE W wx (evE C cc)) tNil))))) (hi : i ∉ fz) (hj : j ∉ fz) (hl : l ∉ fz) : SS W wx en fz C X st (.par3 i j l oi oj ol ca cb cc) := h.imp fun D σ H h => by
  refine tS_e (ev := evE C ca) (f := fun env x S1 => Fl.of env (evE C cb env S1) fun y S2 => Fl.of env (evE C cc env S2) fun z S3 => (match slotOf oi x, slotOf oj y, slotOf ol z with
    | some o, some u, some q => .nx (((env.set i o).set j u).set l q) S3
    | _, _, _ => .no)) h fun F r env x S1 v H1 a1 rr1 n q => ?_
  refine ⟨F, r, env, S1, a1.good, (fl_rs a1 q).mono fun y S2 q w F2 r2 H2 s2 g2 rr2 n2 => ?_⟩
  have a2 := a1.on s2 g2
  have q := FlOk.on q s2.le s2.pre (Keep.refl (fz := fz) (σ := σ))
  refine ⟨F2, r2, env, S2, g2, (fl_rs a2 q).mono fun z S3 q m F3 r3 H3 s3 g3 rr3 n3 => ?_⟩
  refine ⟨v, w, m, rfl, ?_⟩
  have a3 := a2.on s3 g3
  have q := FlOk.on q s3.le s3.pre (Keep.refl (fz := fz) (σ := σ))
  cases eo : slotOf oi x with
  | none => rw [eo] at q; exact q.elim
  | some o =>
    cases eu : slotOf oj y with
    | none => rw [eo, eu] at q; exact q.elim
    | some u =>
      cases ez : slotOf ol z with
      | none => rw [eo, eu, ez] at q; exact q.elim
      | some u3 =>
        rw [eo, eu, ez] at q
        have ny : ∀ p, y.isFresh = true → w = .ref p → en.H p = none := fun p hy hw => by
          cases y with
          | fresh o => exact a1.step.free p (n2 p hw)
          | _ => cases hy
        have nz : ∀ p, z.isFresh = true → m = .ref p → en.H p = none := fun p hy hw => by
          cases z with
          | fresh o => exact a2.step.free p (n3 p hw)
          | _ => cases hy
        have xy : ∀ p, x.isFresh = true → v = .ref p → y.isFresh = true → w = .ref p → False := fun p hx hv hy hw => by
          obtain ⟨t, ht⟩ := rr_there rr1 hx hv
          cases y with
          | fresh o => rw [n2 p hw] at ht; cases ht
          | _ => cases hy
        have xz : ∀ p, x.isFresh = true → v = .ref p → z.isFresh = true → m = .ref p → False := fun p hx hv hy hw => by
          obtain ⟨t, ht⟩ := rr_there (rr1.step s2) hx hv
          cases z with
          | fresh o => rw [n3 p hw] at ht; cases ht
          | _ => cases hy
        have yz : ∀ p, y.isFresh = true → w = .ref p → z.isFresh = true → m = .ref p → False := fun p hx hv hy hw => by
          obtain ⟨t, ht⟩ := rr_there rr2 hx hv
          cases z with
          | fresh o => rw [n3 p hw] at ht; cases ht
          | _ => cases hy
        obtain ⟨F4, a4, l4, f4, o4⟩ := slot_at (i := i) a3 ((rr1.step s2).step s3) n eo
        have ry := rr_after (x := x) (rr2.step s3) l4 f4 o4 xy (slot_nown eu) (slot_nhot eu)
        have rz := rr_after (x := x) rr3 l4 f4 o4 xz (slot_nown ez) (slot_nhot ez)
        obtain ⟨F5, a5, l5, f5, o5⟩ := slot_at (i := j) a4 ry ny eu
        have rz2 := rr_after (x := y) rz l5 f5 o5 yz (slot_nown ez) (slot_nhot ez)
        obtain ⟨F6, a6, l6, _, _⟩ := slot_at (i := l) a5 rz2 nz ez
        exact (show Nxt W en fz F3 r3 σ (((env.set i o).set j u).set l u3) S3 D.nx from q) _ F6 r3 _ a6 ((l4.trans l5).trans l6) (Pre.refl _) (((Keep.set hi).trans (Keep.set hj)).trans (Keep.set hl))
end
end Z
set_option Elab.async false
set_option linter.all false
set_option maxRecDepth 100000
set_option maxHeartbeats 4000000
namespace Z
open PySem PySem.Spec PyProof.Rows L2
section
variable {W : WT} {wx : WX} {en : Ent} {fz : List Nat} {X : Cx} {C : EC} {a b e : Expr} {es : List Expr} {ca cb ce : CE} {ces : CEs} {pos : Pos}
def gFldX (K : PySem.W.Frag) (ta : TE) (f : Str) : TG := fun v σ H Q => ta σ H fun x H1 => ∃ p C dx fs, x = .ref p ∧ H1 p = some (.ins C dx fs) ∧ Cls K C ∧ NoAttr K C f ∧ fs.length < 1000 ∧ Q σ (upd H1 p (.ins C dx (L2.putF f v fs)))
theorem pg_fld {f : Str} {ta : TE} (ha : PE X a ta) : PG X (.Attribute a f pos) (gFldX X.K ta f) := by
  refine ⟨fun pins s σ H v u Q I r h => ?_⟩
  have ee : assign (.Attribute a f pos) X.env u = (do
    let ov ← holding [u] (eval a X.env)
    standAt pos.atName
    holding [u, ov] (setAttr ov f u)
    release [u, ov] []) := by first | rfl | simp only [assign]
  rw [ee]
  refine wpAny_bind (wpAny_holding (thn (ha.run pins s σ H _ I h) fun ov s1 ⟨x, H1, I1, r1, p, C, dx, fs, ex, ep, cl, na, hl, q⟩ => ?_))
  subst ex
  obtain rfl : ov = Value.ref p := r1
  refine wpAny_bind (wpAny_standAt (wpAny_bind (wpAny_holding (setattr_ok I1 ep cl na hl r fun s2 I2 => ?_))))
  exact wpAny_release ⟨σ, _, I2, q⟩
theorem g_fld {f : Nat} {fx : Str} (hK : X.K = W.K) (hx : W.attr f = fx) (ha : SE W wx C X a ca) : SG W wx en fz C X (.Attribute a fx pos) (.fld ca f) := (pg_fld ha).imp fun v σ H Q h => by
  subst hx
  obtain ⟨F, r, env, S, t, env', S', a0, rt, e, n⟩ := h
  obtain ⟨y, S3, e3, e2⟩ := bind_ok (show (evE C ca env S).bind _ = _ from e)
  refine ⟨F, r, env, S, a0.good, Rs.ok e3 fun o F3 r3 H3 s3 g3 rr3 n3 => ?_⟩
  cases ec : change env S3 y (Z.putF f t) with
  | none => rw [ec] at e2; cases e2
  | some z =>
    obtain ⟨env3, S4⟩ := z
    rw [ec] at e2
    cases e2
    obtain ⟨p, ob, ob', rfl, hF, hob, ep, wr⟩ := change_ok (a0.on s3 g3) rr3 ec
    cases ob with
    | ins c fs =>
      obtain ⟨hz, rfl⟩ := guardT_ok ep
      have hz := of_decide_eq_true hz
      obtain ⟨dx, fvs, ev, qf, ck⟩ := hob
      refine ⟨p, _, dx, fvs, rfl, ev, by rw [hK]; exact ck.1, by rw [hK]; exact ck.2.1 f (Nat.lt_of_lt_of_le hz qf.few), ?_, ?_⟩
      · have h1 := qf.len
        have h2 := List.length_filter_le Option.isSome fs
        have h3 := qf.few
        have h4 := W.few
        omega
      · exact n _ F3 r3 _ (wr _ ⟨dx, _, upd_same, qf.put hz (rt.mono s3.le s3.pre), ck⟩) s3.le s3.pre Keep.refl
    | lst ts => cases ep
    | dct ks vs => cases ep
theorem clsO_ok {F H : Hp} {r : List Addr} {p : Addr} {o : Ob} {c : Nat} (h : ObRep W F r H p o) (e : clsO (some o) = some c) : ∃ dx fvs, H p = some (.ins (W.cadr c) dx fvs) := by
  cases o with
  | ins d fs => cases e; obtain ⟨dx, fvs, z, _⟩ := h; exact ⟨dx, fvs, z⟩
  | lst ts => cases e
  | dct ks vs => cases e
theorem clsR_ok {F H : Hp} {r : List Addr} {σ : L2.St} {env : Env} {S : Store} {x : R} {v : V} {c : Nat} (g : Good W F r H σ env S) (rr : RRep W F r H σ env x v) (e : clsR env S x = some c) : ∃ p dx fvs, v = .ref p ∧ H p = some (.ins (W.cadr c) dx fvs) := by
  cases x with
  | val t =>
    cases t with
    | ref n =>
      cases (show Rep W F r (.ref n) v from rr) with
      | ref hr =>
        have e : clsO S[n]? = some c := e
        cases es : S[n]? with
        | none => rw [es] at e; cases e
        | some o =>
          rw [es] at e
          obtain ⟨dx, fvs, z⟩ := clsO_ok (g.st.at_ n _ o hr es).2 e
          exact ⟨_, dx, fvs, rfl, z⟩
    | _ => cases e
  | own i =>
    obtain ⟨o, eo, hs⟩ := rr
    obtain ⟨p, hp, _, _, ob⟩ := g.en.own i o eo
    rw [hs] at hp
    cases hp
    have e : (match env[i]? with | some (.own o) => clsO (some o) | _ => none) = some c := e
    rw [eo] at e
    obtain ⟨dx, fvs, z⟩ := clsO_ok ob e
    exact ⟨_, dx, fvs, rfl, z⟩
  | fresh o => cases e
  | hot c l => cases e
theorem s_augf {p : Pos} {f : Nat} {fx : Str} (hK : X.K = W.K) (hx : W.attr f = fx) (ha : SE W wx C X a ca) (he : SE W wx C X e ce) : SS W wx en fz C X (.AugAssign (.Attribute a fx p) .Add e pos) (.augf ca f ce) := (ps_fldaug ha he in_add).imp fun D σ H h => by
  subst hx
  refine tS_e (ev := evE C ca) (f := fun env x S1 => (match fldR env S1 x f with
    | some (.int i) => Fl.of env (evE C ce env S1) fun y S2 => (match y with
      | .val (.int j) => (match (clsR env S1 x).isSome && clsR env S2 x == clsR env S1 x with
        | true => (match change env S2 x (Z.putF f (.int (i + j))) with | some (env', S') => .nx env' S' | none => .no)
        | false => .no)
      | _ => .no)
    | _ => .no)) h fun F r env x S1 v H1 a1 rr n q => ?_
  split at q
  case h_2 => exact q.elim
  rename_i i ef
  obtain ⟨p, Ca, dx, fs, y, rfl, h1, h2, h3, h4, h5⟩ := fldR_ok a1.good rr ef
  cases (show y = .int i from Vw.of_rep a1.good.le h5 fun m z => nomatch z)
  refine ⟨p, Ca, dx, fs, _, rfl, h1, by rw [hK]; exact h2, by rw [hK]; exact h3, h4, ?_⟩
  refine ⟨F, r, env, S1, a1.good, (fl_rs a1 q).mono fun y S2 q2 w F2 r2 H2 s2 g2 rr2 n2 => ?_⟩
  split at q2
  case h_2 => exact q2.elim
  rename_i j
  cases (show w = .int j from Vw.of_rep g2.le rr2 fun m z => nomatch z)
  refine ⟨i, j, rfl, rfl, ?_⟩
  split at q2
  case h_2 => exact q2.elim
  rename_i eq2
  rw [Bool.and_eq_true, beq_iff_eq] at eq2
  cases ec : change env S2 x (Z.putF f (.int (i + j))) with
  | none => rw [ec] at q2; exact q2.elim
  | some z =>
    obtain ⟨env3, S4⟩ := z
    rw [ec] at q2
    obtain ⟨p2, ob, ob', e2, hF, hob, ep, wr⟩ := change_ok (a1.on s2 g2) (rr.step s2) ec
    cases e2
    cases ob with
    | ins c fs2 =>
      obtain ⟨hz, rfl⟩ := guardT_ok ep
      have hz := of_decide_eq_true hz
      obtain ⟨dx2, fvs, ev, qf, ck⟩ := hob
      obtain ⟨c1, ec1⟩ := Option.isSome_iff_exists.mp eq2.1
      obtain ⟨p1, dx1, fv1, e1, z1⟩ := clsR_ok a1.good rr ec1
      cases e1
      rw [h1] at z1
      cases z1
      obtain ⟨p3, dx3, fv3, e3, z3⟩ := clsR_ok g2 (rr.step s2) (eq2.2.trans ec1)
      cases e3
      rw [ev] at z3
      have eC : W.cadr c1 = W.cadr c := by injection (Option.some.inj z3) with e4; exact e4.symm
      rw [eC]
      refine ⟨dx2, fvs, ev, ?_, ?_⟩
      · have h1 := qf.len
        have h2 := List.length_filter_le Option.isSome fs2
        have h3 := qf.few
        have h4 := W.few
        omega
      · exact Nxt.on (show Nxt W en fz F r σ env3 S4 D.nx from q2) s2.le s2.pre Keep.refl σ F2 r2 _ (wr _ ⟨dx2, _, upd_same, qf.put hz (.int _), ck⟩) (Le.refl _) (Pre.refl _) Keep.refl
    | lst ts => cases ep
    | dct ks vs => cases ep
theorem e_tups {sp : Pos} {j : Nat} (hK : X.K = W.K) (ha : SE W wx C X a ca) (hs : SA W wx C X es ces) : SE W wx C X (.Tuple (.Starred a sp :: es) j pos) (.tups ca ces) := by
  refine (pe_tup (StX.pa_star ha hs)).imp fun σ H Q h => ?_
  obtain ⟨F, r, env, S, g, h⟩ := h
  refine ⟨F, r, env, S, g, Rs.bind (show Rs W wx F r H σ env ((evE C ca env S).bind _) _ from h) fun x S1 h v F1 r1 H1 s1 g1 rr n1 => ?_⟩
  match x, h, rr with
  | .val (.tup us), h, rr =>
    obtain ⟨p, ws, rfl, sq, rl⟩ := (show Vw W F1 r1 H1 (.tup us) v from Vw.of_rep g1.le rr fun m z => nomatch z)
    refine ⟨p, ws, rfl, .inl (by rw [hK]; exact g1.le.sqT sq), F1, r1, env, S1, g1, Rs.bind ((show Rs W wx F r H σ env ((evEs C ces env S1).bind _) _ from h).on s1 fun _ _ z => z) fun ts S2 h vs F2 r2 H2 s2 g2 rl2 => ?_⟩
    obtain ⟨z, ez, p2⟩ := Rs.of h
    obtain ⟨hl, rfl⟩ := guardT_ok ez
    have hl := of_decide_eq_true hl
    refine ⟨?_, fun q hq => (Post.weak p2 (s1.trans s2)).tup g2 ((rl.mono s2.le s2.pre).app rl2) hq⟩
    rw [List.length_append, ← rl.len, ← rl2.len]
    exact hl
end
end Z
set_option Elab.async false
set_option linter.all false
set_option maxRecDepth 100000
set_option maxHeartbeats 4000000
namespace Z
open PySem PySem.Spec PyProof.Rows L2
theorem enumB {v : Value} {o : Obj} {P : Heap → Prop} (B : Begins v o P) :
    Meets (Builtin.«enumerate.__new__» ⟨[.type "enumerate", v], []⟩) (fun _ R s => P s.heap ∧
      R (.ok (.ret (.ref (s.heap.push o).objs.size))) { s with heap := (s.heap.push o).push { cls := .type "enumerate", data := .fields #[.none, .bool false, .ref s.heap.objs.size, rawInt 0, .none, .none] } }) :=
  .of_wp fun prog w A R s z => by
    obtain ⟨hp, g, d, tk, os⟩ := s
    obtain ⟨hP, z⟩ := z
    have hsub := sub_enumerate
    have q1 : ∀ {A' : Around} {E : Value → Shared → Prop} {Q : Value → Shared → Prop}, Q (.ref hp.objs.size) ⟨hp.push o, g, d, tk, os⟩ → wpAny (model prog w) A' (pyIter v) Q E ⟨hp, g, d, tk, os⟩ :=
      fun q => B.iter prog w _ _ ⟨hp, g, d, tk, os⟩ _ hP q
    wp_walk using q1
    refine wpAny_stack_any fun st => wpAny_pure ?_
    split
    · rename_i c _ _ _ _ _
      cases (c == Value.type "enumerate") <;> (wp_walk using q1; exact ⟨_, rfl, z⟩)
    · wp_walk using q1
      exact ⟨_, rfl, z⟩
theorem enum1 {prog : Program} {w : World} {A : Around} {E : Value → Shared → Prop} {s : Shared} {v : Value} {o : Obj} {P : Heap → Prop} {Q : Value → Shared → Prop} (B : Begins v o P) (hP : P s.heap)
    (h : ∀ h', IsEnum h' (s.heap.objs.size + 1) s.heap.objs.size 0 .none → h'.get? s.heap.objs.size = some o → (∀ b u, s.heap.get? b = some u → h'.get? b = some u) → Q (.ref (s.heap.objs.size + 1)) { s with heap := h' }) :
    wpAny (model prog w) A (call (.type "enumerate") [v]) Q E s := by
  refine callType_new F.called_enumerate (by decide) (F.typeCall_enumerate_1 _) (F.newCall_enumerate_1 _) (fun obj => F.args_object_init_2 obj _) F.entry_enumerate_new (enumB B) ⟨hP, ?_⟩
  have hz : (s.heap.push o).objs.size = s.heap.objs.size + 1 := Heap.size_push ..
  show _ ∧ _
  rw [hz]
  have he : IsEnum ((s.heap.push o).push { cls := .type "enumerate", data := .fields #[.none, .bool false, .ref s.heap.objs.size, rawInt 0, .none, .none] }) (s.heap.objs.size + 1) s.heap.objs.size 0 .none :=
    hz ▸ Heap.get?_push_size (s.heap.push o) (o := { cls := .type "enumerate", data := .fields #[.none, .bool false, .ref s.heap.objs.size, rawInt 0, .none, .none] }) rfl
  exact ⟨⟨_, he, rfl⟩, h _ he (Heap.get?_push_of_some _ (Heap.get?_push_size _ B.free)) fun b u x => Heap.get?_push_of_some _ (Heap.get?_push_of_some _ x)⟩
def IteT (K : PySem.W.Frag) (a : Addr) : It :=
  ⟨fun i H => ∃ (xs : List V) (x : V), SqT K H a xs ∧ xs[i]? = some x, fun i H v H' => ∃ p x, v = .ref p ∧ H p = none ∧ H' = upd H p (.tup [.int (i : Nat), x]) ∧ ∀ xs, SqT K H a xs → xs[i]? = some x, fun i H => ∃ xs : List V, SqT K H a xs ∧ xs.length = i⟩
theorem turn_enumT {P : Program} {w : World} {K : PySem.W.Frag} {elts : List Expr} {kk : Nat} {tpos : Pos} (a e it : Addr) (nai : a ≠ it) :
    Turn P w K (.Tuple elts kk tpos) (IteT K a) [e, it] e (fun i h => (∃ old, IsEnum h e it ((i : Nat) : Int) old) ∧ h.IsTupleIter it a i ∧ e ≠ it) where
  mem := List.mem_cons_self
  obj := fun i h ⟨⟨old, he⟩, ⟨o, ho, hc, hd⟩, _⟩ b hb => by
    rcases List.mem_cons.mp hb with z | z
    · subst z; exact ⟨_, he, fun v q => nomatch q⟩
    · rw [List.mem_singleton.mp z]; exact ⟨o, ho, fun v q => by rw [hd] at q; cases q⟩
  keep := fun i h h' ⟨⟨old, he⟩, hi, hne⟩ k => ⟨⟨old, k e (by simp) _ he⟩, hi.at fun o q => k it (by simp) o q, hne⟩
  item := by
    intro X hP hw hK hc i pins s σ H E I hf ⟨⟨old, he⟩, hit, hne⟩ ⟨xs, x, hq, hx⟩
    subst hP hw hK
    obtain ⟨its, rv, p, hz⟩ := I.tuple hq
    obtain ⟨u, hu, ru⟩ := rv.get hx
    have hil : i < its.toArray.size := by
      have := (List.getElem?_eq_some_iff.mp hu).1
      simpa using this
    have hel : e < s.heap.objs.size := Heap.lt_size he
    have hitl : it < s.heap.objs.size := by obtain ⟨_, q, _⟩ := hit; exact Heap.lt_size q
    have nea : e ≠ a := fun z => by
      subst z
      obtain ⟨o, q, qc, _⟩ := p
      rw [he] at q
      cases q
      have qc : Value.type "enumerate" = Value.type "tuple" := qc
      injection qc with qc
      exact absurd qc (by decide)
    have D := Draws.tuple (prog := X.prog) (w := X.w) (A := X.A.in1) (show X.A.in1.handled = none from I.ok.hd hc) it a nai its.toArray
    refine wpAny_pyNext_enum_itemD D he ⟨hit, p⟩ hil hne (by simp; exact ⟨hne, nea⟩) fun u2 h' tk hP ho hst hT hsz hk => ?_
    have eu : u2 = u := by
      have : its.toArray[i]? = some u2 := hP
      rw [List.getElem?_toArray, hu] at this
      exact (Option.some.inj this).symm
    subst eu
    refine ⟨_, rfl, wpAny_letOwnedTupleGo_enum (s := { s with heap := h', toks := tk + 1 }) ho fun h'' he' sb => ?_⟩
    have hT2 : h''.get? s.heap.objs.size = some { cls := .type "tuple", data := .seq #[.int i tk, u2] } := (sb.2 _ (Nat.ne_of_gt hel)).trans hT
    have new : ObjOk X.prog X.w (upd H s.heap.objs.size (.tup [.int (i : Nat), x])) h'' s.heap.objs.size (.tup [.int (i : Nat), x]) :=
      ⟨(by decide : 2 ≤ sizeLine), [.int i tk, u2], .cons ⟨_, rfl⟩ (.cons ru .nil), ⟨_, hT2, rfl, _, rfl⟩⟩
    have I1 : Inv X pins σ (upd H s.heap.objs.size (.tup [.int (i : Nat), x])) { s with heap := h'', toks := tk + 1 } :=
      I.turnedNew (ch := [e, it]) (fun b ob hb q => (sb.2 b (fun z => hb (by simp [z]))).trans (hk b ob (fun z => hb (by simp [z])) (fun z => hb (by simp [z])) q)) hf (Nat.le_refl _) new
    refine ⟨.ref s.heap.objs.size, _, I1, rfl, ⟨_, x, rfl, I.hok.fresh (Nat.le_refl _), rfl, fun ys hy => by rw [I.tuple_inj hy hq]; exact hx⟩, ⟨⟨u2, ?_⟩, hst.1.at fun o q => (sb.2 it (Ne.symm hne)).trans q, hne⟩, fun b hb => ?_⟩
    · have e1 : ((i + 1 : Nat) : Int) = (i : Int) + 1 := Int.natCast_succ i
      rw [e1]; exact he'
    · have hb' : b < s.heap.objs.size := by
        rcases List.mem_cons.mp hb with z | z
        · subst z; exact hel
        · rw [List.mem_singleton.mp z]; exact hitl
      rw [upd_ne (Nat.ne_of_lt hb')]
      exact (hf b hb).1
  done := by
    intro X hP hw hK hc i pins s σ H E I hf ⟨⟨old, he⟩, hit, hne⟩ ⟨xs, hq, hx⟩
    subst hP hw hK
    obtain ⟨its, rv, p, hz⟩ := I.tuple hq
    obtain ⟨f0, f1, f2, f3, f4, f5⟩ := hf it (by simp)
    have D := Draws.tuple (prog := X.prog) (w := X.w) (A := X.A.in1) (show X.A.in1.handled = none from I.ok.hd hc) it a nai its.toArray
    have n : i = its.toArray.size := by rw [← hx, List.size_toArray, rv.length]
    refine wpAny_pyNext_enum_endD D he ⟨n ▸ hit, p⟩ fun h' eb => ⟨rfl, I.turned (t' := s.toks) (fun b o hb q => eb b o hb q) f0 f1 f3 f4 f5⟩
  self := fun A i s Q E ⟨⟨_, he⟩, _⟩ h => wpAny_pyIter_enum he h
def iEnumA (K : PySem.W.Frag) (ta : TA) : TI := fun σ H R => ta σ H fun vs H1 => ∃ a, vs = [.ref a] ∧ ((∃ xs, SqL K H1 a xs ∧ R (Ite K a) H1) ∨ ∃ xs, SqT K H1 a xs ∧ R (IteT K a) H1)
section
variable {X : Cx} {tg e : Expr} {te : TE} {ta : TA} {p pos tpos : Pos} {elts : List Expr} {kk : Nat}
theorem pi_enumA (hg : Gl X "enumerate") (hm : X.mg "enumerate" = none) (ha : PA X [e] ta) (hs : starEach [e] X.env = [(false, eval e X.env)]) : PI X (.Tuple elts kk tpos) (.Call (.Name "enumerate" p) [e] [] pos) (iEnumA X.K ta) := by
  refine ⟨fun pins s σ H R I h => Call_ (ld_blt I hg hm boot_enumerate (PyProof.Rows.callWith_type1 (thn (ha.run pos pins s σ H _ I h) fun us s1 ⟨vs, H1, I1, r1, q1⟩ => ?_) hs rfl))⟩
  obtain ⟨a, ex, q1⟩ := q1
  subst ex
  obtain ⟨u, rfl, ru⟩ := r1.one
  cases ru
  have fps : ∀ b ∈ [s1.heap.objs.size + 1, s1.heap.objs.size], FpOk X pins H1 b := fun b hb => by
    have hle : s1.heap.objs.size ≤ b := by
      rcases List.mem_cons.mp hb with z | z
      · rw [z]; exact Nat.le_succ _
      · rw [List.mem_singleton.mp z]; exact Nat.le_refl _
    exact I1.fpOk hle (I1.hok.fresh hle)
  rcases q1 with ⟨xs, hq, q⟩ | ⟨xs, hq, q⟩
  · obtain ⟨its, rv, p', hz⟩ := I1.list hq
    refine call_enumerate_list p'.isList fun h' he hit hsz hk => wpAny_pyIter_enum he ?_
    exact ⟨_, [s1.heap.objs.size + 1, s1.heap.objs.size], _, _, H1, rfl, I1.kept (t' := s1.toks) hk, turn_enum a (s1.heap.objs.size + 1) s1.heap.objs.size, ⟨⟨.none, he⟩, hit, Nat.succ_ne_self _⟩, fps, q⟩
  · obtain ⟨its, rv, p', hz⟩ := I1.tuple hq
    have al : a < s1.heap.objs.size := by obtain ⟨_, q', _⟩ := p'; exact Heap.lt_size q'
    refine enum1 (begins_tuple a its.toArray) p' fun h' he hit hk => wpAny_pyIter_enum he ?_
    exact ⟨_, [s1.heap.objs.size + 1, s1.heap.objs.size], _, _, H1, rfl, I1.kept (t' := s1.toks) hk, turn_enumT a (s1.heap.objs.size + 1) s1.heap.objs.size (Nat.ne_of_lt al), ⟨⟨.none, he⟩, ⟨_, hit, rfl, rfl⟩, Nat.succ_ne_self _⟩, fps, q⟩
def iAny (K : PySem.W.Frag) (te : TE) : TI := fun σ H R => te σ H fun x H1 => ∃ a, x = .ref a ∧ ((∃ xs, SqL K H1 a xs ∧ R (Itl K a) H1) ∨ ∃ xs, SqT K H1 a xs ∧ R (Itt K a) H1)
theorem pi_any (he : PE X e te) : PI X tg e (iAny X.K te) := by
  refine ⟨fun pins s σ H R I h => thn (he.run pins s σ H _ I h) fun v s1 ⟨x, H1, I1, r1, a, ex, q1⟩ => ?_⟩
  subst ex
  cases r1
  have fps : ∀ b ∈ [s1.heap.objs.size], FpOk X pins H1 b := fun b hb => by
    rw [List.mem_singleton.mp hb]
    exact I1.fpOk (Nat.le_refl _) (I1.hok.fresh (Nat.le_refl _))
  rcases q1 with ⟨xs, hq, q⟩ | ⟨xs, hq, q⟩
  · obtain ⟨its, rv, p, hz⟩ := I1.list hq
    exact wpAny_pyIter_list p.isList ⟨_, [s1.heap.objs.size], _, _, H1, rfl, I1.kept (t' := s1.toks) fun b o z => Heap.get?_push_of_some _ z, turn_list a _, ⟨_, Heap.get?_push_size _ rfl, rfl, rfl⟩, fps, q⟩
  · obtain ⟨its, rv, p, hz⟩ := I1.tuple hq
    exact wpAny_pyIter_tuple (show s1.heap.IsTuple a its.toArray from p) ⟨_, [s1.heap.objs.size], _, _, H1, rfl, I1.kept (t' := s1.toks) fun b o z => Heap.get?_push_of_some _ z, turn_tuple a _, ⟨_, Heap.get?_push_size _ rfl, rfl, rfl⟩, fps, q⟩
end
end Z
set_option Elab.async false
set_option linter.all false
set_option maxRecDepth 100000
set_option maxHeartbeats 4000000
namespace Z
open PySem PySem.Spec PyProof.Rows L2
section
variable {W : WT} {F F1 F2 H H1 H2 : Hp} {r r1 r2 : List Addr} {σ : L2.St} {env : Env} {S S1 : Store}
inductive Yld (F H : Hp) : Hp → Hp → Prop
  | same : Yld F H F H
  | new {p : Addr} (vs : List V) : H p = none → Yld F H (upd F p (.tup vs)) (upd H p (.tup vs))
theorem Yld.good (y : Yld F H F1 H1) (g : Good W F r H σ env S) : Good W F1 r H1 σ env S ∧ Step F r H F1 r H1 := by
  cases y with
  | same => exact ⟨g, Step.refl F r H⟩
  | new vs n =>
    obtain ⟨f1, f2, f3⟩ := g.fresh n
    exact ⟨(g.laid n _).freeze f1 f2 f3 upd_same, (Step.laid F r n _).freeze F r n f1⟩
def ItOk (W : WT) (J : It) (ts : List T) (F : Hp) (r : List Addr) (Kp : Hp → Prop) : Prop :=
  ∀ (F2 : Hp) (r2 : List Addr) (H2 : Hp), Le F F2 → Pre r r2 → Le F2 H2 → Kp H2 →
    (∀ (i : Nat) (t : T), ts[i]? = some t → J.go i H2 ∧ ∀ (v : V) (H3 : Hp), J.yld i H2 v H3 → ∃ F3, Yld F2 H2 F3 H3 ∧ Rep W F3 r2 t v) ∧ J.stop ts.length H2
theorem it_list {a : Addr} {ts : List T} {vs : List V} {Kp : Hp → Prop} (rl : RepL W F r ts vs) (h : ∀ F2 H2, Le F F2 → Le F2 H2 → Kp H2 → SqL W.K H2 a vs) : ItOk W (Itl W.K a) ts F r Kp := fun F2 r2 H2 l p l2 k => by
  have sq := h F2 H2 l l2 k
  refine ⟨fun i t hi => ?_, vs, sq, by rw [rl.len]; exact Nat.le_refl _⟩
  obtain ⟨v, hv, rt⟩ := rl.get hi
  refine ⟨⟨vs, v, sq, hv⟩, fun w H3 y => ?_⟩
  obtain ⟨rfl, y⟩ := y
  have e := y vs sq
  rw [hv] at e
  cases e
  exact ⟨F2, .same, rt.mono l p⟩
theorem it_tup {a : Addr} {ts : List T} {vs : List V} {Kp : Hp → Prop} (rl : RepL W F r ts vs) (h : ∀ F2 H2, Le F F2 → Le F2 H2 → Kp H2 → SqT W.K H2 a vs) : ItOk W (Itt W.K a) ts F r Kp := fun F2 r2 H2 l p l2 k => by
  have sq := h F2 H2 l l2 k
  refine ⟨fun i t hi => ?_, vs, sq, by rw [rl.len]; exact Nat.le_refl _⟩
  obtain ⟨v, hv, rt⟩ := rl.get hi
  refine ⟨⟨vs, v, sq, hv⟩, fun w H3 y => ?_⟩
  obtain ⟨rfl, y⟩ := y
  have e := y vs sq
  rw [hv] at e
  cases e
  exact ⟨F2, .same, rt.mono l p⟩
theorem rangeT_get {lo hi : Int} {i : Nat} {t : T} (h : (rangeT lo hi)[i]? = some t) : i < (hi - lo).toNat ∧ t = .int (lo + i) := by
  unfold rangeT at h
  rw [List.getElem?_map] at h
  cases e : (List.range (hi - lo).toNat)[i]? with
  | none => rw [e] at h; cases h
  | some k =>
    rw [e] at h
    cases h
    obtain ⟨h1, h2⟩ := List.getElem?_eq_some_iff.mp e
    simp at h1 h2
    subst h2
    exact ⟨by omega, rfl⟩
theorem it_range {lo hi : Int} {Kp : Hp → Prop} : ItOk W (Itr lo (hi - lo).toNat) (rangeT lo hi) F r Kp := fun F2 r2 H2 l p l2 k => by
  refine ⟨fun i t h => ?_, by show (hi - lo).toNat ≤ _; simp [rangeT]⟩
  obtain ⟨h1, rfl⟩ := rangeT_get h
  refine ⟨h1, fun v H3 y => ?_⟩
  obtain ⟨rfl, rfl⟩ := y
  exact ⟨F2, .same, .int _⟩
theorem enumT_get : ∀ (ts : List T) (k : Int) (i : Nat) (t : T), (enumT k ts)[i]? = some t → ∃ u, ts[i]? = some u ∧ t = .tup [.int (k + i), u]
  | [], k, i, t, h => by simp [enumT] at h
  | u :: ts, k, 0, t, h => by
    simp [enumT] at h
    exact ⟨u, rfl, by rw [← h]; simp⟩
  | u :: ts, k, i + 1, t, h => by
    have h : (enumT (k + 1) ts)[i]? = some t := by simpa [enumT] using h
    obtain ⟨w, h1, h2⟩ := enumT_get ts (k + 1) i t h
    refine ⟨w, by simpa using h1, ?_⟩
    rw [h2, show k + 1 + (i : Int) = k + ((i + 1 : Nat) : Int) by omega]
theorem enumT_len : ∀ (ts : List T) (k : Int), (enumT k ts).length = ts.length
  | [], _ => rfl
  | _ :: ts, k => by simp [enumT, enumT_len ts (k + 1)]
theorem RepL.two {t u : T} {v w : V} (h : Rep W F r t v) (k : Rep W F r u w) : RepL W F r [t, u] [v, w] := .cons h (.cons k .nil)
theorem pair_rep {t u : T} {v w : V} {p : Addr} (l : Le F2 H2) (n : H2 p = none) (h : Rep W F2 r t v) (k : Rep W F2 r u w) : Rep W (upd F2 p (.tup [v, w])) r (.tup [t, u]) (.ref p) := by
  have f : F2 p = none := by
    cases q : F2 p with
    | none => rfl
    | some z => rw [l p z q] at n; cases n
  have rl := (RepL.two h k).mono (le_upd (o := .tup [v, w]) f) (Pre.refl r)
  exact .tup (.of upd_same) rl.len rl.at_
theorem it_enum {a : Addr} {ts : List T} {vs : List V} {Kp : Hp → Prop} (rl : RepL W F r ts vs) (h : ∀ F2 H2, Le F F2 → Le F2 H2 → Kp H2 → SqL W.K H2 a vs) : ItOk W (Ite W.K a) (enumT 0 ts) F r Kp := fun F2 r2 H2 l p l2 k => by
  have sq := h F2 H2 l l2 k
  refine ⟨fun i t hi => ?_, vs, sq, by rw [enumT_len, rl.len]; exact Nat.le_refl _⟩
  obtain ⟨u, hu, rfl⟩ := enumT_get ts 0 i t hi
  obtain ⟨v, hv, rt⟩ := rl.get hu
  refine ⟨⟨vs, v, sq, hv⟩, fun w H3 y => ?_⟩
  obtain ⟨q, x, rfl, n, rfl, y⟩ := y
  have e := y vs sq
  rw [hv] at e
  cases e
  exact ⟨_, .new _ n, by rw [Int.zero_add]; exact pair_rep l2 n (.int _) (rt.mono l p)⟩
theorem it_enumT {a : Addr} {ts : List T} {vs : List V} {Kp : Hp → Prop} (rl : RepL W F r ts vs) (h : ∀ F2 H2, Le F F2 → Le F2 H2 → Kp H2 → SqT W.K H2 a vs) : ItOk W (IteT W.K a) (enumT 0 ts) F r Kp := fun F2 r2 H2 l p l2 k => by
  have sq := h F2 H2 l l2 k
  refine ⟨fun i t hi => ?_, vs, sq, by rw [enumT_len, rl.len]⟩
  obtain ⟨u, hu, rfl⟩ := enumT_get ts 0 i t hi
  obtain ⟨v, hv, rt⟩ := rl.get hu
  refine ⟨⟨vs, v, sq, hv⟩, fun w H3 y => ?_⟩
  obtain ⟨q, x, rfl, n, rfl, y⟩ := y
  have e := y vs sq
  rw [hv] at e
  cases e
  exact ⟨_, .new _ n, by rw [Int.zero_add]; exact pair_rep l2 n (.int _) (rt.mono l p)⟩
theorem zip_get {ts us : List T} {i : Nat} {t : T} (h : (List.zipWith (fun t u => T.tup [t, u]) ts us)[i]? = some t) : ∃ a b, ts[i]? = some a ∧ us[i]? = some b ∧ t = .tup [a, b] := by
  rw [List.getElem?_zipWith] at h
  split at h
  · rename_i a b h1 h2
    cases h
    exact ⟨a, b, h1, h2, rfl⟩
  · cases h
theorem it_zip {a b : Addr} {ts us : List T} {vs ws : List V} {Kp : Hp → Prop} (rl : RepL W F r ts vs) (rm : RepL W F r us ws) (h : ∀ F2 H2, Le F F2 → Le F2 H2 → Kp H2 → SqL W.K H2 a vs) (h' : ∀ F2 H2, Le F F2 → Le F2 H2 → Kp H2 → SqL W.K H2 b ws) :
    ItOk W (Itz W.K a b) (List.zipWith (fun t u => T.tup [t, u]) ts us) F r Kp := fun F2 r2 H2 l p l2 k => by
  have sq := h F2 H2 l l2 k
  have sq' := h' F2 H2 l l2 k
  refine ⟨fun i t hi => ?_, vs, ws, sq, sq', ?_⟩
  · obtain ⟨t1, u1, h1, h2, rfl⟩ := zip_get hi
    obtain ⟨v, hv, rt⟩ := rl.get h1
    obtain ⟨w, hw, ru⟩ := rm.get h2
    refine ⟨⟨vs, ws, v, w, sq, sq', hv, hw⟩, fun z H3 y => ?_⟩
    obtain ⟨q, x, x', rfl, n, rfl, y, y'⟩ := y
    have e := y vs sq
    have e' := y' ws sq'
    rw [hv] at e
    rw [hw] at e'
    cases e
    cases e'
    exact ⟨_, .new _ n, pair_rep l2 n (rt.mono l p) (ru.mono l p)⟩
  · rw [List.length_zipWith, rl.len, rm.len]
    omega
theorem it_zipT {a b : Addr} {ts us : List T} {vs ws : List V} {Kp : Hp → Prop} (rl : RepL W F r ts vs) (rm : RepL W F r us ws) (h : ∀ F2 H2, Le F F2 → Le F2 H2 → Kp H2 → SqT W.K H2 a vs) (h' : ∀ F2 H2, Le F F2 → Le F2 H2 → Kp H2 → SqT W.K H2 b ws) :
    ItOk W (RZ.ItzT W.K a b) (List.zipWith (fun t u => T.tup [t, u]) ts us) F r Kp := fun F2 r2 H2 l p l2 k => by
  have sq := h F2 H2 l l2 k
  have sq' := h' F2 H2 l l2 k
  refine ⟨fun i t hi => ?_, vs, ws, sq, sq', ?_⟩
  · obtain ⟨t1, u1, h1, h2, rfl⟩ := zip_get hi
    obtain ⟨v, hv, rt⟩ := rl.get h1
    obtain ⟨w, hw, ru⟩ := rm.get h2
    refine ⟨⟨vs, ws, v, w, sq, sq', hv, hw⟩, fun z H3 y => ?_⟩
    obtain ⟨q, x, x', rfl, n, rfl, y, y'⟩ := y
    have e := y vs sq
    have e' := y' ws sq'
    rw [hv] at e
    rw [hw] at e'
    cases e
    cases e'
    exact ⟨_, .new _ n, pair_rep l2 n (rt.mono l p) (ru.mono l p)⟩
  · rw [List.length_zipWith, rl.len, rm.len]
    omega
def Seq (K : PySem.W.Frag) (k : Bool) (H : Hp) (a : Addr) (vs : List V) : Prop := match k with | true => SqT K H a vs | false => SqL K H a vs
theorem seq_ok {x : R} {v : V} {st k : Bool} {ts : List T} (g : Good W F1 r1 H1 σ env S1) (s : Step F r H F1 r1 H1) (rr : RRep W F1 r1 H1 σ env x v) (nw : NewR H x v) (e : seqR st env x = some (k, ts)) :
    ∃ (F2 : Hp) (a : Addr) (vs : List V) (Kp : Hp → Prop), Step F r H F2 r1 H1 ∧ Good W F2 r1 H1 σ env S1 ∧ Le F1 F2 ∧ v = .ref a ∧ RepL W F2 r1 ts vs ∧ (∀ F3 H3, Le F2 F3 → Le F3 H3 → Kp H3 → Seq W.K k H3 a vs) ∧ (st = true → ∀ H, Kp H) ∧ Kp H1 ∧ (∀ H3, (∀ a o, H1 a = some o → a ∉ r1 → (∀ ps, o ≠ .tbl ps) → H3 a = some o) → Kp H3) ∧ ∀ q, F2 q ≠ none → F1 q ≠ none ∨ (x.isFresh = true ∧ v = .ref q) := by
  have froz : ∀ (F2 : Hp) (t : T), Step F r H F2 r1 H1 → Good W F2 r1 H1 σ env S1 → Le F1 F2 → Rep W F2 r1 t v → (∀ q, F2 q ≠ none → F1 q ≠ none ∨ (x.isFresh = true ∧ v = .ref q)) → ((t = .lst ts ∧ k = false) ∨ (t = .tup ts ∧ k = true)) →
      ∃ (F2 : Hp) (a : Addr) (vs : List V) (Kp : Hp → Prop), Step F r H F2 r1 H1 ∧ Good W F2 r1 H1 σ env S1 ∧ Le F1 F2 ∧ v = .ref a ∧ RepL W F2 r1 ts vs ∧ (∀ F3 H3, Le F2 F3 → Le F3 H3 → Kp H3 → Seq W.K k H3 a vs) ∧ (st = true → ∀ H, Kp H) ∧ Kp H1 ∧ (∀ H3, (∀ a o, H1 a = some o → a ∉ r1 → (∀ ps, o ≠ .tbl ps) → H3 a = some o) → Kp H3) ∧ ∀ q, F2 q ≠ none → F1 q ≠ none ∨ (x.isFresh = true ∧ v = .ref q) := by
    intro F2 t s2 g2 l rt nw2 hh
    rcases hh with ⟨rfl, rfl⟩ | ⟨rfl, rfl⟩
    · cases rt with
      | lst h1 h2 h3 => exact ⟨F2, _, _, fun _ => True, s2, g2, l, rfl, ⟨h2, h3⟩, fun F3 H3 l3 l4 _ => l4.sqL (l3.sqL h1), fun _ _ => trivial, trivial, fun _ _ => trivial, nw2⟩
    · cases rt with
      | tup h1 h2 h3 => exact ⟨F2, _, _, fun _ => True, s2, g2, l, rfl, ⟨h2, h3⟩, fun F3 H3 l3 l4 _ => l4.sqT (l3.sqT h1), fun _ _ => trivial, trivial, fun _ _ => trivial, nw2⟩
  cases x with
  | val t =>
    cases t with
    | lst us => cases e; exact froz F1 _ s g (Le.refl _) rr (fun _ z => .inl z) (.inl ⟨rfl, rfl⟩)
    | tup us => cases e; exact froz F1 _ s g (Le.refl _) rr (fun _ z => .inl z) (.inr ⟨rfl, rfl⟩)
    | _ => cases e
  | fresh o =>
    cases o with
    | lst us =>
      cases e
      obtain ⟨F2, s2, g2, rt, l, nw2⟩ := sink_ok2 g s rr nw (t := .lst ts) rfl
      exact froz F2 _ s2 g2 l rt nw2 (.inl ⟨rfl, rfl⟩)
    | dct ks vs => cases e
    | ins c fs => cases e
  | own i =>
    cases st with
    | true => cases e
    | false =>
      obtain ⟨o, eo, es⟩ := rr
      have e : (match env[i]? with | some (.own (.lst ts)) => some (false, ts) | _ => none) = some (k, ts) := e
      rw [eo] at e
      obtain ⟨p, e1, e2, e3, e4⟩ := g.en.own i o eo
      rw [es] at e1
      cases e1
      cases o with
      | lst us =>
        cases e
        obtain ⟨vs, ev, rl⟩ := e4
        exact ⟨F1, p, vs, fun H => H p = some (.lst vs), s, g, Le.refl _, rfl, rl, fun F3 H3 _ _ z => .of z, fun z => Bool.noConfusion z, ev, fun H3 z => z _ _ ev e3 (fun _ q => by cases q), fun _ z => .inl z⟩
      | dct ks vs => cases e
      | ins c fs => cases e
  | hot c l => cases e
def PostI (W : WT) (st : Bool) (F : Hp) (r : List Addr) (H : Hp) (σ : L2.St) (env : Env) (R : It → Hp → Prop) (ts : List T) (S' : Store) : Prop :=
  ∀ (F1 : Hp) (r1 : List Addr) (H1 : Hp) (J : It) (Kp : Hp → Prop), Step F r H F1 r1 H1 → Good W F1 r1 H1 σ env S' → ItOk W J ts F1 r1 Kp → (st = true → ∀ H, Kp H) → Kp H1 → (∀ H3, (∀ a o, H1 a = some o → a ∉ r1 → (∀ ps, o ≠ .tbl ps) → H3 a = some o) → Kp H3) → R J H1
def tI (W : WT) (wx : WX) (st : Bool) (ev : Env → Store → Out (List T)) : TI := fun σ H R => ∃ (F : Hp) (r : List Addr) (env : Env) (S : Store), Good W F r H σ env S ∧ Rs W wx F r H σ env (ev env S) (PostI W st F r H σ env R)
end
theorem _root_.L2.PI.imp {X : Cx} {tg e : Expr} {t t' : TI} (h : PI X tg e t) (i : ∀ σ H R, t' σ H R → t σ H R) : PI X tg e t' := ⟨fun pins s σ H R I q => h.run pins s σ H R I (i σ H R q)⟩
section
variable {W : WT} {wx : WX} {X : Cx} {C : EC} {tg e a b : Expr} {ce ca cb : CE} {pos p tpos : Pos} {elts : List Expr} {kk : Nat} {st : Bool}
abbrev SI (W : WT) (wx : WX) (C : EC) (X : Cx) (st : Bool) (tg e : Expr) (ci : CI) : Prop := PI X tg e (tI W wx st (evI C st ci))
theorem i_ce (hK : X.K = W.K) (he : SE W wx C X e ce) : SI W wx C X st tg e (.ce ce) := (pi_any he).imp fun σ H R h => by
  obtain ⟨F, r, env, S, g, h⟩ := h
  refine ⟨F, r, env, S, g, Rs.bind (show Rs W wx F r H σ env ((evE C ce env S).bind _) _ from h) fun x S1 e v F1 r1 H1 s1 g1 rr1 n1 => ?_⟩
  split at e
  · rename_i kd us es
    have k : PostI W st F r H σ env R _ S1 := e
    obtain ⟨F2, a, vs, Kp, s2, g2, l2, rfl, rl, sq, k1, k2, k3, _⟩ := seq_ok g1 s1 rr1 n1 es
    rw [hK]
    cases kd with
    | false => exact ⟨a, rfl, .inl ⟨vs, sq F2 H1 (Le.refl _) g2.le k2, k F2 r1 H1 _ Kp s2 g2 (it_list rl sq) k1 k2 k3⟩⟩
    | true => exact ⟨a, rfl, .inr ⟨vs, sq F2 H1 (Le.refl _) g2.le k2, k F2 r1 H1 _ Kp s2 g2 (it_tup rl sq) k1 k2 k3⟩⟩
  · exact e.elim
theorem i_enum (hK : X.K = W.K) (hg : Gl X "enumerate") (hm : X.mg "enumerate" = none) (he : SE W wx C X e ce) (hp : plainArg e = true) : SI W wx C X st (.Tuple elts kk tpos) (.Call (.Name "enumerate" p) [e] [] pos) (.enum ce) :=
  (pi_enumA hg hm (pa_cons he pa_nil (star_cons hp [] _)) (single_star hp _)).imp fun σ H R h => by
  obtain ⟨F, r, env, S, g, h⟩ := h
  refine ⟨F, r, env, S, g, Rs.bind (show Rs W wx F r H σ env ((evE C ce env S).bind _) _ from h) fun x S1 e v F1 r1 H1 s1 g1 rr1 n1 => ?_⟩
  split at e
  · rename_i kd us es
    have k : PostI W st F r H σ env R _ S1 := e
    obtain ⟨F2, a, vs, Kp, s2, g2, l2, rfl, rl, sq, k1, k2, k3, _⟩ := seq_ok g1 s1 rr1 n1 es
    refine ⟨a, rfl, ?_⟩
    rw [hK]
    cases kd with
    | false => exact .inl ⟨vs, sq F2 H1 (Le.refl _) g2.le k2, k F2 r1 H1 _ Kp s2 g2 (it_enum rl sq) k1 k2 k3⟩
    | true => exact .inr ⟨vs, sq F2 H1 (Le.refl _) g2.le k2, k F2 r1 H1 _ Kp s2 g2 (it_enumT rl sq) k1 k2 k3⟩
  · exact e.elim
theorem i_range1 (hg : Gl X "range") (hm : X.mg "range" = none) (he : SE W wx C X e ce) (hp : plainArg e = true) : SI W wx C X st tg (.Call (.Name "range" p) [e] [] pos) (.range1 ce) :=
  (pi_range1 hg hm (pa_cons he pa_nil (star_cons hp [] _)) (single_star hp _)).imp fun σ H R h => by
  obtain ⟨F, r, env, S, g, h⟩ := h
  refine ⟨F, r, env, S, g, Rs.bind (show Rs W wx F r H σ env ((evE C ce env S).bind _) _ from h) fun x S1 e v F1 r1 H1 s1 g1 rr1 n1 => ?_⟩
  split at e
  · rename_i i
    cases rr1
    obtain ⟨ts, e2, k⟩ := e.of
    obtain ⟨hb, rfl⟩ := guardT_ok e2
    have k : PostI W st F r H σ env R _ S1 := k
    obtain ⟨b1, b2⟩ := in62_ok hb
    refine ⟨i, rfl, b1, b2, ?_⟩
    have := k F1 r1 H1 (Itr 0 (i - 0).toNat) (fun _ => True) s1 g1 it_range (fun _ _ => trivial) trivial fun _ _ => trivial
    rw [Int.sub_zero] at this
    exact this
  · exact e.elim
theorem i_range2 (hg : Gl X "range") (hm : X.mg "range" = none) (ha : SE W wx C X a ca) (hb : SE W wx C X b cb) (hp : plainArg a = true) (hq : plainArg b = true) : SI W wx C X st tg (.Call (.Name "range" p) [a, b] [] pos) (.range2 ca cb) :=
  (pi_range2 hg hm (pa_cons ha (pa_cons hb pa_nil (star_cons hq [] _)) (star_cons hp _ _)) (by rw [star_cons hp, single_star hq]) (single_star hq _)).imp fun σ H R h => by
  obtain ⟨F, r, env, S, g, h⟩ := h
  refine ⟨F, r, env, S, g, Rs.bind (show Rs W wx F r H σ env ((evE C ca env S).bind _) _ from h) fun x S1 e v F1 r1 H1 s1 g1 rr1 n1 => ⟨F1, r1, env, S1, g1, Rs.bind (e.on s1 fun _ _ z => z) fun y S2 e w F2 r2 H2 s2 g2 rr2 n2 => ?_⟩⟩
  split at e
  · rename_i i j
    cases rr1
    cases rr2
    obtain ⟨ts, e9, k⟩ := e.of
    obtain ⟨hb, rfl⟩ := guardT_ok e9
    have k : PostI W st F r H σ env R _ S2 := k
    rw [Bool.and_eq_true] at hb
    obtain ⟨b1, b2⟩ := in62_ok hb.1
    obtain ⟨b3, b4⟩ := in62_ok hb.2
    exact ⟨_, _, rfl, ⟨b1, b2, b3, b4⟩, k F2 r2 H2 _ (fun _ => True) (s1.trans s2) g2 it_range (fun _ _ => trivial) trivial fun _ _ => trivial⟩
  · exact e.elim
theorem i_zip (hK : X.K = W.K) (hg : Gl X "zip") (hm : X.mg "zip" = none) (ha : SE W wx C X a ca) (hb : SE W wx C X b cb) (hp : plainArg a = true) (hq : plainArg b = true) : SI W wx C X st (.Tuple elts kk tpos) (.Call (.Name "zip" p) [a, b] [] pos) (.zip ca cb) :=
  (RZ.pi_zipA hg hm (pa_cons ha (pa_cons hb pa_nil (star_cons hq [] _)) (star_cons hp _ _)) (star_cons hp _ _) (by rw [single_star hq]; rfl)).imp fun σ H R h => by
  obtain ⟨F, r, env, S, g, h⟩ := h
  refine ⟨F, r, env, S, g, Rs.bind (show Rs W wx F r H σ env ((evE C ca env S).bind _) _ from h) fun x S1 e v F1 r1 H1 s1 g1 rr1 n1 => ⟨F1, r1, env, S1, g1, Rs.bind (e.on s1 fun _ _ z => z) fun y S2 e w F2 r2 H2 s2 g2 rr2 n2 => ?_⟩⟩
  split at e
  · rename_i kd us kd' ws es es'
    obtain ⟨ts, e3, k⟩ := e.of
    obtain ⟨hk, rfl⟩ := guardT_ok e3
    have k : PostI W st F r H σ env R _ S2 := k
    obtain ⟨F3, a, vs, Kp, s3, g3, l3, rfl, rl, sq, k1, k2, k3, nw3⟩ := seq_ok g2 (s1.trans s2) (rr1.step s2) (by
      cases x with
      | fresh o => exact n1
      | _ => trivial) es
    have rr3 : RRep W F3 r2 H2 σ env y w := by
      cases y with
      | val t => exact Rep.mono l3 (Pre.refl _) rr2
      | own j => exact rr2
      | hot c l => obtain ⟨a, cls, d, z1, z2, z3⟩ := rr2; exact ⟨a, cls, d, z1, z2, z3.monoF l3⟩
      | fresh ob =>
        obtain ⟨q, rfl, h1, h2, h3, h4⟩ := rr2
        refine ⟨q, rfl, ?_, h2, h3, ?_⟩
        · cases q3 : F3 q with
          | none => rfl
          | some z =>
            rcases nw3 q (by rw [q3]; simp) with z1 | ⟨z1, z2⟩
            · exact absurd h1 z1
            · cases x with
              | fresh o2 =>
                obtain ⟨q', e', _, _, _, h5⟩ := rr1
                cases e'
                cases z2
                obtain ⟨u, hu⟩ := h5.there
                have := n2 _ rfl
                rw [hu] at this
                cases this
              | _ => cases z1
        · cases ob with
          | lst ts => obtain ⟨vs, ev, rl⟩ := h4; exact ⟨vs, ev, rl.mono l3 (Pre.refl _)⟩
          | ins c fs => obtain ⟨dx, fvs, ev, qf, ck⟩ := h4; exact ⟨dx, fvs, ev, qf.mono l3 (Pre.refl _), ck⟩
          | dct ks vs => exact h4
    obtain ⟨F4, b', ws', Kp', s4, g4, l4, rfl, rm, sq', j1, j2, j3, _⟩ := seq_ok g3 s3 rr3 (by
      cases y with
      | fresh o => exact fun q hq => s1.free q (n2 q hq)
      | _ => trivial) es'
    have kk : kd = kd' := by simpa using hk
    subst kk
    refine ⟨a, b', vs, ws', rfl, ?_⟩
    have both : ∀ (F5 H5 : Hp), Le F4 F5 → Le F5 H5 → (Kp H5 ∧ Kp' H5) → Seq W.K kd H5 a vs := fun F5 H5 z1 z2 z3 => sq F5 H5 (l4.trans z1) z2 z3.1
    have both' : ∀ (F5 H5 : Hp), Le F4 F5 → Le F5 H5 → (Kp H5 ∧ Kp' H5) → Seq W.K kd H5 b' ws' := fun F5 H5 z1 z2 z3 => sq' F5 H5 z1 z2 z3.2
    have rl4 := rl.mono l4 (Pre.refl _)
    rw [hK]
    cases kd with
    | false => exact .inl ⟨both F4 H2 (Le.refl _) g4.le ⟨k2, j2⟩, both' F4 H2 (Le.refl _) g4.le ⟨k2, j2⟩, k F4 r2 H2 _ (fun H => Kp H ∧ Kp' H) s4 g4 (it_zip rl4 rm both both') (fun z H => ⟨k1 z H, j1 z H⟩) ⟨k2, j2⟩ fun H3 z => ⟨k3 H3 z, j3 H3 z⟩⟩
    | true => exact .inr ⟨both F4 H2 (Le.refl _) g4.le ⟨k2, j2⟩, both' F4 H2 (Le.refl _) g4.le ⟨k2, j2⟩, k F4 r2 H2 _ (fun H => Kp H ∧ Kp' H) s4 g4 (it_zipT rl4 rm both both') (fun z H => ⟨k1 z H, j1 z H⟩) ⟨k2, j2⟩ fun H3 z => ⟨k3 H3 z, j3 H3 z⟩⟩
  · exact e.elim
end
end Z
set_option Elab.async false
set_option linter.all false
set_option maxRecDepth 100000
set_option maxHeartbeats 4000000
namespace Z
open PySem PySem.Spec PyProof.Rows L2
def nmOk (st : Stat) (i : Nat) (x : Str) : Bool := decide (st.N[i]? = some x) && (match st.sc.names.lookup x with | some .local => true | some .cell => st.fn x | _ => false)
mutual
def chkG (st : Stat) : CG → Expr → Bool
  | .name i, .Name x _ => nmOk st i x
  | .tup gs, .Tuple es _ _ => st.calm && chkGs st gs es
  | _, _ => false
def chkGs (st : Stat) : CGs → List Expr → Bool
  | .nil, [] => true
  | .cons g gs, e :: es => chkG st g e && chkGs st gs es
  | _, _ => false
end
structure Nms (st : Stat) (X : Cx) : Prop where
  N : X.N = st.N
  nd : st.N.Nodup
  sc : X.env.scope = st.sc
  fnn : X.fn = st.fn
  calm : st.calm = true → X.calm = true
theorem nm_ok {st : Stat} {X : Cx} (q : Nms st X) {i : Nat} {x : Str} (h : nmOk st i x = true) : X.N.Nodup ∧ X.N[i]? = some x ∧ Loc X.env.scope x ∧ (X.fn x = true ∨ X.env.scope.names.lookup x = some .local) := by
  unfold nmOk at h
  rw [Bool.and_eq_true] at h
  obtain ⟨h1, h2⟩ := h
  refine ⟨by rw [q.N]; exact q.nd, by rw [q.N]; exact of_decide_eq_true h1, ?_, ?_⟩
  · rw [q.sc]
    split at h2
    · exact .inl (by assumption)
    · exact .inr (by assumption)
    · cases h2
  · rw [q.sc, q.fnn]
    split at h2
    · exact .inr (by assumption)
    · exact .inl h2
    · cases h2
def Opn (W : WT) (F : Hp) (r : List Addr) (A : L2.St → Env → Prop) : Prop := ∀ (σ : L2.St) (env : Env) (i : Nat) (t : T) (v : V), A σ env → Rep W F r t v → A (σ.set i (some v)) (env.set i (.val t))
def tGG (W : WT) (vs : List Nat) (set : T → Env → Option Env) : TG := fun v σ H Q => ∃ (F : Hp) (r : List Addr) (env : Env) (t : T) (env' : Env) (A : L2.St → Env → Prop), Opn W F r A ∧ Le F H ∧ A σ env ∧ Rep W F r t v ∧ set t env = some env' ∧
  ∀ σ', A σ' env' → (∀ j, j ∉ vs → σ'[j]? = σ[j]?) → σ'.length = σ.length → Q σ' H
def tGGs (W : WT) (vs : List Nat) (set : List T → Env → Option Env) : TGs := fun ws σ H Q => ∃ (F : Hp) (r : List Addr) (env : Env) (ts : List T) (env' : Env) (A : L2.St → Env → Prop), Opn W F r A ∧ Le F H ∧ A σ env ∧ RepL W F r ts ws ∧ set ts env = some env' ∧
  ∀ σ', A σ' env' → (∀ j, j ∉ vs → σ'[j]? = σ[j]?) → σ'.length = σ.length → Q σ' H
theorem assignEach_cons {e : Expr} (h : plainArg e = true) (es : List Expr) (env : PySem.Env) : assignEach (e :: es) env = (false, assign e env) :: assignEach es env := by
  cases e <;> first | rfl | (cases h; done)
theorem chkG_plain {st : Stat} : ∀ {g : CG} {e : Expr}, chkG st g e = true → plainArg e = true
  | .name i, e, h => by cases e <;> first | rfl | (unfold chkG at h; cases h)
  | .tup gs, e, h => by cases e <;> first | rfl | (unfold chkG at h; cases h)
theorem chkGs_each {st : Stat} (env : PySem.Env) : ∀ {gs : CGs} {es : List Expr}, chkGs st gs es = true → (assignEach es env).length = es.length ∧ (assignEach es env).findIdx? (·.1) = none
  | .nil, [], _ => ⟨rfl, rfl⟩
  | .nil, e :: es, h => by unfold chkGs at h; cases h
  | .cons g gs, [], h => by unfold chkGs at h; cases h
  | .cons g gs, e :: es, h => by
    unfold chkGs at h
    rw [Bool.and_eq_true] at h
    obtain ⟨h1, h2⟩ := chkGs_each env h.2
    rw [assignEach_cons (chkG_plain h.1)]
    refine ⟨by simp [h1], ?_⟩
    rw [List.findIdx?_cons, h2]; rfl
theorem chkGs_len {st : Stat} : ∀ {gs : CGs} {es : List Expr} {ts : List T} {env env' : Env}, chkGs st gs es = true → setGs gs ts env = some env' → ts.length = es.length
  | .nil, [], [], _, _, _, _ => rfl
  | .nil, [], t :: ts, _, _, _, h => by unfold setGs at h; cases h
  | .nil, e :: es, _, _, _, h, _ => by unfold chkGs at h; cases h
  | .cons g gs, [], _, _, _, h, _ => by unfold chkGs at h; cases h
  | .cons g gs, e :: es, [], _, _, _, h => by unfold setGs at h; cases h
  | .cons g gs, e :: es, t :: ts, env, env', h, k => by
    unfold chkGs at h
    rw [Bool.and_eq_true] at h
    unfold setGs at k
    split at k
    · rw [List.length_cons, List.length_cons, chkGs_len h.2 k]
    · cases k
mutual
theorem chkG_ok {W : WT} {st : Stat} {X : Cx} (q : Nms st X) (hK : X.K = W.K) : ∀ {g : CG} {e : Expr}, chkG st g e = true → PG X e (tGG W (slotsG g) (setG g))
  | .name i, e, h => by
    cases e <;> first | (unfold chkG at h; cases h; done) | skip
    rename_i x pos
    obtain ⟨h1, h2, h3, h4⟩ := nm_ok q (show nmOk st i x = true from h)
    refine (pg_name h1 h2 h3 h4).imp fun v σ H Q w => ?_
    obtain ⟨F, r, env, t, env', A, op, l, a, rt, e, k⟩ := w
    cases e
    exact k _ (op _ _ _ _ _ a rt) (fun j hj => List.getElem?_set_ne fun e => hj (by rw [← e]; exact List.mem_singleton.mpr rfl)) (List.length_set ..)
  | .tup gs, e, h => by
    cases e <;> first | (unfold chkG at h; cases h; done) | skip
    rename_i es k pos
    have h : (st.calm && chkGs st gs es) = true := h
    rw [Bool.and_eq_true] at h
    obtain ⟨hcalm, h⟩ := h
    obtain ⟨h1, h2⟩ := chkGs_each X.env h
    refine (pg_tup (q.calm hcalm) (chkGs_ok q hK h) h1 h2).imp fun v σ H Q w => ?_
    obtain ⟨F, r, env, t, env', A, op, l, a, rt, e, k⟩ := w
    cases t <;> first | (cases e; done) | skip
    rename_i ts
    obtain ⟨p, vs, rfl, sq, rl⟩ := rep_tup rt
    have e : setGs gs ts env = some env' := e
    exact ⟨p, vs, rfl, by rw [hK]; exact l.sqT sq, by rw [← rl.len]; exact chkGs_len h e, F, r, env, ts, env', A, op, l, a, rl, e, k⟩
theorem chkGs_ok {W : WT} {st : Stat} {X : Cx} (q : Nms st X) (hK : X.K = W.K) : ∀ {gs : CGs} {es : List Expr}, chkGs st gs es = true → PGs X es (tGGs W (slotsGs gs) (setGs gs))
  | .nil, [], _ => pgs_nil.imp fun v σ H Q w => by
    obtain ⟨F, r, env, ts, env', A, op, l, a, rl, e, k⟩ := w
    cases ts with
    | nil => cases e; exact ⟨rl.unnil, k σ a (fun _ _ => rfl) rfl⟩
    | cons t ts => cases e
  | .nil, e :: es, h => by unfold chkGs at h; cases h
  | .cons g gs, [], h => by unfold chkGs at h; cases h
  | .cons g gs, e :: es, h => by
    have h : (chkG st g e && chkGs st gs es) = true := h
    rw [Bool.and_eq_true] at h
    refine (pgs_cons (chkG_ok q hK h.1) (chkGs_ok q hK h.2) (by rw [assignEach_cons (chkG_plain h.1)]; rfl)).imp fun v σ H Q w => ?_
    obtain ⟨F, r, env, ts, env', A, op, l, a, rl, e, k⟩ := w
    cases ts with
    | nil => cases e
    | cons t ts =>
      have e : (match setG g t env with | some env' => setGs gs ts env' | none => none) = some env' := e
      cases eg : setG g t env with
      | none => rw [eg] at e; cases e
      | some env1 =>
        rw [eg] at e
        obtain ⟨v1, ws, rfl, rt, rl⟩ := rl.uncons
        refine ⟨v1, ws, rfl, F, r, env, t, env1, A, op, l, a, rt, eg, fun σ1 a1 k1 n1 => ?_⟩
        exact ⟨F, r, env1, ts, env', A, op, l, a1, rl, e, fun σ2 a2 k2 n2 => k σ2 a2 (fun j hj => (k2 j fun z => hj (List.mem_append_right _ z)).trans (k1 j fun z => hj (List.mem_append_left _ z))) (n2.trans n1)⟩
end
section
variable {W : WT} {wx : WX} {en : Ent} {fz : List Nat} {X : Cx} {C : EC} {tg e : Expr} {ci : CI} {body : List Stmt} {css : CSs} {pos : Pos} {g : CG}
theorem Keep.of {fz vs : List Nat} {σ σ' : L2.St} (h : ∀ j ∈ vs, j ∉ fz) (k : ∀ j, j ∉ vs → σ'[j]? = σ[j]?) : Keep fz σ σ' := fun j hj => k j fun z => h j z hj
theorem turn_end {F : Hp} {r : List Addr} {σ : L2.St} {D : Ends} {f : Fl} {go : Env → Store → Fl} {N : L2.St → Hp → Prop}
    (hN : ∀ (env' : Env) (S' : Store), FlOk W wx en fz F r σ D (go env' S') → Nxt W en fz F r σ env' S' N)
    (h : FlOk W wx en fz F r σ D (match f with | .nx e s => go e s | .ct e s => go e s | .bk e s => .nx e s | x => x)) : FlOk W wx en fz F r σ { D with nx := N, ct := N, bk := D.nx } f := by
  cases f with
  | nx e s => exact hN e s h
  | ct e s => exact hN e s h
  | bk e s => exact h
  | rt x s => exact h
  | ex c a e s => exact h
  | no => exact h
theorem s_for (hp : PassesOwn (model X.prog X.w) X.A X.env X.xe) (hc : X.calm = true) (hi : SI W wx C X true tg e ci) (hg : PG X tg (tGG W (slotsG g) (setG g))) (hz : ∀ j ∈ slotsG g, j ∉ fz) (hb : SSs W wx en fz C X body css) (hs : ∀ x, foldedSetIterable e X.env x = pure x) :
    SS W wx en fz C X (.For tg e body [] pos) (.sfor g ci css) := (ps_for hp hc hi hg hb hs).imp fun D σ H h => by
  obtain ⟨F, r, env, S, a, h⟩ := h
  refine ⟨F, r, env, S, a.good, (fl_rs a (show FlOk W wx en fz F r σ D (Fl.of env (evI C true ci env S) fun ts S1 => forL (setG g) (fun e s => exB C css e s) ts env S1) from h)).mono fun ts S1 h F1 r1 H1 J Kp s1 g1 it k1 k2 _ => ?_⟩
  have k1 := k1 rfl
  have h1 := FlOk.on h s1.le s1.pre (Keep.refl (fz := fz) (σ := σ))
  refine ⟨fun i m σ' H' => m + i = ts.length ∧ ∃ (F' : Hp) (r' : List Addr) (env' : Env) (S' : Store), At W en F' r' H' σ' env' S' ∧ Le F1 F' ∧ Pre r1 r' ∧ FlOk W wx en fz F' r' σ' D (forL (setG g) (fun e s => exB C css e s) (ts.drop i) env' S'), ⟨ts.length, rfl, F1, r1, env, S1, a.on s1 g1, Le.refl _, Pre.refl _, h1⟩, fun i m σ2 H2 w => ?_⟩
  obtain ⟨hm, F2, r2, env2, S2, a2, l2, p2, h2⟩ := w
  obtain ⟨y1, y2⟩ := it F2 r2 H2 l2 p2 a2.good.le (k1 H2)
  cases et : ts[i]? with
  | none =>
    have hl : ts.length ≤ i := List.getElem?_eq_none_iff.mp et
    have ei : i = ts.length := by omega
    rw [List.drop_eq_nil_of_le hl] at h2
    refine .inl ⟨by rw [ei]; exact y2, ?_⟩
    exact a2.self (show Nxt W en fz F2 r2 σ2 env2 S2 D.nx from h2)
  | some t =>
    have hl : i < ts.length := (List.getElem?_eq_some_iff.mp et).1
    have ed : ts.drop i = t :: ts.drop (i + 1) := by
      have := List.drop_eq_getElem_cons hl
      rw [this]
      have : ts[i] = t := by have := List.getElem?_eq_getElem hl; rw [et] at this; exact (Option.some.inj this).symm
      rw [this]
    obtain ⟨go, yl⟩ := y1 i t et
    refine .inr ⟨go, fun σ' H' => (m - 1) + (i + 1) = ts.length ∧ ∃ (F' : Hp) (r' : List Addr) (env' : Env) (S' : Store), At W en F' r' H' σ' env' S' ∧ Le F1 F' ∧ Pre r1 r' ∧ FlOk W wx en fz F' r' σ' D (forL (setG g) (fun e s => exB C css e s) (ts.drop (i + 1)) env' S'), fun σ' H' q => ⟨m - 1, by omega, q⟩, fun v H3 y => ?_⟩
    obtain ⟨F3, yd, rt⟩ := yl v H3 y
    obtain ⟨g3, s3⟩ := yd.good a2.good
    have a3 := a2.on s3 g3
    rw [ed] at h2
    have h2 : FlOk W wx en fz F2 r2 σ2 D (match setG g t env2 with
      | some env1 => (match exB C css env1 S2 with
        | .nx e s => forL (setG g) (fun e s => exB C css e s) (ts.drop (i + 1)) e s
        | .ct e s => forL (setG g) (fun e s => exB C css e s) (ts.drop (i + 1)) e s
        | .bk e s => .nx e s
        | x => x)
      | none => .no) := h2
    cases es : setG g t env2 with
    | none => rw [es] at h2; exact h2.elim
    | some env3 =>
      rw [es] at h2
      refine ⟨F3, r2, env2, t, env3, fun σ e => At W en F3 r2 H3 σ e S2, fun σ env i t v a rt => a.setVal rt, a3.good.le, a3, rt, es, fun σ4 a4 k4 n4 => ?_⟩
      have h3 := h2.on s3.le s3.pre (Keep.of (fz := fz) hz k4)
      refine ⟨F3, r2, env3, S2, a4, turn_end (fun env' S' q => ?_) h3⟩
      exact fun σ' F' r' H' a' l' p' kk' => ⟨by omega, F', r', env', S', a', (l2.trans s3.le).trans l', p2.trans p', q.on l' p' kk'⟩
end
end Z
set_option Elab.async false
set_option linter.all false
set_option maxRecDepth 100000
set_option maxHeartbeats 4000000
namespace Z
open PySem PySem.Spec PyProof.Rows L2
section
variable {W : WT} {wx : WX} {en : Ent} {fz : List Nat} {X : Cx} {C : EC} {tg e : Expr} {ci : CI} {body : List Stmt} {css : CSs} {pos : Pos} {g : CG}
theorem Nxt.more {F : Hp} {r : List Addr} {σ : L2.St} {env' : Env} {S' : Store} {Q : L2.St → Hp → Prop} {j : Nat} (n : Nxt W en fz F r σ env' S' Q) : Nxt W en (j :: fz) F r σ env' S' Q :=
  fun σ' F' r' H' a l p k => n σ' F' r' H' a l p fun i hi => k i (List.mem_cons_of_mem _ hi)
theorem Nxe.more {F : Hp} {r : List Addr} {σ : L2.St} {c : Nat} {l : List T} {env' : Env} {S' : Store} {j : Nat} (n : Nxe W wx en fz F r σ c l env' S') : Nxe W wx en (j :: fz) F r σ c l env' S' :=
  fun σ' F' r' H' cls d a l p k => n σ' F' r' H' cls d a l p fun i hi => k i (List.mem_cons_of_mem _ hi)
theorem forO_own {F : Hp} {r : List Addr} {σ : L2.St} {D : Ends} {set : T → Env → Option Env} {bd : Env → Store → Fl} {n k j : Nat} {env : Env} {S : Store} (h : FlOk W wx en fz F r σ D (forO set j bd n k env S)) :
    ∃ m ts, n = m + 1 ∧ env[j]? = some (.own (.lst ts)) ∧ FlOk W wx en fz F r σ D (match ts[k]? with
      | some t => (match set t env with
        | some env1 => (match bd env1 S with
          | .nx e s => forO set j bd m (k + 1) e s
          | .ct e s => forO set j bd m (k + 1) e s
          | .bk e s => .nx e s
          | x => x)
        | none => .no)
      | none => .nx env S) := by
  cases n with
  | zero => exact h.elim
  | succ m =>
    unfold forO at h
    split at h
    · rename_i ts eo
      exact ⟨m, ts, rfl, eo, h⟩
    · exact h.elim
theorem turn_endO {F : Hp} {r : List Addr} {σ : L2.St} {D : Ends} {f : Fl} {j : Nat} {go : Env → Store → Fl} {N : L2.St → Hp → Prop}
    (hN : ∀ (env' : Env) (S' : Store), FlOk W wx en fz F r σ D (go env' S') → Nxt W en (j :: fz) F r σ env' S' N)
    (h : FlOk W wx en fz F r σ D (match f with | .nx e s => go e s | .ct e s => go e s | .bk e s => .nx e s | x => x)) : FlOk W wx en (j :: fz) F r σ { D with nx := N, ct := N, bk := D.nx } f := by
  cases f with
  | nx e s => exact hN e s h
  | ct e s => exact hN e s h
  | bk e s => exact Nxt.more (show Nxt W en fz F r σ e s D.nx from h)
  | rt x s => exact h
  | ex c a e s => exact Nxe.more h
  | no => exact h
theorem s_forO {j : Nat} {x : Str} {px : Pos} (hK : X.K = W.K) (hp : PassesOwn (model X.prog X.w) X.A X.env X.xe) (hc : X.calm = true) (hN : X.N[j]? = some x) (hv : Vis X.env.scope x) (hd : (x == ("__debug__" : Str)) = false) (hcd : (x == ("__classdict__" : Str)) = false)
    (hg : PG X tg (tGG W (slotsG g) (setG g))) (hz : ∀ i ∈ slotsG g, i ∉ j :: fz) (hb : SSs W wx en (j :: fz) C X body css) :
    SS W wx en fz C X (.For tg (.Name x px) body [] pos) (.sforo g j css) := (ps_for hp hc (pi_any (pe_var (i := j) hN hv hd hcd)) hg hb (fun _ => rfl)).imp fun D σ H h => by
  obtain ⟨F, r, env, S, a, h⟩ := h
  obtain ⟨_, ts0, _, eo, _⟩ := forO_own (show FlOk W wx en fz F r σ D (forO (setG g) j (fun e s => exB C css e s) FUEL 0 env S) from h)
  obtain ⟨p, ep, pF, pr, vs0, ev0, rl0⟩ := a.good.en.own j _ eo
  refine ⟨.ref p, ep, p, rfl, .inl ⟨vs0, .of ev0, ?_⟩⟩
  refine ⟨fun i m σ' H' => ∃ (F' : Hp) (r' : List Addr) (env' : Env) (S' : Store), At W en F' r' H' σ' env' S' ∧ σ'[j]? = σ[j]? ∧ FlOk W wx en fz F' r' σ' D (forO (setG g) j (fun e s => exB C css e s) m i env' S'), ⟨FUEL, F, r, env, S, a, rfl, h⟩, fun i m σ2 H2 w => ?_⟩
  obtain ⟨F2, r2, env2, S2, a2, k2, h2⟩ := w
  obtain ⟨m', ts, rfl, eo2, h2⟩ := forO_own h2
  obtain ⟨p2, ep2, pF2, pr2, vs, ev, rl⟩ := a2.good.en.own j _ eo2
  rw [k2, ep] at ep2
  cases ep2
  rw [hK]
  cases et : ts[i]? with
  | none =>
    rw [et] at h2
    refine .inl ⟨⟨vs, .of ev, by rw [← rl.len]; exact List.getElem?_eq_none_iff.mp et⟩, a2.self (show Nxt W en fz F2 r2 σ2 env2 S2 D.nx from h2)⟩
  | some t =>
    rw [et] at h2
    dsimp only at h2
    obtain ⟨v, hv', rt⟩ := rl.get et
    refine .inr ⟨⟨vs, v, .of ev, hv'⟩, fun σ' H' => ∃ (F' : Hp) (r' : List Addr) (env' : Env) (S' : Store), At W en F' r' H' σ' env' S' ∧ σ'[j]? = σ[j]? ∧ FlOk W wx en fz F' r' σ' D (forO (setG g) j (fun e s => exB C css e s) m' (i + 1) env' S'), fun σ' H' q => ⟨m', Nat.lt_succ_self _, q⟩, fun w H3 y => ?_⟩
    obtain ⟨rfl, y⟩ := y
    have e1 := y vs (.of ev)
    rw [hv'] at e1
    cases e1
    cases es : setG g t env2 with
    | none => rw [es] at h2; exact h2.elim
    | some env3 =>
      rw [es] at h2
      refine ⟨F2, r2, env2, t, env3, fun σ e => At W en F2 r2 H3 σ e S2, fun σ env i t v a rt => a.setVal rt, a2.good.le, a2, rt, es, fun σ4 a4 k4 n4 => ?_⟩
      have h3 := h2.on (Le.refl F2) (Pre.refl r2) (Keep.of (fz := fz) (fun i hi z => hz i hi (List.mem_cons_of_mem _ z)) k4)
      have kj : σ4[j]? = σ2[j]? := k4 j fun z => hz j z List.mem_cons_self
      refine ⟨F2, r2, env3, S2, a4, turn_endO (fun env' S' q => ?_) h3⟩
      exact fun σ' F' r' H' a' l' p' kk' => ⟨F', r', env', S', a', (kk' j List.mem_cons_self).trans (kj.trans k2), q.on l' p' fun i hi => kk' i (List.mem_cons_of_mem _ hi)⟩
theorem good_wipe {F H : Hp} {r : List Addr} {σ : L2.St} {env : Env} {S : Store} (gd : Good W F r H σ env S) : ∀ vs : List Nat, Good W F r H (wipe σ vs) (wipeE env vs) S
  | [] => gd
  | v :: vs => (good_wipe gd vs).forget none
theorem wipe_get (σ : L2.St) : ∀ (vs : List Nat) (j : Nat), (wipe σ vs)[j]? = if j ∈ vs ∧ j < σ.length then some none else σ[j]?
  | [], j => by simp [wipe]
  | v :: vs, j => by
    unfold wipe
    by_cases e : v = j
    · subst e
      by_cases hl : v < σ.length
      · rw [List.getElem?_set_self (by rw [wipe_length]; exact hl), if_pos ⟨List.mem_cons_self, hl⟩]
      · rw [List.getElem?_eq_none (by rw [List.length_set, wipe_length]; omega), if_neg (fun z => hl z.2), List.getElem?_eq_none (by omega)]
    · rw [List.getElem?_set_ne e, wipe_get σ vs j]
      by_cases hm : j ∈ vs
      · by_cases hl : j < σ.length
        · rw [if_pos ⟨hm, hl⟩, if_pos ⟨List.mem_cons_of_mem _ hm, hl⟩]
        · rw [if_neg (fun z => hl z.2), if_neg (fun z => hl z.2)]
      · rw [if_neg (fun z => hm z.1), if_neg fun z => hm ((List.mem_cons.mp z.1).resolve_left fun z => e z.symm)]
theorem wipe_eq {σ σ' : L2.St} {vs : List Nat} (k : ∀ j, j ∉ vs → σ'[j]? = (wipe σ vs)[j]?) (n : σ'.length = (wipe σ vs).length) : wipe σ' vs = wipe σ vs := by
  rw [wipe_length] at n
  apply List.ext_getElem?
  intro j
  rw [wipe_get, wipe_get, n]
  by_cases hm : j ∈ vs
  · by_cases hl : j < σ.length
    · rw [if_pos ⟨hm, hl⟩, if_pos ⟨hm, hl⟩]
    · rw [if_neg (fun z => hl z.2), if_neg (fun z => hl z.2), List.getElem?_eq_none (by omega), List.getElem?_eq_none (by omega)]
  · rw [if_neg (fun z => hm z.1), if_neg (fun z => hm z.1), k j hm, wipe_get, if_neg (fun z => hm z.1)]
theorem Good.alone {F H : Hp} {r : List Addr} {σ : L2.St} {env : Env} {S : Store} {p : Addr} (gd : Good W F r H σ env S) (hF : F p = none) (hr : p ∉ r) (ho : ¬ OwnAt σ env p) (nx : ∀ fs, H p ≠ some (.xd fs)) (u : HO) (tb : LamX.Tabs W.tabs (upd H p u)) (cd : ∀ c q, H c = some (LamX.CodeO c q) → upd H p u c = some (LamX.CodeO c q)) : Good W F r (upd H p u) σ env S :=
  ⟨le_write gd.le hF, ⟨gd.st.len, gd.st.nd, fun n a o h1 h2 => let ⟨z1, z2⟩ := gd.st.at_ n a o h1 h2; ⟨z1, z2.other fun e => hr (e ▸ List.mem_of_getElem? h1)⟩, tb, gd.st.nt⟩,
    ⟨gd.en.val, fun i o h => let ⟨q, z1, z2, z3, z4⟩ := gd.en.own i o h; ⟨q, z1, z2, z3, z4.other fun e => ho ⟨i, o, h, e ▸ z1⟩⟩, fun i c l h => let ⟨b, cls, d, z1, z2, z3⟩ := gd.en.hot i c l h; ⟨b, cls, d, z1, z2, z3.apart nx⟩, fun j hj => let ⟨f, z1, z2⟩ := gd.en.act j hj; ⟨f, z1, W.fam f _ _ _ _ _ _ (fun _ _ z => z) (fun _ _ z => z) cd z2⟩, gd.en.len, gd.en.ap⟩⟩
theorem Step.alone {F F1 H H1 : Hp} {r r1 : List Addr} {p : Addr} (s : Step F r H F1 r1 H1) (n : H p = none) (u : HO) : Step F r H F1 r1 (upd H1 p u) :=
  ⟨s.le, s.new, s.pre, s.rnew, fun a o h1 h2 nt => by rw [upd_ne (ne_of_none h1 n)]; exact s.keep a o h1 h2 nt, fun a h => by
    by_cases e : a = p
    · rw [e]; exact n
    · rw [upd_ne e] at h; exact s.free a h, fun c q z => by rw [upd_ne (ne_of_none z n)]; exact s.code c q z, s.nt⟩
def consO (o : Option T) (l : List T) : List T := match o with
  | some x => x :: l
  | none => l
def tC (W : WT) (wx : WX) (C : EC) : CO → TT
  | .none => tYes
  | .some c => tT W wx (evT C c)
def stepC (C : EC) (c : CO) (e : CE) (env' : Env) (S' : Store) : Out (Option T) := (match c with
      | .none => (evE C e env' S').bind fun x S'' => .of S'' ((sink x).map some)
      | .some c => (truO env' (evE C c env' S')).bind fun k S'' => (match k with
        | true => (evE C e env' S'').bind fun x S3 => .of S3 ((sink x).map some)
        | false => .ok none S''))
theorem stepC_ok {wx : WX} {c : CO} {ce : CE} {σ : L2.St} {H F : Hp} {r : List Addr} {env : Env} {S S' : Store} {o : Option T} {Q : V → Hp → Prop} {Q0 : Hp → Prop} (gd : Good W F r H σ env S) (e : stepC C c ce env S = .ok o S')
    (yes : ∀ (t : T) (v : V) (F1 : Hp) (r1 : List Addr) (H1 : Hp), o = some t → Step F r H F1 r1 H1 → Good W F1 r1 H1 σ env S' → Rep W F1 r1 t v → Q v H1)
    (no : ∀ (F1 : Hp) (r1 : List Addr) (H1 : Hp), o = none → Step F r H F1 r1 H1 → Good W F1 r1 H1 σ env S' → Q0 H1) :
    tC W wx C c σ H fun b H3 => if b = true then tE W wx (evE C ce) σ H3 Q else Q0 H3 := by
  have item : ∀ (F2 : Hp) (r2 : List Addr) (H2 : Hp) (S2 : Store), Step F r H F2 r2 H2 → Good W F2 r2 H2 σ env S2 → (evE C ce env S2).bind (fun x S'' => Out.of S'' ((sink x).map some)) = .ok o S' → tE W wx (evE C ce) σ H2 Q := fun F2 r2 H2 S2 s2 g2 e2 => by
    obtain ⟨x, S3, e3, e4⟩ := bind_ok e2
    obtain ⟨e5, rfl⟩ := of_ok e4
    refine ⟨F2, r2, env, S2, g2, Rs.ok e3 fun v F4 r4 H4 s4 g4 rr n => ?_⟩
    cases ex : sink x with
    | none => rw [ex] at e5; cases e5
    | some t =>
      rw [ex] at e5
      have e5 : some t = o := Option.some.inj e5
      obtain ⟨F5, s5, g5, rt, l5⟩ := sink_ok g4 s4 rr n ex
      exact yes t v F5 r4 H4 e5.symm (s2.trans s5) g5 rt
  cases c with
  | none => exact iteT (B := Q0 H) (item F r H S (Step.refl F r H) gd e)
  | some c =>
    obtain ⟨k, S2, e2, e3⟩ := bind_ok (show (truO env (evE C c env S)).bind _ = _ from e)
    refine ⟨F, r, env, S, gd, Rs.ok e2 fun F2 r2 H2 s2 g2 => ?_⟩
    cases k with
    | true => exact iteT (item F2 r2 H2 S2 s2 g2 e3)
    | false => cases e3; exact iteF (no F2 r2 H2 rfl s2 g2)
theorem e_lc {w0 : WX} {elt : Expr} {ifs : List Expr} {scope : Scope} {own : List (Str × Nat)} {c : CO} {ce : CE} (hc : X.calm = true) (hN : X.N.Nodup) (hi : SI W wx C X false tg e ci) (ok : BlkOk X.N X.env.scope scope own) (hw : own.map (·.2) = slotsG g)
    (hg : ∀ (s : Shared) (H : Hp) (C : Addr) (cl : List (Str × Addr)) (fp : List Addr), PG (X.blk s H scope (compEnvC scope cl C X.env) fp) tg (tGG W (slotsG g) (setG g)))
    (ht : ∀ (s : Shared) (H : Hp) (D : Addr) (cl : List (Str × Addr)) (fp : List Addr), PTs (X.blk s H scope (compEnvC scope cl D X.env) fp) ifs (tC W w0 C c))
    (he : ∀ (s : Shared) (H : Hp) (D : Addr) (cl : List (Str × Addr)) (fp : List Addr), SE W w0 C (X.blk s H scope (compEnvC scope cl D X.env) fp) elt ce) (hs : ∀ x, foldedSetIterable e X.env x = pure x) :
    (∀ {σ : L2.St} {H : Hp} {Q : VK}, tE W wx (evE C (.lc g ci c ce)) σ H Q → tLc (tI W wx false (evI C false ci)) (tGG W (slotsG g) (setG g)) (tC W w0 C c) (tE W w0 (evE C ce)) (own.map (·.2)) σ H Q) := by
  intro σ H Q h
  obtain ⟨F, r, env, S, gd, h⟩ := h
  rw [evE] at h
  rw [hw]
  refine ⟨F, r, env, S, gd, Rs.bind h fun ts S1 e F1 r1 H1 J Kp s1 g1 it _ k2 k3 D hD => ?_⟩
  have e : Rs W wx F r H σ env ((compL (fun env' S' => stepC C c ce env' S') (setG g) (wipeE env (slotsG g)) ts S1).only fun l S2 => .of S2 (guardT (decide (l.length ≤ LIM)) (.fresh (.lst l)))) (fun x S' => Post W F r H σ env x S' Q) := e
  cases e2 : compL (fun env' S' => stepC C c ce env' S') (setG g) (wipeE env (slotsG g)) ts S1 with
  | ex c l S' => rw [e2] at e; exact e.elim
  | no => rw [e2] at e; exact e.elim
  | ok l S' =>
  rw [e2] at e
  obtain ⟨x, e3, p⟩ := Rs.of (o := guardT (decide (l.length ≤ LIM)) (R.fresh (Ob.lst l))) (S := S') (show Rs W wx F r H σ env (Out.of S' (guardT (decide (l.length ≤ LIM)) (R.fresh (Ob.lst l)))) (fun x S2 => Post W F r H σ env x S2 Q) from e)
  obtain ⟨hl, rfl⟩ := guardT_ok e3
  have hl := of_decide_eq_true hl
  obtain ⟨d1, d2, d3⟩ := g1.fresh hD
  refine ⟨fun i m H' => m + i = ts.length ∧ ∃ (F' : Hp) (r' : List Addr) (S2 : Store) (l1 l2 : List T) (acc : List V), Step F1 r1 H1 F' r' H' ∧ Good W F' r' H' σ env S2 ∧ H' D = some (.lst acc) ∧ F' D = none ∧ D ∉ r' ∧ RepL W F' r' l1 acc ∧
      compL (fun env' S' => stepC C c ce env' S') (setG g) (wipeE env (slotsG g)) (ts.drop i) S2 = .ok l2 S' ∧ l1 ++ l2 = l,
    ⟨ts.length, rfl, F1, r1, S1, [], l, [], Step.laid F1 r1 hD _, g1.laid hD _, upd_same, d1, d2, .nil, e2, rfl⟩, fun i m H2 w => ?_⟩
  obtain ⟨hm, F2, r2, S2, l1, l2, acc, s2, g2, hD2, fD2, rD2, rl, ec, el⟩ := w
  obtain ⟨y1, y2⟩ := it F2 r2 H2 s2.le s2.pre g2.le (k3 H2 fun a o h1 h2 nt => s2.keep a o h1 h2 nt)
  cases et : ts[i]? with
  | none =>
    have hl : ts.length ≤ i := List.getElem?_eq_none_iff.mp et
    have ei : i = ts.length := by omega
    rw [List.drop_eq_nil_of_le hl] at ec
    cases ec
    rw [List.append_nil] at el
    subst el
    refine .inl ⟨by rw [ei]; exact y2, ?_⟩
    exact p (.ref D) F2 r2 H2 (s1.trans s2) g2 ⟨D, rfl, fD2, rD2, d3, acc, hD2, rl⟩ fun q hq => by cases hq; exact s1.free D hD
  | some t =>
    have hl' : i < ts.length := (List.getElem?_eq_some_iff.mp et).1
    have ed : ts.drop i = t :: ts.drop (i + 1) := by
      rw [List.drop_eq_getElem_cons hl']
      have : ts[i] = t := by have := List.getElem?_eq_getElem hl'; rw [et] at this; exact (Option.some.inj this).symm
      rw [this]
    rw [ed] at ec
    obtain ⟨go, yl⟩ := y1 i t et
    refine .inr ⟨go, fun H' => (m - 1) + (i + 1) = ts.length ∧ ∃ (F' : Hp) (r' : List Addr) (S2 : Store) (l1 l2 : List T) (acc : List V), Step F1 r1 H1 F' r' H' ∧ Good W F' r' H' σ env S2 ∧ H' D = some (.lst acc) ∧ F' D = none ∧ D ∉ r' ∧ RepL W F' r' l1 acc ∧
      compL (fun env' S' => stepC C c ce env' S') (setG g) (wipeE env (slotsG g)) (ts.drop (i + 1)) S2 = .ok l2 S' ∧ l1 ++ l2 = l, fun H' q => ⟨m - 1, by omega, q⟩, fun v H3 y => ?_⟩
    obtain ⟨F3, yd, rt⟩ := yl v H3 y
    obtain ⟨g3, s3⟩ := yd.good g2
    have ec : (match setG g t (wipeE env (slotsG g)) with
      | some env' => (stepC C c ce env' S2).bind fun r S1 => (compL (fun env' S' => stepC C c ce env' S') (setG g) (wipeE env (slotsG g)) (ts.drop (i + 1)) S1).bind fun l S2 => .ok (match r with | some x => x :: l | none => l) S2
      | none => .no) = .ok l2 S' := ec
    cases es : setG g t (wipeE env (slotsG g)) with
    | none => rw [es] at ec; cases ec
    | some env3 =>
      rw [es] at ec
      obtain ⟨o, S3, e5, ec⟩ := bind_ok ec
      obtain ⟨l3, S4, e6, ec⟩ := bind_ok ec
      have hcs : consO o l3 = l2 ∧ S4 = S' := by cases o <;> (cases ec; exact ⟨rfl, rfl⟩)
      obtain ⟨hcs, rfl⟩ := hcs
      refine ⟨F3, r2, wipeE env (slotsG g), t, env3, fun σ e => Good W F3 r2 H3 σ e S2, fun σ env i t v a rt => a.setVal rt, g3.le, good_wipe g3 _, rt, es, fun σ4 g4 k4 n4 => ⟨wipe_eq k4 n4, ?_⟩⟩
      -- what is behind the turn
      have behind : ∀ (F5 : Hp) (r5 : List Addr) (H5 : Hp), Step F3 r2 H3 F5 r5 H5 → Good W F5 r5 H5 σ4 env3 S3 → Step F2 r2 H2 F5 r5 H5 ∧ Good W F5 r5 H5 σ env S3 ∧ H5 D = some (.lst acc) ∧ F5 D = none ∧ D ∉ r5 := fun F5 r5 H5 s5 g5 => by
        have s := s3.trans s5
        refine ⟨s, ⟨g5.le, g5.st, g2.en.step s⟩, s.keep D _ hD2 rD2 (fun _ z => by cases z), ?_, fun hm => ?_⟩
        · cases q : F5 D with
          | none => rfl
          | some z =>
            rcases s.new D (by rw [q]; simp) with z1 | z1
            · exact absurd fD2 z1
            · rw [hD2] at z1; cases z1
        · rcases s.rnew D hm with z1 | z1
          · exact rD2 z1
          · rw [hD2] at z1; cases z1
      refine stepC_ok g4 e5 (fun u v F5 r5 H5 eo s5 g5 ru => ?_) (fun F5 r5 H5 eo s5 g5 => ?_)
      · obtain ⟨b1, b2, b3, b4, b5⟩ := behind F5 r5 H5 s5 g5
        subst eo
        have el' : l1 ++ (u :: l3) = l := by rw [← el, ← hcs]; rfl
        refine ⟨acc, b3, ?_, by omega, F5, r5, S3, l1 ++ [u], l3, acc ++ [v], (s2.trans b1).alone hD _, b2.alone b4 b5 d3 (fun fs z => by rw [b3] at z; cases z) _ (tabs_write b2.st.tb (fun ps z => by rw [b3] at z; cases z) fun c q z => by rw [b3] at z; unfold LamX.CodeO at z; cases z) (code_write fun c q z => by rw [b3] at z; unfold LamX.CodeO at z; cases z), upd_same, b4, b5, (rl.mono b1.le b1.pre).app (.cons ru .nil), e6, by rw [List.append_assoc]; exact el'⟩
        rw [← rl.len]
        have : l.length = l1.length + (l3.length + 1) := by rw [← el']; simp
        show l1.length < LIM
        omega
      · obtain ⟨b1, b2, b3, b4, b5⟩ := behind F5 r5 H5 s5 g5
        subst eo
        exact ⟨by omega, F5, r5, S3, l1, l3, acc, s2.trans b1, b2, b3, b4, b5, rl.mono b1.le b1.pre, e6, by rw [← el, ← hcs]; rfl⟩
end
end Z
set_option Elab.async false
set_option linter.all false
set_option maxRecDepth 100000
set_option maxHeartbeats 4000000
namespace Z
open PySem PySem.Spec PyProof.Rows L2
def spF (W : WT) (n : Nat) (f : List T → Store → Out R) : Sp := fun vs H Q E => vs.length = n ∧ ∃ (F : Hp) (r : List Addr) (ts : List T) (S : Store), RepL W F r ts vs ∧ Le F H ∧ StoreOk W F r H S ∧ (match f ts S with
  | .ok x S' => ∀ (v : V) (F' : Hp) (r' : List Addr) (H' : Hp), Step F r H F' r' H' → Le F' H' → StoreOk W F' r' H' S' → ValOf W H F' r' H' x v → Q v H'
  | .ex c l S' => ∀ (F' : Hp) (r' : List Addr) (H' : Hp) (cls : Value) (d : Option Addr), Step F r H F' r' H' → Le F' H' → StoreOk W F' r' H' S' → ExV W F' r' H' c l cls d → E cls d H'
  | .no => False)
def spI (W : WT) (n c : Nat) (f : List T → Store → Out R) : Sp := fun vs H Q E => vs.length = n ∧ ∃ (F : Hp) (r : List Addr) (ts : List T) (S : Store) (H0 : Hp) (x dx : Addr) (ws : List V), vs = .ref x :: ws ∧ H = upd (upd H0 dx (.own x)) x (.ins (W.cadr c) dx []) ∧ H0 x = none ∧ H0 dx = none ∧ dx ≠ x ∧
  RepL W F r ts ws ∧ Le F H0 ∧ StoreOk W F r H0 S ∧ (match f ts S with
  | .ok y S' => ∃ ob, y = .fresh ob ∧ ∀ (F' : Hp) (r' : List Addr) (H' : Hp), Step F r H0 F' r' H' → Le F' H' → StoreOk W F' r' H' S' → F' x = none → x ∉ r' → ObRep W F' r' H' x ob → Q .non H'
  | .ex c l S' => ∀ (F' : Hp) (r' : List Addr) (H' : Hp) (cls : Value) (d : Option Addr), Step F r H0 F' r' H' → Le F' H' → StoreOk W F' r' H' S' → ExV W F' r' H' c l cls d → E cls d H'
  | .no => False)
section
variable {W : WT} {wx : WX} {X : Cx} {C : EC} {e : Expr} {es : List Expr} {ce : CE} {ces : CEs} {pos p : Pos} {k g c n : Nat} {f : Addr} {fd : FuncData} {ps : List Str} {x : Str}
theorem back_ok {F1 F2 H1 H2 : Hp} {r1 r2 : List Addr} {σ : L2.St} {env : Env} {S1 S' : Store} {x : R} {v : V} (g1 : Good W F1 r1 H1 σ env S1) (s2 : Step F1 r1 H1 F2 r2 H2) (l2 : Le F2 H2) (st2 : StoreOk W F2 r2 H2 S') (vo : ValOf W H1 F2 r2 H2 x v) : Good W F2 r2 H2 σ env S' ∧ RRep W F2 r2 H2 σ env x v ∧ NewR H1 x v := by
  refine ⟨⟨l2, st2, g1.en.step s2⟩, ?_, ?_⟩
  · cases x with
    | val t => exact vo
    | own i => exact vo.elim
    | hot c l => exact vo.elim
    | fresh o =>
      obtain ⟨a, rfl, h1, h2, h3, h4⟩ := vo
      refine ⟨a, rfl, h2, h3, fun ⟨i, u, z1, z2⟩ => ?_, h4⟩
      obtain ⟨b, y1, _, _, y4⟩ := g1.en.own i u z1
      rw [z2] at y1
      cases y1
      obtain ⟨w, hw⟩ := y4.there
      rw [h1] at hw
      cases hw
  · cases x with
    | fresh o =>
      obtain ⟨a, rfl, h1, _⟩ := vo
      exact fun q hq => by cases hq; exact h1
    | _ => trivial
theorem spF_of {σ : L2.St} {F1 H1 : Hp} {r1 : List Addr} {env : Env} {S1 : Store} {Q : VK} {f : List T → Store → Out R} {ts : List T} {vs : List V} (g1 : Good W F1 r1 H1 σ env S1) (rl : RepL W F1 r1 ts vs) (hn : f ts S1 ≠ .no → ts.length = n) (h : Rs W wx F1 r1 H1 σ env (f ts S1) fun x S' => Post W F1 r1 H1 σ env x S' Q) : spF W n f vs H1 Q (wE wx σ) := by
  have hl : vs.length = n := by
    rw [← rl.len]
    refine hn fun z => ?_
    rw [z] at h
    exact h
  refine ⟨hl, F1, r1, ts, S1, rl, g1.le, g1.st, ?_⟩
  cases e : f ts S1 with
  | ok x S' =>
    rw [e] at h
    intro v F2 r2 H2 s2 l2 st2 vo
    obtain ⟨z1, z2, z3⟩ := back_ok g1 s2 l2 st2 vo
    exact (show Post W F1 r1 H1 σ env x S' Q from h) v F2 r2 H2 s2 z1 z2 z3
  | ex c l S' =>
    rw [e] at h
    exact fun F' r' H' cls d s' l' st' ev => h F' r' H' cls d s' ⟨l', st', g1.en.step s'⟩ ev
  | no => rw [e] at h; exact h
theorem call_core {σ : L2.St} {H : Hp} {Q : VK} (hn : ∀ (ts : List T) (S : Store), C.call g ts S ≠ .no → ts.length = n) (h : tE W wx (evE C (.call g ces)) σ H Q) : tCallW (spF W n (C.call g)) [] (wE wx) (tA W wx (evEs C ces)) σ H Q := by
  obtain ⟨F, r, env, S, gd, h⟩ := h
  refine ⟨F, r, env, S, gd, Rs.bind (show Rs W wx F r H σ env ((evEs C ces env S).bind _) _ from h) fun ts S1 e vs F1 r1 H1 s1 g1 rl => ?_⟩
  show spF W n (C.call g) (vs ++ []) H1 Q (wE wx σ)
  rw [List.append_nil]
  exact spF_of g1 rl (hn ts S1) (e.later s1)
theorem e_call (tk : Takes X wx) (F : FnX X k f fd ps (spF W n (C.call g))) (hn : ∀ (ts : List T) (S : Store), C.call g ts S ≠ .no → ts.length = n) (hr : RoomG k X.A) (hg : Gl X x) (hm : X.mg x = some (.ref f)) (hk : PySem.W.keepIn X.K (.ref f) = true) (hb : Binds X.K fd ps [])
    (ha : SA W wx C X (e :: es) ces) (he : plainArg e = true) (hes : es.all plainArg = true) (hd : (x == ("__debug__" : Str)) = false) : SE W wx C X (.Call (.Name x p) (e :: es) [] pos) (.call g ces) :=
  (x_call F hr hg hm hk hb .nil (passW tk) ha hd (star_cons he es X.env) (star_none hes pos X.env)).imp fun _ _ _ h => call_core hn h
theorem e_call0 (tk : Takes X wx) (F : FnX X k f fd ps (spF W n (C.call g))) (hn : ∀ (ts : List T) (S : Store), C.call g ts S ≠ .no → ts.length = n) (hr : RoomG k X.A) (hg : Gl X x) (hm : X.mg x = some (.ref f)) (hk : PySem.W.keepIn X.K (.ref f) = true) (hb : Binds X.K fd ps [])
    (hd : (x == ("__debug__" : Str)) = false) : SE W wx C X (.Call (.Name x p) [] [] pos) (.call g .nil) :=
  (x_call0 F hr hg hm hk hb .nil (passW tk) hd).imp fun σ H Q h => by
    obtain ⟨F0, r, env, S, gd, kk⟩ := call_core hn h
    exact (show PostA W F0 r H σ env _ [] S from kk) [] F0 r H (Step.refl F0 r H) gd .nil
theorem e_new0 (no : ∀ ts S, C.new c ts S = .no) (hk : PySem.W.keepIn X.K (.ref (W.cadr c)) = true) (hg : Gl X x) (hm : X.mg x = some (.ref (W.cadr c)))
    (ha : SA W wx C X (e :: es) ces) (he : plainArg e = true) (hes : es.all plainArg = true) (hd : (x == ("__debug__" : Str)) = false) : SE W wx C X (.Call (.Name x p) (e :: es) [] pos) (.new c ces) := ⟨fun pins s σ H Q I h =>
  wpAny_Call_Name_kw (ld_glob I hg hm (PySem.W.callWith_K (h₀ := X.base) I.ok.mod.kin hk (thn (ha.run pos pins s σ H (fun _ _ => False) I (by
    obtain ⟨F, r, env, S, gd, h⟩ := h
    refine ⟨F, r, env, S, gd, Rs.bind (show Rs W wx F r H σ env ((evEs C ces env S).bind _) _ from h) fun ts S1 h vs F1 r1 H1 s1 g1 rl => ?_⟩
    rw [no] at h
    exact h)) fun us s1 ⟨vs, H1, I1, r, q⟩ => q.elim) (star_cons he es X.env) (star_none hes pos X.env)) hd)⟩
theorem e_new (tk : Takes X wx) (M : Mk X.K (W.cadr c) f) (F : FnX X k f fd ps (spI W n c (C.new c))) (hn : ∀ (ts : List T) (S : Store), (C.new c ts S ≠ .no → ts.length + 1 = n) ∧ ∀ S' x, C.new c ts S = .ok x S' → ∃ o, x = .fresh o) (hr : RoomG (k + 1) X.A) (hg : Gl X x) (hm : X.mg x = some (.ref (W.cadr c))) (hb : Binds X.K fd ps [])
    (ha : SA W wx C X (e :: es) ces) (he : plainArg e = true) (hes : es.all plainArg = true) (hd : (x == ("__debug__" : Str)) = false) : SE W wx C X (.Call (.Name x p) (e :: es) [] pos) (.new c ces) :=
  (x_make M F hr hg hm hb .nil (passW tk) ha hd (star_cons he es X.env) (star_none hes pos X.env)).imp fun σ H Q h => by
  obtain ⟨F, r, env, S, gd, h⟩ := h
  refine ⟨F, r, env, S, gd, Rs.bind (show Rs W wx F r H σ env ((evEs C ces env S).bind _) _ from h) fun ts S1 h vs F1 r1 H1 s1 g1 rl x dx n1 n2 nd => ?_⟩
  have h := h.later s1
  rw [List.append_nil]
  have hl : ts.length + 1 = n := (hn ts S1).1 fun z => by rw [z] at h; exact h
  refine ⟨by rw [List.length_cons, ← rl.len]; exact hl, F1, r1, ts, S1, H1, x, dx, vs, rfl, rfl, n1, n2, nd, rl, g1.le, g1.st, ?_⟩
  cases e : C.new c ts S1 with
  | no => rw [e] at h; exact h
  | ex cc l S' =>
    rw [e] at h
    exact fun F' r' H' cls d s' l' st' ev => h F' r' H' cls d s' ⟨l', st', g1.en.step s'⟩ ev
  | ok y S' =>
    obtain ⟨o, rfl⟩ := (hn ts S1).2 S' y e
    rw [e] at h
    refine ⟨o, rfl, fun F2 r2 H2 s2 l2 st2 f2 x2 ob => ⟨rfl, ?_⟩⟩
    have g2 : Good W F2 r2 H2 σ env S' := ⟨l2, st2, g1.en.step s2⟩
    refine (show Post W F1 r1 H1 σ env (.fresh o) S' Q from h) _ F2 r2 H2 s2 g2 ⟨x, rfl, f2, x2, fun ⟨i, u, z1, z2⟩ => ?_, ob⟩ fun q hq => by cases hq; exact n1
    obtain ⟨b, y1, _, _, y4⟩ := g1.en.own i u z1
    rw [z2] at y1
    cases y1
    obtain ⟨w, hw⟩ := y4.there
    rw [n1] at hw
    cases hw
end
theorem start_len {N : List Str} {vs : List V} (h : vs.length ≤ N.length) : (L2.start N vs).length = N.length := by
  unfold L2.start
  rw [List.length_append, List.length_map, List.length_replicate]
  omega
theorem slots_len {n : Nat} {l : List Slot} (h : l.length ≤ n) : (slots n l).length = n := by
  unfold slots
  rw [List.length_append, List.length_replicate]
  omega
theorem start_get {N : List Str} {vs : List V} {i : Nat} {v : V} (h : vs[i]? = some v) : (L2.start N vs)[i]? = some (some v) := by
  unfold L2.start
  have hl := (List.getElem?_eq_some_iff.mp h).1
  rw [List.getElem?_append_left (by rw [List.length_map]; exact hl), List.getElem?_map, h]; rfl
theorem slots_get {n : Nat} {l : List Slot} {i : Nat} {s : Slot} (h : (slots n l)[i]? = some s) : l[i]? = some s ∨ s = .un := by
  unfold slots at h
  by_cases hl : i < l.length
  · rw [List.getElem?_append_left hl] at h; exact .inl h
  · rw [List.getElem?_append_right (by omega), List.getElem?_replicate] at h
    split at h
    · cases h; exact .inr rfl
    · cases h
section
variable {P : Program} {w : World} {W : WT} {mg : Str → Option Value} {base : Heap} {k : Nat} {f : Addr} {fd : FuncData} {ps N : List Str} {name qual : Str} {params : Arguments} {body : List Stmt} {scope : Scope} {dvs : List V} {kws : List (Str × V)} {C : EC} {fdef : FDef}
theorem env_start {F H : Hp} {r : List Addr} {ts : List T} {vs : List V} {S : Store} (rl : RepL W F r ts vs) (l : Le F H) (st : StoreOk W F r H S) (hn : vs.length ≤ N.length) : Good W F r H (L2.start N vs) (slots N.length (ts.map Slot.val)) S where
  le := l
  st := st
  en := {
    val := fun i t h => by
      rcases slots_get h with h | h
      · rw [List.getElem?_map] at h
        cases e : ts[i]? with
        | none => rw [e] at h; cases h
        | some u =>
          rw [e] at h
          cases h
          obtain ⟨v, hv, rt⟩ := rl.get e
          exact ⟨v, start_get hv, rt⟩
      · cases h
    own := fun i o h => by
      rcases slots_get h with h | h
      · rw [List.getElem?_map] at h
        cases e : ts[i]? with
        | none => rw [e] at h; cases h
        | some u => rw [e] at h; cases h
      · cases h
    hot := fun i c l h => by
      rcases slots_get h with h | h
      · rw [List.getElem?_map] at h
        cases e : ts[i]? with
        | none => rw [e] at h; cases h
        | some u => rw [e] at h; cases h
      · cases h
    act := fun i h => by
      rcases slots_get h with h | h
      · rw [List.getElem?_map] at h
        cases e : ts[i]? with
        | none => rw [e] at h; cases h
        | some u => rw [e] at h; cases h
      · cases h
    len := by rw [slots_len (by rw [List.length_map, rl.len]; exact hn), start_len hn]
    ap := fun i j o u p h => by
      rcases slots_get h with h | h
      · rw [List.getElem?_map] at h
        cases e : ts[i]? with
        | none => rw [e] at h; cases h
        | some u => rw [e] at h; cases h
      · cases h }
structure BdOk (P : Program) (w : World) (W : WT) (mg : Str → Option Value) (base : Heap) (N : List Str) (f : Addr) (qual : Str) (scope : Scope) (k : Nat) (X : Cx) : Prop where
  prog : X.prog = P
  w : X.w = w
  K : X.K = W.K
  mg : X.mg = mg
  base : X.base = base
  nd : N.Nodup
  N : X.N = N
  sc : X.env.scope = scope
  fnn : X.fn = fun _ => true
  calm : X.calm = true
  room : RoomG k X.A
  stk : X.stack = X.env :: X.outer
  fr : X.env.frame = some X.env.locals
  cd : ∃ (oc : Value) (od : Option Addr) (fd : FuncData) (osl : Array (Option Value)), W.K.lookup f = some ⟨oc, od, .func fd, osl⟩ ∧ X.env.code = fd.code
  ql : X.env.qual = qual ++ ".<locals>."
  own : PassesOwn (model X.prog X.w) X.A X.env X.xe
theorem takes_body {CXo : List PySem.Env} {cdv : Value} {A : Around} {s : Shared} {H : Hp} {E : XK} : Takes (cxOf (L2.CX P w) P w W.K mg base N qual scope f cdv A CXo s H E) (fun cls d _ H' => E cls d H') := takes_of rfl rfl rfl rfl
theorem fn_sound (FD : FunD W.K name qual params body scope dvs kws f fd) (Sc : FnScope N ps scope) (hnp : fdef.np = ps.length) (hnl : fdef.nl = N.length)
    (hb : ∀ (en : Ent) (X : Cx) (wx : WX), BdOk P w W mg base N f qual scope k X → Takes X wx → SSs W wx en [] C X body fdef.body) : FnG P w W.K mg base (k + 1) f fd ps (spF W ps.length (fun ts S => runF C fdef ts S)) := by
  refine fnG_of FD Sc (fun vs H Q E h => h.1) fun cdv A ou s H vs Q E hr lkc hsp => ?_
  obtain ⟨hl, F, r, ts, S, rl, l, st, q⟩ := hsp
  have hpl : ps.length ≤ N.length := by have := congrArg List.length Sc.pre; rw [List.length_take] at this; omega
  refine ⟨_, hb ⟨F, r, H⟩ _ _ ⟨rfl, rfl, rfl, rfl, rfl, Sc.nd, rfl, rfl, rfl, rfl, hr, rfl, rfl, lkc, rfl, passes_of rfl⟩ takes_body, F, r, slots fdef.nl (ts.map Slot.val), S, ?_, ?_⟩
  · rw [hnl]
    refine ⟨env_start rl l st (by omega), Step.refl F r H, fun i o p h => ?_⟩
    rcases slots_get h with h | h
    · rw [List.getElem?_map] at h
      cases e : ts[i]? with
      | none => rw [e] at h; cases h
      | some u => rw [e] at h; cases h
    · cases h
  · have hl2 : (ts.length == fdef.np) = true := by rw [hnp, rl.len, hl]; exact beq_self_eq_true _
    unfold runF at q
    dsimp only at q
    rw [hl2] at q
    dsimp only at q
    cases eb : exB C fdef.body (slots fdef.nl (ts.map Slot.val)) S with
    | nx env' S2 =>
      rw [eb] at q
      exact fun σ' F' r' H' a' _ _ _ => q _ F' r' H' a'.step a'.good.le a'.good.st .non
    | rt r2 S2 =>
      rw [eb] at q
      exact fun v F' r' H' s' l' st' vo => q v F' r' H' s' l' st' vo
    | ex c l env' S2 =>
      rw [eb] at q
      exact fun σ' F' r' H' cls d a' _ _ _ ev => q F' r' H' cls d a'.step a'.good.le a'.good.st ev
    | bk e s => rw [eb] at q; exact q.elim
    | ct e s => rw [eb] at q; exact q.elim
    | no => rw [eb] at q; exact q.elim
theorem init_sound {c : Nat} {cd : CDef} (FD : FunD W.K name qual params body scope dvs kws f fd) (Sc : FnScope N ps scope) (hnp : fdef.np = ps.length) (hnl : fdef.nl = N.length) (hnf : cd.nf ≤ W.nat) (ck : W.cok c)
    (hb : ∀ (en : Ent) (X : Cx) (wx : WX), BdOk P w W mg base N f qual scope k X → Takes X wx → SSs W wx en [0] C X body fdef.body) : FnG P w W.K mg base (k + 1) f fd ps (spI W ps.length c (fun ts S => runI C c cd fdef ts S)) := by
  refine fnG_of FD Sc (fun vs H Q E h => h.1) fun cdv A ou s H vs Q E hr lkc hsp => ?_
  obtain ⟨hl, F, r, ts, S, H0, x, dx, ws, rfl, rfl, n1, n2, nd, rl, l, st, q⟩ := hsp
  have hpl : ps.length ≤ N.length := by have := congrArg List.length Sc.pre; rw [List.length_take] at this; omega
  have hwl : ws.length + 1 = ps.length := hl
  have s1 : Step F r H0 F r (upd (upd H0 dx (.own x)) x (.ins (W.cadr c) dx [])) := ((Step.refl F r H0).alone n2 _).alone n1 _
  have fx : F x = none := by
    cases q : F x with
    | none => rfl
    | some z => rw [l _ _ q] at n1; cases n1
  have fdx : F dx = none := by
    cases q : F dx with
    | none => rfl
    | some z => rw [l _ _ q] at n2; cases n2
  have rx : ∀ {a : Addr}, H0 a = none → a ∉ r := fun h hm => by
    obtain ⟨u, hu⟩ := st.tracked hm
    rw [h] at hu; cases hu
  have st1 : StoreOk W F r (upd (upd H0 dx (.own x)) x (.ins (W.cadr c) dx [])) S := ⟨st.len, st.nd, fun n a o h1 h2 => by
    obtain ⟨z1, z2⟩ := st.at_ n a o h1 h2
    have hm : a ∈ r := List.mem_of_getElem? h1
    exact ⟨z1, (z2.other fun (e : a = dx) => rx n2 (by rw [← e]; exact hm)).other fun (e : a = x) => rx n1 (by rw [← e]; exact hm)⟩,
    tabs_laid (tabs_laid st.tb n2) (by rw [upd_ne nd.symm]; exact n1), st.nt⟩
  have ob0 : ObRep W F r (upd (upd H0 dx (.own x)) x (.ins (W.cadr c) dx [])) x (.ins c (List.replicate cd.nf none)) := by
    refine ⟨dx, [], upd_same, ⟨by rw [List.length_replicate]; exact hnf, fun i t h => ?_, fun _ _ => rfl, Nat.zero_le _⟩, ck⟩
    rw [List.getElem?_replicate] at h
    split at h <;> cases h
  refine ⟨_, hb ⟨F, r, H0⟩ _ _ ⟨rfl, rfl, rfl, rfl, rfl, Sc.nd, rfl, rfl, rfl, rfl, hr, rfl, rfl, lkc, rfl, passes_of rfl⟩ takes_body, F, r, slots fdef.nl (.own (.ins c (List.replicate cd.nf none)) :: ts.map Slot.val), S, ?_, ?_⟩
  · rw [hnl]
    have own0 : ∀ {i : Nat} {o : Ob}, (slots N.length (Slot.own (.ins c (List.replicate cd.nf none)) :: ts.map Slot.val))[i]? = some (Slot.own o) → i = 0 ∧ o = .ins c (List.replicate cd.nf none) := fun {i o} h => by
      rcases slots_get h with h | h
      · cases i with
        | zero => cases h; exact ⟨rfl, rfl⟩
        | succ i =>
          rw [List.getElem?_cons_succ, List.getElem?_map] at h
          cases e : ts[i]? with
          | none => rw [e] at h; cases h
          | some u => rw [e] at h; cases h
      · cases h
    refine ⟨⟨le_write (le_write l fdx) fx, st1, ⟨fun i t h => ?_, fun i o h => ?_, fun i cc l h => ?_, fun i h => ?_, ?_, fun i j o u p h1 h2 _ _ => (own0 h1).1.trans (own0 h2).1.symm⟩⟩, s1, fun i o p h hs => ?_⟩
    · rcases slots_get h with h | h
      · cases i with
        | zero => cases h
        | succ i =>
          rw [List.getElem?_cons_succ, List.getElem?_map] at h
          cases e : ts[i]? with
          | none => rw [e] at h; cases h
          | some u =>
            rw [e] at h
            cases h
            obtain ⟨v, hv, rt⟩ := rl.get e
            exact ⟨v, start_get (by rw [List.getElem?_cons_succ]; exact hv), rt⟩
      · cases h
    · obtain ⟨rfl, rfl⟩ := own0 h
      exact ⟨x, start_get rfl, fx, rx n1, ob0⟩
    · rcases slots_get h with h | h
      · cases i with
        | zero => cases h
        | succ i =>
          rw [List.getElem?_cons_succ, List.getElem?_map] at h
          cases e : ts[i]? with
          | none => rw [e] at h; cases h
          | some u => rw [e] at h; cases h
      · cases h
    · rcases slots_get h with h | h
      · cases i with
        | zero => cases h
        | succ i =>
          rw [List.getElem?_cons_succ, List.getElem?_map] at h
          cases e : ts[i]? with
          | none => rw [e] at h; cases h
          | some u => rw [e] at h; cases h
      · cases h
    · rw [slots_len (by rw [List.length_cons, List.length_map, rl.len]; omega), start_len (by rw [List.length_cons]; omega)]
    · obtain ⟨rfl, rfl⟩ := own0 h
      rw [start_get (v := V.ref x) rfl] at hs
      cases hs
      exact n1
  · have hl2 : (ts.length + 1 == fdef.np) = true := by rw [hnp, rl.len, hwl]; exact beq_self_eq_true _
    unfold runI at q
    dsimp only at q
    rw [hl2] at q
    dsimp only at q
    cases eb : exB C fdef.body (slots fdef.nl (.own (.ins c (List.replicate cd.nf none)) :: ts.map Slot.val)) S with
    | nx env' S2 =>
      rw [eb] at q
      dsimp only at q
      cases eo : (env'[0]? : Option Slot) with
      | none => rw [eo] at q; exact q.elim
      | some so =>
        rw [eo] at q
        cases so with
        | own o =>
          obtain ⟨ob, e1, q⟩ := q
          cases e1
          refine fun σ' F' r' H' a' _ _ k => ?_
          obtain ⟨p, z1, z2, z3, z4⟩ := a'.good.en.own 0 _ eo
          have z5 : σ'[0]? = (L2.start N (V.ref x :: ws))[0]? := k 0 (List.mem_singleton.mpr rfl)
          rw [start_get (v := V.ref x) rfl] at z5
          rw [z5] at z1
          cases z1
          exact q F' r' H' a'.step a'.good.le a'.good.st z2 z3 z4
        | _ => exact q.elim
    | ex cc l env' S2 =>
      rw [eb] at q
      exact fun σ' F' r' H' cls d a' _ _ _ ev => q F' r' H' cls d a'.step a'.good.le a'.good.st ev
    | rt r2 S2 => rw [eb] at q; exact q.elim
    | bk e s => rw [eb] at q; exact q.elim
    | ct e s => rw [eb] at q; exact q.elim
    | no => rw [eb] at q; exact q.elim
end
end Z
set_option Elab.async false
set_option linter.all false
set_option maxRecDepth 100000
set_option maxHeartbeats 4000000
namespace Z
open PySem PySem.Spec PyProof.Rows L2
section
variable {W : WT} {F H : Hp} {r : List Addr} {σ : L2.St} {env : Env} {S : Store}
theorem Good.track {p : Addr} {o : Ob} (g : Good W F r H σ env S) (hF : F p = none) (hr : p ∉ r) (hown : ¬ OwnAt σ env p) (ob : ObRep W F r H p o) : Good W F (r ++ [p]) H σ env (S ++ [o]) where
  le := g.le
  st := {
    tb := g.st.tb
    nt := g.st.nt
    len := by rw [List.length_append, List.length_append, g.st.len]; rfl
    nd := fun i j a h1 h2 => by
      by_cases hi : i < r.length
      · rw [List.getElem?_append_left hi] at h1
        by_cases hj : j < r.length
        · rw [List.getElem?_append_left hj] at h2
          exact g.st.nd i j a h1 h2
        · rw [List.getElem?_append_right (by omega)] at h2
          have e : a = p := by
            have : [p][j - r.length]? = some a := h2
            cases q : j - r.length with
            | zero => rw [q] at this; exact (Option.some.inj this).symm
            | succ n => rw [q] at this; simp at this
          exact absurd (List.mem_of_getElem? h1) (e ▸ hr)
      · rw [List.getElem?_append_right (by omega)] at h1
        have zi : i = r.length ∧ a = p := by
          have : [p][i - r.length]? = some a := h1
          cases q : i - r.length with
          | zero => rw [q] at this; exact ⟨by omega, (Option.some.inj this).symm⟩
          | succ n => rw [q] at this; simp at this
        by_cases hj : j < r.length
        · rw [List.getElem?_append_left hj] at h2
          exact absurd (List.mem_of_getElem? h2) (zi.2 ▸ hr)
        · rw [List.getElem?_append_right (by omega)] at h2
          have : [p][j - r.length]? = some a := h2
          cases q : j - r.length with
          | zero => omega
          | succ n => rw [q] at this; simp at this
    at_ := fun n a u h1 h2 => by
      have weak : ∀ {q : Addr} {w : Ob}, ObRep W F r H q w → ObRep W F (r ++ [p]) H q w := fun {q w} z => by
        cases w with
        | lst ts => obtain ⟨vs, e, x⟩ := z; exact ⟨vs, e, x.mono (Le.refl F) (Pre.app r p)⟩
        | ins c fs => obtain ⟨dx, fvs, e, x, ck⟩ := z; exact ⟨dx, fvs, e, x.mono (Le.refl F) (Pre.app r p), ck⟩
        | dct ks vs => exact z
      by_cases hi : n < r.length
      · rw [List.getElem?_append_left hi] at h1
        rw [List.getElem?_append_left (by rw [← g.st.len]; exact hi)] at h2
        exact ⟨(g.st.at_ n a u h1 h2).1, weak (g.st.at_ n a u h1 h2).2⟩
      · rw [List.getElem?_append_right (by omega)] at h1
        rw [List.getElem?_append_right (by rw [← g.st.len]; omega), ← g.st.len] at h2
        cases q : n - r.length with
        | zero =>
          rw [q] at h1 h2
          cases h1
          cases h2
          exact ⟨hF, weak ob⟩
        | succ n => rw [q] at h1; simp at h1 }
  en := {
    val := fun i t h => let ⟨v, a, b⟩ := g.en.val i t h; ⟨v, a, b.mono (Le.refl F) (Pre.app r p)⟩
    own := fun i u h => by
      obtain ⟨q, a, b, c, d⟩ := g.en.own i u h
      refine ⟨q, a, b, fun hm => ?_, ?_⟩
      · rcases List.mem_append.mp hm with z | z
        · exact c z
        · exact hown ⟨i, u, h, by rw [← List.mem_singleton.mp z]; exact a⟩
      · cases u with
        | lst ts => obtain ⟨vs, e, x⟩ := d; exact ⟨vs, e, x.mono (Le.refl F) (Pre.app r p)⟩
        | ins c fs => obtain ⟨dx, fvs, e, x, ck⟩ := d; exact ⟨dx, fvs, e, x.mono (Le.refl F) (Pre.app r p), ck⟩
        | dct ks vs => exact d
    hot := fun i c l h => by
      obtain ⟨a, cls, d, z1, z2, z3⟩ := g.en.hot i c l h
      refine ⟨a, cls, d, z1, z2, z3.1, ?_⟩
      have h := z3.2
      split at h
      · exact h
      · obtain ⟨dd, v, e1, e2, e3, e4⟩ := h
        refine ⟨dd, v, e1, e2, fun hm => ?_, e4.mono (Le.refl F) (Pre.app r p)⟩
        rcases List.mem_append.mp hm with z | z
        · exact e3 z
        · rw [List.mem_singleton.mp z] at e2
          cases o with
          | lst ts => obtain ⟨vs, e, _⟩ := ob; rw [e] at e2; cases e2
          | ins c fs => obtain ⟨dx, fvs, e, _⟩ := ob; rw [e] at e2; cases e2
          | dct ks vs => exact ob
      · exact h
    act := fun i h => let ⟨f, z1, z2⟩ := g.en.act i h; ⟨f, z1, W.fam f _ _ _ _ _ _ (Le.refl F) (Pre.app r p) (fun _ _ z => z) z2⟩
    ap := g.en.ap
    len := g.en.len }
theorem Step.track {F1 H1 : Hp} {r1 : List Addr} (s : Step F r H F1 r1 H1) {p : Addr} (n : H p = none) : Step F r H F1 (r1 ++ [p]) H1 :=
  ⟨s.le, s.new, s.pre.trans (Pre.app r1 p), fun a h => (List.mem_append.mp h).elim (s.rnew a) fun z => .inr (by rw [List.mem_singleton.mp z]; exact n), s.keep, s.free, s.code, s.nt⟩
end
section
variable {W : WT} {wx : WX} {X : Cx} {C : EC} {e : Expr} {es fs : List Expr} {ce : CE} {ces cfs : CEs} {pos p : Pos} {k g c n : Nat} {f : Addr} {fd : FuncData} {ps ks : List Str} {x : Str}
theorem e_keep (he : SE W wx C X e ce) : SE W wx C X e (.keep ce) := he.imp fun σ H Q h => by
  obtain ⟨F, r, env, S, gd, h⟩ := h
  refine ⟨F, r, env, S, gd, Rs.bind (show Rs W wx F r H σ env ((evE C ce env S).bind _) _ from h) fun y S1 e v F1 r1 H1 s1 g1 rr n1 => ?_⟩
  cases y with
  | fresh o =>
    have q : Post W F r H σ env (.val (.ref S1.length)) (S1 ++ [o]) Q := e
    obtain ⟨p, rfl, hF, hr, hown, ob⟩ := rr
    refine q _ F1 (r1 ++ [p]) H1 (s1.track (n1 p rfl)) (g1.track hF hr hown ob) ?_ True.intro
    refine Rep.ref ?_
    rw [← g1.st.len, List.getElem?_append_right (Nat.le_refl _), Nat.sub_self]; rfl
  | val t => exact e.elim
  | own i => exact e.elim
  | hot c l => exact e.elim
def tyU (W : WT) : T → Value
  | .non => .type "NoneType"
  | .bl _ => .type "bool"
  | .int _ => .type "int"
  | .str _ => .type "str"
  | .tup _ => .type "tuple"
  | .lst _ => .type "list"
  | .dct _ _ => .type "dict"
  | .ins c _ => .ref (W.cadr c)
  | .ref _ => .none
theorem tyx_ok {F H : Hp} {r : List Addr} {t : T} {v : V} (l : Le F H) (h : Vw W F r H t v) : TyX W.K H v (tyU W t) := by
  cases t with
  | non => cases h; exact .base .non
  | bl b => cases h; exact .base (.bl b)
  | int i => cases h; exact .base (.int i)
  | str x => cases h; exact .base (.str x)
  | tup ts =>
    obtain ⟨a, vs, rfl, sq, _⟩ := h
    rcases l.sqT sq with h1 | ⟨o, its, n, h1, h2, _⟩
    · rcases h1 with h1 | ⟨o, h1⟩
      · exact .base (.tup h1)
      · exact .fTuple h1
    · exact .kTuple h1 h2
  | lst ts =>
    obtain ⟨a, vs, rfl, sq, _⟩ := h
    rcases sq with h1 | ⟨o, its, n, h1, h2, _⟩
    · rcases h1 with h1 | ⟨o, h1⟩
      · exact .base (.lst h1)
      · exact .base (.frz h1)
    · exact .kList h1 h2
  | ins c fs =>
    obtain ⟨a, dx, fvs, rfl, h1, _, ck⟩ := h
    exact .base (.ins h1 ck.1 ck.2.2.ha ck.2.2.hn ck.2.2.tk ck.2.2.mr)
  | dct ks vs =>
    obtain ⟨rfl, rfl, a, rfl, h1⟩ := h
    exact .base (.dK h1)
  | ref n => exact h.elim
def bName : BTy → String
  | .int => "int" | .bool => "bool" | .str => "str" | .tuple => "tuple" | .list => "list" | .own _ => "?" | .exc _ => "?"
def BTy.v (W : WT) : BTy → V
  | .own c => .ref (W.cadr c)
  | .exc c => (match W.xcl c with | .ref a => .ref a | .type n => .ty n | _ => .non)
  | b => .ty (bName b)
def BTy.u (W : WT) : BTy → Value
  | .own c => .ref (W.cadr c)
  | .exc c => W.xcl c
  | b => .type (bName b)
def plainTys : List String := ["NoneType", "bool", "int", "str", "tuple", "list", "dict"]
def IsOk (W : WT) : BTy → Prop
  | .own c => c ∈ W.cids ∧ ∀ a ∈ plainTys, PySem.W.kitOne W.K (.type a) (.ref (W.cadr c)) = some false
  | .exc c => (match W.xcl c with | .ref _ => True | .type _ => True | _ => False)
  | _ => True
theorem clsX {c : Nat} (h : match W.xcl c with | .ref _ => True | .type _ => True | _ => False) : ClsV ((BTy.exc c).v W) ((BTy.exc c).u W) := by
  show ClsV (match W.xcl c with | .ref a => V.ref a | .type n => .ty n | _ => .non) (W.xcl c)
  cases e : W.xcl c <;> rw [e] at h <;> first | exact .ty _ | exact .own _ | exact h.elim
theorem clsV {b : BTy} (h : IsOk W b) : ClsV (b.v W) (b.u W) := by
  cases b with
  | exc c => exact clsX h
  | own c => exact .own _
  | _ => exact .ty _
theorem kit1 {F H : Hp} {r : List Addr} {t : T} {v : V} {b : BTy} {q : Bool} (hb : IsOk W b) (h : Vw W F r H t v) (e : isiT1 t b = some q) : PySem.W.kitOne W.K (tyU W t) (b.u W) = some q := by
  cases t with
  | dct ks vs => cases b <;> cases e <;> first | exact hb.2 "dict" (by decide) | exact kit_ty (by decide +kernel)
  | ref n => exact h.elim
  | ins c fs =>
    obtain ⟨a, dx, fvs, rfl, h1, _, ck⟩ := h
    cases b with
    | own d => cases e; exact ck.2.2.ot d hb.1
    | exc d => cases e
    | int => cases e; exact ck.2.2.bt "int" (by simp)
    | bool => cases e; exact ck.2.2.bt "bool" (by simp)
    | str => cases e; exact ck.2.2.bt "str" (by simp)
    | tuple => cases e; exact ck.2.2.bt "tuple" (by simp)
    | list => cases e; exact ck.2.2.bt "list" (by simp)
  | non => cases b <;> cases e <;> first | exact hb.2 "NoneType" (by decide) | exact kit_ty (by decide +kernel)
  | bl z => cases b <;> cases e <;> first | exact hb.2 "bool" (by decide) | exact kit_ty (by decide +kernel)
  | int z => cases b <;> cases e <;> first | exact hb.2 "int" (by decide) | exact kit_ty (by decide +kernel)
  | str z => cases b <;> cases e <;> first | exact hb.2 "str" (by decide) | exact kit_ty (by decide +kernel)
  | tup z => cases b <;> cases e <;> first | exact hb.2 "tuple" (by decide) | exact kit_ty (by decide +kernel)
  | lst z => cases b <;> cases e <;> first | exact hb.2 "list" (by decide) | exact kit_ty (by decide +kernel)
theorem kitN {F H : Hp} {r : List Addr} {t : T} {v : V} : ∀ {bs : List BTy} {q : Bool}, (∀ b ∈ bs, IsOk W b) → Vw W F r H t v → isiT t bs = some q → PySem.W.kitAny W.K (tyU W t) (bs.map (BTy.u W)) = some q
  | [], q, _, _, e => by cases e; rfl
  | b :: bs, q, hb, h, e => by
    unfold isiT at e
    split at e
    · rename_i e1
      cases e
      exact kitAny_cons (kit1 (hb b List.mem_cons_self) h e1) (fun z => nomatch z) fun _ => rfl
    · rename_i e1
      exact kitAny_cons (kit1 (hb b List.mem_cons_self) h e1) (fun _ => kitN (fun b hm => hb b (List.mem_cons_of_mem _ hm)) h e) fun z => nomatch z
    · cases e
def NamesTy (W : WT) (X : Cx) (e : Expr) (b : BTy) : Prop := PE X e (L2.tC (b.v W)) ∧ plainArg e = true
def fIsi (C : EC) (cs : List BTy) (env : Env) (x : R) (S1 : Store) : Out R := (match x with
    | .hot c _ => .of S1 ((hotTy C.xis c cs).map fun b => R.val (.bl b))
    | x => (match flat env S1 x with
      | some t => .of S1 ((isiT t cs).map fun b => R.val (.bl b))
      | none => .no))
theorem isi_cold {cs : List BTy} {env : Env} {x : R} {S1 : Store} {F F1 H H1 : Hp} {r r1 : List Addr} {σ : L2.St} {v : V} {K : R → Store → Prop} (nh : ∀ a cls d, ¬ W.hx a cls d) (rr : RRep W F1 r1 H1 σ env x v) (e : Rs W wx F r H σ env (fIsi C cs env x S1) K) :
    Rs W wx F r H σ env (match flat env S1 x with | some t => Out.of S1 ((isiT t cs).map fun b => R.val (.bl b)) | none => .no) K := by
  cases x with
  | hot c l => obtain ⟨a, cls, d, _, z, _⟩ := rr; exact absurd z (nh a cls d)
  | _ => exact e
theorem e_isi1 {a t : Expr} {ca : CE} {b : BTy} (hK : X.K = W.K) (nh : ∀ a cls d, ¬ W.hx a cls d) (hg : Gl X "isinstance") (hm : X.mg "isinstance" = none) (ha : SE W wx C X a ca) (hp : plainArg a = true) (hb : NamesTy W X t b) (ok : IsOk W b) :
    SE W wx C X (.Call (.Name "isinstance" p) [a, t] [] pos) (.isi ca [b]) :=
  (pe_callB call_isi hg hm (by decide +kernel) (pa_cons ha (pa_cons hb.1 pa_nil (star_cons hb.2 [] _)) (star_cons hp _ _)) (by decide +kernel) (by decide +kernel) (star_cons hp _ _) (by rw [single_star hb.2]; rfl)).imp fun σ H Q h => by
  obtain ⟨F, r, env, S, gd, h⟩ := h
  refine ⟨F, r, env, S, gd, Rs.bind (show Rs W wx F r H σ env ((evE C ca env S).bind fun x S1 => fIsi C [b] env x S1) _ from h) fun y S1 e v F1 r1 H1 s1 g1 rr n1 => ?_⟩
  have e := isi_cold nh rr e
  split at e
  · rename_i u eu
    obtain ⟨x, e2, q⟩ := e.of
    have vw := Vw.of_flat g1 rr eu
    cases e3 : isiT u [b] with
    | none => rw [e3] at e2; cases e2
    | some z =>
      rw [e3] at e2
      cases e2
      have e4 : isiT1 u b = some z := by
        unfold isiT at e3
        split at e3
        · rename_i e5; cases e3; exact e5
        · rename_i e5; cases e3; exact e5
        · cases e3
      show rIsi X.K _ _ _
      rw [hK]
      exact ⟨v, b.v W, tyU W u, b.u W, z, rfl, clsV ok, tyx_ok g1.le vw, kit1 ok vw e4, (Post.weak q s1).same g1 (.bl z)⟩
  · exact e.elim
theorem pa_tys {W : WT} {X : Cx} : ∀ {ts : List Expr} {bs : List BTy}, Paired (NamesTy W X) ts bs → PA X ts (fun _ H Q => Q (bs.map (BTy.v W)) H)
  | [], [], _ => pa_nil
  | t :: ts, b :: bs, .cons h hs => ⟨fun pos pins s σ H Q I q => (pa_cons h.1 (pa_tys hs) (star_cons h.2 _ _)).run pos pins s σ H Q I q⟩
theorem paired_cls {W : WT} : ∀ (bs : List BTy), (∀ b ∈ bs, IsOk W b) → Paired ClsV (bs.map (BTy.v W)) (bs.map (BTy.u W))
  | [], _ => .nil
  | b :: bs, h => .cons (clsV (h b List.mem_cons_self)) (paired_cls bs fun b hb => h b (List.mem_cons_of_mem _ hb))
theorem e_isiN {a : Expr} {ts : List Expr} {ca : CE} {bs : List BTy} {kk : Nat} {tpos : Pos} (hK : X.K = W.K) (nh : ∀ a cls d, ¬ W.hx a cls d) (hg : Gl X "isinstance") (hm : X.mg "isinstance" = none) (ha : SE W wx C X a ca) (hp : plainArg a = true) (hb : Paired (NamesTy W X) ts bs) (hl : bs.length ≤ 1000) (ok : ∀ b ∈ bs, IsOk W b) :
    SE W wx C X (.Call (.Name "isinstance" p) [a, .Tuple ts kk tpos] [] pos) (.isi ca bs) :=
  (pe_callB call_isiT hg hm (by decide +kernel) (pa_cons ha (pa_cons (pe_tup (pa_tys hb)) pa_nil rfl) (star_cons hp _ _)) (by decide +kernel) (by decide +kernel) (star_cons hp _ _) rfl).imp fun σ H Q h => by
  obtain ⟨F, r, env, S, gd, h⟩ := h
  refine ⟨F, r, env, S, gd, Rs.bind (show Rs W wx F r H σ env ((evE C ca env S).bind fun x S1 => fIsi C bs env x S1) _ from h) fun y S1 e v F1 r1 H1 s1 g1 rr n1 => ?_⟩
  have e := isi_cold nh rr e
  split at e
  · rename_i u eu
    obtain ⟨x, e2, q⟩ := e.of
    cases e3 : isiT u bs with
    | none => rw [e3] at e2; cases e2
    | some z =>
      rw [e3] at e2
      cases e2
      refine ⟨by rw [List.length_map]; exact Nat.le_trans hl (by decide), fun a0 ha0 => ?_⟩
      have s2 := Step.laid F1 r1 ha0 (.tup (bs.map (BTy.v W)))
      have g2 := g1.laid ha0 (.tup (bs.map (BTy.v W)))
      have vw := Vw.of_flat g2 (rr.step s2) eu
      show rIsiT X.K _ _ _
      rw [hK]
      exact ⟨v, a0, bs.map (BTy.v W), tyU W u, bs.map (BTy.u W), z, rfl, upd_same, paired_cls bs ok, tyx_ok g2.le vw, kitN ok vw e3, (Post.weak q (s1.trans s2)).same g2 (.bl z)⟩
  · exact e.elim
abbrev SKw (W : WT) (wx : WX) (C : EC) (X : Cx) (kws : List Keyword) (ce : CEs) : Prop := PK X kws (tA W wx (evEs C ce))
theorem _root_.L2.PK.imp {X : Cx} {es : List Keyword} {t t' : TA} (h : PK X es t) (i : ∀ σ H Q, t' σ H Q → t σ H Q) : PK X es t' := ⟨fun pos pins s σ H Q I q => h.run pos pins s σ H Q I (i σ H Q q)⟩
theorem k_nil : SKw W wx C X [] .nil := by
  refine pk_nil.imp fun σ H Q h => ?_
  obtain ⟨F, r, env, S, g, p⟩ := h
  exact (show PostA W F r H σ env Q [] S from p) [] F r H (Step.refl F r H) g .nil
theorem k_cons {kws : List Keyword} {nm : Option Str} {kp : Pos} (he : SE W wx C X e ce) (hs : SKw W wx C X kws ces) : SKw W wx C X (⟨nm, e, kp⟩ :: kws) (.cons ce ces) := by
  refine (pk_cons he hs).imp fun σ H Q h => ?_
  obtain ⟨F, r, env, S, g, h⟩ := h
  refine ⟨F, r, env, S, g, Rs.bind (show Rs W wx F r H σ env ((evE C ce env S).bind _) _ from h) fun x S1 e v F1 r1 H1 s1 g1 rr1 n1 => ?_⟩
  split at e
  · rename_i t et
    obtain ⟨F2, s2, g2, rt, l⟩ := sink_ok g1 s1 rr1 n1 et
    exact ⟨F2, r1, env, S1, g2, Rs.bind (e.on s2 fun _ _ z => z) fun us S' p vs F3 r3 H3 s3 g3 rl => (show PostA W F r H σ env Q (t :: us) S' from p) (v :: vs) F3 r3 H3 (s2.trans s3) g3 (.cons (rt.mono s3.le s3.pre) rl)⟩
  · exact e.elim
def permV (perm : List Nat) (vs : List V) : List V := perm.map fun i => (vs[i]?).getD .non
def permU (perm : List Nat) (vs : List Value) : List Value := perm.map fun i => (vs[i]?).getD .none
def permT (perm : List Nat) (vs : List T) : List T := perm.map fun i => (vs[i]?).getD .non
theorem RepL.perm {F : Hp} {r : List Addr} {ts : List T} {vs : List V} (h : RepL W F r ts vs) : ∀ perm : List Nat, RepL W F r (permT perm ts) (permV perm vs)
  | [] => .nil
  | i :: perm => by
    refine .cons ?_ (h.perm perm)
    show Rep W F r ((ts[i]?).getD .non) ((vs[i]?).getD .non)
    cases e : ts[i]? with
    | none =>
      have : vs[i]? = none := by rw [List.getElem?_eq_none_iff] at e ⊢; rw [← h.len]; exact e
      rw [this]; exact Rep.non
    | some t =>
      obtain ⟨v, hv, rt⟩ := h.get e
      rw [hv]; exact rt
theorem vals_perm {vs : List V} {us : List Value} (h : Vals vs us) : ∀ perm : List Nat, Vals (permV perm vs) (permU perm us)
  | [] => .nil
  | i :: perm => by
    refine .cons ?_ (vals_perm h perm)
    show L2.RelV ((vs[i]?).getD .non) ((us[i]?).getD .none)
    cases e : vs[i]? with
    | none =>
      have : us[i]? = none := by rw [List.getElem?_eq_none_iff] at e ⊢; rw [← h.length]; exact e
      rw [this]; rfl
    | some t =>
      obtain ⟨v, hv, rt⟩ := h.get e
      rw [hv]; exact rt
def KBd (fd : FuncData) (ps : List Str) (n : Nat) (ks : List Str) (perm : List Nat) : Prop := ∀ (s : Shared) (us ws : List Value), us.length = n → ws.length = ks.length → BindsTo s fd ⟨us, ks.zip ws⟩ (ps.zip (permU perm (us ++ ws)))
def tCallN (sp : Sp) (n m : Nat) (perm : List Nat) (E : L2.St → XK) (t tk : TA) : TE := fun σ H Q => t σ H fun vs H1 => tk σ H1 fun zs H2 => vs.length = n ∧ zs.length = m ∧ sp (permV perm (vs ++ zs)) H2 Q (E σ)
theorem x_callN {sp : Sp} {E : L2.St → XK} {perm : List Nat} {kwa : List Keyword} {t tk : TA} (F : FnX X k f fd ps sp) (hr : RoomG k X.A) (hg : Gl X x) (hm : X.mg x = some (.ref f)) (hk : PySem.W.keepIn X.K (.ref f) = true) (hb : KBd fd ps n ks perm) (hx : ∀ σ, PassX X σ (E σ))
    (ha : PA X (e :: es) t) (hkw : PK X kwa tk) (hall : (backToKw pos (keywordEach kwa X.env)).all (·.1.isSome) = true) (hks : (backToKw pos (keywordEach kwa X.env)).filterMap (·.1) = ks)
    (hdb : (x == ("__debug__" : Str)) = false) (he : starEach (e :: es) X.env = (false, eval e X.env) :: starEach es X.env)
    (hpl : ((backTo pos (starEach (e :: es) X.env)).any (·.1) || (backToKw pos (keywordEach kwa X.env)).any (·.1.isNone)) = false) :
    PE X (.Call (.Name x p) (e :: es) kwa pos) (tCallN sp n ks.length perm E t tk) := ⟨fun pins s σ H Q I h =>
  wpAny_Call_Name_kw (ld_glob I hg hm (PySem.W.callWith_KW (h₀ := X.base) I.ok.mod.kin hk hall (thn (ha.run pos pins s σ H _ I h) fun us s1 ⟨vs, H1, I1, r, q⟩ =>
    thn (hkw.run pos pins s1 σ H1 _ I1 q) fun ws s2 ⟨zs, H2, I2, rz, l1, l2, q2⟩ => ⟨I2.kIn, by rw [hks]; exact runs F hr (fun _ => hb s2 us ws (r.length ▸ l1) (rz.length ▸ l2)) (hx σ) I2 (vals_perm (r.append rz) perm) q2⟩) hpl he) hdb)⟩
theorem x_callN0 {sp : Sp} {E : L2.St → XK} {perm : List Nat} {kwa : List Keyword} {tk : TA} (F : FnX X k f fd ps sp) (hr : RoomG k X.A) (hg : Gl X x) (hm : X.mg x = some (.ref f)) (hk : PySem.W.keepIn X.K (.ref f) = true) (hb : KBd fd ps 0 ks perm) (hx : ∀ σ, PassX X σ (E σ))
    (hkw : PK X kwa tk) (hall : (backToKw pos (keywordEach kwa X.env)).all (·.1.isSome) = true) (hks : (backToKw pos (keywordEach kwa X.env)).filterMap (·.1) = ks)
    (hdb : (x == ("__debug__" : Str)) = false) (hpl : ((backTo pos (starEach [] X.env)).any (·.1) || (backToKw pos (keywordEach kwa X.env)).any (·.1.isNone)) = false) :
    PE X (.Call (.Name x p) [] kwa pos) (tCallN sp 0 ks.length perm E tNil tk) := ⟨fun pins s σ H Q I h =>
  wpAny_Call_Name_kw (ld_glob I hg hm (PySem.W.callWith_KW0 (h₀ := X.base) I.ok.mod.kin hk hall
    (thn (hkw.run pos pins s σ H _ I h) fun ws s2 ⟨zs, H2, I2, rz, l1, l2, q2⟩ => ⟨I2.kIn, by rw [hks]; exact runs F hr (fun _ => hb s2 [] ws rfl (rz.length ▸ l2)) (hx σ) I2 (vals_perm (Vals.append .nil rz) perm) q2⟩) hpl) hdb)⟩
theorem callk_core {perm : List Nat} {m j : Nat} {σ : L2.St} {H : Hp} {Q : VK} (hn : ∀ (ts : List T) (S : Store), C.call g ts S ≠ .no → ts.length = n) (l1 : ces.len = j) (l2 : cfs.len = m) (h : tE W wx (evE C (.callk g ks perm ces cfs)) σ H Q) :
    tCallN (spF W n (C.call g)) j m perm (wE wx) (tA W wx (evEs C ces)) (tA W wx (evEs C cfs)) σ H Q := by
  obtain ⟨F, r, env, S, gd, h⟩ := h
  refine ⟨F, r, env, S, gd, Rs.bindE (show Rs W wx F r H σ env ((evEs C ces env S).bind _) _ from h) fun ts S1 e1 h vs F1 r1 H1 s1 g1 rl => ⟨F1, r1, env, S1, g1, Rs.bindE (h.later s1) fun us S2 e2 h zs F2 r2 H2 s2 g2 rz => ?_⟩⟩
  have rp := ((rl.mono s2.le s2.pre).app rz).perm perm
  have h : Rs W wx F1 r1 H1 σ env (C.call g (permT perm (ts ++ us)) S2) _ := h
  exact ⟨by rw [← rl.len, evEs_len e1, l1], by rw [← rz.len, evEs_len e2, l2], spF_of g2 rp (hn _ S2) (h.later s2)⟩
theorem kw_all : ∀ {kwa : List Keyword} {ks : List Str} (pos : Pos) (env : PySem.Env), kwa.map (·.arg) = ks.map some → (backToKw pos (keywordEach kwa env)).all (·.1.isSome) = true ∧ (backToKw pos (keywordEach kwa env)).filterMap (·.1) = ks ∧ (backToKw pos (keywordEach kwa env)).any (·.1.isNone) = false
  | [], [], _, _, _ => ⟨rfl, rfl, rfl⟩
  | [], k :: ks, _, _, h => by simp at h
  | a :: kwa, [], _, _, h => by simp at h
  | ⟨nm, e, kp⟩ :: kwa, k :: ks, pos, env, h => by
    rw [List.map_cons, List.map_cons] at h
    injection h with h1 h2
    obtain ⟨z1, z2, z3⟩ := kw_all pos env h2
    have h1 : nm = some k := h1
    subst h1
    refine ⟨?_, ?_, ?_⟩
    · show (true && (backToKw pos (keywordEach kwa env)).all (·.1.isSome)) = true
      rw [z1]; rfl
    · show k :: (backToKw pos (keywordEach kwa env)).filterMap (·.1) = k :: ks
      rw [z2]
    · show (false || (backToKw pos (keywordEach kwa env)).any (·.1.isNone)) = false
      rw [z3]; rfl
theorem e_callk {perm : List Nat} {kwa : List Keyword} (tk : Takes X wx) (F : FnX X k f fd ps (spF W n (C.call g))) (hn : ∀ (ts : List T) (S : Store), C.call g ts S ≠ .no → ts.length = n) (hr : RoomG k X.A) (hg : Gl X x) (hm : X.mg x = some (.ref f)) (hk : PySem.W.keepIn X.K (.ref f) = true)
    (hb : KBd fd ps es.length ks perm) (hkn : kwa.map (·.arg) = ks.map some) (ha : SA W wx C X es ces) (hw : SKw W wx C X kwa cfs) (l1 : ces.len = es.length) (l2 : cfs.len = ks.length) (hes : es.all plainArg = true) (hd : (x == ("__debug__" : Str)) = false) :
    SE W wx C X (.Call (.Name x p) es kwa pos) (.callk g ks perm ces cfs) := by
  obtain ⟨z1, z2, z3⟩ := kw_all pos X.env hkn
  cases es with
  | nil =>
    refine (x_callN0 F hr hg hm hk hb (passW tk) hw z1 z2 hd (by rw [z3]; rfl)).imp fun σ H Q h => ?_
    · have z := callk_core hn l1 l2 h
      obtain ⟨F0, r, env, S, gd, kk⟩ := z
      have e0 : ces = .nil := by cases ces with
        | nil => rfl
        | cons _ _ => cases l1
      subst e0
      exact (show PostA W F0 r H σ env _ [] S from kk) [] F0 r H (Step.refl F0 r H) gd .nil
  | cons a es =>
    rw [List.all_cons, Bool.and_eq_true] at hes
    exact (x_callN F hr hg hm hk hb (passW tk) ha hw z1 z2 hd (star_cons hes.1 es X.env) (by rw [z3, Bool.or_false]; exact star_none (es := a :: es) (by rw [List.all_cons, hes.1, hes.2]; rfl) pos X.env)).imp fun σ H Q h => callk_core hn l1 l2 h
end
end Z
set_option Elab.async false
set_option linter.all false
set_option maxRecDepth 100000
set_option maxHeartbeats 4000000
namespace PySem
namespace XT
open PySem.W PySem.Calls PyProof.Rows PySem.HandSPX
open Builtin Builtin.ObjectAttr
inductive Bs where | ve | ae | le
deriving DecidableEq
def Bs.B : Bs → String | .ve => "ValueError" | .ae => "ArithmeticError" | .le => "LookupError"
def Bs.new : Bs → String | .ve => "ValueError.__new__" | .ae => "ArithmeticError.__new__" | .le => "LookupError.__new__"
def Bs.init : Bs → String | .ve => "ValueError.__init__" | .ae => "ArithmeticError.__init__" | .le => "LookupError.__init__"
def Bs.tl : Bs → List Value
  | .ve => [.type "ValueError", .type "Exception", .type "BaseException", .type "object"]
  | .ae => [.type "ArithmeticError", .type "Exception", .type "BaseException", .type "object"]
  | .le => [.type "LookupError", .type "Exception", .type "BaseException", .type "object"]
theorem Bs.facts : (b : Bs) → ExcBaseFacts b.B b.new b.init b.tl
  | .ve => F.excBase_ValueError
  | .ae => F.excBase_ArithmeticError
  | .le => F.excBase_LookupError
theorem Bs.pass (self : Value) : (b : Bs) → refuseLoop self "__setattr__" b.tl = pure ()
  | .ve => F.store_ValueError.passes self
  | .ae => F.store_ArithmeticError.passes self
  | .le => F.store_LookupError.passes self
theorem Bs.obj : (b : Bs) → b.tl.contains (.type "object") = true
  | .ve => by decide +kernel
  | .ae => by decide +kernel
  | .le => by decide +kernel
theorem tail_ne {b : Bs} {l : List Value} (e : excTail b.tl l = true) : l.isEmpty = false := by
  rcases excTail_cases l e with ⟨c, r, q, _⟩ | q
  · rw [q]; rfl
  · rw [q]; cases b <;> rfl
section
variable {prog : Program} {w : World} {A : Around} {E : Value → Shared → Prop} {R : Result → Shared → Prop} {hp : Heap} {g : Array GenState} {d : Drawn} {t : Nat} {os : OsState}
theorem exc_osa {b : Bs} {K : W.Frag} {name : Str} {tk : Tok} {v : Value} {x C : Addr} {fv : Array Value} {cd : ClassData}
    (X : K.In hp) (hx : hp.get? x = some { cls := .ref C, data := .fields fv }) (hcd : W.clsIn K C = some cd) (hm : excTail b.tl cd.mro = true) (hh : cd.hasDict = true) (ha : W.findIn K (.ref C) name = some none)
    (hq : ∀ h' tk' dx, (∀ b o, b ≠ x → hp.get? b = some o → h'.get? b = some o) → hp.objs.size ≤ dx → dx ≠ x → h'.get? x = some { cls := .ref C, dict := some dx, data := .fields fv } →
      h'.Ns1 dx (fun y => if y = name then some v else none) → R (.ok (.ret .none)) ⟨h', g, d, tk', os⟩) :
    codeAny (model prog w) A (.call (.builtin "object.__setattr__") ⟨[.ref x, .str name tk, v], []⟩) R ⟨hp, g, d, t, os⟩ := by
  have I : W.InstAt hp x { cls := .ref C, data := .fields fv } C none := ⟨hx, rfl, rfl, trivial⟩
  have SF := F.store_object
  have ne := tail_ne hm
  have hob : cd.mro.contains (.type "object") = true := (excTail_contains "object" _ hm).trans b.obj
  have hxs : x ≠ hp.objs.size := Nat.ne_of_lt (Heap.lt_size hx)
  have sub : W.Looks (model prog w) hp (isInstance (.ref x) (.type "object")) true := I.type.andThen (W.looks_mroIn X (by unfold W.mroIn; rw [hcd, Option.bind_some, if_neg (by rw [ne]; decide), hob]))
  refine codeAny_call_builtin SF.slot.plain SF.entry (@W.check_slot (model prog w) _ _ ⟨hp, g, d, t, os⟩ "object.__setattr__" "object" "__setattr__" (.ref x) [.str name tk, v] [] _ SF.kind SF.split sub (SF.args (.ref x) (.str name tk) v) ?_)
  have hmr : W.Looks (model prog w) hp (mroOf (.ref C)) cd.mro := (W.looks_clsIn X hcd).andThen .now
  have L3 : W.Looks (model prog w) hp (storeTaker? none) none := .now
  have hcls : W.Looks (model prog w) hp (classData C) cd := W.looks_clsIn X hcd
  rw [W.osa_eq, refuse_eq]
  refine wpAny_bind (wpAny_bind (I.type.at (wpAny_bind (hmr.at ?_))))
  rw [excTail_pass _ (b.pass _) _ hm]
  refine wpAny_pure (wpAny_bind (I.type.at (wpAny_bind ((W.looks_findIn X ha).at (wpAny_bind (L3.at ?_))))))
  show wpAny _ _ (storeInOwnDict (.ref x) (.ref C) (.str name tk) name v false) _ _ _
  obtain ⟨nm, bs, mro, ns, qn, hd, sn, sb, ab, col, del⟩ := cd
  dsimp only at hh
  subst hh
  unfold storeInOwnDict ownDictForStores
  repeat (first | with_reducible refine store_in_new ?_ ?_ | with_reducible refine wpAny_loadPart_at hx ?_ | with_reducible refine hcls.at ?_ | wp_step)
  · exact ⟨_, #[], _, (Heap.get?_update_ne _ _ _ _ hxs.symm).trans (Heap.get?_push_at rfl rfl), rfl, fun e he => absurd he (by simp), fun _ => rfl⟩
  · intro h' tk' hn' hs
    have hx₁ : (hp.push { cls := .type "dict", data := .dict #[] }).get? x = some { cls := .ref C, data := .fields fv } := Heap.get?_push_of_some _ hx
    refine hq h' tk' hp.objs.size (fun b o hb ho => ?_) (Nat.le_refl _) hxs.symm ?_ hn'
    · exact (hs.2 b (Nat.ne_of_lt (Heap.lt_size ho))).trans ((Heap.get?_update_ne _ _ _ _ hb).trans (Heap.get?_push_of_some _ ho))
    · exact (hs.2 x hxs).trans (Heap.get?_update_self _ hx₁ rfl)
end
def iA (fa : Str) (p1 p2 : Pos) : Arguments := { posonlyargs := [], args := [{ arg := "self", annotation := none, pos := p1 }, { arg := fa, annotation := none, pos := p2 }], vararg := none, kwonlyargs := [], kw_defaults := [], kwarg := none, defaults := [] }
def iB (fa : Str) (q1 q2 q3 q4 : Pos) : List Stmt := [.Assign [.Attribute (.Name "self" q1) fa q2] (.Name fa q3) q4]
def iS (fa : Str) : Scope := { kind := .function, names := [("self", .local), (fa, .local)], isGenerator := false, isCoroutine := false, more := [] }
structure Txt (K : Frag) (b : Bs) (C fI : Addr) (fa : Str) : Prop where
  cls : ∃ nm q N bs bm sn sub ab col dd k0 k1 k2 k3 k5, K.lookup C = some (excClassObj nm q C N bs bm true sn sub ab col dd k0 k1 k2 k3 k5 b.new) ∧ excTail b.tl bm = true
  sa : findIn K (.ref C) "__setattr__" = some (some (.builtin "object.__setattr__"))
  noN : findIn K (.ref C) fa = some none
  iC : findIn K (.ref C) "__init__" = some (some (.ref fI))
  tC : typeIn K (.ref fI) = some (.type "function")
  kC : keepIn K (.ref C) = true
  exC : subIn K (.ref C) (.type "BaseException") = some true
  tyC : typeIn K (.ref C) = some (.type "type")
  is : fa = "value" ∨ fa = "index" ∨ fa = "limit"
  fn : ∃ (q : Str) (oc : Value) (od : Option Addr) (kV doc pm : Value) (an : Option Addr) (cdv ct : Value) (osl : Array (Option Value)) (p1 p2 q1 q2 q3 q4 : Pos),
    K.lookup fI = some ⟨oc, od, .func (fnOf "__init__" q (iA fa p1 p2) (iB fa q1 q2 q3 q4) (iS fa) .none kV doc pm an cdv ct), osl⟩ ∧ codeIn K cdv q = true
theorem one_size (v : Value) : [v].length ≤ sizeLine := by
  rw [sizeLine_eq]
  exact (by decide : 1 ≤ 16777216)
theorem ldC {M : Model} {s : Shared} {name : Str} {scope : Scope} {L a : Addr} {cd : Value} {m : Str → Option Value} {x : Str} {pos : Pos} {v : Value} {Q : Value → Shared → Prop} {A : Around} {E : Value → Shared → Prop} (hn : s.heap.Ns L m) (hv : m x = some v) (h : Q v s)
    (hk : scope.kind = .function) (hl : (envOfC name scope L a cd).kindOf x = some .local) (hd : (x == ("__debug__" : Str)) = false) :
    wpAny M A (eval (.Name x pos) (envOfC name scope L a cd)) Q E s := wpAny_Name (wpAny_loadName_local hk hl hn hv h) hd
structure InitEnd (h h' : Heap) (x C dx t1 : Addr) (fa : Str) (v : Value) : Prop where
  keep : ∀ b o, b ≠ x → h.get? b = some o → h'.get? b = some o
  obj : h'.get? x = some { cls := .ref C, dict := some dx, data := .fields #[.ref t1, .none, .none, .none, .bool false, .none] }
  dbig : h.objs.size ≤ dx
  dne : dx ≠ x
  ns : h'.Ns1 dx (fun y => if y = fa then some v else none)
structure OwnMade (h h' : Heap) (e C d : Addr) (fa : Str) (v : Value) : Prop where
  keep : ∀ b o, h.get? b = some o → h'.get? b = some o
  new : h.objs.size ≤ e
  obj : ∃ oe vs, h'.get? e = some oe ∧ oe.cls = .ref C ∧ oe.dict = some d ∧ oe.data = .fields vs ∧ vs[1]? = some .none
  dbig : h.objs.size ≤ d
  dne : d ≠ e
  ns : h'.Ns1 d (fun y => if y = fa then some v else none)
section
variable {prog : Program} {w : World} {A : Around} {E : Value → Shared → Prop} {R : Result → Shared → Prop} {s : Shared} {K : Frag} {b : Bs} {C fI : Addr} {fa : Str}
theorem made_init (T : Txt K b C fI fa) {x t0 : Addr} {v : Value} (X : K.In s.heap) (hlim : s.heap.NoLimit) (hx : s.heap.get? x = some (excO C t0)) (hnx : K.lookup x = none) (hroom : A.depth < recursionLimit)
    (hq : ∀ h' tk dx, InitEnd s.heap h' x C dx t0 fa v → R (.ok (.ret .none)) { s with heap := h', toks := tk }) :
    codeAny (model prog w) A (.call (.ref fI) ⟨[.ref x, v], []⟩) R s := by
  obtain ⟨qn, oc, od, kV, doc, pm, an, cdv, ct, osl, p1, p2, q1, q2, q3, q4, ho, hcd⟩ := T.fn
  obtain ⟨nm, q, N, bs, bm, sn, sub, ab, col, dd, k0, k1, k2, k3, k5, hC, hbm⟩ := T.cls
  have hcl : clsIn K C = some { name := nm, bases := bs, mro := .ref C :: bm, ns := N, qualname := q, hasDict := true, slotNames := sn, subclasses := sub, abstract := ab, collection := col, hasDel := false } := by unfold clsIn; rw [hC] <;> rfl
  have sa := T.sa
  have noN := T.noN
  rcases T.is with rfl | rfl | rfl
  · refine Att.call_fn (binds := [("self", .ref x), ("value", v)]) X hlim ho hcd hroom (BindsTo.of_eq (by first | rfl | with_unfolding_all rfl)) (by first | rfl | decide | with_unfolding_all rfl) (fun s₁ IC => ?_) rfl rfl rfl
    obtain ⟨h₁, tk₁, rfl⟩ := IC.toInCall.same
    have k : ∀ b o, s.heap.get? b = some o → h₁.get? b = some o := IC.toInCall.keep
    have hn := IC.toInCall.ns
    have hxL : s.heap.objs.size ≠ x := Nat.ne_of_gt (Heap.lt_size hx)
    have X₁ : K.In h₁ := X.keeps k
    have hx₁ := k _ _ hx
    show wpAny _ _ (execs _ _) _ _ _
    refine wpAny_execs_cons (plainObj_wpAny_Assign_Attribute ?_)
    refine ldC (v := v) hn (by first | rfl | with_unfolding_all rfl | kernel_rfl) (ldC (v := .ref x) hn (by first | rfl | with_unfolding_all rfl | kernel_rfl) ?_ rfl rfl (by decide)) rfl rfl (by decide)
    refine set_plain X₁ (ox := excO C t0) (od := none) ⟨hx₁, rfl, rfl, trivial⟩ sa ?_
    refine exc_osa X₁ hx₁ hcl (show excTail b.tl (.ref C :: bm) = true from hbm) rfl noN (fun h₃ tk₃ dx k₃ dn dne hx₃ hn₃ => ?_)
    show wpAny _ _ (execs _ _) _ _ _
    have z : s.heap.objs.size < h₁.objs.size := hn.lt
    exact wpAny_execs_nil (hq h₃ tk₃ dx ⟨fun b o hb e => k₃ b o hb (k b o e), hx₃, Nat.le_of_lt (Nat.lt_of_lt_of_le z dn), dne, hn₃⟩)
  · refine Att.call_fn (binds := [("self", .ref x), ("index", v)]) X hlim ho hcd hroom (BindsTo.of_eq (by first | rfl | with_unfolding_all rfl)) (by first | rfl | decide | with_unfolding_all rfl) (fun s₁ IC => ?_) rfl rfl rfl
    obtain ⟨h₁, tk₁, rfl⟩ := IC.toInCall.same
    have k : ∀ b o, s.heap.get? b = some o → h₁.get? b = some o := IC.toInCall.keep
    have hn := IC.toInCall.ns
    have hxL : s.heap.objs.size ≠ x := Nat.ne_of_gt (Heap.lt_size hx)
    have X₁ : K.In h₁ := X.keeps k
    have hx₁ := k _ _ hx
    show wpAny _ _ (execs _ _) _ _ _
    refine wpAny_execs_cons (plainObj_wpAny_Assign_Attribute ?_)
    refine ldC (v := v) hn (by first | rfl | with_unfolding_all rfl | kernel_rfl) (ldC (v := .ref x) hn (by first | rfl | with_unfolding_all rfl | kernel_rfl) ?_ rfl rfl (by decide)) rfl rfl (by decide)
    refine set_plain X₁ (ox := excO C t0) (od := none) ⟨hx₁, rfl, rfl, trivial⟩ sa ?_
    refine exc_osa X₁ hx₁ hcl (show excTail b.tl (.ref C :: bm) = true from hbm) rfl noN (fun h₃ tk₃ dx k₃ dn dne hx₃ hn₃ => ?_)
    show wpAny _ _ (execs _ _) _ _ _
    have z : s.heap.objs.size < h₁.objs.size := hn.lt
    exact wpAny_execs_nil (hq h₃ tk₃ dx ⟨fun b o hb e => k₃ b o hb (k b o e), hx₃, Nat.le_of_lt (Nat.lt_of_lt_of_le z dn), dne, hn₃⟩)
  · refine Att.call_fn (binds := [("self", .ref x), ("limit", v)]) X hlim ho hcd hroom (BindsTo.of_eq (by first | rfl | with_unfolding_all rfl)) (by first | rfl | decide | with_unfolding_all rfl) (fun s₁ IC => ?_) rfl rfl rfl
    obtain ⟨h₁, tk₁, rfl⟩ := IC.toInCall.same
    have k : ∀ b o, s.heap.get? b = some o → h₁.get? b = some o := IC.toInCall.keep
    have hn := IC.toInCall.ns
    have hxL : s.heap.objs.size ≠ x := Nat.ne_of_gt (Heap.lt_size hx)
    have X₁ : K.In h₁ := X.keeps k
    have hx₁ := k _ _ hx
    show wpAny _ _ (execs _ _) _ _ _
    refine wpAny_execs_cons (plainObj_wpAny_Assign_Attribute ?_)
    refine ldC (v := v) hn (by first | rfl | with_unfolding_all rfl | kernel_rfl) (ldC (v := .ref x) hn (by first | rfl | with_unfolding_all rfl | kernel_rfl) ?_ rfl rfl (by decide)) rfl rfl (by decide)
    refine set_plain X₁ (ox := excO C t0) (od := none) ⟨hx₁, rfl, rfl, trivial⟩ sa ?_
    refine exc_osa X₁ hx₁ hcl (show excTail b.tl (.ref C :: bm) = true from hbm) rfl noN (fun h₃ tk₃ dx k₃ dn dne hx₃ hn₃ => ?_)
    show wpAny _ _ (execs _ _) _ _ _
    have z : s.heap.objs.size < h₁.objs.size := hn.lt
    exact wpAny_execs_nil (hq h₃ tk₃ dx ⟨fun b o hb e => k₃ b o hb (k b o e), hx₃, Nat.le_of_lt (Nat.lt_of_lt_of_le z dn), dne, hn₃⟩)
theorem made (T : Txt K b C fI fa) {v : Value} (X : K.In s.heap) (hlim : s.heap.NoLimit) (hroom : A.depth + 1 < recursionLimit)
    (hq : ∀ h' tk e d, OwnMade s.heap h' e C d fa v → R (.ok (.ret (.ref e))) { s with heap := h', toks := tk }) :
    codeAny (model prog w) A (.call (.ref C) ⟨[v], []⟩) R s := by
  obtain ⟨nm, q, N, bs, bm, sn, sub, ab, col, dd, k0, k1, k2, k3, k5, hC, hbm⟩ := T.cls
  obtain ⟨hp, g, dr, tk, os⟩ := s
  have k : ∀ b o, hp.get? b = some o → ((hp.push (kdv_tup [v])).push (excO C hp.objs.size)).get? b = some o := fun b o e => Heap.get?_push_of_some _ (Heap.get?_push_of_some _ e)
  have hget : ((hp.push (kdv_tup [v])).push (excO C hp.objs.size)).get? (hp.objs.size + 1) = some (excO C hp.objs.size) := by heap_get
  have hnx : K.lookup (hp.objs.size + 1) = none := by
    cases e : K.lookup (hp.objs.size + 1) with
    | none => rfl
    | some o =>
      have z : hp.get? (hp.objs.size + 1) = some o := X _ _ e
      exact absurd (Nat.lt_of_succ_lt (Heap.lt_size z)) (Nat.lt_irrefl _)
  refine call_own b.facts (fun X => excTail_contains X bm hbm) (X _ _ hC) (looks_findIn X T.iC) (fun self => bind_fn X self T.tC) (one_size v) ?_
  refine made_init (s := ⟨(hp.push (kdv_tup [v])).push (excO C hp.objs.size), g, dr, tk, os⟩) T (X.keeps k) (hlim.keeps k) hget hnx ?_ fun h' tk' dx ⟨k', hx, dn, dne, hns⟩ => ?_
  · show A.depth + 1 < recursionLimit
    exact hroom
  · have old : ∀ b o, hp.get? b = some o → h'.get? b = some o := fun b o e => k' b o (Nat.ne_of_lt (Nat.lt_succ_of_lt (Heap.lt_size e))) (k b o e)
    have z : hp.objs.size + 1 + 1 ≤ dx := by
      first
        | (simpa only [Heap.size_push] using dn)
        | exact dn
        | (have q := dn; rw [Heap.size_push, Heap.size_push] at q; exact q)
    exact ⟨rfl, hq h' tk' (hp.objs.size + 1) dx ⟨old, Nat.le_succ _, ⟨_, _, hx, rfl, rfl, rfl, rfl⟩, Nat.le_trans (Nat.le_trans (Nat.le_succ _) (Nat.le_succ _)) z, dne, hns⟩⟩
end
end XT
end PySem
namespace Z
open PySem PySem.Spec PyProof.Rows L2
theorem relO_one {v : V} {v' : Value} (fa : Str) (r : L2.RelV v v') (f : Str) : L2.RelO (List.lookup f [(fa, v)]) (if f = fa then some v' else none) := by
  by_cases hw : f = fa
  · subst hw
    rw [if_pos rfl]
    have q : List.lookup f [(f, v)] = some v := by simp [List.lookup]
    rw [q]
    exact r
  · rw [if_neg hw]
    have qw : (f == fa) = false := by simpa using hw
    have q2 : List.lookup f [(fa, v)] = none := by simp [List.lookup, qw]
    rw [q2]
    trivial
section
variable {X : Cx} {b : XT.Bs} {C fI : Addr} {fa x : Str}
def tMkX (C : Addr) (fa : Str) (ta : TA) : L2.St → Hp → XK → Prop := fun σ H Q => ta σ H fun vs H1 => ∃ v, vs = [v] ∧ ∀ d, H1 d = none → Q (.ref C) (some d) (upd H1 d (.xd [(fa, v)]))
theorem pmk_x {a : Expr} {ta : TA} {p pos : Pos} {k : Nat} (T : XT.Txt X.K b C fI fa) (gC : X.mg x = some (.ref C)) (hr : Room k X.A) (ha : PA X [a] ta) (hg : Gl X x) (hdb : (x == ("__debug__" : Str)) = false)
    (he : starEach (a :: []) X.env = (false, eval a X.env) :: starEach [] X.env) (hpl : (backTo pos (starEach [] X.env)).any (·.1) = false) :
    PMk X (.Call (.Name x p) [a] [] pos) (tMkX C fa ta) := by
  intro pins s σ H Q I h
  refine wpAny_Call_Name_kw (ld_glob I hg gC ?_ hdb)
  refine PySem.W.callWith_K (h₀ := X.base) I.ok.mod.kin T.kC (thn (ha.run pos pins s σ H _ I h) fun us s1 hh => ?_) he hpl
  obtain ⟨vs, H1, I1, r1, v, ev, q1⟩ := hh
  subst ev
  refine ⟨I1.kIn, ?_⟩
  cases r1 with
  | cons rv rn =>
    rename_i v' us'
    cases rn
    show wpAny _ _ (call (.ref C) [v']) _ _ _
    have hlim := I1.nolimit
    obtain ⟨hp, g, dr, tk, os⟩ := s1
    refine wpAny_call (XT.made T I1.kIn hlim (by have := hr.dp; omega) fun h' tk' e d M => ?_)
    show MkP X pins σ Q (.ref e) ⟨h', g, dr, tk', os⟩
    obtain ⟨oe, fv, hoe, hc, hd, hdat, h1⟩ := M.obj
    have hns := M.ns
    obtain ⟨G', g1, g2⟩ := restrict h' fun b => decide (b ≠ e)
    have gk : ∀ b, b ≠ e → G'.get? b = h'.get? b := fun b hb => g1 b (decide_eq_true hb)
    have ge : G'.get? e = none := g2 e (by simp)
    have old : ∀ b o, hp.get? b = some o → G'.get? b = some o := fun b o q => (gk b (Nat.ne_of_lt (Nat.lt_of_lt_of_le (Heap.lt_size q) M.new))).trans (M.keep b o q)
    have ob : ObjOk X.prog X.w (upd H1 d (.xd [(fa, v)])) G' d (.xd [(fa, v)]) :=
      ⟨_, hns.at (fun o q => (gk d M.dne).trans q), fun f => relO_one fa rv f⟩
    have J : Inv X pins σ (upd H1 d (.xd [(fa, v)])) ⟨G', g, dr, tk', os⟩ := I1.laid (t' := tk') old M.dbig ob
    refine ⟨e, oe, fv, ⟨G', g, dr, tk', os⟩, _, .ref C, some d, rfl, J, fun b o q => ?_, ge, hoe, ⟨hc, hd⟩, hdat, h1, ?_, rfl, I1.bare, raises_own T.exC T.tyC, q1 d (I1.hok.fresh M.dbig)⟩
    · by_cases hb : b = e
      · have q' : G'.get? b = some o := q
        rw [hb, ge] at q'; cases q'
      · exact (gk b hb).symm.trans q
    · rw [upd_ne (Ne.symm M.dne)]
      exact I1.hok.fresh M.new
theorem pmk_x0 {p pos : Pos} (q : PySem.W.excIn X.K C b.tl b.new = true) (gC : X.mg x = some (.ref C)) (kC : PySem.W.keepIn X.K (.ref C) = true) (r : Raises X (.ref C)) (hg : Gl X x)
    (hdb : (x == ("__debug__" : Str)) = false) : PMk X (.Call (.Name x p) [] [] pos) (fun _ H Q => Q (.ref C) none H) := by
  intro pins s σ H Q I h
  refine wpAny_Call_Name_kw (ld_glob I hg gC ?_ hdb)
  refine PySem.W.callWith_K0 I.kIn kC ?_
  show wpAny _ _ (call (.ref C) []) _ _ _
  obtain ⟨bm, N, nm, qn, bs, hdct, sn, sub, ab, col, dd, k0, k1, k2, k3, k5, mN, hC, hN, hni, T⟩ := exc_obj I.kIn q
  refine wpAny_call_exc_subT b.facts T hC hN hni (fun h' e hm => ?_) (by show 0 ≤ sizeLine; exact Nat.zero_le _)
  exact mk_of I hm r h (I.hok.gone hm.new)
end
end Z
namespace Z
open PySem PySem.Spec PyProof.Rows L2
theorem flyingZ_keeps {B : Heap} {l : List PySem.Env} {e : Addr} {Zp : Obj → Prop} {h h' : Heap} (R : PySem.HandSPX.FlyingZ B l e Zp h) (k : ∀ b o, h.get? b = some o → h'.get? b = some o) : PySem.HandSPX.FlyingZ B l e Zp h' := by
  obtain ⟨f1, f2, f3, oe, vs, T, oT, ts, he, hz, hd, h1, hn, hne, hT, hdT, h3⟩ := R
  exact ⟨fun b o hb => k _ _ (f1 b o hb), f2, f3.of_keeps fun b o q _ => ⟨o, k b o q, rfl⟩, oe, vs, T, oT, ts, k _ _ he, hz, hd, h1, hn, hne, k _ _ hT, hdT, h3⟩
inductive TestE (X : Cx) : Expr → List Value → Prop
  | one {x : Str} {c : Value} {p : Pos} : Names X x c → TestE X (.Name x p) [c]
  | two {x1 x2 : Str} {c1 c2 : Value} {p1 p2 tp : Pos} {kk : Nat} : Names X x1 c1 → Names X x2 c2 → TestE X (.Tuple [.Name x1 p1, .Name x2 p2] kk tp) [c1, c2]
  | three {x1 x2 x3 : Str} {c1 c2 c3 : Value} {p1 p2 p3 tp : Pos} {kk : Nat} : Names X x1 c1 → Names X x2 c2 → Names X x3 c3 → TestE X (.Tuple [.Name x1 p1, .Name x2 p2, .Name x3 p3] kk tp) [c1, c2, c3]
def exmL (K : PySem.W.Frag) (cls : Value) : List Value → Option Bool
  | [c] => PySem.W.exmOne K cls c
  | cs => PySem.W.exmAny K cls cs
section
variable {X : Cx} {pins : List (Addr × Obj)} {σ : L2.St} {H : Hp} {s : Shared}
theorem nm_ld {X' : Cx} {a : Addr} {pn : List (Addr × Obj)} {x : Str} {c : Value} {np : Pos} (hX : X' = X.suite a pn) (I : Inv X' [] σ H s) (hc : Names X x c) {Q : Value → Shared → Prop} {E : Value → Shared → Prop} (q : Q c s) :
    wpAny (model X.prog X.w) (X.A.mark (some (.ref a))) (eval (.Name x np) X.env) Q E s := by
  subst hX
  obtain ⟨hg, hdbg, hm | ⟨hm, hv, hnn⟩⟩ := hc
  · exact ld_glob (X := X.suite a pn) I hg hm q hdbg
  · exact ld_blt (X := X.suite a pn) I hg hm hv q hnn hdbg
theorem test_ok {a : Addr} {pn : List (Addr × Obj)} {cls : Value} {t : Expr} {cs : List Value} {b : Bool} (I : Inv (X.suite a pn) [] σ H s) (LT : PySem.W.Looks (model X.prog X.w) s.heap (typeOf (.ref a)) cls) (T : TestE X t cs) (e : exmL X.K cls cs = some b)
    {Q : Bool → Shared → Prop} {E : Value → Shared → Prop} (q : ∀ h', (∀ p o, s.heap.get? p = some o → h'.get? p = some o) → Q b { s with heap := h' }) :
    wpAny (model X.prog X.w) (X.A.mark (some (.ref a))) (eval t X.env) (fun c s₁ => wpAny (model X.prog X.w) (X.A.mark (some (.ref a))) (excMatches (.ref a) c) Q E s₁) E s := by
  cases T with
  | one hc =>
    refine nm_ld rfl I hc ?_
    exact (PySem.W.exm_one (M := model X.prog X.w) I.kIn LT e).here (q s.heap fun _ _ z => z)
  | two h1 h2 =>
    refine wpAny_Tuple ?_
    refine wpAny_items_cons (nm_ld rfl I h1 ?_)
    refine wpAny_items_cons (nm_ld rfl I h2 ?_)
    refine wpAny_items_nil ⟨by size_fits, ?_⟩
    rename_i c1 c2 _ _ _ _
    have kp : ∀ q o, s.heap.get? q = some o → (s.heap.push { cls := .type "tuple", data := .seq [c1, c2].toArray }).get? q = some o := fun _ _ z => Heap.get?_push_of_some _ z
    exact (PySem.W.exm_tup2 (M := model X.prog X.w) (I.kIn.keeps kp) (LT.keeps kp) (Heap.get?_push_size s.heap rfl) e).here (q _ kp)
  | three h1 h2 h3 =>
    refine wpAny_Tuple ?_
    refine wpAny_items_cons (nm_ld rfl I h1 ?_)
    refine wpAny_items_cons (nm_ld rfl I h2 ?_)
    refine wpAny_items_cons (nm_ld rfl I h3 ?_)
    refine wpAny_items_nil ⟨by size_fits, ?_⟩
    rename_i c1 c2 c3 _ _ _ _ _
    have kp : ∀ q o, s.heap.get? q = some o → (s.heap.push { cls := .type "tuple", data := .seq [c1, c2, c3].toArray }).get? q = some o := fun _ _ z => Heap.get?_push_of_some _ z
    exact (PySem.W.exm_tup3 (M := model X.prog X.w) (I.kIn.keeps kp) (LT.keeps kp) (Heap.get?_push_size s.heap rfl) e).here (q _ kp)
end
structure Cl where
  cs : List Value
  i : Option Nat
  ts : Addr → Value → Option Addr → TS
def wClauses (K : PySem.W.Frag) (Wout : WX) (D : Ends) : List Cl → WX
  | [] => Wout
  | c :: r => fun cls d σ H => ∃ b, exmL K cls c.cs = some b ∧ (b = true → ∀ a, H a = none → (match c.i with
      | none => c.ts a cls d D σ H
      | some i => c.ts a cls d { nx := fun σ' H' => D.nx (σ'.set i none) H', rt := D.rt, bk := fun σ' H' => D.bk (σ'.set i none) H', ct := fun σ' H' => D.ct (σ'.set i none) H' } (σ.set i (some (.ref a))) H)) ∧
      (b = false → wClauses K Wout D r cls d σ H)
inductive ClsOk (X : Cx) : List ExceptHandler → List Cl → Prop
  | nil : ClsOk X [] []
  | bare {t : Expr} {cs : List Value} {ts : Addr → Value → Option Addr → TS} {b₀ : Stmt} {suite : List Stmt} {pos' : Pos} {hds : List ExceptHandler} {l : List Cl} (hc : TestE X t cs)
      (hsu : ∀ (a : Addr) (oe : Obj) (cls : Value) (d : Option Addr) (pn : List (Addr × Obj)), Zc cls d oe → (∃ vs, oe.data = .fields vs) → PSs (X.suite a ((a, oe) :: pn)) (b₀ :: suite) (ts a cls d)) (r : ClsOk X hds l) :
      ClsOk X (.ExceptHandler (some t) none (b₀ :: suite) pos' :: hds) (⟨cs, none, ts⟩ :: l)
  | named {t : Expr} {n : Str} {i : Nat} {cs : List Value} {ts : Addr → Value → Option Addr → TS} {b₀ : Stmt} {suite : List Stmt} {pos' : Pos} {hds : List ExceptHandler} {l : List Cl} (hc : TestE X t cs) (hN : X.N.Nodup) (hi : X.N[i]? = some n) (hln : X.env.kindOf n = some .local)
      (hsu : ∀ (a : Addr) (oe : Obj) (cls : Value) (d : Option Addr) (pn : List (Addr × Obj)), Zc cls d oe → (∃ vs, oe.data = .fields vs) → PSs (X.suite a ((a, oe) :: pn)) (b₀ :: suite) (ts a cls d)) (r : ClsOk X hds l) :
      ClsOk X (.ExceptHandler (some t) (some n) (b₀ :: suite) pos' :: hds) (⟨cs, some i, ts⟩ :: l)
section
variable {X : Cx} {body : List Stmt} {h₀ : ExceptHandler} {hds : List ExceptHandler} {l : List Cl} {pos : Pos} {tb : WX → TS} {Wout : WX}
theorem ps_tryC (hs : X.stack = X.env :: X.outer) (hf : X.env.frame = some X.env.locals) (tk : Takes X Wout)
    (hb : ∀ (W : WX) (pn : List (Addr × Obj)) (xe : Value → Shared → Prop), Takes (X.tr pn xe) W → PassesOwn (model X.prog X.w) X.A X.env xe → PSs (X.tr pn xe) body (tb W))
    (hh : ClsOk X (h₀ :: hds) l) : PS X (.Try body (h₀ :: hds) [] [] pos) (fun D σ H => tb (wClauses X.K Wout D l) D σ H) := by
  refine ⟨fun pins s σ H D I h => ?_⟩
  have ok := I.ok
  have hfr : X.A.frames = some (X.env :: X.outer) := by rw [ok.frames, hs]
  refine wpAny_Try_except ?_
  refine wpAny_mono ((hb (wClauses X.K Wout D l) (X.pn ++ pins) (fun e s₁ => wpAny (model X.prog X.w) X.A (noteFrame e X.env) (fun _ s₂ => wpAny (model X.prog X.w) X.A (setFlight e none) (fun _ s₃ =>
    wpAny (model X.prog X.w) X.A (handleBy e X.env (h₀ :: hds)) (SP X pins D) X.xe s₃) X.xe s₂) X.xe s₁) (fun u s' xx => ?_) PassesOwn.looking).run [] s σ H D (I.toTry _) h) (fun f s1 hsp => ?_) (fun e s1 he => he)
  · -- the catch
    obtain ⟨a, B, sI, pins', σ', H', cls, d, rfl, J', nb, up, sky, na, os, ag, w⟩ := xx
    have J : Inv X pins σ' H' sI := J'.ofTry ok
    have sky' : Sky B (X.env :: X.outer) a (Zc cls d) X.env.locals s'.heap := by rw [← hs]; exact sky
    show wpAny _ X.A (noteFrame (.ref a) X.env) _ _ _
    refine Sky.land Zc.steady hfr hf sky' fun h0 fl0 up0 => ?_
    have notFr : ∀ {h : Heap} {o : Obj} {vs : Array Value}, h.FunFrames B (X.env :: X.outer) → h.get? a = some o → o.data = .fields vs → a ∉ frs (X.env :: X.outer) := fun {h o vs} ff e dd hm => by
      obtain ⟨_, o', e', hnf⟩ := ff.mem hm
      rw [e] at e'; cases e'
      exact hnf _ dd
    have go : ∀ {hds' : List ExceptHandler} {l' : List Cl}, ClsOk X hds' l' → ∀ (h3 : Heap), PySem.HandSPX.FlyingZ B (X.env :: X.outer) a (Zc cls d) h3 → s'.heap.UpToSlots h3 → wClauses X.K Wout D l' cls d σ' H' →
        wpAny (model X.prog X.w) X.A (handleBy (.ref a) X.env hds') (SP X pins D) X.xe { s' with heap := h3 } := by
      intro hds' l' hk
      induction hk with
      | nil =>
        intro h3 fl3 up3 w
        refine wpAny_handleBy_nil ?_
        obtain ⟨k1, k2, k3, oe, vs, T, oT, ts', he, hz, hd, h1, hr⟩ := id fl3
        unfold PySem.passOn
        refine wpAny_bind (wpAny_field he hd h1 ?_)
        rw [if_neg (show ¬ ((Value.ref T == Value.none) = true) from by simp)]
        have fin : wpAny (model X.prog X.w) X.A (setFlight (.ref a) X.env.frame) (fun _ s4 => wpAny (model X.prog X.w) X.A (throw (.ref a) : Sem Flow) (SP X pins D) X.xe s4) X.xe { s' with heap := h3 } := by
          rw [hf]
          refine HandSPX.setFlight_upZ fl3 fun h4 hh4 up4 => wpAny_throw (tk _ _ ?_)
          exact ⟨a, B, sI, pins, σ', H', cls, d, rfl, J, nb, (up.trans up3).trans up4, .inr (.inr (by rw [hs]; exact hh4)), na, os, ag, w⟩
        first
          | exact wpAny_bind (wpAny_pure (wpAny_bind fin))
          | exact wpAny_bind fin
      | @bare t cs ts b₀ suite pos' hds2 l2 hc hsu r ih =>
        intro h3 fl3 up3 w
        obtain ⟨b, hb1, hyes, hno⟩ := w
        obtain ⟨oe3, vs3, he3, hz3, hd3⟩ := fl3.there
        have J3 : Inv X pins σ' H' { s' with heap := h3 } := J.landed nb fl3.1 (up.trans up3) os ag
        have nfr := notFr fl3.2.2.1 he3 hd3
        have nL : a ≠ X.env.locals := fun z => nfr (List.mem_filterMap.mpr ⟨X.env, List.mem_cons_self, by rw [hf, z]⟩)
        have nF : a ∉ X.fs := fun hm => by
          obtain ⟨e, he, q⟩ := List.mem_filterMap.mp hm
          exact nfr (List.mem_filterMap.mpr ⟨e, List.mem_cons_of_mem _ he, q⟩)
        have S3 := J3.suite he3 hd3 na nL nF
        refine wpAny_handleBy_cons (codeAny_handlers_test ?_) (by intro q; cases q)
        have LT : PySem.W.Looks (model X.prog X.w) h3 (typeOf (.ref a)) cls := fun A Q E s k q => wpAny_typeOf_ref (k _ _ he3) (by rw [hz3.1]; exact q)
        refine test_ok S3 LT hc hb1 fun h4 k4 => ?_
        have fl4 := flyingZ_keeps fl3 k4
        have up4 : s'.heap.UpToSlots h4 := up3.trans (Heap.UpToSlots.of_keeps k4)
        cases b with
        | true =>
          refine codeAny_handlers_suite ?_
          refine HandSPX.lands_againZ fl4 fun h5 fl5 up5 => ?_
          have J5 : Inv X pins σ' H' { s' with heap := h5 } := J.landed nb fl5.1 ((up.trans up4).trans up5) os ag
          obtain ⟨oe5, vs5, he5, hz5, hd5⟩ := fl5.there
          have S5 := J5.suite he5 hd5 na nL nF
          refine wpAny_mono ((hsu a oe5 cls d (X.pn ++ pins) hz5 ⟨_, hd5⟩).run [] _ _ H' _ S5 (hyes rfl a na)) (fun f s6 hsp => ?_) (fun _ _ z => False.elim z)
          cases f with
          | next =>
            obtain ⟨σ6, H6, S6, q6⟩ := hsp
            exact ⟨_, _, S6.unsuite ok, q6⟩
          | brk =>
            obtain ⟨σ6, H6, S6, q6⟩ := hsp
            exact ⟨_, _, S6.unsuite ok, q6⟩
          | cont =>
            obtain ⟨σ6, H6, S6, q6⟩ := hsp
            exact ⟨_, _, S6.unsuite ok, q6⟩
          | ret u =>
            obtain ⟨v6, σ6, H6, S6, r6, q6⟩ := hsp
            exact ⟨_, _, _, S6.unsuite ok, r6, q6⟩
        | false =>
          show wpAny _ X.A (handleBy (.ref a) X.env hds2) _ _ _
          exact ih h4 fl4 up4 (hno rfl)
      | @named t n i cs ts b₀ suite pos' hds2 l2 hc hN hi hln hsu r ih =>
        intro h3 fl3 up3 w
        obtain ⟨b, hb1, hyes, hno⟩ := w
        obtain ⟨oe3, vs3, he3, hz3, hd3⟩ := fl3.there
        have J3 : Inv X pins σ' H' { s' with heap := h3 } := J.landed nb fl3.1 (up.trans up3) os ag
        have nfr := notFr fl3.2.2.1 he3 hd3
        have nL : a ≠ X.env.locals := fun z => nfr (List.mem_filterMap.mpr ⟨X.env, List.mem_cons_self, by rw [hf, z]⟩)
        have nF : a ∉ X.fs := fun hm => by
          obtain ⟨e, he, q⟩ := List.mem_filterMap.mp hm
          exact nfr (List.mem_filterMap.mpr ⟨e, List.mem_cons_of_mem _ he, q⟩)
        have hloc : Loc X.env.scope n := .inl hln
        have S3 := J3.suite he3 hd3 na nL nF
        refine wpAny_handleBy_cons (codeAny_handlers_test ?_) (by intro q; cases q)
        have LT : PySem.W.Looks (model X.prog X.w) h3 (typeOf (.ref a)) cls := fun A Q E s k q => wpAny_typeOf_ref (k _ _ he3) (by rw [hz3.1]; exact q)
        refine test_ok S3 LT hc hb1 fun h4 k4 => ?_
        have fl4 := flyingZ_keeps fl3 k4
        have up4 : s'.heap.UpToSlots h4 := up3.trans (Heap.UpToSlots.of_keeps k4)
        cases b with
        | true =>
          refine codeAny_handlers_suite_as ?_
          refine HandSPX.lands_againZ fl4 fun h5 fl5 up5 => ?_
          have J5 : Inv X pins σ' H' { s' with heap := h5 } := J.landed nb fl5.1 ((up.trans up4).trans up5) os ag
          obtain ⟨oe5, vs5, he5, hz5, hd5⟩ := fl5.there
          have S5 := J5.suite he5 hd5 na nL nF
          refine store_ok (X := X.suite a ((a, oe5) :: (X.pn ++ pins))) (v := .ref a) S5 hN hi hloc rfl (fun s6 S6 => ?_) (.inr hln)
          refine wpAny_mono ((hsu a oe5 cls d (X.pn ++ pins) hz5 ⟨_, hd5⟩).run [] s6 _ H' _ S6 (hyes rfl a na)) (fun f s6 hsp => ?_) (fun _ _ z => False.elim z)
          have end_ : ∀ {σ6 : L2.St} {H6 : Hp} {Q : Shared → Prop}, Inv (X.suite a ((a, oe5) :: (X.pn ++ pins))) [] σ6 H6 s6 → (∀ s7, Inv X pins (σ6.set i none) H6 s7 → Q s7) →
              wpAny (model X.prog X.w) X.A (do bindName X.env n .none; unbindBehindTheSuite X.env n pos') (fun _ s7 => Q s7) X.xe s6 := fun {σ6 H6 Q} S6 hq => gone_ok (S6.unsuite ok) hN hi hln hq
          cases f with
          | next =>
            obtain ⟨σ6, H6, S6, q6⟩ := hsp
            exact end_ S6 fun s7 J7 => ⟨_, _, J7, q6⟩
          | brk =>
            obtain ⟨σ6, H6, S6, q6⟩ := hsp
            exact end_ S6 fun s7 J7 => ⟨_, _, J7, q6⟩
          | cont =>
            obtain ⟨σ6, H6, S6, q6⟩ := hsp
            exact end_ S6 fun s7 J7 => ⟨_, _, J7, q6⟩
          | ret u =>
            obtain ⟨v6, σ6, H6, S6, r6, q6⟩ := hsp
            exact end_ S6 fun s7 J7 => ⟨_, _, _, J7, r6, q6⟩
        | false =>
          show wpAny _ X.A (handleBy (.ref a) X.env hds2) _ _ _
          exact ih h4 fl4 up4 (hno rfl)
    exact go hh h0 fl0 up0 w
  · cases f with
    | next =>
      obtain ⟨σ', H', J', q⟩ := hsp
      exact wpAny_execs_nil ⟨σ', H', J'.ofTry ok, q⟩
    | brk =>
      obtain ⟨σ', H', J', q⟩ := hsp
      exact ⟨σ', H', J'.ofTry ok, q⟩
    | cont =>
      obtain ⟨σ', H', J', q⟩ := hsp
      exact ⟨σ', H', J'.ofTry ok, q⟩
    | ret u =>
      obtain ⟨v, σ', H', J', r, q⟩ := hsp
      exact ⟨v, σ', H', J'.ofTry ok, r, q⟩
end
end Z
set_option Elab.async false
set_option linter.all false
set_option maxRecDepth 100000
set_option maxHeartbeats 4000000
namespace Z
open PySem PySem.Spec PyProof.Rows L2
abbrev WT.at_ (W : WT) (hx : Addr → Value → Option Addr → Prop) (fa : Addr → Hp → List Addr → Hp → Prop)
    (fam : ∀ (a : Addr) (F F' : Hp) (r r' : List Addr) (H H' : Hp), (∀ b o, F b = some o → F' b = some o) → (∀ (n : Nat) (b : Addr), r[n]? = some b → r'[n]? = some b) → (∀ c q, H c = some (LamX.CodeO c q) → H' c = some (LamX.CodeO c q)) → fa a F r H → fa a F' r' H') : WT := { W with hx := hx, fa := fa, fam := fam }
section
variable {W : WT} {hx : Addr → Value → Option Addr → Prop} {fa : Addr → Hp → List Addr → Hp → Prop} {fam : ∀ (a : Addr) (F F' : Hp) (r r' : List Addr) (H H' : Hp), (∀ b o, F b = some o → F' b = some o) → (∀ (n : Nat) (b : Addr), r[n]? = some b → r'[n]? = some b) → (∀ c q, H c = some (LamX.CodeO c q) → H' c = some (LamX.CodeO c q)) → fa a F r H → fa a F' r' H'}
theorem ClsI.to {c : Nat} (h : ClsI W c) : ClsI (W.at_ hx fa fam) c := ⟨h.ha, h.hn, h.tk, h.mr, h.bt, h.ot⟩
theorem ClsI.of {c : Nat} (h : ClsI (W.at_ hx fa fam) c) : ClsI W c := ⟨h.ha, h.hn, h.tk, h.mr, h.bt, h.ot⟩
theorem cok_eq (c : Nat) : (W.at_ hx fa fam).cok c = W.cok c := propext ⟨fun h => ⟨h.1, h.2.1, h.2.2.of⟩, fun h => ⟨h.1, h.2.1, h.2.2.to⟩⟩
theorem Rep.to {F : Hp} {r : List Addr} {t : T} {v : V} (h : Rep W F r t v) : Rep (W.at_ hx fa fam) F r t v := by
  induction h with
  | non => exact .non
  | bl b => exact .bl b
  | int i => exact .int i
  | str x => exact .str x
  | tup h1 h2 h3 ih => exact .tup h1 h2 ih
  | lst h1 h2 h3 ih => exact .lst h1 h2 ih
  | ins g h1 h2 h3 h4 h5 h6 h7 ih => exact .ins g h1 h2 h3 ih h5 h6 (by rw [cok_eq]; exact h7)
  | ref h => exact .ref h
  | dnil h => exact .dnil h
theorem Rep.of {F : Hp} {r : List Addr} {t : T} {v : V} (h : Rep (W.at_ hx fa fam) F r t v) : Rep W F r t v := by
  induction h with
  | non => exact .non
  | bl b => exact .bl b
  | int i => exact .int i
  | str x => exact .str x
  | tup h1 h2 h3 ih => exact .tup h1 h2 ih
  | lst h1 h2 h3 ih => exact .lst h1 h2 ih
  | ins g h1 h2 h3 h4 h5 h6 h7 ih => exact .ins g h1 h2 h3 ih h5 h6 (by rw [← cok_eq]; exact h7)
  | ref h => exact .ref h
  | dnil h => exact .dnil h
theorem rep_eq : Rep (W.at_ hx fa fam) = Rep W := by
  funext F r t v
  exact propext ⟨Rep.of, Rep.to⟩
theorem repL_eq : RepL (W.at_ hx fa fam) = RepL W := by
  funext F r ts vs
  exact propext ⟨fun h => ⟨h.1, fun i t v a b => (h.2 i t v a b).of⟩, fun h => ⟨h.1, fun i t v a b => (h.2 i t v a b).to⟩⟩
theorem fldO_eq : FldO (W.at_ hx fa fam) = FldO W := by
  funext F r fs fvs
  exact propext ⟨fun h => ⟨h.1, fun i t a => let ⟨v, z1, z2⟩ := h.2 i t a; ⟨v, z1, z2.of⟩, h.3, h.4⟩, fun h => ⟨h.1, fun i t a => let ⟨v, z1, z2⟩ := h.2 i t a; ⟨v, z1, z2.to⟩, h.3, h.4⟩⟩
theorem obRep_eq : ObRep (W.at_ hx fa fam) = ObRep W := by
  funext F r H a o
  cases o with
  | lst ts => unfold ObRep; rw [repL_eq]
  | ins c fs =>
    unfold ObRep
    rw [fldO_eq]
    refine propext ⟨fun ⟨dx, fvs, a, b, c⟩ => ⟨dx, fvs, a, b, by rw [← cok_eq]; exact c⟩, fun ⟨dx, fvs, a, b, c⟩ => ⟨dx, fvs, a, b, by rw [cok_eq]; exact c⟩⟩
  | dct ks vs => rfl
theorem storeOk_eq : StoreOk (W.at_ hx fa fam) = StoreOk W := by
  funext F r H S
  refine propext ⟨fun h => ⟨h.1, h.2, fun n a o z1 z2 => ?_, h.4, h.5⟩, fun h => ⟨h.1, h.2, fun n a o z1 z2 => ?_, h.4, h.5⟩⟩
  · have z := h.3 n a o z1 z2
    rw [obRep_eq] at z; exact z
  · rw [obRep_eq]; exact h.3 n a o z1 z2
theorem exV_eq : ExV (W.at_ hx fa fam) = ExV W := by
  funext F r H c l cls d
  unfold ExV
  rw [rep_eq]
theorem valOf_eq : ValOf (W.at_ hx fa fam) = ValOf W := by
  funext H0 F r H x v
  cases x with
  | val t => unfold ValOf; rw [rep_eq]
  | own i => rfl
  | fresh o => unfold ValOf; rw [obRep_eq]
  | hot c l => rfl
theorem Good.to {F H : Hp} {r : List Addr} {σ : L2.St} {env : Env} {S : Store} (g : Good W F r H σ env S) (nh : ∀ a cls d, ¬ W.hx a cls d) : Good (W.at_ hx W.fa W.fam) F r H σ env S where
  le := g.le
  st := by rw [storeOk_eq]; exact g.st
  en := {
    val := fun i t h => let ⟨v, z1, z2⟩ := g.en.val i t h; ⟨v, z1, z2.to⟩
    own := fun i o h => let ⟨p, z1, z2, z3, z4⟩ := g.en.own i o h; ⟨p, z1, z2, z3, by rw [obRep_eq]; exact z4⟩
    hot := fun i c l h => let ⟨a, cls, d, _, z, _⟩ := g.en.hot i c l h; absurd z (nh a cls d)
    act := g.en.act
    len := g.en.len
    ap := g.en.ap }
theorem At.to {en : Ent} {F H : Hp} {r : List Addr} {σ : L2.St} {env : Env} {S : Store} (g : At W en F r H σ env S) (nh : ∀ a cls d, ¬ W.hx a cls d) : At (W.at_ hx W.fa W.fam) en F r H σ env S := ⟨g.good.to nh, g.step, g.newO⟩
theorem At.setHot {en : Ent} {F H : Hp} {r : List Addr} {σ : L2.St} {env : Env} {S : Store} {i c : Nat} {l : List T} {a : Addr} {cls : Value} {d : Option Addr} (g : At W en F r H σ env S) (hh : W.hx a cls d) (ev : ExV W F r H c l cls d) : At W en F r H (σ.set i (some (.ref a))) (env.set i (.hot c l)) S :=
  ⟨⟨g.good.le, g.good.st, g.good.en.setHot hh ev⟩, g.step, fun j o p hj hs => by
    rcases set_own hj with ⟨_, q, _⟩ | ⟨n, q⟩
    · cases q
    · rw [List.getElem?_set_ne (Ne.symm n)] at hs; exact g.newO j o p q hs⟩
end
section
variable {W : WT} {wx : WX} {en : Ent} {fz : List Nat} {X : Cx} {C : EC} {b : XT.Bs} {fI Ca : Addr} {a : Expr} {ca : CE} {p pos pos2 : Pos} {k f c : Nat} {x : Str}
theorem s_raise (hC : W.xcl c = .ref Ca) (hc : X.calm = true) (tk : Takes X wx) (T : XT.Txt X.K b Ca fI (W.attr f)) (gC : X.mg x = some (.ref Ca)) (hr : Room k X.A) (hx : W.xat c = some (some f)) (hx2 : C.xat c = some (some f)) (ha : SE W wx C X a ca) (hp : plainArg a = true)
    (hg : Gl X x) (hdb : (x == ("__debug__" : Str)) = false) : SS W wx en fz C X (.Raise (some (.Call (.Name x p) [a] [] pos)) none pos2) (.raise c (.cons ca .nil)) := by
  refine (ps_raise hc tk (pmk_x T gC hr (a_cons ha a_nil hp) hg hdb (star_cons hp _ _) rfl)).imp fun D σ H h => ?_
  obtain ⟨F, r, env, S, g, h⟩ := h
  refine ⟨F, r, env, S, g.good, ?_⟩
  unfold exS at h
  cases e : evEs C (.cons ca .nil) env S with
  | no => rw [e] at h; exact h.elim
  | ex c' l S1 =>
    rw [e] at h
    have h : Nxe W wx en fz F r σ c' l env S1 := h
    exact fun F' r' H' cls d s' g' ev => h σ F' r' H' cls d (g.on s' g') s'.le s'.pre Keep.refl ev
  | ok ts S1 =>
    rw [e] at h
    dsimp only at h
    rw [hx2] at h
    match ts, h with
    | [t], h =>
      have h : Nxe W wx en fz F r σ c [t] env S1 := h
      intro vs F1 r1 H1 s1 g1 rl
      obtain ⟨v, ws, rfl, rv, rw_⟩ := rl.uncons
      rw [rw_.unnil]
      refine ⟨v, rfl, fun d hd => ?_⟩
      have s2 := Step.laid F1 r1 hd (.xd [(W.attr f, v)])
      refine h σ F1 r1 _ _ _ (g.on (s1.trans s2) (g1.laid hd _)) (s1.trans s2).le (s1.trans s2).pre Keep.refl ⟨hC.symm, ?_⟩
      rw [hx]
      exact ⟨d, v, rfl, upd_same, (g1.fresh hd).2.1, rv⟩
    | [], h => exact h.elim
    | _ :: _ :: _, h => exact h.elim
theorem s_raise0 (hC : W.xcl c = .ref Ca) (hc : X.calm = true) (tk : Takes X wx) (q : PySem.W.excIn X.K Ca b.tl b.new = true) (gC : X.mg x = some (.ref Ca)) (kC : PySem.W.keepIn X.K (.ref Ca) = true) (r : Raises X (.ref Ca)) (hx : W.xat c = some none) (hx2 : C.xat c = some none)
    (hg : Gl X x) (hdb : (x == ("__debug__" : Str)) = false) : SS W wx en fz C X (.Raise (some (.Call (.Name x p) [] [] pos)) none pos2) (.raise c .nil) := by
  refine (ps_raise hc tk (pmk_x0 q gC kC r hg hdb)).imp fun D σ H h => ?_
  obtain ⟨F, r, env, S, g, h⟩ := h
  unfold exS evEs at h
  dsimp only at h
  rw [hx2] at h
  have h : Nxe W wx en fz F r σ c [] env S := h
  refine h σ F r H _ _ g (Le.refl F) (Pre.refl r) Keep.refl ⟨hC.symm, ?_⟩
  rw [hx]
end
def only (W : WT) (a : Addr) (cls : Value) (d : Option Addr) : Addr → Value → Option Addr → Prop := fun a' cls' d' => a' = a ∧ cls' = cls ∧ d' = d ∧ ∃ c, W.xat c ≠ none ∧ cls = W.xcl c
theorem only_of {W : WT} {F H : Hp} {r : List Addr} {c : Nat} {l : List T} {a : Addr} {cls : Value} {d : Option Addr} (ev : ExV W F r H c l cls d) : only W a cls d a cls d := ⟨rfl, rfl, rfl, c, fun z => by
  have h := ev.2
  rw [z] at h
  exact h, ev.1⟩
abbrev wNo : WX := fun _ _ _ _ => False
inductive HsOk (W : WT) (en : Ent) (fz : List Nat) (C : EC) (X : Cx) : List ExceptHandler → CHs → Prop
  | nil : HsOk W en fz C X [] .nil
  | bare {t : Expr} {cs : List Nat} {b : CSs} {b₀ : Stmt} {suite : List Stmt} {pos' : Pos} {hds : List ExceptHandler} {hs : CHs} (hc : TestE X t (cs.map fun c => W.xcl c))
      (hsu : ∀ (a : Addr) (oe : Obj) (cls : Value) (d : Option Addr) (pn : List (Addr × Obj)), Zc cls d oe → (∃ vs, oe.data = .fields vs) → SSs (W.at_ (only W a cls d) W.fa W.fam) wNo en fz C (X.suite a ((a, oe) :: pn)) (b₀ :: suite) b) (r : HsOk W en fz C X hds hs) :
      HsOk W en fz C X (.ExceptHandler (some t) none (b₀ :: suite) pos' :: hds) (.cons cs none b hs)
  | named {t : Expr} {n : Str} {i : Nat} {cs : List Nat} {b : CSs} {b₀ : Stmt} {suite : List Stmt} {pos' : Pos} {hds : List ExceptHandler} {hs : CHs} (hc : TestE X t (cs.map fun c => W.xcl c)) (hN : X.N.Nodup) (hi : X.N[i]? = some n) (hln : X.env.kindOf n = some .local)
      (hsu : ∀ (a : Addr) (oe : Obj) (cls : Value) (d : Option Addr) (pn : List (Addr × Obj)), Zc cls d oe → (∃ vs, oe.data = .fields vs) → SSs (W.at_ (only W a cls d) W.fa W.fam) wNo en fz C (X.suite a ((a, oe) :: pn)) (b₀ :: suite) b) (r : HsOk W en fz C X hds hs) :
      HsOk W en fz C X (.ExceptHandler (some t) (some n) (b₀ :: suite) pos' :: hds) (.cons cs (some i) b hs)
def clsOf (W : WT) (en : Ent) (fz : List Nat) (C : EC) : CHs → List Cl
  | .nil => []
  | .cons cs i b hs => ⟨cs.map fun c => W.xcl c, i, fun a cls d => tS (W.at_ (only W a cls d) W.fa W.fam) wNo en fz (exB C b)⟩ :: clsOf W en fz C hs
section
variable {W : WT} {wx : WX} {en : Ent} {fz : List Nat} {X : Cx} {C : EC}
theorem HsOk.cls {hds : List ExceptHandler} {hs : CHs} (h : HsOk W en fz C X hds hs) : ClsOk X hds (clsOf W en fz C hs) := by
  induction h with
  | nil => exact .nil
  | bare hc hsu r ih => exact .bare hc hsu ih
  | named hc hN hi hln hsu r ih => exact .named hc hN hi hln hsu ih
theorem exmA_ok (hxis : ∀ c d b, C.xis c d = some b → PySem.W.exmOne X.K (W.xcl c) (W.xcl d) = some b) {c : Nat} : ∀ {cs : List Nat} {b : Bool}, xisA C.xis c cs = some b → PySem.W.exmAny X.K (W.xcl c) (cs.map fun c => W.xcl c) = some b
  | [], b, h => h
  | d :: r, b, h => by
    unfold xisA at h
    split at h
    · rename_i b1 e1 h1 h2
      cases h
      show (match PySem.W.exmOne X.K (W.xcl c) (W.xcl d), PySem.W.exmAny X.K (W.xcl c) (r.map fun c => W.xcl c) with | some b, some d => some (b || d) | _, _ => none) = _
      rw [hxis c d b1 h1, exmA_ok hxis h2]
    · cases h
theorem exmL_ok (hxis : ∀ c d b, C.xis c d = some b → PySem.W.exmOne X.K (W.xcl c) (W.xcl d) = some b) {c : Nat} {cs : List Nat} {b : Bool} (h : xisA C.xis c cs = some b) : exmL X.K (W.xcl c) (cs.map fun c => W.xcl c) = some b := by
  have z := exmA_ok hxis h
  match cs, h, z with
  | [], _, z => exact z
  | [d], h, z =>
    obtain ⟨b1, d1, x1, y1, z1⟩ := PySem.W.exmAny_cons (show PySem.W.exmAny X.K (W.xcl c) [W.xcl d] = some b from z)
    cases (show some false = some d1 from y1)
    rw [Bool.or_false] at z1
    subst z1
    exact x1
  | _ :: _ :: _, _, z => exact z
theorem rtn_to {hx : Addr → Value → Option Addr → Prop} {x : R} {s : Store} {Q : VK} (h : Rtn W en x s Q) : Rtn (W.at_ hx W.fa W.fam) en x s Q := fun v F' r' H' s' l st vo => h v F' r' H' s' l (by rw [storeOk_eq] at st; exact st) (by rw [valOf_eq] at vo; exact vo)
theorem clauses_ok (nh : ∀ a cls d, ¬ W.hx a cls d) (hxis : ∀ c d b, C.xis c d = some b → PySem.W.exmOne X.K (W.xcl c) (W.xcl d) = some b) {F F' H' : Hp} {r r' : List Addr} {σ σ' : L2.St} {D : Ends} {c : Nat} {l : List T} {env1 : Env} {S1 : Store} {cls : Value} {d : Option Addr}
    (a' : At W en F' r' H' σ' env1 S1) (le : Le F F') (pre : Pre r r') (kp : Keep fz σ σ') (ev : ExV W F' r' H' c l cls d) : ∀ (hs : CHs), FlOk W wx en fz F r σ D (exH C hs c l env1 S1) → wClauses X.K wx D (clsOf W en fz C hs) cls d σ' H'
  | .nil, h => (show Nxe W wx en fz F r σ c l env1 S1 from h) σ' F' r' H' cls d a' le pre kp ev
  | .cons cs i b hs, h => by
    unfold exH at h
    have ec := ev.1
    split at h
    · rename_i e
      refine ⟨true, by rw [ec]; exact exmL_ok hxis e, fun _ a na => ?_, fun z => nomatch z⟩
      cases i with
      | none =>
        refine ⟨F', r', env1, S1, a'.to nh, ?_⟩
        cases eb : exB C b env1 S1 with
        | rt x s =>
          dsimp only at h
          rw [eb] at h
          exact rtn_to (show Rtn W en x s D.rt from h)
        | nx e s => dsimp only at h; rw [eb] at h; exact h.elim
        | bk e s => dsimp only at h; rw [eb] at h; exact h.elim
        | ct e s => dsimp only at h; rw [eb] at h; exact h.elim
        | ex c l e s => dsimp only at h; rw [eb] at h; exact h.elim
        | no => dsimp only at h; rw [eb] at h; exact h.elim
      | some i =>
        refine ⟨F', r', env1.set i (.hot c l), S1, (a'.to nh).setHot (only_of ev) (by rw [exV_eq]; exact ev), ?_⟩
        cases eb : exB C b (env1.set i (.hot c l)) S1 with
        | rt x s =>
          dsimp only at h
          rw [eb] at h
          exact rtn_to (show Rtn W en x s D.rt from h)
        | nx e s => dsimp only at h; rw [eb] at h; exact h.elim
        | bk e s => dsimp only at h; rw [eb] at h; exact h.elim
        | ct e s => dsimp only at h; rw [eb] at h; exact h.elim
        | ex c l e s => dsimp only at h; rw [eb] at h; exact h.elim
        | no => dsimp only at h; rw [eb] at h; exact h.elim
    · rename_i e
      exact ⟨false, by rw [ec]; exact exmL_ok hxis e, (fun z => nomatch z), fun _ => clauses_ok nh hxis a' le pre kp ev hs h⟩
    · exact h.elim
theorem s_try {body : List Stmt} {h₀ : ExceptHandler} {hds : List ExceptHandler} {pos : Pos} {cb : CSs} {ch : CHs} (nh : ∀ a cls d, ¬ W.hx a cls d) (hxis : ∀ c d b, C.xis c d = some b → PySem.W.exmOne X.K (W.xcl c) (W.xcl d) = some b)
    (hs : X.stack = X.env :: X.outer) (hf : X.env.frame = some X.env.locals) (tk : Takes X wx)
    (hb : ∀ (wy : WX) (pn : List (Addr × Obj)) (xe : Value → Shared → Prop), Takes (X.tr pn xe) wy → PassesOwn (model X.prog X.w) X.A X.env xe → SSs W wy en fz C (X.tr pn xe) body cb)
    (hh : HsOk W en fz C X (h₀ :: hds) ch) : SS W wx en fz C X (.Try body (h₀ :: hds) [] [] pos) (.stry cb ch) := by
  refine (ps_tryC (tb := fun wy => tS W wy en fz (exB C cb)) hs hf tk hb hh.cls).imp fun D σ H h => ?_
  obtain ⟨F, r, env, S, a, h⟩ := h
  refine ⟨F, r, env, S, a, ?_⟩
  unfold exS at h
  cases e : exB C cb env S with
  | ex c l env1 S1 =>
    rw [e] at h
    exact fun σ' F' r' H' cls d a' le pre kp ev => clauses_ok nh hxis a' le pre kp ev ch h
  | nx e1 s => rw [e] at h; exact h
  | bk e1 s => rw [e] at h; exact h
  | ct e1 s => rw [e] at h; exact h
  | rt x s => rw [e] at h; exact h
  | no => rw [e] at h; exact h
end
end Z
set_option Elab.async false
set_option linter.all false
set_option maxRecDepth 100000
set_option maxHeartbeats 4000000
namespace PySem.W
open PySem PySem.Spec PySem.Calls PyProof.Rows
section
variable {prog : Program} {w : World} {A : Around} {E : Value → Shared → Prop} {s : Shared} {K : Frag} {x D : Addr} {ox : Obj} {od : Option Obj}
theorem findObj_dataO {C : Addr} {name : Str} {a g : Value} (hc : (clsIn K C).isSome = true) (ha : findIn K (.ref C) name = some (some a)) (hg : specialIn K a "__get__" = some (some g)) (ht : takesIn K a = some true) : findObj K C od name = some (.bind g a) := by
  obtain ⟨cd, hc⟩ := Option.isSome_iff_exists.mp hc
  unfold findObj
  rw [hc, Option.bind_some, ha, Option.bind_some]
  simp [hg, ht]
theorem kin_classO {Q : Option Value → Shared → Prop} (hga : findIn K (.ref D) "__getattribute__" = some (some (.builtin "BaseException.__getattribute__"))) (hgt : findIn K (.ref D) "__getattr__" = some none) (hsub : subIn K (.ref D) (.type "BaseException") = some true)
    (hdct : hasDictIn K D = true) (ha : findIn K (.ref D) "__class__" = some (some (.builtin "object.__class__")))
    (hn : specialIn K (.builtin "object.__class__") "__get__" = some (some (.builtin "getset_descriptor.__get__"))) (htk : takesIn K (.builtin "object.__class__") = some true) (hm : mroIn K D (.type "object") = some true)
    (X : K.In s.heap) (I : InstAt s.heap x ox D od) (h : Q (some (.ref D)) { s with toks := s.toks + 1 }) : wpAny (model prog w) A (getAttr? (.ref x) "__class__") Q E s := by
  have hf : findObj K D od "__class__" = some (.bind (.builtin "getset_descriptor.__get__") (.builtin "object.__class__")) := findObj_dataO (by obtain ⟨cd, hc, _⟩ := any_some hdct; rw [hc]; rfl) ha hn htk
  obtain ⟨hp, g, d, t, os⟩ := s
  have L0 := I.type (M := model prog w)
  have L1 := looks_findIn (M := model prog w) X hga
  have L2 := looks_findIn (M := model prog w) X hgt
  have L3 := looks_find (M := model prog w) X I hf
  have sub : Looks (model prog w) hp (isInstance (.ref x) (.type "BaseException")) true := L0.andThen (looks_subIn X hsub)
  have hx0 : (false && onTheHeap (Value.builtin "BaseException.__getattribute__")) = false := rfl
  have hx2 : (Value.builtin "BaseException.__getattribute__" == Value.builtin "object.__getattribute__") = false := by decide +kernel
  have hx1 : (onTheHeap (Value.ref D) && Value.builtin "BaseException.__getattribute__" == Value.builtin "object.__getattribute__") = false := by rw [hx2]; rfl
  unfold getAttr? getAttrBy? getAttrBy
  refine wpAny_bind (wpAny_mkText (wpAny_bind (wpAny_attempt (wpAny_holding (wpAny_bind (L0.at (wpAny_bind (L1.at ?_))))))))
  show wpAny _ _ (if (onTheHeap (Value.ref D) && Value.builtin "BaseException.__getattribute__" == Value.builtin "object.__getattribute__") = true then _ else _) _ _ _
  rw [hx1, if_neg Bool.false_ne_true]
  unfold getAttrByItsOwn hookBefore
  refine wpAny_bind ?_
  rw [if_pos (show onTheHeap (Value.ref D) = true from rfl)]
  refine L2.at ?_
  refine wpAny_bind (wpAny_attempt (wpAny_holding ?_))
  unfold callGetattribute
  rw [hx0, if_neg Bool.false_ne_true]
  unfold boundAndCalled
  rw [PySem.F.excAttr_ValueError.ga.bind (.ref x)]
  refine wpAny_bind (wpAny_pure ?_)
  show wpAny _ _ (call (.builtin "BaseException.__getattribute__") [.ref x, .str "__class__" t]) _ _ _
  refine wpAny_call (codeAny_call_builtin PySem.F.excAttr_ValueError.ga.plain PySem.F.entry_bexc_ga ?_)
  refine @check_slot (model prog w) _ _ ⟨hp, g, d, t + 1, os⟩ "BaseException.__getattribute__" "BaseException" "__getattribute__" (.ref x) [.str "__class__" t] [] _ (by decide +kernel) (by decide +kernel) sub (PySem.F.args_bexc_ga (.ref x) (.str "__class__" t)) ?_
  unfold Builtin.«object.__getattribute__»
  refine wpAny_bind (wpAny_of_eq (a := ((Value.ref x : Value), [Value.str "__class__" t])) (by first | rfl | (simp only [slotArgs]; rfl)) ?_)
  refine wpAny_bind (wpAny_pure (wpAny_bind (L0.at (wpAny_bind (L3.at ?_)))))
  show wpAny _ _ (holding [Value.builtin "object.__class__"] (call (.builtin "getset_descriptor.__get__") [.builtin "object.__class__", .ref x, .ref D]) >>= ret) _ _ _
  refine wpAny_bind (wpAny_holding (wpAny_call (class_get (s := ⟨hp, g, d, t + 1, os⟩) (ox := ox) (od := od) X I hm ?_)))
  refine wpAny_pure ?_
  show wpAny _ _ (handedOut (.ref D)) _ _ _
  rw [handedOut_of (v := .ref D) rfl]
  first
    | exact wpAny_pure (wpAny_pure h)
    | exact wpAny_pure h
    | exact wpAny_pure (wpAny_bind (wpAny_pure (wpAny_pure h)))
theorem kitx_excO (hga : findIn K (.ref D) "__getattribute__" = some (some (.builtin "BaseException.__getattribute__"))) (hgt : findIn K (.ref D) "__getattr__" = some none) (hsub : subIn K (.ref D) (.type "BaseException") = some true) (hdct : hasDictIn K D = true) (ha : findIn K (.ref D) "__class__" = some (some (.builtin "object.__class__")))
    (hn : specialIn K (.builtin "object.__class__") "__get__" = some (some (.builtin "getset_descriptor.__get__"))) (htk : takesIn K (.builtin "object.__class__") = some true) (hm : mroIn K D (.type "object") = some true) :
    KitX K (.ref x) (.ref D) (fun h => InstAt h x ox D od) where
  ty := fun _ _ _ I => I.type
  it := fun _ _ X _ => by
    obtain ⟨cdD, hcD, _⟩ := any_some hdct
    unfold clsIn at hcD
    split at hcD
    · rename_i c' d' cd' sl' ho
      intro A' Q' E' s' k q
      unfold isType loadHead
      exact wpAny_bind (wpAny_loadPart (k _ _ (X _ _ ho)) (wpAny_pure q))
    · cases hcD
  ne := fun h tp dd its n sl X htp => by
    obtain ⟨cdD, hcD, _⟩ := any_some hdct
    refine Bool.eq_false_iff.mpr fun q => ?_
    have e : D = tp := Value.ref.inj (beq_iff_eq.mp q)
    subst e
    unfold clsIn at hcD
    split at hcD
    · rename_i c' d' cd' sl' ho
      have z := (X _ _ ho).symm.trans htp
      cases z
    · cases hcD
  ca := fun X I k => kin_classO hga hgt hsub hdct ha hn htk hm X I k
end
end PySem.W
namespace Z
open PySem PySem.Spec PyProof.Rows L2
def HotIn (W : WT) (X : Cx) : Prop := ∀ a cls d, W.hx a cls d → ∃ oe, (a, oe) ∈ X.pn ∧ Zc cls d oe ∧ ∃ vs, oe.data = .fields vs
theorem hot_at {W : WT} {X : Cx} {pins : List (Addr × Obj)} {σ : L2.St} {F H : Hp} {r : List Addr} {s : Shared} {c : Nat} {l : List T} {a D : Addr} {cls : Value} {d : Option Addr} (hi : HotIn W X) (I : Inv X pins σ H s) (hh : W.hx a cls d) (ec : cls = .ref D) (ev : ExV W F r H c l cls d) :
    ∃ ox od, PySem.W.InstAt s.heap a ox D od ∧ (∀ f t, W.xat c = some (some f) → l = [t] → ∃ v u o, od = some o ∧ PySem.W.lookIn (W.attr f) o = some (some u) ∧ L2.RelV v u ∧ Rep W F r t v) := by
  obtain ⟨oe, hp, hz, vs, hd⟩ := hi a cls d hh
  obtain ⟨ha, _⟩ := I.pin (a, oe) (List.mem_append_left _ hp)
  have z1 := hz.1
  rw [ec] at z1
  have h2 := ev.2
  split at h2
  · rename_i e1
    subst h2
    refine ⟨oe, none, ⟨ha, z1, by unfold PySem.W.notCls; rw [hd] <;> rfl, by rw [hz.2]; trivial⟩, fun f t e => by rw [e1] at e; cases e⟩
  · rename_i f t e1
    obtain ⟨dd, v, rfl, e2, e3, e4⟩ := h2
    have hx : ObjOk X.prog X.w H s.heap dd (.xd [(W.attr f, v)]) := I.hok dd _ e2
    obtain ⟨mA, hns, hr⟩ := hx
    obtain ⟨od, ho, hl⟩ := lookIn_ns hns
    have lk : List.lookup (W.attr f) [(W.attr f, v)] = some v := by simp [List.lookup]
    obtain ⟨u, hu, ru⟩ := RelO.some_of (v := v) (o := mA (W.attr f)) (by rw [← lk]; exact hr (W.attr f))
    refine ⟨oe, some od, ⟨ha, z1, by unfold PySem.W.notCls; rw [hd] <;> rfl, by rw [hz.2]; exact ho⟩, fun f' t' e el => ?_⟩
    rw [e1] at e
    cases e
    cases el
    exact ⟨v, u, od, rfl, by rw [hl, hu], ru, e4⟩
  · exact h2.elim
section
variable {W : WT} {wx : WX} {X : Cx} {C : EC} {a : Expr} {ca : CE} {p pos p2 : Pos} {i f : Nat} {x y : Str}
structure XFld (K : PySem.W.Frag) (D : Addr) (fx : Str) : Prop where
  ga : PySem.W.findIn K (.ref D) "__getattribute__" = some (some (.builtin "BaseException.__getattribute__"))
  gg : PySem.W.findIn K (.ref D) "__getattr__" = some none
  exC : PySem.W.subIn K (.ref D) (.type "BaseException") = some true
  hdC : PySem.W.hasDictIn K D = true
  noN : PySem.W.findIn K (.ref D) fx = some none
theorem fld_cold {pins : List (Addr × Obj)} {s : Shared} {σ : L2.St} {F H : Hp} {r : List Addr} {env : Env} {S : Store} {Q : VK} (hK : X.K = W.K) (ha : SE W wx C X a ca) (hb : plainBase a = true) (I : Inv X pins σ H s) (g : Good W F r H σ env S)
    (h : Rs W wx F r H σ env (evE C ca env S) fun xa S1 => Rs W wx F r H σ env (Out.of S1 ((fldR env S1 xa f).map R.val)) fun x S' => Post W F r H σ env x S' Q) :
    wpAny (model X.prog X.w) X.A (eval (.Attribute a (W.attr f) pos) X.env) (EP X pins σ Q) X.xe s := by
  refine (pe_fld ha (plainBase_ok hb)).run pins s σ H Q I ⟨F, r, env, S, g, h.mono fun xa S1 e v F1 r1 H1 s1 g1 rr1 n1 => ?_⟩
  obtain ⟨x, e2, p⟩ := e.of
  cases q : fldR env S1 xa f with
  | none => rw [q] at e2; cases e2
  | some t =>
    rw [q] at e2
    cases e2
    obtain ⟨a', C', dx, fs, y, h1, h2, h3, h4, h5, h6⟩ := fldR_ok g1 rr1 q
    rw [hK]
    exact ⟨a', C', dx, fs, y, h1, h2, h3, h4, h5, (Post.weak p s1).same g1 h6⟩
theorem e_fldV (hK : X.K = W.K) (hi : HotIn W X) (xf : ∀ c g, W.xat c = some (some g) → ∃ D, W.xcl c = .ref D ∧ XFld W.K D (W.attr g)) (hx : C.xat = W.xat) (hv : SE W wx C X (.Name x p) (.var i)) :
    SE W wx C X (.Attribute (.Name x p) (W.attr f) pos) (.fld (.var i) f) := ⟨fun pins s σ H Q I h => by
  obtain ⟨F, r, env, S, g, h⟩ := h
  have cold : (∀ c l, env[i]? ≠ some (.hot c l)) → wpAny (model X.prog X.w) X.A (eval (.Attribute (.Name x p) (W.attr f) pos) X.env) (EP X pins σ Q) X.xe s := fun nh => by
    refine fld_cold hK hv rfl I g ?_
    unfold evE evE at h
    unfold evE
    cases e : env[i]? with
    | none => rw [e] at h; exact h.elim
    | some sl =>
      rw [e] at h
      cases sl with
      | val t => exact h
      | own o => exact h
      | hot c l => exact absurd e (nh c l)
      | un => exact h.elim
      | act => exact h.elim
  cases e : env[i]? with
  | none => exact cold fun c l z => by rw [e] at z; cases z
  | some sl =>
    cases sl with
    | hot c l =>
      unfold evE evE at h
      rw [e] at h
      obtain ⟨z, e2, q⟩ := Rs.of (show Rs W wx F r H σ env (Out.of S ((hotFld C c l f).map R.val)) (fun x S' => Post W F r H σ env x S' Q) from h)
      have e3 : ∃ t, W.xat c = some (some f) ∧ l = [t] ∧ z = .val t := by
        unfold hotFld at e2
        rw [hx] at e2
        split at e2
        · rename_i g' t hg
          cases hq : g' == f with
          | false => rw [hq] at e2; cases e2
          | true =>
            rw [hq] at e2
            cases e2
            exact ⟨t, by rw [hg, beq_iff_eq.mp hq], rfl, rfl⟩
        · cases e2
      obtain ⟨t, hat, rfl, rfl⟩ := e3
      obtain ⟨D, hD, T⟩ := xf c f hat
      refine attr_of rfl (thn (hv.run pins s σ H (fun v H1 => ∃ F1 r1, Step F r H F1 r1 H1 ∧ Good W F1 r1 H1 σ env S ∧ RRep W F1 r1 H1 σ env (.hot c [t]) v) I ⟨F, r, env, S, g, ?_⟩) fun u s1 hh => ?_)
      · unfold evE
        rw [e]
        exact fun v F1 r1 H1 s1 g1 rr _ => ⟨F1, r1, s1, g1, rr⟩
      · obtain ⟨v, H1, I1, rv, F1, r1, s1', g1, a', cls, d, rfl, hh, ev⟩ := hh
        obtain rfl : u = Value.ref a' := rv
        obtain ⟨ox, od, J, lk⟩ := hot_at hi I1 hh (ev.1.trans hD) ev
        obtain ⟨v2, u2, o, rfl, l2, ru, rt⟩ := lk f t hat rfl
        have T' := T
        rw [← hK] at T'
        exact HandSPX.exc_get I1.kIn J T'.ga T'.gg T'.exC (PySem.W.findObj_own T'.hdC T'.noN rfl l2) (handed_of ru) ⟨v2, H1, I1.tok _, ru, (Post.weak q s1').same g1 rt⟩
    | val t => exact cold fun c l z => by rw [e] at z; cases z
    | own o => exact cold fun c l z => by rw [e] at z; cases z
    | un => exact cold fun c l z => by rw [e] at z; cases z
    | act => exact cold fun c l z => by rw [e] at z; cases z⟩
def rIsX (W : WT) : List V → Hp → VK → Prop := fun vs H Q => ∃ (F : Hp) (r : List Addr) (c : Nat) (l : List T) (a D : Addr) (d : Option Addr) (cw : V) (cv : Value) (b : Bool), W.hx a (.ref D) d ∧ ExV W F r H c l (.ref D) d ∧ ExcC W.K D ∧ vs = [.ref a, cw] ∧ ClsV cw cv ∧ PySem.W.kitOne W.K (.ref D) cv = some b ∧ Q (.bl b) H
theorem call_isX (hK : X.K = W.K) (hi : HotIn W X) : CallR X (.builtin "isinstance") (rIsX W) := by
  intro pins s σ H xs us Q I r0 h
  obtain ⟨F, r, c, l, a, D, d, cw, cv, b, hh, ev, E, rfl, kc, e, q⟩ := h
  obtain ⟨u1, u2, rfl, r1, r2⟩ := vals2 r0
  obtain rfl : u1 = Value.ref a := r1
  have e2 := kc.eq r2
  subst e2
  obtain ⟨ox, od, J, _⟩ := hot_at hi I hh rfl ev
  rw [← hK] at e E
  exact PySem.W.kia_one (PySem.W.kitx_excO E.hg E.hk E.hs E.hd E.ha E.hn E.ht E.hm) I.kIn J e (fun z => nomatch z) fun tk => ⟨.bl b, H, I.kept (t' := tk) fun _ _ z => z, rfl, q⟩
theorem e_isiV {t : Expr} {bt : BTy} (hK : X.K = W.K) (hi : HotIn W X) (xc : ∀ a cls d, W.hx a cls d → ∃ D, cls = .ref D ∧ ExcC W.K D) (hxis : ∀ c d b, C.xis c d = some b → PySem.W.kitOne W.K (W.xcl c) (W.xcl d) = some b) (hg : Gl X "isinstance") (hm : X.mg "isinstance" = none)
    (hv : SE W wx C X (.Name x p) (.var i)) (hb : NamesTy W X t bt) (ok : IsOk W bt) :
    SE W wx C X (.Call (.Name "isinstance" p2) [.Name x p, t] [] pos) (.isi (.var i) [bt]) := ⟨fun pins s σ H Q I h => by
  obtain ⟨F, r, env, S, g, h⟩ := h
  have cold : (∀ c l, env[i]? ≠ some (.hot c l)) → wpAny (model X.prog X.w) X.A (eval (.Call (.Name "isinstance" p2) [.Name x p, t] [] pos) X.env) (EP X pins σ Q) X.xe s := fun nh => by
    refine (pe_callB call_isi hg hm (by decide +kernel) (pa_cons hv (pa_cons hb.1 pa_nil (star_cons hb.2 [] _)) (star_cons rfl _ _)) (by decide +kernel) (by decide +kernel) (star_cons rfl _ _) (by rw [single_star hb.2]; rfl)).run pins s σ H Q I ?_
    refine ⟨F, r, env, S, g, ?_⟩
    have h : Rs W wx F r H σ env (evE C (.var i) env S) fun y S1 => Rs W wx F r H σ env (match flat env S1 y with | some t => Out.of S1 ((isiT t [bt]).map fun b => R.val (.bl b)) | none => .no) fun x S' => Post W F r H σ env x S' Q := by
      unfold evE evE at h
      unfold evE
      cases e : env[i]? with
      | none => rw [e] at h; exact h.elim
      | some sl =>
        rw [e] at h
        cases sl with
        | val t => exact h
        | own o => exact h
        | hot c l => exact absurd e (nh c l)
        | un => exact h.elim
        | act => exact h.elim
    refine h.mono fun y S1 e v F1 r1 H1 s1 g1 rr n1 => ?_
    split at e
    · rename_i u eu
      obtain ⟨x, e2, q⟩ := e.of
      have vw := Vw.of_flat g1 rr eu
      cases e3 : isiT u [bt] with
      | none => rw [e3] at e2; cases e2
      | some z =>
        rw [e3] at e2
        cases e2
        have e4 : isiT1 u bt = some z := by
          unfold isiT at e3
          split at e3
          · rename_i e5; cases e3; exact e5
          · rename_i e5; cases e3; exact e5
          · cases e3
        show rIsi X.K _ _ _
        rw [hK]
        exact ⟨v, bt.v W, tyU W u, bt.u W, z, rfl, clsV ok, tyx_ok g1.le vw, kit1 ok vw e4, (Post.weak q s1).same g1 (.bl z)⟩
    · exact e.elim
  cases e : env[i]? with
  | none => exact cold fun c l z => by rw [e] at z; cases z
  | some sl =>
    cases sl with
    | hot c l =>
      unfold evE evE at h
      rw [e] at h
      obtain ⟨z, e2, q⟩ := Rs.of (show Rs W wx F r H σ env (Out.of S ((hotTy C.xis c [bt]).map fun b => R.val (.bl b))) (fun x S' => Post W F r H σ env x S' Q) from h)
      refine (pe_callB (call_isX hK hi) hg hm (by decide +kernel) (pa_cons hv (pa_cons hb.1 pa_nil (star_cons hb.2 [] _)) (star_cons rfl _ _)) (by decide +kernel) (by decide +kernel) (star_cons rfl _ _) (by rw [single_star hb.2]; rfl)).run pins s σ H Q I ?_
      refine ⟨F, r, env, S, g, ?_⟩
      unfold evE
      rw [e]
      intro v F1 r1 H1 s1 g1 rr n1
      obtain ⟨a, cls, d, rfl, hh, ev⟩ := rr
      obtain ⟨D, rfl, E⟩ := xc a cls d hh
      cases bt with
      | exc d' =>
        have e2 : ((C.xis c d').map fun b => R.val (.bl b)) = some z := e2
        cases e3 : C.xis c d' with
        | none => rw [e3] at e2; cases e2
        | some b =>
          rw [e3] at e2
          cases e2
          have hk := hxis c d' b e3
          rw [← ev.1] at hk
          exact ⟨F1, r1, c, l, a, D, d, _, _, b, hh, ev, E, rfl, clsV ok, hk, (Post.weak q s1).same g1 (.bl b)⟩
      | _ => cases e2
    | val t => exact cold fun c l z => by rw [e] at z; cases z
    | own o => exact cold fun c l z => by rw [e] at z; cases z
    | un => exact cold fun c l z => by rw [e] at z; cases z
    | act => exact cold fun c l z => by rw [e] at z; cases z⟩
end
end Z
set_option Elab.async false
set_option linter.all false
set_option maxRecDepth 100000
set_option maxHeartbeats 4000000
namespace Z
open PySem PySem.Spec PyProof.Rows L2
structure FnZ (P : Program) (w : World) (K : PySem.W.Frag) (mg : Str → Option Value) (base : Heap) (k : Nat) (f : Addr) (fd : FuncData) (ps : List Str) (sp : Addr → Value → Option Addr → Hp → VK → Prop) : Prop where
  one : ps.length = 1
  run : ∀ (A : Around) (ou : List PySem.Env) (s : Shared) (H : Hp) (ar : Args) (p : Addr × Obj) (cls : Value) (d : Option Addr) (Q : VK), L2H.RoomH k A → A.guards = some [] → L2H.PinOk ou H s p → Zc cls d p.2 → (∃ vs, p.2.data = .fields vs) → Env0 P w K mg base A ou s H →
    BindsTo s fd ar (ps.zip [.ref p.1]) → sp p.1 cls d H Q → codeAny (model P w) A (.call (.ref f) ar) (CR (L2.CX P w) ou P w H s Q (fun _ _ _ => False)) s
def spH (W : WT) (f : Nat → List T → Store → Out R) : Addr → Value → Option Addr → Hp → VK → Prop := fun _ cls d H Q => ∃ (F : Hp) (r : List Addr) (c : Nat) (l : List T) (S : Store), Le F H ∧ StoreOk W F r H S ∧ ExV W F r H c l cls d ∧ (match f c l S with
  | .ok x S' => ∀ (v : V) (F' : Hp) (r' : List Addr) (H' : Hp), Step F r H F' r' H' → Le F' H' → StoreOk W F' r' H' S' → ValOf W H F' r' H' x v → Q v H'
  | _ => False)
abbrev cxZ (P : Program) (w : World) (K : PySem.W.Frag) (mg : Str → Option Value) (base : Heap) (N : List Str) (qual : Str) (scope : Scope) (f : Addr) (cdv : Value) (A : Around) (ou : List PySem.Env) (s : Shared) (H : Hp) (p : Addr × Obj) : Cx :=
  L2H.cxH (L2.CX P w) P w K mg base N qual scope f cdv A ou s H (fun _ _ _ => False) p
section
variable {P : Program} {w : World} {K : PySem.W.Frag} {mg : Str → Option Value} {base : Heap} {j k : Nat} {f : Addr} {fd : FuncData} {ps ks : List Str} {sp : Addr → Value → Option Addr → Hp → VK → Prop}
theorem fnZ_of {name qual : Str} {params : Arguments} {body : List Stmt} {scope : Scope} {dvs : List V} {kws : List (Str × V)} {N : List Str} (F : FunD K name qual params body scope dvs kws f fd) (S : FnScope N ps scope) (one : ps.length = 1)
    (hbody : ∀ (cdv : Value) (A : Around) (ou : List PySem.Env) (s : Shared) (H : Hp) (p : Addr × Obj) (cls : Value) (d : Option Addr) (Q : VK), L2H.RoomH k (A.deeper (envOfC qual scope s.heap.objs.size f cdv)) → (A.deeper (envOfC qual scope s.heap.objs.size f cdv)).guards = some [] → Zc cls d p.2 → (∃ vs, p.2.data = .fields vs) → sp p.1 cls d H Q →
      ∃ t, PSs (cxZ P w K mg base N qual scope f cdv A ou s H p) body t ∧ t { nx := fun _ H' => Q .non H', rt := Q } (L2.start N [.ref p.1]) H) : FnZ P w K mg base (k + 1) f fd ps sp := by
  obtain ⟨oc, od, dV, kV, doc, pm, an, cdv, ct, osl, rfl, lk, hcd, _, _⟩ := F.ex
  refine ⟨one, fun A ou s H ar p cls d Q hr hgd hpin hz hf e0 hb hs => ?_⟩
  have KX : K.In s.heap := e0.mod.kin.keeps fun b o e => (e0.bs b o e).1
  have lim : s.heap.NoLimit := e0.mod.nolimit.keeps fun b o e => (e0.bs b o e).1
  have hp : ∀ y ∈ ps.zip [Value.ref p.1], scope.names.lookup y.1 = some .local ∨ (scope.names.lookup y.1 = some .cell ∧ ((cellsFrom (s.heap.objs.size + 1) scope.names []).lookup y.1).isSome = true) := fun y hy =>
    (S.par y.1 (List.of_mem_zip (show (y.1, y.2) ∈ _ from hy)).1).imp id fun q => ⟨q, PySem.W.cellsFrom_some _ _ _ (.inl q)⟩
  refine codeAny_call_function hr.depth (KX _ _ lk) rfl S.co S.gen rfl (PySem.W.codeRec_of KX hcd) (hb _ _ _ _ (wpAny_newFunctionEnv_cells S.kind hp fun ev he s1 x => ?_))
  subst he
  obtain ⟨t, ht, hq⟩ := hbody cdv A ou s H p cls d Q (hr.deeper _) hgd hz hf hs
  have J : Inv (cxZ P w K mg base N qual scope f cdv A ou s H p) [] (L2.start N [.ref p.1]) H s1 := L2H.inv_startH S hpin e0 (by rw [one]; rfl) (.cons rfl .nil) x
  refine ⟨lim.keeps x.toInCall.keep, codeAny_func (wpAny_mono (ht.run [] s1 (L2.start N [.ref p.1]) H _ J hq) (fun fl s' z => ?_) fun e s' z => z)⟩
  match fl, z with
  | .ret u, ⟨v, _, H', J', ru, q⟩ => exact ⟨v, H', J'.os, J'.bare, J'.base, J'.hok, ru, q⟩
  | .next, ⟨_, H', J', q⟩ => exact ⟨V.non, H', J'.os, J'.bare, J'.base, J'.hok, rfl, q⟩
  | .brk, ⟨_, _, _, q⟩ => exact q.elim
  | .cont, ⟨_, _, _, q⟩ => exact q.elim
theorem cx_never {P : Program} {w : World} {ou : List PySem.Env} {H : Hp} {s : Shared} {e : Value} {s' : Shared} (h : L2.CX P w ou H s (fun _ _ _ => False) e s') : False := by
  obtain ⟨_, _, _, _, _, _, _, _, _, _, _, _, z⟩ := h
  exact z
end
section
variable {W : WT} {wx : WX} {X : Cx} {C : EC} {p q pos : Pos} {i g k : Nat} {x y : Str} {f : Addr} {fd : FuncData} {ps : List Str}
theorem e_callh (hi : HotIn W X) (F : FnZ X.prog X.w X.K X.mg X.base k f fd ps (spH W (C.callH g))) (hr : L2H.RoomH k X.A) (hgd : X.A.guards = some []) (hg : Gl X y) (hm : X.mg y = some (.ref f)) (hk : PySem.W.keepIn X.K (.ref f) = true) (hb : Binds X.K fd ps [])
    (hv : SE W wx C X (.Name x p) (.var i)) (hdb : (y == ("__debug__" : Str)) = false) : SE W wx C X (.Call (.Name y q) [.Name x p] [] pos) (.callh g (.var i)) := ⟨fun pins s σ H Q I h => by
  obtain ⟨F0, r, env, S, gd, h⟩ := h
  refine wpAny_Call_Name_kw (ld_glob I hg hm ?_ hdb)
  refine PySem.W.callWith_K (h₀ := X.base) I.ok.mod.kin hk (thn ((pa_cons hv pa_nil rfl).run pos pins s σ H (fun vs H1 => ∃ (a : Addr) (cls : Value) (d : Option Addr), vs = [.ref a] ∧ W.hx a cls d ∧ spH W (C.callH g) a cls d H1 Q) I ?_) fun us s1 ⟨vs, H1, I1, r1, q⟩ => ⟨I1.kIn, ?_⟩) rfl rfl
  · refine ⟨F0, r, env, S, gd, ?_⟩
    unfold evE evE at h
    unfold evE
    cases e : env[i]? with
    | none => rw [e] at h; exact h.elim
    | some sl =>
      rw [e] at h
      cases sl with
      | hot c l =>
        intro v F1 r1 H1 s1 g1 rr n1
        obtain ⟨a, cls, d, rfl, hh, ev⟩ := rr
        refine ⟨a, cls, d, rfl, hh, F1, r1, c, l, S, g1.le, g1.st, ev, ?_⟩
        have h : Rs W wx F0 r H σ env ((C.callH g c l S).only fun x S2 => .ok x S2) fun x S' => Post W F0 r H σ env x S' Q := h
        cases e2 : C.callH g c l S with
        | ok x S' =>
          rw [e2] at h
          intro v F2 r2 H2 s2 l2 st2 vo
          obtain ⟨z1, z2, z3⟩ := back_ok g1 s2 l2 st2 vo
          exact (show Post W F0 r H σ env x S' Q from h) v F2 r2 H2 (s1.trans s2) z1 z2 (z3.step s1)
        | ex c' l' S' => rw [e2] at h; exact h
        | no => rw [e2] at h; exact h
      | val t => exact h.elim
      | own o => exact h.elim
      | un => exact h.elim
      | act => exact h.elim
  · obtain ⟨a, cls, d, rfl, hh, sp⟩ := q
    obtain ⟨oe, hp, hz, hf⟩ := hi a cls d hh
    have hl : us.length = ps.length := by rw [← r1.length, F.one]; rfl
    have b := hb s1 us I1.kIn (by rw [List.append_nil]; exact hl)
    rw [List.append_nil] at b
    obtain rfl := Vals.ref1 r1
    have P1 := I1.pin (a, oe) (List.mem_append_left _ hp)
    have hpin : L2H.PinOk X.stack H1 s1 (a, oe) := ⟨P1.1, P1.2.1, fun hm => (List.mem_cons.mp (I1.stkSub a hm)).elim P1.2.2.1 P1.2.2.2.1, P1.2.2.2.2⟩
    refine wpAny_call (codeAny_mono (F.run X.A X.stack s1 H1 ⟨[.ref a], []⟩ (a, oe) cls d Q hr hgd hpin hz hf I1.env0 b sp) fun r s' hq => ?_)
    cases r with
    | error e => exact (cx_never hq).elim
    | ok fl =>
      cases fl with
      | ret u => exact I1.after hq
      | next => exact False.elim hq
      | brk => exact False.elim hq
      | cont => exact False.elim hq⟩
end
section
variable {X : Cx} {pins : List (Addr × Obj)} {σ : L2.St} {H HZ : Hp} {s s1 : Shared}
theorem lam_new {T : List (Addr × Str)} {c P : Addr} {params : Arguments} {body : Expr} {scope : Scope} {pos : Pos} {E : Value → Shared → Prop} {Q : Value → Shared → Prop} (I : Inv X pins σ H s) (TB : LamX.TabB X.base X.mg c P) (hcode : X.env.code = .ref c)
    (hm : (P, X.env.qual ++ "<lambda>") ∈ T) (hu : ∀ p ∈ T, p.1 = P → p.2 = X.env.qual ++ "<lambda>") (hT : LamX.Tabs T H) (hdef : defaultsOf params X.env = ([], [])) (hfree : ∀ y ∈ scope.names, y.2 = .free → ∃ c, X.env.cells.lookup y.1 = some c)
    (h : ∀ (f c' : Addr) (pm ctv : Value) (H1 : Hp) (s' : Shared), Inv X pins σ H1 s' → LamX.ExtN H H1 → (∀ b ps, H b = some (.tbl ps) → ∃ more, H1 b = some (.tbl (ps ++ more))) → LamX.Tabs T H1 →
      s'.heap.get? f = some (PySem.W.kla_obj "<lambda>" (X.env.qual ++ "<lambda>") params body scope (cloFrom X.env.cells scope.names []) pm c' ctv) → H1 f = none → f ∉ frs X.stack → H1 c' = some (LamX.CodeO c' (X.env.qual ++ "<lambda>")) → Q (.ref f) s') :
    wpAny (model X.prog X.w) X.A (eval (.Lambda params body scope pos) X.env) Q E s := by
  obtain ⟨ps, hP, ht, ha⟩ := hT _ hm
  refine PySem.W.kla_eval hdef ?_
  have bP : s.heap.BuiltinsAt X.mg P := TB.bm.keeps I.bk
  have hP' : s.heap.get? P = some { cls := .none, data := .fields ps } := I.hok P _ hP
  have nofr : ∀ f, s.heap.objs.size ≤ f → f ∉ frs X.stack := fun f hf z => by
    rcases List.mem_cons.mp (I.stkSub _ z) with e | e
    · have h1 := I.lt
      rw [← e] at h1
      exact Nat.lt_irrefl _ (Nat.lt_of_lt_of_le h1 hf)
    · exact I.nofs hf e
  cases hc : codeAmong pos ps.toList with
  | none =>
    refine PySem.W.kla_makeFunction (mg := X.mg) (c := c) (P := P) (ps := ps) (closure_ok hfree) I.ok.glob (I.mod.glob.keeps I.bk) hcode (TB.code.keeps I.bk) hP' ht hc TB.gP bP fun c' ctv h' tk hx hge hlt hrec htb => ?_
    obtain ⟨c2, oc, vs, t, e2, hoc, hd, hv⟩ := hrec
    cases e2
    have hsz : s.heap.objs.size ≤ h'.objs.size := Nat.le_trans hge (Nat.le_of_lt hlt)
    have nC : H c' = none := I.hok.fresh hge
    have I1 := LamX.inv_table (t' := tk) (more := #[rawInt pos.line, rawInt pos.col, .ref c']) (h' := h'.push (PySem.W.kla_obj "<lambda>" (X.env.qual ++ "<lambda>") params body scope (cloFrom X.env.cells scope.names []) ((X.mg "__name__").getD .none) c' ctv)) I hP
      (fun b o hb e => Heap.get?_push_of_some _ (hx b o hb e)) (Heap.get?_push_of_some _ htb) hge ⟨oc, vs, t, Heap.get?_push_of_some _ hoc, hd, hv⟩
    have hE : LamX.ExtN H (upd (upd H P (.tbl (ps ++ #[rawInt pos.line, rawInt pos.col, .ref c']))) c' (LamX.CodeO c' (X.env.qual ++ "<lambda>"))) := fun b o e n => by
      rw [upd_ne (ne_of_none e nC), upd_ne (fun z => n ps (Option.some.inj (e.symm.trans (by rw [z]; exact hP))))]
      exact e
    have eL : (ps ++ #[rawInt pos.line, rawInt pos.col, .ref c']).toList = ps.toList ++ [rawInt pos.line, rawInt pos.col, .ref c'] := by simp
    refine h h'.objs.size c' ((X.mg "__name__").getD .none) ctv _ _ I1 hE (fun b qs hb => ?_) (fun p hp => ?_) (Heap.get?_push_size _ rfl) ?_ (nofr _ hsz) upd_same
    · by_cases e : b = P
      · rw [e, hP] at hb
        cases hb
        exact ⟨_, by rw [e, upd_ne (ne_of_none hP nC), upd_same]⟩
      · exact ⟨#[], by rw [upd_ne (ne_of_none hb nC), upd_ne e, hb]; simp⟩
    · by_cases hb : p.1 = P
      · rw [hu p hp hb, hb]
        refine ⟨_, by rw [upd_ne (ne_of_none hP nC), upd_same], by rw [eL]; exact PySem.TriplesOk_snoc _ _ _ _ ht, fun p' cv hcv => ?_⟩
        rw [eL] at hcv
        rcases LamX.among_app _ ht hcv with z | z
        · obtain ⟨c0, e1, e2⟩ := ha p' cv z
          exact ⟨c0, e1, hE _ _ e2 LamX.codeO_ne⟩
        · exact ⟨c', z, upd_same⟩
      · obtain ⟨ps', a1, a2, a3⟩ := hT p hp
        refine ⟨ps', by rw [upd_ne (ne_of_none a1 nC), upd_ne hb]; exact a1, a2, fun p' cv hcv => ?_⟩
        obtain ⟨c0, e1, e2⟩ := a3 p' cv hcv
        exact ⟨c0, e1, hE _ _ e2 LamX.codeO_ne⟩
    · have n1 : h'.objs.size ≠ c' := Nat.ne_of_gt hlt
      have n2 : h'.objs.size ≠ P := Nat.ne_of_gt (Nat.lt_of_lt_of_le (Heap.lt_size hP') hsz)
      rw [upd_ne n1, upd_ne n2]
      exact I.hok.fresh hsz
  | some cv =>
    obtain ⟨c', e, hco⟩ := ha pos cv hc
    subst e
    refine PySem.W.kla_makeFunctionHit (mg := X.mg) (c := c) (P := P) (ps := ps) (closure_ok hfree) I.ok.glob (I.mod.glob.keeps I.bk) hcode (TB.code.keeps I.bk) hP' ht hc bP fun ctv h' tk hx hsz => ?_
    have I1 : Inv X pins σ H { s with heap := h'.push (PySem.W.kla_obj "<lambda>" (X.env.qual ++ "<lambda>") params body scope (cloFrom X.env.cells scope.names []) ((X.mg "__name__").getD .none) c' ctv), toks := tk } := I.kept fun b o e => Heap.get?_push_of_some _ (hx b o e)
    exact h h'.objs.size c' ((X.mg "__name__").getD .none) ctv H _ I1 (LamX.ExtN.refl H) (fun b ps hb => ⟨#[], by rw [hb]; simp⟩) hT (Heap.get?_push_size _ rfl) (I.hok.fresh hsz) (nofr _ hsz) hco
theorem act_run {Eg : XK} {Ng : List Str} {qg : Str} {sg : Scope} {g f c' : Addr} {cdg pm ctv : Value} {params : Arguments} {body : Expr} {scope : Scope} {k i : Nat} {a : Str} {pn : List (Addr × Obj)} {xe : Value → Shared → Prop} {W : WX} {tb : XK → TE} {p1 p2 : Pos}
    (I : Inv X pins σ H s) (L : LamX.LamS X.env.scope scope) (hf : s.heap.get? f = some (PySem.W.kla_obj "<lambda>" (X.env.qual ++ "<lambda>") params body scope (cloFrom X.env.cells scope.names []) pm c' ctv)) (hfn : H f = none) (hfr : f ∉ frs X.stack)
    (hbind : bindArgs (PySem.W.kla_fn "<lambda>" (X.env.qual ++ "<lambda>") params body scope (cloFrom X.env.cells scope.names []) pm (.ref c') ctv) ⟨[], []⟩ = pure [])
    (tk : Takes ((cxOf (L2.CX X.prog X.w) X.prog X.w X.K X.mg X.base Ng qg sg g cdg X.A X.stack s H Eg).tr pn xe) W) (hr : RoomG (k + 1) (X.A.deeper (envOfC qg sg s.heap.objs.size g cdg)))
    (hbody : ∀ (A : Around) (outer : List PySem.Env) (s : Shared) (H : Hp) (E : XK), RoomG k (A.deeper (LamX.lamEnv X scope s.heap.objs.size f c')) → PE (LamX.lamCx X A outer s H E scope f c') body (tb E))
    (hN : Ng[i]? = some a) (hv : Vis sg a) (hd : (a == ("__debug__" : Str)) = false) (hcd : (a == ("__classdict__" : Str)) = false) :
    PE ((cxOf (L2.CX X.prog X.w) X.prog X.w X.K X.mg X.base Ng qg sg g cdg X.A X.stack s H Eg).tr pn xe) (.Call (.Name a p1) [] [] p2)
      (fun σZ HZ Q => σZ[i]? = some (some (.ref f)) ∧ HZ c' = some (LamX.CodeO c' (X.env.qual ++ "<lambda>")) ∧ tb (wE W σZ) σ HZ Q) := by
  refine ⟨fun pinsZ sZ σZ HZ Q IZ h => ?_⟩
  obtain ⟨hs, hc, ht⟩ := h
  refine wpAny_Call_Name_kw (thn ((pe_var (pos := p1) (i := i) hN hv hd hcd).run pinsZ sZ σZ HZ (fun v H1 => v = .ref f ∧ H1 = HZ) IZ ⟨.ref f, hs, rfl, rfl⟩) fun u s1 ⟨v, H1, I1, r1, q1⟩ => ?_)
  obtain ⟨ev, eH⟩ := q1
  subst ev
  rw [eH] at I1
  obtain rfl : u = Value.ref f := r1
  have of1 : s1.heap.get? f = some (PySem.W.kla_obj "<lambda>" (X.env.qual ++ "<lambda>") params body scope (cloFrom X.env.cells scope.names []) pm c' ctv) := I1.base.keep f _ hf hfn hfr (fun z => nomatch (show f ∈ ([] : List Addr) from z))
  refine PySem.W.callWith_F0 ⟨_, _, _, _, of1⟩ ?_
  have un : Un (frs X.stack) [] H HZ s.heap s1.heap := I1.base
  obtain ⟨⟨oc, vs, t, hoc, hdc, hvc⟩, _, _⟩ := I1.hok c' _ hc
  have rc : codeAny (model X.prog X.w) (X.A.deeper (envOfC qg sg s.heap.objs.size g cdg)) (.call (.ref f) ⟨[], []⟩) (CR (L2.CX X.prog X.w) (envOfC qg sg s.heap.objs.size g cdg :: X.stack) X.prog X.w HZ s1 Q (wE W σZ)) s1 := by
    refine PySem.W.kla_callFunE hr.room.depth of1 rfl L.co L.gen rfl ⟨c', oc, vs, t, rfl, hoc, hdc, hvc⟩ ?_
    rw [hbind]
    refine wpAny_pure (wpAny_newFunctionEnv (fun y hy => (L.own y hy).2) (fun y hy => absurd hy (by simp)) (fun h₁ hns hsb => ⟨I1.nolimit.fresh _ hsb, ?_⟩) L.kind)
    show codeAny _ _ (.expr body (LamX.lamEnv X scope s1.heap.objs.size f c')) _ _
    have kp : ∀ b o, s1.heap.get? b = some o → h₁.get? b = some o := fun b o e => hsb.extBut b o (Nat.ne_of_lt (Heap.lt_size e)) (Heap.get?_push_of_some _ e)
    have J : Inv (LamX.lamCx X (X.A.deeper (envOfC qg sg s.heap.objs.size g cdg)) (envOfC qg sg s.heap.objs.size g cdg :: X.stack) s1 HZ (wE W σZ) scope f c') [] σ HZ { s1 with heap := h₁, toks := s1.toks + ([] : List (Str × Value)).length } :=
      LamX.lam_start2 I L I1.env0 hr.room.hd un hns kp
    refine PySem.W.kla_codeExpr (wpAny_mono ((hbody _ _ s1 HZ (wE W σZ) (hr.deeper _)).run [] _ _ HZ Q J ht) (fun v s' hq => ?_) fun e s' hq => hq)
    obtain ⟨w', H', J', rv, q⟩ := hq
    exact ⟨w', H', J'.os, J'.bare, J'.base, J'.hok, rv, q⟩
  have hx := passW tk σZ
  refine wpAny_call (codeAny_mono rc fun r s' hq => ?_)
  cases r with
  | error e => exact hx pinsZ HZ s1 e s' I1 hq
  | ok fl =>
    cases fl with
    | ret u => exact I1.after hq
    | next => exact False.elim hq
    | brk => exact False.elim hq
    | cont => exact False.elim hq
end
def ActP (P : Program) (w : World) (K : PySem.W.Frag) (mg : Str → Option Value) (base : Heap) (k : Nat) (A : Around) (ou : List PySem.Env) (s : Shared) (H : Hp) (g fl c' : Addr) (q : Str) (tl : XK → Hp → VK → Prop) : Prop :=
  ∀ (Ng : List Str) (qg : Str) (sg : Scope) (cdg : Value) (Eg : XK) (pn : List (Addr × Obj)) (xe : Value → Shared → Prop) (Wx : WX) (p1 p2 : Pos) (i : Nat) (a : Str), Ng[i]? = some a → Vis sg a → (a == ("__debug__" : Str)) = false → (a == ("__classdict__" : Str)) = false →
    RoomG (k + 1) (A.deeper (envOfC qg sg s.heap.objs.size g cdg)) → Takes ((cxOf (L2.CX P w) P w K mg base Ng qg sg g cdg A ou s H Eg).tr pn xe) Wx →
    PE ((cxOf (L2.CX P w) P w K mg base Ng qg sg g cdg A ou s H Eg).tr pn xe) (.Call (.Name a p1) [] [] p2) (fun σZ HZ Q => σZ[i]? = some (some (.ref fl)) ∧ HZ c' = some (LamX.CodeO c' q) ∧ tl (wE Wx σZ) HZ Q)
structure SeenOk (W : WT) (F : Hp) (r : List Addr) (σ : L2.St) (env : Env) : Prop where
  val : ∀ (i : Nat) (t : T), env[i]? = some (.val t) → ∃ v, σ[i]? = some (some v) ∧ Rep W F r t v
  only : ∀ (i : Nat) (s : Slot), env[i]? = some s → (∃ t, s = .val t) ∨ s = .un
  len : env.length = σ.length
theorem SeenOk.mono {W : WT} {F F' : Hp} {r r' : List Addr} {σ : L2.St} {env : Env} (h : SeenOk W F r σ env) (l : Le F F') (p : Pre r r') : SeenOk W F' r' σ env := ⟨fun i t e => let ⟨v, a, b⟩ := h.val i t e; ⟨v, a, b.mono l p⟩, h.only, h.len⟩
theorem SeenOk.good {W : WT} {F H : Hp} {r : List Addr} {σ : L2.St} {env : Env} {S : Store} (h : SeenOk W F r σ env) (l : Le F H) (st : StoreOk W F r H S) : Good W F r H σ env S where
  le := l
  st := st
  en := {
    val := h.val
    own := fun i o e => by rcases h.only i _ e with ⟨t, z⟩ | z <;> cases z
    hot := fun i c l e => by rcases h.only i _ e with ⟨t, z⟩ | z <;> cases z
    act := fun i e => by rcases h.only i _ e with ⟨t, z⟩ | z <;> cases z
    len := h.len
    ap := fun i j o u p e => by rcases h.only i _ e with ⟨t, z⟩ | z <;> cases z }
theorem seen_ok {W : WT} {F H : Hp} {r : List Addr} {σ : L2.St} {env : Env} (h : EnvOk W F r H σ env) : SeenOk W F r σ (env.map Slot.seen) where
  val := fun i t e => by
    rw [List.getElem?_map] at e
    cases q : env[i]? with
    | none => rw [q] at e; cases e
    | some s =>
      rw [q] at e
      cases s with
      | val u => cases e; exact h.val i _ q
      | _ => cases e
  only := fun i s e => by
    rw [List.getElem?_map] at e
    cases q : env[i]? with
    | none => rw [q] at e; cases e
    | some s' =>
      rw [q] at e
      cases s' with
      | val u => cases e; exact .inl ⟨_, rfl⟩
      | _ => cases e; exact .inr rfl
  len := by rw [List.length_map]; exact h.len
def spL (W : WT) (run : (Store → Out R) → Store → Out R) (tl : XK → Hp → VK → Prop) (H : Hp) (Q : VK) (E : XK) : Prop :=
  ∃ (F : Hp) (r : List Addr) (S : Store) (σ0 : L2.St) (env0 : Env) (a : Store → Out R), Le F H ∧ StoreOk W F r H S ∧ SeenOk W F r σ0 env0 ∧
    (∀ (E' : XK) (HZ : Hp) (Q' : VK) (F' : Hp) (r' : List Addr) (S' : Store), Good W F' r' HZ σ0 env0 S' → Rs W (fun cls d _ H => E' cls d H) F' r' HZ σ0 env0 (a S') (fun x S'' => Post W F' r' HZ σ0 env0 x S'' Q') → tl E' HZ Q') ∧
    (match run a S with
    | .ok x S' => ∀ (v : V) (F' : Hp) (r' : List Addr) (H' : Hp), Step F r H F' r' H' → Le F' H' → StoreOk W F' r' H' S' → ValOf W H F' r' H' x v → Q v H'
    | .ex c l S' => ∀ (F' : Hp) (r' : List Addr) (H' : Hp) (cls : Value) (d : Option Addr), Step F r H F' r' H' → Le F' H' → StoreOk W F' r' H' S' → ExV W F' r' H' c l cls d → E cls d H'
    | .no => False)
structure FnL (P : Program) (w : World) (K : PySem.W.Frag) (mg : Str → Option Value) (base : Heap) (k : Nat) (f : Addr) (fd : FuncData) (ps : List Str) (W : WT) (run : (Store → Out R) → Store → Out R) : Prop where
  one : ps.length = 1
  run : ∀ (A : Around) (ou : List PySem.Env) (s : Shared) (H : Hp) (ar : Args) (fl c' : Addr) (q : Str) (tl : XK → Hp → VK → Prop) (Q : VK) (E : XK), RoomG (k + 2) A → Env0 P w K mg base A ou s H → BindsTo s fd ar (ps.zip [.ref fl]) → H c' = some (LamX.CodeO c' q) →
    ActP P w K mg base k A ou s H f fl c' q tl → spL W run tl H Q E → codeAny (model P w) A (.call (.ref f) ar) (CR (L2.CX P w) ou P w H s Q E) s
section
variable {W : WT} {wx : WX} {X : Cx} {C Cl : EC} {p lpos pos : Pos} {g k : Nat} {x : Str} {f c P0 : Addr} {fd : FuncData} {ps : List Str} {params : Arguments} {body : Expr} {scope : Scope} {ce : CE} {run : (Store → Out R) → Store → Out R}
theorem e_lam (tk : Takes X wx) (F : FnL X.prog X.w X.K X.mg X.base k f fd ps W run) (hrun : ∀ env S, C.callL g ce env S = run (fun S' => evE Cl ce env S') S) (hr : RoomG (k + 2) X.A) (hg : Gl X x) (hm : X.mg x = some (.ref f)) (hk : PySem.W.keepIn X.K (.ref f) = true) (hb : Binds X.K fd ps []) (hdb : (x == ("__debug__" : Str)) = false)
    (TB : LamX.TabB X.base X.mg c P0) (hcode : X.env.code = .ref c) (hmT : (P0, X.env.qual ++ "<lambda>") ∈ W.tabs) (hu : ∀ p ∈ W.tabs, p.1 = P0 → p.2 = X.env.qual ++ "<lambda>") (L : LamX.LamS X.env.scope scope) (hdef : defaultsOf params X.env = ([], []))
    (hbind : ∀ (q : Str) (cl : List (Str × Addr)) (pm cv ctv : Value), bindArgs (PySem.W.kla_fn "<lambda>" q params body scope cl pm cv ctv) ⟨[], []⟩ = pure [])
    (hbody : ∀ (A : Around) (outer : List PySem.Env) (s : Shared) (H : Hp) (E : XK) (f c' : Addr), RoomG k (A.deeper (LamX.lamEnv X scope s.heap.objs.size f c')) → SE W (fun cls d _ H => E cls d H) Cl (LamX.lamCx X A outer s H E scope f c') body ce) :
    SE W wx C X (.Call (.Name x p) [.Lambda params body scope lpos] [] pos) (.lam g ce) := ⟨fun pins s σ H Q I h => by
  obtain ⟨F0, r, env, S, gd, h⟩ := h
  have h : Rs W wx F0 r H σ env (C.callL g ce (env.map Slot.seen) S) fun x S' => Post W F0 r H σ env x S' Q := h
  rw [hrun] at h
  refine wpAny_Call_Name_kw (ld_glob I hg hm ?_ hdb)
  refine PySem.W.callWith_K (h₀ := X.base) I.ok.mod.kin hk ?_ (by rfl) (by rfl)
  show wpAny _ _ (spliced ((false, eval (.Lambda params body scope lpos) X.env) :: backTo pos (starEach [] X.env))) _ _ s
  refine Calls.spliced_cons (lam_new I TB hcode hmT hu gd.st.tb hdef (L.has I.ok) fun fl c' pm' ctv H1 s' I1 eN tN T1 hf hfn hfr hco => ?_)
  refine Calls.spliced_nil ⟨I1.kIn, ?_⟩
  have cd : ∀ c q, H c = some (LamX.CodeO c q) → H1 c = some (LamX.CodeO c q) := fun c q z => eN _ _ z LamX.codeO_ne
  have fr1 : ∀ a, H1 a = none → H a = none := fun a z => by
    cases e : H a with
    | none => rfl
    | some o =>
      by_cases ht : ∃ ps, o = .tbl ps
      · obtain ⟨ps, rfl⟩ := ht
        obtain ⟨more, z2⟩ := tN a ps e
        rw [z] at z2; cases z2
      · have z2 := eN a o e fun ps q => ht ⟨ps, q⟩
        rw [z] at z2; cases z2
  have s1 : Step F0 r H F0 r H1 := ⟨Le.refl F0, fun _ z => .inl z, Pre.refl r, fun _ z => .inl z, fun a o z _ nt => eN a o z nt, fr1, cd, fun z => z⟩
  have l1 : Le F0 H1 := fun a o z => eN a o (gd.le a o z) fun ps q => gd.st.nt a ps (by rw [z, q])
  have st1 : StoreOk W F0 r H1 S := gd.st.step s1 (fun a hm => by
    obtain ⟨n, hn⟩ := List.mem_iff_getElem?.mp hm
    have hl : n < S.length := by rw [← gd.st.len]; exact (List.getElem?_eq_some_iff.mp hn).1
    have ob := (gd.st.at_ n a S[n] hn (List.getElem?_eq_getElem hl)).2
    obtain ⟨u, hu⟩ := ob.there
    rw [hu]
    exact eN a u hu fun ps q => ob.notab.1 ps (by rw [hu, q])) T1
  have g1 : Good W F0 r H1 σ env S := ⟨l1, st1, gd.en.step s1⟩
  have so := seen_ok g1.en
  have act : ActP X.prog X.w X.K X.mg X.base k X.A X.stack s' H1 f fl c' (X.env.qual ++ "<lambda>") (fun E' HZ Q' => tE W (fun cls d _ H => E' cls d H) (evE Cl ce) σ HZ Q') :=
    fun Ng qg sg cdg Eg pn xe Wx p1 p2 i a hN hv hd hcd hrr tkx => act_run (tb := fun E' => tE W (fun cls d _ H => E' cls d H) (evE Cl ce)) I1 L hf hfn hfr (hbind _ _ _ _ _) tkx hrr (fun A outer s H E' hr2 => hbody A outer s H E' fl c' hr2) hN hv hd hcd
  have bnd : BindsTo s' fd ⟨[.ref fl], []⟩ (ps.zip [.ref fl]) := by
    have b := hb s' [.ref fl] I1.kIn (by rw [List.append_nil, F.one]; rfl)
    rw [List.append_nil] at b
    exact b
  have rc : codeAny (model X.prog X.w) X.A (.call (.ref f) ⟨[.ref fl], []⟩) (CR (L2.CX X.prog X.w) X.stack X.prog X.w H1 s' Q (wE wx σ)) s' := by
    refine F.run X.A X.stack s' H1 ⟨[.ref fl], []⟩ fl c' _ _ Q (wE wx σ) hr I1.env0 bnd hco act ⟨F0, r, S, σ, env.map Slot.seen, fun S' => evE Cl ce (env.map Slot.seen) S', l1, st1, so, fun E' HZ Q' F' r' S' g' h' => ⟨F', r', env.map Slot.seen, S', g', h'⟩, ?_⟩
    cases e : run (fun S' => evE Cl ce (env.map Slot.seen) S') S with
    | no => rw [e] at h; exact h
    | ok x S' =>
      rw [e] at h
      intro v F2 r2 H2 s2 l2 st2 vo
      obtain ⟨z1, z2, z3⟩ := back_ok g1 s2 l2 st2 vo
      exact (show Post W F0 r H σ env x S' Q from h) v F2 r2 H2 (s1.trans s2) z1 z2 (z3.step s1)
    | ex c l S' =>
      rw [e] at h
      exact fun F' r' H' cls d s2 l2 st2 ev => h F' r' H' cls d (s1.trans s2) ⟨l2, st2, g1.en.step s2⟩ ev
  refine wpAny_call (codeAny_mono rc fun r s2 hq => ?_)
  cases r with
  | error e => exact passW tk σ pins H1 s' e s2 I1 hq
  | ok fl =>
    cases fl with
    | ret u => exact I1.after hq
    | next => exact False.elim hq
    | brk => exact False.elim hq
    | cont => exact False.elim hq⟩
end
section
variable {P : Program} {w : World} {W : WT} {mg : Str → Option Value} {base : Heap} {k : Nat} {f : Addr} {fd : FuncData} {ps N : List Str} {name qual : Str} {params : Arguments} {body : List Stmt} {scope : Scope} {dvs : List V} {kws : List (Str × V)} {C : EC} {fdef : FDef}
structure BdZ (P : Program) (w : World) (W : WT) (mg : Str → Option Value) (base : Heap) (N : List Str) (scope : Scope) (k : Nat) (X : Cx) (p : Addr × Obj) : Prop where
  prog : X.prog = P
  w : X.w = w
  K : X.K = W.K
  mg : X.mg = mg
  base : X.base = base
  nd : N.Nodup
  N : X.N = N
  sc : X.env.scope = scope
  fnn : X.fn = fun _ => true
  room : L2H.RoomH k X.A
  gd : X.A.guards = some []
  pn : X.pn = [p]
  stk : X.stack = X.env :: X.outer
  fr : X.env.frame = some X.env.locals
  own : PassesOwn (model X.prog X.w) X.A X.env X.xe
theorem fnZ_sound (FD : FunD W.K name qual params body scope dvs kws f fd) (Sc : FnScope N ps scope) (hnp : fdef.np = ps.length) (hnl : fdef.nl = N.length) (one : ps.length = 1)
    (hb : ∀ (en : Ent) (X : Cx) (p : Addr × Obj) (cls : Value) (d : Option Addr), BdZ P w W mg base N scope k X p → Zc cls d p.2 → (∃ vs, p.2.data = .fields vs) → SSs (W.at_ (only W p.1 cls d) W.fa W.fam) wNo en [] C X body fdef.body) :
    FnZ P w W.K mg base (k + 1) f fd ps (spH W (fun c l S => runH C fdef c l S)) := by
  refine fnZ_of FD Sc one fun cdv A ou s H p cls d Q hr hgd hz hf hsp => ?_
  obtain ⟨F, r, c, l, S, le, st, ev, q⟩ := hsp
  have hpl : ps.length ≤ N.length := by have := congrArg List.length Sc.pre; rw [List.length_take] at this; omega
  have slot : ∀ {i : Nat} {sl : Slot}, (slots N.length [Slot.hot c l])[i]? = some sl → (i = 0 ∧ sl = .hot c l) ∨ sl = .un := fun {i sl} h => by
    rcases slots_get h with h | h
    · cases i with
      | zero => cases h; exact .inl ⟨rfl, rfl⟩
      | succ i => simp at h
    · exact .inr h
  refine ⟨_, hb ⟨F, r, H⟩ _ p cls d ⟨rfl, rfl, rfl, rfl, rfl, Sc.nd, rfl, rfl, rfl, hr, hgd, rfl, rfl, rfl, passes_of rfl⟩ hz hf, F, r, slots fdef.nl [.hot c l], S, ?_, ?_⟩
  · rw [hnl]
    refine ⟨⟨le, by rw [storeOk_eq]; exact st, ⟨fun i t h => ?_, fun i o h => ?_, fun i c' l' h => ?_, fun i h => ?_, ?_, fun i j o u p' h => ?_⟩⟩, Step.refl F r H, fun i o p' h => ?_⟩
    · rcases slot h with ⟨_, z⟩ | z <;> cases z
    · rcases slot h with ⟨_, z⟩ | z <;> cases z
    · rcases slot h with ⟨rfl, z⟩ | z
      · cases z
        exact ⟨p.1, cls, d, start_get rfl, only_of ev, by rw [exV_eq]; exact ev⟩
      · cases z
    · rcases slot h with ⟨_, z⟩ | z <;> cases z
    · rw [slots_len (by show 1 ≤ N.length; omega), start_len (by show 1 ≤ N.length; omega)]
    · rcases slot h with ⟨_, z⟩ | z <;> cases z
    · rcases slot h with ⟨_, z⟩ | z <;> cases z
  · have hl2 : (fdef.np == 1) = true := by rw [hnp, one]; rfl
    unfold runH at q
    dsimp only at q
    rw [hl2] at q
    dsimp only at q
    cases eb : exB C fdef.body (slots fdef.nl [.hot c l]) S with
    | nx env' S2 =>
      rw [eb] at q
      exact fun σ' F' r' H' a' _ _ _ => q _ F' r' H' a'.step a'.good.le (by have z := a'.good.st; rw [storeOk_eq] at z; exact z) .non
    | rt r2 S2 =>
      rw [eb] at q
      exact fun v F' r' H' s' l' st' vo => q v F' r' H' s' l' (by rw [storeOk_eq] at st'; exact st') (by rw [valOf_eq] at vo; exact vo)
    | ex c l env' S2 => rw [eb] at q; exact q.elim
    | bk e s => rw [eb] at q; exact q.elim
    | ct e s => rw [eb] at q; exact q.elim
    | no => rw [eb] at q; exact q.elim
def ActOk (W : WT) (C : EC) (X : Cx) : Prop := ∀ (pn : List (Addr × Obj)) (xe : Value → Shared → Prop) (wx : WX) (i : Nat) (a : Str) (p1 p2 : Pos), X.N[i]? = some a → Vis X.env.scope a → (a == ("__debug__" : Str)) = false → (a == ("__classdict__" : Str)) = false → Takes (X.tr pn xe) wx →
  SE W wx C (X.tr pn xe) (.Call (.Name a p1) [] [] p2) (.act i)
def faL (W : WT) (fl c' : Addr) (q : Str) (σ0 : L2.St) (env0 : Env) : Addr → Hp → List Addr → Hp → Prop := fun f F r H => f = fl ∧ H c' = some (LamX.CodeO c' q) ∧ SeenOk W F r σ0 env0
theorem famL {W : WT} {fl c' : Addr} {q : Str} {σ0 : L2.St} {env0 : Env} (a : Addr) (F F' : Hp) (r r' : List Addr) (H H' : Hp) (l : ∀ b o, F b = some o → F' b = some o) (p : ∀ (n : Nat) (b : Addr), r[n]? = some b → r'[n]? = some b) (c : ∀ c q, H c = some (LamX.CodeO c q) → H' c = some (LamX.CodeO c q))
    (h : faL W fl c' q σ0 env0 a F r H) : faL W fl c' q σ0 env0 a F' r' H' := ⟨h.1, c _ _ h.2.1, h.2.2.mono l p⟩
theorem fnL_sound (nh : ∀ a cls d, ¬ W.hx a cls d) (FD : FunD W.K name qual params body scope dvs kws f fd) (Sc : FnScope N ps scope) (hnp : fdef.np = ps.length) (hnl : fdef.nl = N.length) (one : ps.length = 1)
    (hb : ∀ (fl c' : Addr) (q : Str) (σ0 : L2.St) (env0 : Env) (a : Store → Out R) (en : Ent) (X : Cx) (wx : WX), BdOk P w W mg base N f qual scope (k + 1) X → ActOk (W.at_ W.hx (faL W fl c' q σ0 env0) famL) { C with act := a } X → Takes X wx →
      SSs (W.at_ W.hx (faL W fl c' q σ0 env0) famL) wx en [] { C with act := a } X body fdef.body) :
    FnL P w W.K mg base k f fd ps W (fun a S => runL { C with act := a } fdef S) := by
  have FD0 := FD
  obtain ⟨oc, od, dV, kV, doc, pm, an, cdv, ct, osl, rfl, lk, hcd, _, _⟩ := FD.ex
  refine ⟨one, fun A ou s H ar fl c' q tl Q E hr e0 hbd hco act hs => ?_⟩
  obtain ⟨F, r, S, σ0, env0, a, le, st, so, hl, out⟩ := hs
  have hpl : ps.length ≤ N.length := by have := congrArg List.length Sc.pre; rw [List.length_take] at this; omega
  have kin : W.K.In s.heap := e0.mod.kin.keeps fun b o e => (e0.bs b o e).1
  have nolim : s.heap.NoLimit := e0.mod.nolimit.keeps fun b o e => (e0.bs b o e).1
  have hp : ∀ y ∈ ps.zip [Value.ref fl], scope.names.lookup y.1 = some .local ∨ (scope.names.lookup y.1 = some .cell ∧ ((cellsFrom (s.heap.objs.size + 1) scope.names []).lookup y.1).isSome = true) := fun y hy =>
    (Sc.par y.1 (List.of_mem_zip (show (y.1, y.2) ∈ _ from hy)).1).imp id fun q => ⟨q, PySem.W.cellsFrom_some _ _ _ (.inl q)⟩
  refine codeAny_call_function hr.room.depth (kin _ _ lk) rfl Sc.co Sc.gen rfl (PySem.W.codeRec_of kin hcd) (hbd _ _ _ _ (wpAny_newFunctionEnv_cells Sc.kind hp fun ev he s1 x => ?_))
  subst he
  have hrd : RoomG (k + 1) (A.deeper (envOfC qual scope s.heap.objs.size f cdv)) := hr.deeper _
  have J : Inv (cxOf (L2.CX P w) P w W.K mg base N qual scope f cdv A ou s H E) [] (L2.start N [.ref fl]) H s1 := inv_start Sc hr.room.hd e0 (by rw [one]; rfl) (.cons rfl .nil) x
  have aok : ActOk (W.at_ W.hx (faL W fl c' q σ0 env0) famL) { C with act := a } (cxOf (L2.CX P w) P w W.K mg base N qual scope f cdv A ou s H E) := fun pn xe wx i nm p1 p2 hN hv hd hc tk => by
    refine (act N qual scope cdv E pn xe wx p1 p2 i nm hN hv hd hc hrd tk).imp fun σZ HZ Q' h => ?_
    obtain ⟨F', r', envZ, S', g, h⟩ := h
    unfold evE at h
    cases e : envZ[i]? with
    | none => rw [e] at h; exact h.elim
    | some sl =>
      rw [e] at h
      cases sl with
      | act =>
        obtain ⟨f0, z1, rfl, z2, z3⟩ := g.en.act i e
        refine ⟨z1, z2, ?_⟩
        have stg := g.st
        rw [storeOk_eq] at stg
        refine hl _ HZ Q' F' r' S' (z3.good g.le stg) ?_
        have h : Rs (W.at_ W.hx (faL W f0 c' q σ0 env0) famL) wx F' r' HZ σZ envZ (a S') (fun x S'' => Post (W.at_ W.hx (faL W f0 c' q σ0 env0) famL) F' r' HZ σZ envZ x S'' Q') := h
        cases ea : a S' with
        | no => rw [ea] at h; exact h
        | ex c l S2 =>
          rw [ea] at h
          intro F2 r2 H2 cls d s2 g2 ev
          refine h F2 r2 H2 cls d s2 ⟨g2.le, by rw [storeOk_eq]; exact g2.st, g.en.step s2⟩ (by rw [exV_eq]; exact ev)
        | ok x S2 =>
          rw [ea] at h
          intro v F2 r2 H2 s2 g2 rr n2
          refine (show Post (W.at_ W.hx (faL W f0 c' q σ0 env0) famL) F' r' HZ σZ envZ x S2 Q' from h) v F2 r2 H2 s2 ⟨g2.le, by rw [storeOk_eq]; exact g2.st, g.en.step s2⟩ ?_ n2
          cases x with
          | val t => exact Rep.to rr
          | own j =>
            obtain ⟨o, z, _⟩ := rr
            rcases z3.only j _ z with ⟨t, zz⟩ | zz <;> cases zz
          | hot c l => obtain ⟨b, cls, d, _, z, _⟩ := rr; exact absurd z (nh b cls d)
          | fresh o =>
            obtain ⟨p, rfl, q1, q2, q3, q4⟩ := rr
            refine ⟨p, rfl, q1, q2, fun ⟨j, u, z1, z2⟩ => ?_, by rw [obRep_eq]; exact q4⟩
            obtain ⟨b, y1, _, _, y4⟩ := g.en.own j u z1
            rw [z2] at y1
            cases y1
            obtain ⟨w', hw⟩ := y4.there
            rw [n2 p rfl] at hw
            cases hw
      | val t => exact h.elim
      | own o => exact h.elim
      | hot c l => exact h.elim
      | un => exact h.elim
  have slot : ∀ {i : Nat} {sl : Slot}, (slots N.length [Slot.act])[i]? = some sl → (i = 0 ∧ sl = .act) ∨ sl = .un := fun {i sl} h => by
    rcases slots_get h with h | h
    · cases i with
      | zero => cases h; exact .inl ⟨rfl, rfl⟩
      | succ i => simp at h
    · exact .inr h
  have hl2 : (fdef.np == 1) = true := by rw [hnp, one]; rfl
  refine ⟨nolim.keeps x.toInCall.keep, codeAny_func (wpAny_mono ((hb fl c' q σ0 env0 a ⟨F, r, H⟩ _ _ ⟨rfl, rfl, rfl, rfl, rfl, Sc.nd, rfl, rfl, rfl, rfl, hrd, rfl, rfl, ⟨_, _, _, _, lk, rfl⟩, rfl, passes_of rfl⟩ aok takes_body).run [] s1 (L2.start N [.ref fl]) H { nx := fun _ H' => Q .non H', rt := Q } J ⟨F, r, slots fdef.nl [.act], S, ?_, ?_⟩) (fun fl s' z => ?_) fun e s' z => z)⟩
  · rw [hnl]
    refine ⟨⟨le, by rw [storeOk_eq]; exact st, ⟨fun i t h => ?_, fun i o h => ?_, fun i c' l' h => ?_, fun i h => ?_, ?_, fun i j o u p' h => ?_⟩⟩, Step.refl F r H, fun i o p' h => ?_⟩
    · rcases slot h with ⟨_, z⟩ | z <;> cases z
    · rcases slot h with ⟨_, z⟩ | z <;> cases z
    · rcases slot h with ⟨_, z⟩ | z <;> cases z
    · rcases slot h with ⟨rfl, z⟩ | z
      · exact ⟨fl, start_get rfl, rfl, hco, so⟩
      · cases z
    · rw [slots_len (by show 1 ≤ N.length; omega), start_len (by show 1 ≤ N.length; omega)]
    · rcases slot h with ⟨_, z⟩ | z <;> cases z
    · rcases slot h with ⟨_, z⟩ | z <;> cases z
  · unfold runL at out
    dsimp only at out
    rw [hl2] at out
    dsimp only at out
    cases eb : exB { C with act := a } fdef.body (slots fdef.nl [.act]) S with
    | nx env' S2 =>
      rw [eb] at out
      exact fun σ' F' r' H' a' _ _ _ => out _ F' r' H' a'.step a'.good.le (by have z := a'.good.st; rw [storeOk_eq] at z; exact z) .non
    | rt r2 S2 =>
      rw [eb] at out
      exact fun v F' r' H' s' l' st' vo => out v F' r' H' s' l' (by rw [storeOk_eq] at st'; exact st') (by rw [valOf_eq] at vo; exact vo)
    | ex c l env' S2 =>
      rw [eb] at out
      exact fun σ' F' r' H' cls d a' _ _ _ ev => out F' r' H' cls d a'.step a'.good.le (by have z := a'.good.st; rw [storeOk_eq] at z; exact z) (by rw [exV_eq] at ev; exact ev)
    | bk e s => rw [eb] at out; exact out.elim
    | ct e s => rw [eb] at out; exact out.elim
    | no => rw [eb] at out; exact out.elim
  · match fl, z with
    | .ret u, ⟨v, _, H', J', ru, q⟩ => exact ⟨v, H', J'.os, J'.bare, J'.base, J'.hok, ru, q⟩
    | .next, ⟨_, H', J', q⟩ => exact ⟨V.non, H', J'.os, J'.bare, J'.base, J'.hok, rfl, q⟩
    | .brk, ⟨_, _, _, q⟩ => exact q.elim
    | .cont, ⟨_, _, _, q⟩ => exact q.elim
end
end Z
set_option Elab.async false
set_option linter.all false
set_option maxRecDepth 100000
set_option maxHeartbeats 4000000
namespace Z
open PySem PySem.Spec PyProof.Rows L2
section
variable {prog : Program} {w : World} {A : Around} {E : Value → Shared → Prop} {s : Shared} {Q : Value → Shared → Prop} {x : Value}
theorem bool_new {R : Result → Shared → Prop} (h : wpAny (model prog w) A.in1 (truthy x) (fun b s' => R (.ok (.ret (.bool b))) s') (fun e s' => R (.error e) s') s) :
    wpAny (model prog w) A.in1 (Builtin.«bool.__new__» ⟨[.type "bool", x], []⟩) (fun fin s' => match fin with | .done f => R (.ok f) s' | .again c' => c'.quiet = true ∧ codeAny (model prog w) A c' R s') (fun e s' => R (.error e) s') s := by
  unfold Builtin.«bool.__new__»
  have f1 := F.conv_sub_bool
  repeat (any_goals (first | assumption | (refine wpAny_bind (m := truthy x) (wpAny_mono h (fun b s' q => ?_) fun _ _ z => z)) | wp_step))
def BoolR (Q E : Value → Shared → Prop) : Result → Shared → Prop
  | .ok (.ret v), s' => ∃ b, v = .bool b ∧ Q (.bool b) s'
  | .ok _, _ => False
  | .error e, s' => E e s'
theorem bool_any (h : wpAny (model prog w) A.in1.in1 (truthy x) (fun b s' => Q (.bool b) s') E s) : wpAny (model prog w) A (call (.type "bool") [x]) Q E s := by
  have ft := F.called_bool
  obtain ⟨bc, btl, bmro⟩ := ft.mro
  have bmade := ft.made
  have bsub := ft.sub
  refine wpAny_call (codeAny_of_tree ?_)
  show wpAny _ _ (callAny (.type "bool") _) _ _ _
  refine wpAny_pure (And.intro (Code.quiet_builtin _ (by decide +kernel)) (codeAny_builtin F.entry_type_call ?_))
  rw [Around.under_plain (weight_type_call_type "bool" [x] []) (units_type_call_type "bool" [x] [])]
  have b1 := ft.notType
  have b2 := ft.canCreate
  have hct := F.typeCall_bool_1 x
  repeat (any_goals (first | assumption | wp_step))
  have z := codeAny_call_builtin (prog := prog) (w := w) (A := A.in1) (R := BoolR Q E) ft.plain F.entry_bool_new (wpAny_of_eq (F.newCall_bool_1 x) (bool_new (A := A.in1) (R := BoolR Q E) (wpAny_mono h (fun b s' q => ⟨b, rfl, q⟩) fun _ _ z => z)))
  refine codeAny_mono z fun r s1 hr => ?_
  match r, hr with
  | .error e, hr => exact hr
  | .ok .next, hr => exact hr.elim
  | .ok .brk, hr => exact hr.elim
  | .ok .cont, hr => exact hr.elim
  | .ok (.ret v), hr =>
    obtain ⟨b, rfl, hq⟩ := hr
    have tb : s1.TypeIs (.bool b) "bool" := PySem.typeIs_bool s1 b
    have ii := ft.init.lookup
    have ib := ft.init.bind (.bool b)
    repeat (any_goals (first | assumption | wp_step))
    have om : Meets (Builtin.«object.__init__» ⟨.bool b :: [x], []⟩) (fun _ R s => s.TypeIs (.bool b) "bool" ∧ R (.ok (.ret .none)) s) := object_init_meets ft.init.lookup ft.made F.newNe_bool
    have zi := codeAny_call_builtin (prog := prog) (w := w) (A := A.in1) (R := fun r s2 => r = .ok (.ret .none) ∧ s2 = s1) ft.init.plain F.entry_object_init (ft.init.check _ _ _ _ _ _ _ _ tb (F.args_object_init_2 (.bool b) x) (om prog w A.in1 (fun r s2 => r = .ok (.ret .none) ∧ s2 = s1) s1 ⟨tb, rfl, rfl⟩))
    refine codeAny_mono zi fun r2 s2 hr2 => ?_
    obtain ⟨rfl, rfl⟩ := hr2
    repeat (any_goals (first | assumption | wp_step))
    all_goals exact hq
end
section
variable {X : Cx} {k : Nat} {Ca f : Addr} {fd : FuncData} {ps : List Str} {sp : Sp}
abbrev noE : XK := fun _ _ _ => False
theorem in1_code {A : Around} {pins : List (Addr × Obj)} {σ : L2.St} {H : Hp} {s : Shared} {Q : VK} {a : Addr} {E' : Value → Shared → Prop} (F : FnX X k f fd ps sp) (hr : RoomG k A) (hA : ∀ {s H}, Inv X pins σ H s → Env0 X.prog X.w X.K X.mg X.base A X.stack s H) (hb : Binds X.K fd ps []) (I : Inv X pins σ H s) (h : sp [.ref a] H Q noE) :
    codeAny (model X.prog X.w) A (.call (.ref f) ⟨[.ref a], []⟩) (fun r s' => match r with | .ok (.ret u) => ∃ v H', Inv X pins σ H' s' ∧ RelV v u ∧ Q v H' | .ok _ => False | .error e => E' e s') s := by
  have hl : ([Value.ref a] ++ []).length = ps.length := by rw [← F.len _ _ _ _ h]; rfl
  refine codeAny_mono (F.run A X.stack s H ⟨[.ref a], []⟩ [.ref a] [.ref a] Q noE hr (hA I) (hb s [.ref a] I.kIn hl) (.cons rfl .nil) h) fun r s' hq => ?_
  match r, hq with
  | .error er, hq => exact (cx_never hq).elim
  | .ok (.ret u), hq => obtain ⟨v, H', I3, rv, q3⟩ := I.after hq; exact ⟨v, H', I3, rv, q3⟩
  | .ok .next, hq => exact hq.elim
  | .ok .brk, hq => exact hq.elim
  | .ok .cont, hq => exact hq.elim
def rS (Ca : Addr) (sp : Sp) (post : VK → VK) : List V → Hp → VK → Prop := fun xs H Q => ∃ a dx fvs, xs = [.ref a] ∧ H a = some (.ins Ca dx fvs) ∧ sp [.ref a] H (post Q) noE
def lenP (Q : VK) : VK := fun v H => ∃ n : Int, v = .int n ∧ 0 ≤ n ∧ n < 2 ^ 63 ∧ Q (.int n) H
def boolP (Q : VK) : VK := fun v H => ∃ n : Int, v = .int n ∧ 0 ≤ n ∧ n < 2 ^ 63 ∧ Q (.bl (n != 0)) H
def reprP (Q : VK) : VK := fun v H => ∃ x : Str, v = .str x ∧ Q (.str x) H
theorem env_in1 {pins : List (Addr × Obj)} {σ : L2.St} {H : Hp} {s : Shared} (I : Inv X pins σ H s) : Env0 X.prog X.w X.K X.mg X.base X.A.in1 X.stack s H := I.env0.in1
theorem len_at {A : Around} {pins : List (Addr × Obj)} {σ : L2.St} {H : Hp} {s : Shared} {Q : Int → Hp → Prop} {a dx : Addr} {fvs : List (Str × V)} {E' : Value → Shared → Prop} {R : Value → Shared → Prop} (F : FnX X k f fd ps sp) (hr : RoomG k A.in1) (hA : ∀ {s H}, Inv X pins σ H s → Env0 X.prog X.w X.K X.mg X.base A.in1 X.stack s H) (hb : Binds X.K fd ps [])
    (hs : PySem.W.findIn X.K (.ref Ca) "__len__" = some (some (.ref f))) (hf : PySem.W.isFn X.K (.ref f) = true) (I : Inv X pins σ H s) (ea : H a = some (.ins Ca dx fvs)) (h : sp [.ref a] H (fun v H' => ∃ n : Int, v = .int n ∧ 0 ≤ n ∧ n < 2 ^ 63 ∧ Q n H') noE)
    (k2 : ∀ n H' s', Inv X pins σ H' s' → Q n H' → R (.int n s'.toks) { s' with toks := s'.toks + 1 }) : wpAny (model X.prog X.w) A (call (.builtin "len") [.ref a]) R E' s := by
  obtain ⟨mA, J, _⟩ := ins_get I.hok ea
  obtain ⟨od, J, _⟩ := J.look
  obtain ⟨m, hF⟩ := I.fr
  refine PySem.W.len_K hF I.ok.mod.kin J hs hf (wpAny_call (codeAny_mono (in1_code (E' := E') F hr hA hb I h) fun r s' hq => ?_))
  match r, hq with
  | .error er, hq => exact hq
  | .ok (.ret u), hq =>
    obtain ⟨v, H', I', rv, n, rfl, h0, h1, q⟩ := hq
    obtain ⟨t, rfl⟩ := rv
    exact ⟨⟨h0, h1⟩, k2 n H' s' I' q⟩
theorem c_len (F : FnX X k f fd ps sp) (hr : RoomG (k + 1) X.A) (hb : Binds X.K fd ps []) (hs : PySem.W.findIn X.K (.ref Ca) "__len__" = some (some (.ref f))) (hf : PySem.W.isFn X.K (.ref f) = true) : CallR X (.builtin "len") (rS Ca sp lenP) := by
  intro pins s σ H xs us Q I r h
  obtain ⟨a, dx, fvs, rfl, ea, h⟩ := h
  obtain rfl := Vals.ref1 r
  exact len_at (Q := fun n H' => Q (.int n) H') F hr.in1 (fun I => I.env0.in1) hb hs hf I ea h fun n H' s' I' q => ⟨.int n, H', I'.tok _, ⟨_, rfl⟩, q⟩
theorem c_bool (F : FnX X k f fd ps sp) (hr : RoomG (k + 4) X.A) (hb : Binds X.K fd ps []) (hs : PySem.W.findIn X.K (.ref Ca) "__len__" = some (some (.ref f))) (hf : PySem.W.isFn X.K (.ref f) = true) (hn : PySem.W.findIn X.K (.ref Ca) "__bool__" = some none) : CallR X (.type "bool") (rS Ca sp boolP) := by
  intro pins s σ H xs us Q I r h
  obtain ⟨a, dx, fvs, rfl, ea, h⟩ := h
  obtain rfl := Vals.ref1 r
  obtain ⟨mA, J, _⟩ := ins_get I.hok ea
  obtain ⟨od, J, _⟩ := J.look
  refine bool_any ?_
  unfold truthy
  refine wpAny_bind (m := callSpecial? (.ref a) (Str.ofString "__bool__")) (wpAny_bind (wpAny_bind (J.type.here ((PySem.W.looks_findIn I.kIn hn).here (wpAny_pure ?_)))))
  refine wpAny_bind (wpAny_bind (J.type.here ((PySem.W.looks_findIn I.kIn hs).here ?_)))
  show wpAny _ _ (runValue (Code.builtin "len" { pos := [Value.ref a] }) >>= fun r => match r with | .int n tok => pure (n != 0) | x => unsupported "internal:truth.len") _ _ _
  refine wpAny_bind (wpAny_runValue (codeAny_builtin entry_len ?_))
  rw [Around.under_plainId plain_len]
  have hr3 : RoomG k X.A.in1.in1.in1 := ((hr.mono (show k + 3 ≤ k + 4 by omega)).in1 (k := k + 2)).in1.in1
  unfold Builtin.«len»
  refine wpAny_bind (m := oneArg "len" _) (wpAny_pure (wpAny_bind (m := callSpecial? (.ref a) (Str.ofString "__len__")) (PySem.W.special_fn I.kIn J hs (beq_iff_eq.mp hf) (wpAny_call (codeAny_mono (in1_code (E' := X.xe) F hr3 (fun I => I.env0.in1.in1.in1) hb I h) fun r s' hq => ?_)))))
  match r, hq with
  | .error er, hq => exact hq
  | .ok (.ret u), hq =>
    obtain ⟨v, H', I', rv, n0, rfl, g0, g1, q⟩ := hq
    obtain ⟨t, rfl⟩ := rv
    refine wpAny_bind (wpAny_holding (wpAny_pure (wpAny_bind (wpAny_letGo ?_))))
    show wpAny _ _ (if n0 < 0 then _ else _) _ _ _
    rw [if_neg (by omega)]
    show wpAny _ _ (if n0 ≥ 2 ^ 63 then _ else _) _ _ _
    rw [if_neg (by omega)]
    exact wpAny_bind (wpAny_mkInt (wpAny_pure (wpAny_pure ⟨.bl (n0 != 0), H', I'.tok _, rfl, q⟩)))
theorem c_repr (F : FnX X k f fd ps sp) (hr : RoomG (k + 1) X.A) (hu : X.A.in1.units < cLine) (hb : Binds X.K fd ps []) (hs : PySem.W.findIn X.K (.ref Ca) "__repr__" = some (some (.ref f))) (hf : PySem.W.isFn X.K (.ref f) = true) : CallR X (.builtin "repr") (rS Ca sp reprP) := by
  intro pins s σ H xs us Q I r h
  obtain ⟨a, dx, fvs, rfl, ea, h⟩ := h
  obtain rfl := Vals.ref1 r
  obtain ⟨mA, J, _⟩ := ins_get I.hok ea
  obtain ⟨od, J, _⟩ := J.look
  obtain ⟨m, hF⟩ := I.fr
  refine PySem.W.repr_K hu hF I.ok.mod.kin J hs hf (wpAny_call (codeAny_mono (in1_code (E' := X.xe) F hr.in1 (fun I => I.env0.in1) hb I h) fun r s' hq => ?_))
  match r, hq with
  | .error er, hq => exact hq
  | .ok (.ret u), hq =>
    obtain ⟨v, H', I', rv, x, rfl, q⟩ := hq
    obtain ⟨t, rfl⟩ := rv
    exact ⟨.str x, H', I', ⟨_, rfl⟩, q⟩
end
end Z
set_option Elab.async false
set_option linter.all false
set_option maxRecDepth 100000
set_option maxHeartbeats 4000000
namespace Z
open PySem PySem.Spec PyProof.Rows L2
section
variable {W : WT} {wx : WX} {X : Cx} {C : EC} {o e : Expr} {es : List Expr} {co ce : CE} {ces : CEs} {pos apos : Pos} {k g c n : Nat} {f : Addr} {fd : FuncData} {ps : List Str} {m : Str}
theorem isCls_ok {F H : Hp} {r : List Addr} {σ : L2.St} {env : Env} {S : Store} {t : T} {v : V} (gd : Good W F r H σ env S) (rt : Rep W F r t v) (h : isCls S c t = true) :
    ∃ a dx fvs fs, v = .ref a ∧ H a = some (.ins (W.cadr c) dx fvs) ∧ FldO W F r fs fvs ∧ W.cok c := by
  cases rt with
  | ins gg h1 h2 h3 h4 h5 h6 h7 =>
    rename_i d fs a dx fvs
    have e : d = c := by simpa [isCls] using h
    subst e
    exact ⟨a, dx, fvs, _, rfl, gd.le _ _ h1, FldO.of_ins h2 h3 h4 h5 h6, h7⟩
  | ref hr =>
    rename_i i a
    have h : (match S[i]? with | some (.ins d _) => d == c | _ => false) = true := h
    split at h
    · rename_i d fs es
      have e : d = c := by simpa using h
      subst e
      obtain ⟨dx, fvs, h1, h2, h3⟩ := (gd.st.at_ i a _ hr es).2
      exact ⟨a, dx, fvs, fs, rfl, h1, h2, h3⟩
    · cases h
  | _ => cases h
def NoFld (W : WT) (m : Str) : Prop := ∀ i, i < W.nat → m ≠ W.attr i
theorem FldO.none {F : Hp} {r : List Addr} {fs : List (Option T)} {fvs : List (Str × V)} (q : FldO W F r fs fvs) (h : NoFld W m) : fvs.lookup m = none :=
  q.no m fun i t hi => h i (Nat.lt_of_lt_of_le (List.getElem?_eq_some_iff.mp hi).1 q.few)
theorem form_ok (hes : es.all plainArg = true) (hl : es.length < 30) (env : PySem.Env) : methodCallForm (es.length + ([] : List Keyword).length) (backTo pos (starEach es env)) (backToKw pos (keywordEach [] env)) = true := by
  unfold methodCallForm
  have h1 : (backTo pos (starEach es env)).all (fun x => !x.1) = true := by
    have z := star_none hes pos env
    rw [List.all_eq_true]
    intro x hx
    rw [List.any_eq_false] at z
    simpa using z x hx
  rw [h1]
  show (true && true && decide (es.length + 0 + 0 < 30)) = true
  rw [decide_eq_true (by omega)]
  rfl
theorem meth_go {pins : List (Addr × Obj)} {s1 : Shared} {σ : L2.St} {H1 : Hp} {Q : VK} {E : L2.St → XK} {Ca a dx : Addr} {fvs : List (Str × V)} (cl : Cls X.K Ca) (hm : Meth X.K Ca m f) (hes : es.all plainArg = true) (hl : es.length < 30) (hln : (apos.endLine == pos.line) = true)
    (I1 : Inv X pins σ H1 s1) (ea : H1 a = some (.ins Ca dx fvs)) (nl : fvs.lookup m = none) (h : wpAny (model X.prog X.w) X.A (callWith pos (.ref f) [.ref a] (backTo pos (starEach es X.env)) (backToKw pos (keywordEach [] X.env))) (EP X pins σ Q) X.xe s1) :
    wpAny (model X.prog X.w) X.A (methodCall o m apos pos X.env (.ref a) (es.length + ([] : List Keyword).length) (backTo pos (starEach es X.env)) (backToKw pos (keywordEach [] X.env))) (EP X pins σ Q) X.xe s1 := by
  unfold methodCall
  rw [form_ok hes hl X.env]
  refine wpAny_bind (wpAny_holding (getmeth_ok I1 ea cl hm nl ?_))
  exact wpAny_bind (wpAny_of_eq (a := pos) (by unfold methodCallPos; simp [hln]) h)
theorem self_run {pins : List (Addr × Obj)} {σ : L2.St} {H2 : Hp} {s2 : Shared} {Q : VK} {E : XK} {sp : Sp} {a : Addr} {us : List Value} {vs : List V} (F : FnX X k f fd ps sp) (hr : RoomG k X.A) (hb : Binds X.K fd ps []) (hx : PassX X σ E) (I2 : Inv X pins σ H2 s2) (r2 : Vals vs us) (q2 : sp (.ref a :: vs) H2 Q E) :
    wpAny (model X.prog X.w) X.A (call (.ref f) (.ref a :: us)) (EP X pins σ Q) X.xe s2 := by
  have r : Vals (V.ref a :: vs) (Value.ref a :: us) := .cons rfl r2
  exact runs (us := .ref a :: us) (us' := .ref a :: us) F hr (fun hl => by have := hb s2 (.ref a :: us) I2.kIn (by rw [List.append_nil]; exact hl); rw [List.append_nil] at this; exact this) hx I2 r q2
def tMethW (C : Addr) (m : Str) (sp : Sp) (E : L2.St → XK) (to : TE) (ta : TA) : TE := fun σ H Q => to σ H fun v H1 => ∃ a dx fvs, v = .ref a ∧ H1 a = some (.ins C dx fvs) ∧ fvs.lookup m = none ∧ ta σ H1 fun vs H2 => sp (.ref a :: vs) H2 Q (E σ)
theorem x_meth {to : TE} {ta : TA} {E : L2.St → XK} {sp : Sp} {Ca : Addr} (cl : Cls X.K Ca) (hm : Meth X.K Ca m f) (F : FnX X k f fd ps sp) (hr : RoomG k X.A) (hb : Binds X.K fd ps []) (hx : ∀ σ, PassX X σ (E σ))
    (ho : PE X o to) (ha : PA X (e :: es) ta) (he : plainArg e = true) (hes : es.all plainArg = true) (hl : (e :: es).length < 30) (hba : plainBase o = true) (hln : (apos.endLine == pos.line) = true) : PE X (.Call (.Attribute o m apos) (e :: es) [] pos) (tMethW Ca m sp E to ta) := by
  refine ⟨fun pins s σ H Q I h => ?_⟩
  rw [arm_eval_Call, plainBase_ok hba]
  refine wpAny_bind (thn (ho.run pins s σ H _ I h) fun u s1 ⟨v, H1, I1, ru, a, dx, fvs, ev, ea, nl, q⟩ => ?_)
  subst ev
  obtain rfl : u = Value.ref a := ru
  refine wpAny_bind (wpAny_standAt (meth_go (E := E) cl hm (by rw [List.all_cons, he, hes]; rfl) hl hln I1 ea nl ?_))
  exact PySem.W.callWith_K (first := [.ref a]) (h₀ := X.base) I1.ok.mod.kin hm.kp (thn (ha.run pos pins s1 σ H1 _ I1 q) fun us s2 ⟨vs, H2, I2, r2, q2⟩ => ⟨I2.kIn, self_run F hr hb (hx σ) I2 r2 q2⟩) (star_cons he es X.env) (star_none hes pos X.env)
theorem x_meth0 {to : TE} {E : L2.St → XK} {sp : Sp} {Ca : Addr} (cl : Cls X.K Ca) (hm : Meth X.K Ca m f) (F : FnX X k f fd ps sp) (hr : RoomG k X.A) (hb : Binds X.K fd ps []) (hx : ∀ σ, PassX X σ (E σ))
    (ho : PE X o to) (hba : plainBase o = true) (hln : (apos.endLine == pos.line) = true) : PE X (.Call (.Attribute o m apos) [] [] pos) (tMethW Ca m sp E to tNil) := by
  refine ⟨fun pins s σ H Q I h => ?_⟩
  rw [arm_eval_Call, plainBase_ok hba]
  refine wpAny_bind (thn (ho.run pins s σ H _ I h) fun u s1 ⟨v, H1, I1, ru, a, dx, fvs, ev, ea, nl, q⟩ => ?_)
  subst ev
  obtain rfl : u = Value.ref a := ru
  refine wpAny_bind (wpAny_standAt (meth_go (E := E) (es := []) cl hm rfl (by decide) hln I1 ea nl ?_))
  exact PySem.W.callWith_K0 (first := [.ref a]) I1.kIn hm.kp (self_run (us := []) F hr hb (hx σ) I1 .nil q)
theorem meth_core {σ : L2.St} {H : Hp} {Q : VK} {f : T → Env → Store → Out R} {K : Addr → V → Hp → Prop} (h : tE W wx (fun env S => (evE C co env S).bind fun x S1 => (match sink x with
      | some t => (match isCls S1 c t with | true => f t env S1 | false => .no)
      | none => .no)) σ H Q) (nf : NoFld W m)
    (k : ∀ (F : Hp) (r : List Addr) (env : Env) (S : Store) (H1 : Hp) (t : T) (a : Addr), Good W F r H1 σ env S → Rep W F r t (.ref a) → Rs W wx F r H1 σ env (f t env S) (fun x S' => Post W F r H1 σ env x S' Q) → K a (.ref a) H1) :
    tE W wx (evE C co) σ H fun v H1 => ∃ a dx fvs, v = .ref a ∧ H1 a = some (.ins (W.cadr c) dx fvs) ∧ fvs.lookup m = none ∧ K a v H1 := by
  obtain ⟨F, r, env, S, gd, h⟩ := h
  refine ⟨F, r, env, S, gd, Rs.bind (show Rs W wx F r H σ env ((evE C co env S).bind _) _ from h) fun x S1 h v F1 r1 H1 s1 g1 rr n1 => ?_⟩
  cases es : sink x with
  | none => rw [es] at h; exact h.elim
  | some t =>
    rw [es] at h
    dsimp only at h
    cases ec : isCls S1 c t with
    | false => rw [ec] at h; exact h.elim
    | true =>
      rw [ec] at h
      obtain ⟨F2, s2, g2, rt, l2⟩ := sink_ok g1 s1 rr n1 es
      obtain ⟨a, dx, fvs, fs, rfl, h1, h2, h3⟩ := isCls_ok g2 rt ec
      exact ⟨a, dx, fvs, rfl, h1, h2.none nf, k F2 r1 env S1 H1 t a g2 rt (Rs.later (show Rs W wx F r H σ env (f t env S1) _ from h) s2)⟩
theorem e_meth (hK : X.K = W.K) (tk : Takes X wx) (cl : Cls W.K (W.cadr c)) (hm : Meth W.K (W.cadr c) m f) (nf : NoFld W m) (F : FnX X k f fd ps (spF W n (C.call g))) (hn : ∀ (ts : List T) (S : Store), C.call g ts S ≠ .no → ts.length = n) (hr : RoomG k X.A) (hb : Binds X.K fd ps [])
    (ho : SE W wx C X o co) (ha : SA W wx C X (e :: es) ces) (he : plainArg e = true) (hes : es.all plainArg = true) (hl : (e :: es).length < 30) (hba : plainBase o = true) (hln : (apos.endLine == pos.line) = true) :
    SE W wx C X (.Call (.Attribute o m apos) (e :: es) [] pos) (.meth c g co ces) :=
  (x_meth (by rw [hK]; exact cl) (by rw [hK]; exact hm) F hr hb (passW tk) ho ha he hes hl hba hln).imp fun σ H Q h => by
    have z := meth_core (m := m) (f := fun t env S1 => (evEs C ces env S1).bind fun ts S2 => C.call g (t :: ts) S2) (K := fun a v H1 => tA W wx (evEs C ces) σ H1 fun vs H2 => spF W n (C.call g) (.ref a :: vs) H2 Q (wE wx σ)) h nf
      fun F r env S H1 t a gd rt q => ⟨F, r, env, S, gd, Rs.bind q fun ts S2 q2 vs F3 r3 H3 s3 g3 rl => ?_⟩
    · exact z
    · exact spF_of g3 (.cons (rt.mono s3.le s3.pre) rl) (hn (t :: ts) S2) (Rs.later q2 s3)
theorem e_meth0 (hK : X.K = W.K) (tk : Takes X wx) (cl : Cls W.K (W.cadr c)) (hm : Meth W.K (W.cadr c) m f) (nf : NoFld W m) (F : FnX X k f fd ps (spF W n (C.call g))) (hn : ∀ (ts : List T) (S : Store), C.call g ts S ≠ .no → ts.length = n) (hr : RoomG k X.A) (hb : Binds X.K fd ps [])
    (ho : SE W wx C X o co) (hba : plainBase o = true) (hln : (apos.endLine == pos.line) = true) :
    SE W wx C X (.Call (.Attribute o m apos) [] [] pos) (.meth c g co .nil) :=
  (x_meth0 (by rw [hK]; exact cl) (by rw [hK]; exact hm) F hr hb (passW tk) ho hba hln).imp fun σ H Q h =>
    meth_core (m := m) (f := fun t env S1 => (evEs C .nil env S1).bind fun ts S2 => C.call g (t :: ts) S2) (K := fun a v H1 => tNil σ H1 fun vs H2 => spF W n (C.call g) (.ref a :: vs) H2 Q (wE wx σ)) h nf
      fun F r env S H1 t a gd rt q => spF_of gd (.cons rt .nil) (hn [t] S) q
theorem spF_low {σ : L2.St} {F1 H1 : Hp} {r1 : List Addr} {env : Env} {S1 : Store} {Q : VK} {t : T} {v : V} {low : List T → Store → Out R} {post : R → Option R} (g1 : Good W F1 r1 H1 σ env S1) (rt : Rep W F1 r1 t v) (hn : low [t] S1 ≠ .no → 1 = n)
    (h : Rs W wx F1 r1 H1 σ env ((low [t] S1).only fun y S2 => .of S2 (post y)) fun x S' => Post W F1 r1 H1 σ env x S' Q) :
    spF W n low [v] H1 (fun w H' => ∃ (y z : R) (S' : Store) (F' : Hp) (r' : List Addr), post y = some z ∧ Step F1 r1 H1 F' r' H' ∧ Good W F' r' H' σ env S' ∧ RRep W F' r' H' σ env y w ∧ NewR H1 y w ∧ Post W F1 r1 H1 σ env z S' Q) noE := by
  cases e : low [t] S1 with
  | no => rw [e] at h; exact h.elim
  | ex c l S' => rw [e] at h; exact h.elim
  | ok y S' =>
    rw [e] at h
    obtain ⟨z, ez, p⟩ := Rs.of (show Rs W wx F1 r1 H1 σ env (Out.of S' (post y)) _ from h)
    refine ⟨hn (by rw [e]; intro z; cases z), F1, r1, [t], S1, .cons rt .nil, g1.le, g1.st, ?_⟩
    rw [e]
    intro w F2 r2 H2 s2 l2 st2 vo
    obtain ⟨z1, z2, z3⟩ := back_ok g1 s2 l2 st2 vo
    exact ⟨y, z, S', F2, r2, ez, s2, z1, z2, z3, p⟩
theorem only_ok {o : Out R} : (o.only fun y S2 => Out.ok y S2) = o.only fun y S2 => Out.of S2 (some y) := by cases o <;> rfl
theorem e_prop {p : Addr} (hK : X.K = W.K) (cl : Cls W.K (W.cadr c)) (hp : PropOf W.K (W.cadr c) m p f) (nf : NoFld W m) (F : FnX X k f fd ps (spF W n (C.low g))) (hn : ∀ (ts : List T) (S : Store), C.low g ts S ≠ .no → ts.length = n) (hr : RoomG (k + 1) X.A) (hb : Binds X.K fd ps [])
    (ho : SE W wx C X o co) (hba : plainBase o = true) : SE W wx C X (.Attribute o m pos) (.prop c g co) := by
  refine ⟨fun pins s σ H Q I h => ?_⟩
  refine attr_of (plainBase_ok hba) (thn (ho.run pins s σ H _ I (meth_core (m := m) (f := fun t env S1 => (C.low g [t] S1).only fun y S2 => .ok y S2) (K := fun a v H1 => spF W n (C.low g) [v] H1 Q noE) h nf fun F r env S H1 t a gd rt q => ?_)) fun u s1 hz => ?_)
  · rw [only_ok] at q
    have z := spF_low gd rt (fun z => hn [t] S z) q
    obtain ⟨hl, F0, r0, ts, S0, rl, l0, st0, k0⟩ := z
    refine ⟨hl, F0, r0, ts, S0, rl, l0, st0, ?_⟩
    cases e : C.low g ts S0 with
    | no => rw [e] at k0; exact k0.elim
    | ex c l S' => rw [e] at k0; exact k0
    | ok x S' =>
      rw [e] at k0
      intro v F' r' H' s' l' st' vo
      obtain ⟨y, z, S2, F2, r2, ez, s2, g2, rr2, n2, p⟩ := k0 v F' r' H' s' l' st' vo
      cases ez
      exact p v F2 r2 H' s2 g2 rr2 n2
  · obtain ⟨v, H1, I1, ru, a, dx, fvs, ev, ea, nl, q⟩ := hz
    subst ev
    obtain rfl : u = Value.ref a := ru
    obtain ⟨mA, O, _, _, _, _⟩ := ins_get I1.hok ea
    obtain ⟨od, J, _⟩ := O.look
    obtain ⟨rest, hrec⟩ := hp.rec_
    have hcs : (PySem.W.clsIn X.K (W.cadr c)).isSome = true := by
      obtain ⟨cd, hc, _⟩ := PySem.W.any_some cl.hd
      rw [hK, hc]; rfl
    have I2 := I1.tok (s1.toks + 1)
    refine PySem.W.get_bind I1.kIn J (PySem.W.plainGet_of (by rw [hK]; exact cl.get m)).1 (PySem.W.findObj_data hcs (by rw [hK]; exact hp.at_) (by rw [hK]; exact hp.get) (by rw [hK]; exact hp.tak)) (PySem.W.plainGet_of (by rw [hK]; exact cl.get m)).2 (wpAny_call (PySem.W.prop_get (s := { s1 with toks := s1.toks + 1 }) I1.kIn (by rw [hK]; exact hrec) ?_))
    refine codeAny_mono (in1_code (E' := fun _ _ => False) F hr.in1 (fun I => I.env0.in1) hb I2 q) fun r s' hq => ?_
    match r, hq with
    | .error er, hq => exact (show False from hq).elim
    | .ok .next, hq => exact hq.elim
    | .ok .brk, hq => exact hq.elim
    | .ok .cont, hq => exact hq.elim
    | .ok (.ret u'), hq =>
      obtain ⟨w, H', I3, rv, q3⟩ := hq
      show wpAny _ _ (handedOut u') _ _ _
      rw [PySem.W.handedOut_of (handed_of rv)]
      exact wpAny_pure ⟨w, H', I3, rv, q3⟩
def spName : Spk → Str
  | .len => "len" | .bool => "bool" | .repr => "repr"
def spDef : Spk → Str
  | .len => "__len__" | .bool => "__len__" | .repr => "__repr__"
def spPost : Spk → VK → VK
  | .len => lenP | .bool => boolP | .repr => reprP
theorem spc_imp {kd : Spk} {σ : L2.St} {H : Hp} {Q : VK} (hn : ∀ (ts : List T) (S : Store), C.low g ts S ≠ .no → ts.length = n) (h : tE W wx (evE C (.spc kd c g co)) σ H Q) : tE W wx (evE C co) σ H fun v H1 => rS (W.cadr c) (spF W n (C.low g)) (spPost kd) [v] H1 Q := by
  obtain ⟨F, r, env, S, gd, h⟩ := h
  refine ⟨F, r, env, S, gd, Rs.bind (show Rs W wx F r H σ env ((evE C co env S).bind _) _ from h) fun x S1 h v F1 r1 H1 s1 g1 rr n1 => ?_⟩
  cases es : sink x with
  | none => rw [es] at h; exact h.elim
  | some t =>
    rw [es] at h
    dsimp only at h
    cases ec : isCls S1 c t with
    | false => rw [ec] at h; exact h.elim
    | true =>
      rw [ec] at h
      obtain ⟨F2, s2, g2, rt, l2⟩ := sink_ok g1 s1 rr n1 es
      obtain ⟨a, dx, fvs, fs, rfl, h1, h2, h3⟩ := isCls_ok g2 rt ec
      refine ⟨a, dx, fvs, rfl, h1, ?_⟩
      have q := Rs.later (show Rs W wx F r H σ env ((C.low g [t] S1).only fun y S2 => .of S2 (spcR kd y)) _ from h) s2
      obtain ⟨hl, F0, r0, ts, S0, rl, l0, st0, k0⟩ := spF_low g2 rt (fun z => hn [t] S1 z) q
      refine ⟨hl, F0, r0, ts, S0, rl, l0, st0, ?_⟩
      cases e : C.low g ts S0 with
      | no => rw [e] at k0; exact k0.elim
      | ex c l S' => rw [e] at k0; exact k0
      | ok x' S' =>
        rw [e] at k0
        intro v F' r' H' s' l' st' vo
        obtain ⟨y, z, S3, F3, r3, ez, s3, g3, rr3, n3, p⟩ := k0 v F' r' H' s' l' st' vo
        cases kd with
        | len =>
          match y, ez, rr3 with
          | .val (.int i), ez, rr3 =>
            obtain ⟨b, rfl⟩ := guardT_ok (show guardT (decide (0 ≤ i) && decide (i < 2 ^ 63)) (R.val (.int i)) = some z from ez)
            rw [Bool.and_eq_true] at b
            cases (show v = .int i from Vw.of_rep g3.le rr3 fun m z => nomatch z)
            exact ⟨i, rfl, of_decide_eq_true b.1, of_decide_eq_true b.2, p _ F3 r3 H' s3 g3 (.int i) True.intro⟩
        | bool =>
          match y, ez, rr3 with
          | .val (.int i), ez, rr3 =>
            obtain ⟨b, rfl⟩ := guardT_ok (show guardT (decide (0 ≤ i) && decide (i < 2 ^ 63)) (R.val (.bl (i != 0))) = some z from ez)
            rw [Bool.and_eq_true] at b
            cases (show v = .int i from Vw.of_rep g3.le rr3 fun m z => nomatch z)
            exact ⟨i, rfl, of_decide_eq_true b.1, of_decide_eq_true b.2, p _ F3 r3 H' s3 g3 (.bl _) True.intro⟩
        | repr =>
          match y, ez, rr3 with
          | .val (.str i), ez, rr3 =>
            cases ez
            cases (show v = .str i from Vw.of_rep g3.le rr3 fun m z => nomatch z)
            exact ⟨i, rfl, p _ F3 r3 H' s3 g3 (.str i) True.intro⟩
theorem e_spc {pf : Pos} (hK : X.K = W.K) (kd : Spk) (hm : Meth W.K (W.cadr c) (spDef kd) f) (hno : kd = .bool → PySem.W.findIn W.K (.ref (W.cadr c)) "__bool__" = some none) (F : FnX X k f fd ps (spF W n (C.low g))) (hn : ∀ (ts : List T) (S : Store), C.low g ts S ≠ .no → ts.length = n) (hr : RoomG (k + 4) X.A) (hu : X.A.units + 65 < cLine) (hb : Binds X.K fd ps [])
    (hg : Gl X (spName kd)) (hmn : X.mg (spName kd) = none) (ho : SE W wx C X o co) (hp : plainArg o = true) : SE W wx C X (.Call (.Name (spName kd) pf) [o] [] pos) (.spc kd c g co) := by
  have st := star_cons hp [] X.env
  have hi : ∀ {σ : L2.St} {H : Hp} {Q : VK}, tE W wx (evE C (.spc kd c g co)) σ H Q → tCB (rS (W.cadr c) (spF W n (C.low g)) (spPost kd)) (fun σ H (K : List V → Hp → Prop) => tE W wx (evE C co) σ H fun v H1 => K [v] H1) σ H Q := fun h => spc_imp hn h
  have pa : PA X [o] (fun σ H (K : List V → Hp → Prop) => tE W wx (evE C co) σ H fun v H1 => K [v] H1) := pa_cons ho pa_nil st
  have u1 : X.A.in1.units < cLine := by
    have : X.A.in1.units ≤ X.A.units + 1 := by simp [Around.in1]
    omega
  cases kd with
  | len => exact (pe_callB (c_len (Ca := W.cadr c) F (hr.mono (by omega)) hb (by rw [hK]; exact hm.at_) (by rw [hK]; exact hm.fn)) hg hmn PySem.boot_len pa (by decide +kernel) (by decide +kernel) st rfl).imp fun _ _ _ h => hi h
  | bool => exact (pe_callTy (c_bool (Ca := W.cadr c) F hr hb (by rw [hK]; exact hm.at_) (by rw [hK]; exact hm.fn) (by rw [hK]; exact hno rfl)) hg hmn (by decide +kernel) pa (by decide +kernel) (by decide +kernel) st rfl).imp fun _ _ _ h => hi h
  | repr => exact (pe_callB (c_repr (Ca := W.cadr c) F (hr.mono (by omega)) u1 hb (by rw [hK]; exact hm.at_) (by rw [hK]; exact hm.fn)) hg hmn (by decide +kernel) pa (by decide +kernel) (by decide +kernel) st rfl).imp fun _ _ _ h => hi h
theorem low_no {σ : L2.St} {H : Hp} {Q : VK} {post : R → Store → Out R} {K : V → Hp → Prop} (no : ∀ ts S, C.low g ts S = .no) (h : tE W wx (fun env S => (evE C co env S).bind fun x S1 => (match sink x with
      | some t => (match isCls S1 c t with | true => (C.low g [t] S1).only post | false => .no)
      | none => .no)) σ H Q) : tE W wx (evE C co) σ H K := by
  obtain ⟨F, r, env, S, gd, h⟩ := h
  refine ⟨F, r, env, S, gd, Rs.bind (show Rs W wx F r H σ env ((evE C co env S).bind _) _ from h) fun x S1 h v F1 r1 H1 s1 g1 rr n1 => ?_⟩
  cases es : sink x with
  | none => rw [es] at h; exact h.elim
  | some t =>
    rw [es] at h
    dsimp only at h
    cases ec : isCls S1 c t with
    | false => rw [ec] at h; exact h.elim
    | true => rw [ec] at h; dsimp only at h; rw [no] at h; exact h.elim
theorem e_prop0 (no : ∀ ts S, C.low g ts S = .no) (ho : SE W wx C X o co) (hba : plainBase o = true) : SE W wx C X (.Attribute o m pos) (.prop c g co) :=
  ⟨fun pins s σ H Q I h => attr_of (plainBase_ok hba) (thn (ho.run pins s σ H (fun _ _ => False) I (low_no (post := fun y S2 => .ok y S2) no h)) fun u s1 ⟨v, H1, I1, ru, q⟩ => q.elim)⟩
theorem e_spc0 {pf : Pos} (kd : Spk) (no : ∀ ts S, C.low g ts S = .no) (hg : Gl X (spName kd)) (hmn : X.mg (spName kd) = none) (ho : SE W wx C X o co) (hp : plainArg o = true) : SE W wx C X (.Call (.Name (spName kd) pf) [o] [] pos) (.spc kd c g co) := by
  have st := star_cons hp [] X.env
  have pa : PA X [o] (fun σ H (K : List V → Hp → Prop) => tE W wx (evE C co) σ H fun v H1 => K [v] H1) := pa_cons ho pa_nil st
  have hi : ∀ {σ : L2.St} {H : Hp} {Q : VK}, tE W wx (evE C (.spc kd c g co)) σ H Q → tCB (fun _ _ _ => False) (fun σ H (K : List V → Hp → Prop) => tE W wx (evE C co) σ H fun v H1 => K [v] H1) σ H Q := fun h => low_no (post := fun y S2 => .of S2 (spcR kd y)) no h
  have cr : ∀ f, CallR X f (fun _ _ _ => False) := fun f pins s σ H xs us Q I r h => h.elim
  cases kd with
  | len => exact (pe_callB (cr (.builtin "len")) hg hmn PySem.boot_len pa (by decide +kernel) (by decide +kernel) st rfl).imp fun _ _ _ h => hi h
  | bool => exact (pe_callTy (cr (.type "bool")) hg hmn (by decide +kernel) pa (by decide +kernel) (by decide +kernel) st rfl).imp fun _ _ _ h => hi h
  | repr => exact (pe_callB (cr (.builtin "repr")) hg hmn (by decide +kernel) pa (by decide +kernel) (by decide +kernel) st rfl).imp fun _ _ _ h => hi h
end
end Z
set_option Elab.async false
set_option linter.all false
set_option maxRecDepth 100000
set_option maxHeartbeats 4000000
namespace Z
open PySem PySem.Spec PyProof.Rows L2
section
variable {W : WT} {wx : WX} {X : Cx} {C : EC} {cfs : CEs} {pos p : Pos} {k c n : Nat} {f Ca : Addr} {fd : FuncData} {ps ks : List Str} {sp : Sp} {E : XK} {x : Str}
theorem makesK {pins : List (Addr × Obj)} {σ : L2.St} {H : Hp} {s : Shared} {Q : VK} {ws us' : List Value} {kw : List (Str × Value)} {vs : List V} (M : Mk X.K Ca f) (F : FnX X k f fd ps sp) (hr : RoomG (k + 1) X.A)
    (hb : ∀ (s' : Shared) (u : Value), BindsTo s' fd ⟨[u], kw⟩ (ps.zip (u :: us')))
    (hx : PassX X σ E) (I : Inv X pins σ H s) (r : Vals vs us')
    (h : ∀ x dx, H x = none → H dx = none → dx ≠ x → sp (.ref x :: vs) (upd (upd H dx (.own x)) x (.ins Ca dx [])) (fun v H2 => v = .non ∧ Q (.ref x) H2) E) :
    wpAny (model X.prog X.w) X.A (call (.ref Ca) [] kw) (EP X pins σ Q) X.xe s := by
  have q := h (s.heap.objs.size + 1) s.heap.objs.size (I.hok.fresh (Nat.le_succ _)) (I.hok.fresh (Nat.le_refl _)) (fun z => Nat.succ_ne_self _ z.symm)
  have J := Inv.made (C := Ca) I
  have r' : Vals (V.ref (s.heap.objs.size + 1) :: vs) (Value.ref (s.heap.objs.size + 1) :: us') := .cons rfl r
  refine wpAny_call (make_map (f := f) I.kIn M.makes M.init (beq_iff_eq.mp M.fn) (codeAny_mono (F.run _ X.stack _ _ ⟨[Value.ref (s.heap.objs.size + 1)], kw⟩ _ _ _ E (hr.make Ca [] kw) (J.env0.make Ca [] kw) (hb _ _) r' q) fun z s' qz => ?_))
  match z, qz with
  | .error u, qz => exact hx pins _ _ u s' J qz
  | .ok (.ret u), qz =>
    obtain ⟨v, H', J', rv, ev, q'⟩ := J.after qz
    subst ev
    exact ⟨rv, V.ref (s.heap.objs.size + 1), H', J', rfl, q'⟩
  | .ok .next, qz => exact qz.elim
  | .ok .brk, qz => exact qz.elim
  | .ok .cont, qz => exact qz.elim
def tMakeKW (Ca : Addr) (m : Nat) (sp : Sp) (perm : List Nat) (E : L2.St → XK) (tk : TA) : TE := fun σ H Q => tk σ H fun zs H1 => zs.length = m ∧ ∀ x dx, H1 x = none → H1 dx = none → dx ≠ x →
  sp (.ref x :: permV perm zs) (upd (upd H1 dx (.own x)) x (.ins Ca dx [])) (fun v H2 => v = .non ∧ Q (.ref x) H2) (E σ)
theorem permU_up (perm : List Nat) (u : Value) (ws : List Value) : permU (0 :: perm.map (· + 1)) ([u] ++ ws) = u :: permU perm ws := by
  unfold permU
  rw [List.map_cons, List.map_map]
  congr 1
theorem x_makeK {E : L2.St → XK} {perm : List Nat} {kwa : List Keyword} {tk : TA} (M : Mk X.K Ca f) (F : FnX X k f fd ps sp) (hr : RoomG (k + 1) X.A) (hg : Gl X x) (hm : X.mg x = some (.ref Ca)) (hb : KBd fd ps 1 ks (0 :: perm.map (· + 1))) (hx : ∀ σ, PassX X σ (E σ))
    (hkw : PK X kwa tk) (hall : (backToKw pos (keywordEach kwa X.env)).all (·.1.isSome) = true) (hks : (backToKw pos (keywordEach kwa X.env)).filterMap (·.1) = ks)
    (hdb : (x == ("__debug__" : Str)) = false) (hpl : ((backTo pos (starEach [] X.env)).any (·.1) || (backToKw pos (keywordEach kwa X.env)).any (·.1.isNone)) = false) :
    PE X (.Call (.Name x p) [] kwa pos) (tMakeKW Ca ks.length sp perm E tk) := ⟨fun pins s σ H Q I h =>
  wpAny_Call_Name_kw (ld_glob I hg hm (PySem.W.callWith_KW0 (h₀ := X.base) I.ok.mod.kin M.kp hall
    (thn (hkw.run pos pins s σ H _ I h) fun ws s2 ⟨zs, H2, I2, rz, l2, q2⟩ => ⟨I2.kIn, by
      rw [hks]
      refine makesK (ws := ws) (us' := permU perm ws) M F hr (fun s' u => ?_) (hx σ) I2 (vals_perm rz perm) q2
      have z := hb s' [u] ws rfl (rz.length ▸ l2)
      rw [permU_up] at z
      exact z⟩) hpl) hdb)⟩
theorem e_newk0 {perm : List Nat} {kwa : List Keyword} (no : ∀ ts S, C.new c ts S = .no) (hk : PySem.W.keepIn X.K (.ref (W.cadr c)) = true) (hg : Gl X x) (hm : X.mg x = some (.ref (W.cadr c)))
    (hkn : kwa.map (·.arg) = ks.map some) (hw : SKw W wx C X kwa cfs) (hd : (x == ("__debug__" : Str)) = false) : SE W wx C X (.Call (.Name x p) [] kwa pos) (.newk c ks perm cfs) := by
  obtain ⟨z1, z2, z3⟩ := kw_all pos X.env hkn
  exact ⟨fun pins s σ H Q I h =>
  wpAny_Call_Name_kw (ld_glob I hg hm (PySem.W.callWith_KW0 (h₀ := X.base) I.ok.mod.kin hk z1 (thn (hw.run pos pins s σ H (fun _ _ => False) I (by
    obtain ⟨F, r, env, S, gd, h⟩ := h
    refine ⟨F, r, env, S, gd, Rs.bind (show Rs W wx F r H σ env ((evEs C cfs env S).bind _) _ from h) fun ts S1 h vs F1 r1 H1 s1 g1 rl => ?_⟩
    rw [no] at h
    exact h)) fun us s1 ⟨vs, H1, I1, r, q⟩ => q.elim) (by rw [z3]; rfl)) hd)⟩
theorem RepL.permT {F : Hp} {r : List Addr} {ts : List T} {vs : List V} (h : RepL W F r ts vs) (perm : List Nat) : RepL W F r (perm.map fun i => (ts[i]?).getD .non) (permV perm vs) := h.perm perm
theorem e_newk {perm : List Nat} {kwa : List Keyword} (tk : Takes X wx) (M : Mk X.K (W.cadr c) f) (F : FnX X k f fd ps (spI W n c (C.new c))) (hn : ∀ (ts : List T) (S : Store), (C.new c ts S ≠ .no → ts.length + 1 = n) ∧ ∀ S' x, C.new c ts S = .ok x S' → ∃ o, x = .fresh o) (hr : RoomG (k + 1) X.A) (hg : Gl X x) (hm : X.mg x = some (.ref (W.cadr c)))
    (hb : KBd fd ps 1 ks (0 :: perm.map (· + 1))) (hkn : kwa.map (·.arg) = ks.map some) (hw : SKw W wx C X kwa cfs) (l2 : cfs.len = ks.length) (hd : (x == ("__debug__" : Str)) = false) : SE W wx C X (.Call (.Name x p) [] kwa pos) (.newk c ks perm cfs) := by
  obtain ⟨z1, z2, z3⟩ := kw_all pos X.env hkn
  refine (x_makeK M F hr hg hm hb (passW tk) hw z1 z2 hd (by rw [z3]; rfl)).imp fun σ H Q h => ?_
  obtain ⟨F, r, env, S, gd, h⟩ := h
  refine ⟨F, r, env, S, gd, Rs.bindE (show Rs W wx F r H σ env ((evEs C cfs env S).bind _) _ from h) fun us S1 e1 h zs F1 r1 H1 s1 g1 rl => ⟨?_, fun x dx n1 n2 nd => ?_⟩⟩
  · rw [← rl.len, evEs_len e1, l2]
  have h := Rs.later (show Rs W wx F r H σ env (C.new c (perm.map fun i => (us[i]?).getD .non) S1) _ from h) s1
  have rp := rl.permT perm
  have hl : (perm.map fun i => (us[i]?).getD T.non).length + 1 = n := (hn _ S1).1 fun z => by rw [z] at h; exact h
  refine ⟨by rw [List.length_cons, ← rp.len]; exact hl, F1, r1, _, S1, H1, x, dx, _, rfl, rfl, n1, n2, nd, rp, g1.le, g1.st, ?_⟩
  cases e : C.new c (perm.map fun i => (us[i]?).getD .non) S1 with
  | no => rw [e] at h; exact h
  | ex cc l S' =>
    rw [e] at h
    exact fun F' r' H' cls d s' l' st' ev => h F' r' H' cls d s' ⟨l', st', g1.en.step s'⟩ ev
  | ok y S' =>
    obtain ⟨o, rfl⟩ := (hn _ S1).2 S' y e
    rw [e] at h
    refine ⟨o, rfl, fun F2 r2 H2 s2 lh2 st2 f2 x2 ob => ⟨rfl, ?_⟩⟩
    have g2 : Good W F2 r2 H2 σ env S' := ⟨lh2, st2, g1.en.step s2⟩
    refine (show Post W F1 r1 H1 σ env (.fresh o) S' Q from h) _ F2 r2 H2 s2 g2 ⟨x, rfl, f2, x2, fun ⟨i, u, z1, z2⟩ => ?_, ob⟩ fun q hq => by cases hq; exact n1
    obtain ⟨b, y1, _, _, y4⟩ := g1.en.own i u z1
    rw [z2] at y1
    cases y1
    obtain ⟨w, hw⟩ := y4.there
    rw [n1] at hw
    cases hw
end
end Z
set_option Elab.async false
set_option linter.all false
set_option maxRecDepth 100000
set_option maxHeartbeats 4000000
namespace Z
open PySem PySem.Spec PyProof.Rows L2
structure Tab where
  fn : Nat → Option (Str × Nat)
  cl : Nat → Option (Str × Nat)
  con : Nat → Option (Str × T)
  free : Str → Bool
  attr : Nat → Str
  kp : Nat → List (Nat × List Str × List Nat)
  isc : Nat → Option Str
  /-- an error's class: its name, whether it is one's own -/
  xn : Nat → Option (Str × Bool)
  xat : Nat → Option (Option Nat)
  xis : Nat → Nat → Option Bool
  /-- a def that is called with a handled error, with a lambda -/
  hf : Nat → Option Str
  lf : Nat → Option Str
  /-- a method: its class, its name, how many parameters; a property -/
  mt : Nat → Option (Nat × Str × Nat)
  /-- how a class is called by keywords -/
  kc : Nat → List (Nat × List Str × List Nat)
  pp : Nat → Option (Nat × Str × Nat)
  /-- no attribute's name -/
  nf : Str → Bool
  /-- a class without __bool__ -/
  nb : Nat → Bool
def vName : Expr → Option Str | .Name x _ => some x | _ => none
def vInt : Expr → Option Int | .Constant (.int i) _ _ => some i | _ => none
def vBl : Expr → Option Bool | .Constant (.bool i) _ _ => some i | _ => none
def vStr : Expr → Option Str | .Constant (.str i) _ _ => some i | _ => none
def vNon : Expr → Bool | .Constant .none _ _ => true | _ => false
def vTup : Expr → Option (List Expr) | .Tuple xs _ _ => some xs | _ => none
def vLst : Expr → Option (List Expr) | .List xs _ => some xs | _ => none
def vBin : Expr → Option (Expr × Operator × Expr) | .BinOp a o b _ => some (a, o, b) | _ => none
def vNeg : Expr → Option Expr | .UnaryOp .USub a _ => some a | _ => none
def vNot : Expr → Option Expr | .UnaryOp .Not a _ => some a | _ => none
def vCmp : Expr → Option (Expr × CmpOp × Expr) | .Compare a [o] [b] _ => some (a, o, b) | _ => none
def vChain : Expr → Option (Expr × CmpOp × CmpOp × Expr × Expr) | .Compare a [o, p] [b, c] _ => some (a, o, p, b, c) | _ => none
def vAnd : Expr → Option (Expr × Expr) | .BoolOp .And [a, b] _ => some (a, b) | .BoolOp .And (a :: b :: c :: r) p => some (a, .BoolOp .And (b :: c :: r) p) | _ => none
def vOr : Expr → Option (Expr × Expr) | .BoolOp .Or [a, b] _ => some (a, b) | .BoolOp .Or (a :: b :: c :: r) p => some (a, .BoolOp .Or (b :: c :: r) p) | _ => none
def vIf : Expr → Option (Expr × Expr × Expr) | .IfExp t a b _ => some (t, a, b) | _ => none
def vSub : Expr → Option (Expr × Expr) | .Subscript a i _ => some (a, i) | _ => none
def vSl : Expr → Option (Option Expr × Option Expr) | .Slice l h none _ => some (l, h) | _ => none
def vFld : Expr → Option (Expr × Str) | .Attribute a f _ => some (a, f) | _ => none
def vCall : Expr → Option (Str × List Expr) | .Call (.Name x _) xs [] _ => some (x, xs) | _ => none
def vCallK : Expr → Option (Str × List Expr × List Keyword) | .Call (.Name x _) xs kw _ => some (x, xs, kw) | _ => none
def vCall0 : Expr → Option Str | .Call (.Name x _) [] [] _ => some x | _ => none
def noPars : Arguments → Bool
  | ⟨[], [], none, [], [], none, []⟩ => true
  | _ => false
def vLam : Expr → Option (Str × Arguments × Expr × Scope) | .Call (.Name x _) [.Lambda ps b sc _] [] _ => some (x, ps, b, sc) | _ => none
def vMethE : Expr → Option (Expr × Str × Pos × List Expr × Pos) | .Call (.Attribute a m p) xs [] q => some (a, m, p, xs, q) | _ => none
def vFstr : Expr → Option (Expr × Expr × List Expr) | .JoinedStr (a :: b :: r) _ => some (a, b, r) | _ => none
def vFmt : Expr → Option Expr | .FormattedValue e (-1) none _ => some e | _ => none
def vTups : Expr → Option (Expr × List Expr) | .Tuple (.Starred a _ :: xs) _ _ => some (a, xs) | _ => none
def vDnil : Expr → Bool | .Dict [] [] _ => true | _ => false
def vLc : Expr → Option (Expr × Expr × Expr × List Expr × Scope) | .ListComp e [⟨tg, it, ifs, 0⟩] sc _ => some (e, tg, it, ifs, sc) | _ => none
section
variable {e : Expr}
theorem vName_ok {x} (h : vName e = some x) : ∃ p, e = .Name x p := by unfold vName at h; split at h <;> first | (cases h; exact ⟨_, rfl⟩) | cases h
theorem vInt_ok {x} (h : vInt e = some x) : ∃ k p, e = .Constant (.int x) k p := by unfold vInt at h; split at h <;> first | (cases h; exact ⟨_, _, rfl⟩) | cases h
theorem vBl_ok {x} (h : vBl e = some x) : ∃ k p, e = .Constant (.bool x) k p := by unfold vBl at h; split at h <;> first | (cases h; exact ⟨_, _, rfl⟩) | cases h
theorem vStr_ok {x} (h : vStr e = some x) : ∃ k p, e = .Constant (.str x) k p := by unfold vStr at h; split at h <;> first | (cases h; exact ⟨_, _, rfl⟩) | cases h
theorem vNon_ok (h : vNon e = true) : ∃ k p, e = .Constant .none k p := by unfold vNon at h; split at h <;> first | exact ⟨_, _, rfl⟩ | cases h
theorem vTup_ok {x} (h : vTup e = some x) : ∃ k p, e = .Tuple x k p := by unfold vTup at h; split at h <;> first | (cases h; exact ⟨_, _, rfl⟩) | cases h
theorem vLst_ok {x} (h : vLst e = some x) : ∃ p, e = .List x p := by unfold vLst at h; split at h <;> first | (cases h; exact ⟨_, rfl⟩) | cases h
theorem vBin_ok {a o b} (h : vBin e = some (a, o, b)) : ∃ p, e = .BinOp a o b p := by unfold vBin at h; split at h <;> first | (cases h; exact ⟨_, rfl⟩) | cases h
theorem vNeg_ok {a} (h : vNeg e = some a) : ∃ p, e = .UnaryOp .USub a p := by unfold vNeg at h; split at h <;> first | (cases h; exact ⟨_, rfl⟩) | cases h
theorem vNot_ok {a} (h : vNot e = some a) : ∃ p, e = .UnaryOp .Not a p := by unfold vNot at h; split at h <;> first | (cases h; exact ⟨_, rfl⟩) | cases h
theorem vCmp_ok {a o b} (h : vCmp e = some (a, o, b)) : ∃ p, e = .Compare a [o] [b] p := by unfold vCmp at h; split at h <;> first | (cases h; exact ⟨_, rfl⟩) | cases h
theorem vChain_ok {a o q b c} (h : vChain e = some (a, o, q, b, c)) : ∃ p, e = .Compare a [o, q] [b, c] p := by unfold vChain at h; split at h <;> first | (cases h; exact ⟨_, rfl⟩) | cases h
theorem vAnd_ok {a b} (h : vAnd e = some (a, b)) : (∃ p, e = .BoolOp .And [a, b] p) ∨ ∃ c d r p, b = .BoolOp .And (c :: d :: r) p ∧ e = .BoolOp .And (a :: c :: d :: r) p := by
  unfold vAnd at h; split at h <;> first | (cases h; exact .inl ⟨_, rfl⟩) | (cases h; exact .inr ⟨_, _, _, _, rfl, rfl⟩) | cases h
theorem vOr_ok {a b} (h : vOr e = some (a, b)) : (∃ p, e = .BoolOp .Or [a, b] p) ∨ ∃ c d r p, b = .BoolOp .Or (c :: d :: r) p ∧ e = .BoolOp .Or (a :: c :: d :: r) p := by
  unfold vOr at h; split at h <;> first | (cases h; exact .inl ⟨_, rfl⟩) | (cases h; exact .inr ⟨_, _, _, _, rfl, rfl⟩) | cases h
theorem vIf_ok {t a b} (h : vIf e = some (t, a, b)) : ∃ p, e = .IfExp t a b p := by unfold vIf at h; split at h <;> first | (cases h; exact ⟨_, rfl⟩) | cases h
theorem vSub_ok {a b} (h : vSub e = some (a, b)) : ∃ p, e = .Subscript a b p := by unfold vSub at h; split at h <;> first | (cases h; exact ⟨_, rfl⟩) | cases h
theorem vSl_ok {a b} (h : vSl e = some (a, b)) : ∃ p, e = .Slice a b none p := by unfold vSl at h; split at h <;> first | (cases h; exact ⟨_, rfl⟩) | cases h
theorem vFld_ok {a b} (h : vFld e = some (a, b)) : ∃ p, e = .Attribute a b p := by unfold vFld at h; split at h <;> first | (cases h; exact ⟨_, rfl⟩) | cases h
theorem vCall_ok {x xs} (h : vCall e = some (x, xs)) : ∃ p q, e = .Call (.Name x q) xs [] p := by unfold vCall at h; split at h <;> first | (cases h; exact ⟨_, _, rfl⟩) | cases h
theorem vCallK_ok {x xs kw} (h : vCallK e = some (x, xs, kw)) : ∃ p q, e = .Call (.Name x q) xs kw p := by unfold vCallK at h; split at h <;> first | (cases h; exact ⟨_, _, rfl⟩) | cases h
theorem vCall0_ok {x} (h : vCall0 e = some x) : ∃ p q, e = .Call (.Name x q) [] [] p := by unfold vCall0 at h; split at h <;> first | (cases h; exact ⟨_, _, rfl⟩) | cases h
theorem vLam_ok {x ps b sc} (h : vLam e = some (x, ps, b, sc)) : ∃ p q l, e = .Call (.Name x q) [.Lambda ps b sc l] [] p := by unfold vLam at h; split at h <;> first | (cases h; exact ⟨_, _, _, rfl⟩) | cases h
theorem vDnil_ok (h : vDnil e = true) : ∃ p, e = .Dict [] [] p := by unfold vDnil at h; split at h <;> first | exact ⟨_, rfl⟩ | cases h
theorem vMethE_ok {a m p xs q} (h : vMethE e = some (a, m, p, xs, q)) : e = .Call (.Attribute a m p) xs [] q := by unfold vMethE at h; split at h <;> first | (cases h; rfl) | cases h
theorem vFstr_ok {a b r} (h : vFstr e = some (a, b, r)) : ∃ p, e = .JoinedStr (a :: b :: r) p := by unfold vFstr at h; split at h <;> first | (cases h; exact ⟨_, rfl⟩) | cases h
theorem vFmt_ok {a} (h : vFmt e = some a) : ∃ p, e = .FormattedValue a (-1) none p := by unfold vFmt at h; split at h <;> first | (cases h; exact ⟨_, rfl⟩) | cases h
theorem vTups_ok {a xs} (h : vTups e = some (a, xs)) : ∃ p q r, e = .Tuple (.Starred a p :: xs) q r := by unfold vTups at h; split at h <;> first | (cases h; exact ⟨_, _, _, rfl⟩) | cases h
theorem noPars_ok {ps : Arguments} (h : noPars ps = true) : ps = ⟨[], [], none, [], [], none, []⟩ := by unfold noPars at h; split at h <;> first | rfl | cases h
theorem vLc_ok {a b c d f} (h : vLc e = some (a, b, c, d, f)) : ∃ p, e = .ListComp a [⟨b, c, d, 0⟩] f p := by unfold vLc at h; split at h <;> first | (cases h; exact ⟨_, rfl⟩) | cases h
end
def visOk (st : Stat) (i : Nat) (x : Str) : Bool := decide (st.N[i]? = some x) && (match st.sc.names.lookup x with | some .local => true | some .cell => true | some .free => true | _ => false) && !(x == ("__debug__" : Str)) && !(x == ("__classdict__" : Str))
def glOk (st : Stat) (x : Str) : Bool := (match st.sc.names.lookup x with | some .globalImplicit => true | _ => false) && !(x == ("__debug__" : Str))
def ownOf (N : List Str) (g : CG) : List (Str × Nat) := (slotsG g).map fun i => ((N[i]?).getD "", i)
def inner (st : Stat) (scope : Scope) : Stat := ⟨st.N, relS scope st.sc, fun x => scope.names.lookup x == some .cell, st.calm, false, false⟩
def lamSt (st : Stat) (scope : Scope) : Stat := ⟨st.N, scope, fun _ => false, true, false, false⟩
def isVarC : CE → Bool | .var _ => true | _ => false
def notSet : Expr → Bool | .Set _ _ _ => false | _ => true
def isTupE : Expr → Bool | .Tuple _ _ _ => true | _ => false
def isBop : Expr → Bool | .BoolOp _ _ _ => true | _ => false
def plainT : Expr → Bool | .UnaryOp _ _ _ => false | .BoolOp _ _ _ => false | .IfExp _ _ _ _ => false | .Compare _ _ _ _ => false | _ => true
def chkTy (T : Tab) (st : Stat) (b : BTy) (e : Expr) : Bool := (match vName e with
  | some x => glOk st x && (match b with
    | .own c => decide (T.isc c = some x)
    | .exc c => (match T.xn c with | some (y, true) => decide (y = x) | some (y, false) => decide (y = x) && T.free x | none => false)
    | b => decide (x = bName b) && T.free x)
  | none => false)
def chkTys (T : Tab) (st : Stat) : List BTy → List Expr → Bool
  | [], [] => true
  | b :: bs, e :: es => chkTy T st b e && chkTys T st bs es
  | _, _ => false
mutual
def chkE (T : Tab) (st : Stat) : CE → Expr → Bool
  | .var i, e => (match vName e with | some x => visOk st i x | none => false)
  | .con k, e => (match vName e, T.con k with | some x, some (y, _) => glOk st x && decide (y = x) | _, _ => false)
  | .int i, e => (match vInt e with | some j => decide (j = i) | none => false)
  | .bl i, e => (match vBl e with | some j => j == i | none => false)
  | .str i, e => (match vStr e with | some j => decide (j = i) | none => false)
  | .non, e => vNon e
  | .tup es, e => (match vTup e with | some xs => chkA T st es xs && decide (es.len ≤ 1000) | none => false)
  | .lst es, e => (match vLst e with | some xs => chkA T st es xs && decide (es.len ≤ 1000) | none => false)
  | .bin op a b, e => (match vBin e with | some (x, o, y) => decide (o = opOf op) && chkE T st a x && chkE T st b y | none => false)
  | .neg a, e => (match vNeg e with | some x => chkE T st a x | none => false)
  | .bnot a, e => (match vNot e with | some x => chkE T st a x | none => false)
  | .cmp op a b, e => (match vCmp e with | some (x, o, y) => decide (o = cOf op) && chkE T st a x && chkE T st b y && !behindInMarks (cOf op) y | none => false)
  | .chain p q a b c, e => (match vChain e with | some (x, o, u, y, z) => decide (o = cOf p) && decide (u = cOf q) && chkE T st a x && chkE T st b y && chkE T st c z && !lastMarks [cOf p, cOf q] [y, z] | none => false)
  | .band a b, e => (match vAnd e with | some (x, y) => chkE T st a x && chkE T st b y | none => false)
  | .bor a b, e => (match vOr e with | some (x, y) => chkE T st a x && chkE T st b y | none => false)
  | .ife t a b, e => (match vIf e with | some (u, x, y) => chkE T st t u && chkE T st a x && chkE T st b y | none => false)
  | .ix a i, e => (match vSub e with | some (x, y) => chkE T st a x && chkE T st i y && plainIx y | none => false)
  | .sl a lo hi, e => (match vSub e with
    | some (x, y) => (match vSl y with | some (l, h) => chkE T st a x && chkO T st lo l && chkO T st hi h | none => false)
    | none => false)
  | .fld a f, e => (match vFld e with | some (x, nm) => chkE T st a x && decide (T.attr f = nm) && plainBase x && (st.calm || isVarC a) | none => false)
  | .call g es, e => (match vCall e, T.fn g with | some (x, xs), some (y, _) => glOk st x && decide (y = x) && chkA T st es xs && st.calm | _, _ => false)
  | .new c es, e => (match vCall e, T.cl c with | some (x, xs), some (y, _) => glOk st x && decide (y = x) && chkA T st es xs && !xs.isEmpty && st.calm | _, _ => false)
  | .bi .lrange es, e => (match vCall e with
    | some (x, [y]) => (match vCall y with
      | some (z, xs) => decide (x = "list") && decide (z = "range") && glOk st "list" && glOk st "range" && T.free "list" && T.free "range" && chkA T st es xs && decide (xs.length = 1) && st.calm
      | none => false)
    | _ => false)
  | .bi .lenr es, e => (match vCall e with
    | some (x, [y]) => (match vCall y with
      | some (z, xs) => decide (x = "len") && decide (z = "range") && glOk st "len" && glOk st "range" && T.free "len" && T.free "range" && chkA T st es xs && decide (xs.length = 1)
      | none => false)
    | _ => false)
  | .bi b es, e => (match vCall e with | some (x, xs) => decide (x = biName b) && glOk st (biName b) && T.free (biName b) && chkA T st es xs && !xs.isEmpty && st.calm | none => false)
  | .keep a, e => chkE T st a e && plainT e
  | .isi a bs, e => (match vCall e with
    | some (x, [y, t]) => decide (x = "isinstance") && glOk st "isinstance" && T.free "isinstance" && chkE T st a y && plainArg y && (match vTup t with
      | some ts => chkTys T st bs ts && decide (bs.length ≤ 1000) && st.calm
      | none => chkTys T st bs [t] && (st.calm || isVarC a))
    | _ => false)
  | .callk g ks perm es fs, e => (match vCallK e, T.fn g with
    | some (x, xs, kw), some (y, _) => glOk st x && decide (y = x) && chkA T st es xs && chkK T st fs kw && decide (kw.map (·.arg) = ks.map some) && (T.kp g).contains (xs.length, ks, perm) && decide (es.len = xs.length) && decide (fs.len = ks.length) && st.calm
    | _, _ => false)
  | .newk c ks perm fs, e => (match vCallK e, T.cl c with
    | some (x, xs, kw), some (y, _) => xs.isEmpty && glOk st x && decide (y = x) && chkK T st fs kw && decide (kw.map (·.arg) = ks.map some) && (T.kc c).contains (1, ks, 0 :: perm.map (· + 1)) && decide (fs.len = ks.length) && st.calm
    | _, _ => false)
  | .lc g it c ce, e => (match vLc e with
    | some (elt, tg, iter, ifs, scope) => chkI T st tg it iter && st.calm && chkG (inner st scope) g tg && blkC st.N st.sc scope (ownOf st.N g) && notSet iter && chkE T (inner st scope) ce elt && (match ifs with
      | [] => chkO T (inner st scope) c none
      | [t] => chkO T (inner st scope) c (some t)
      | _ => false)
    | none => false)
  | .callh g a, e => (match vCall e, T.hf g with
    | some (x, [y]), some nm => glOk st x && decide (nm = x) && chkE T st a y && isVarC a
    | _, _ => false)
  | .lam g ce, e => (match vLam e, T.lf g with
    | some (x, ps, b, sc), some nm => glOk st x && decide (nm = x) && st.calm && st.lam && noPars ps && LamX.lamSB st.sc sc && chkE T (lamSt st sc) ce b
    | _, _ => false)
  | .act i, e => (match vCall0 e with | some x => visOk st i x && st.act && st.calm | none => false)
  | .dnil, e => vDnil e
  | .meth c g a es, e => (match vMethE e, T.mt g with
    | some (o, m, p, xs, q), some (c', y, _) => decide (c' = c) && decide (y = m) && chkE T st a o && chkA T st es xs && plainBase o && (p.endLine == q.line) && decide (xs.length < 30) && T.nf m && st.calm
    | _, _ => false)
  | .prop c g a, e => (match vFld e, T.pp g with
    | some (o, m), some (c', y, _) => decide (c' = c) && decide (y = m) && chkE T st a o && plainBase o && T.nf m && st.calm
    | _, _ => false)
  | .spc k c g a, e => (match vCall e, T.mt g with
    | some (x, [o]), some (c', y, _) => decide (c' = c) && decide (y = spDef k) && decide (x = spName k) && glOk st x && T.free x && chkE T st a o && plainArg o && st.calm && (!decide (k = .bool) || T.nb c)
    | _, _ => false)
  | .mb m a es, e => (match vMethE e with
    | some (o, nm, p, [x], q) => decide (nm = mbName m) && chkE T st a o && chkA T st es [x] && plainArg x && plainBase o && (p.endLine == q.line)
    | _ => false)
  | .fstr es, e => (match vFstr e with | some (a, b, r) => chkF T st es (a :: b :: r) | none => false)
  | .tups a es, e => (match vTups e with | some (x, xs) => chkE T st a x && chkA T st es xs | none => false)
def chkF (T : Tab) (st : Stat) : CEs → List Expr → Bool
  | .nil, [] => true
  | .cons ce ces, e :: es => (match vFmt e with
    | some x => chkE T st ce x && chkF T st ces es
    | none => (match ce, vStr e with | .str z, some y => decide (y = z) && chkF T st ces es | _, _ => false))
  | _, _ => false
def chkA (T : Tab) (st : Stat) : CEs → List Expr → Bool
  | .nil, [] => true
  | .cons ce ces, e :: es => chkE T st ce e && chkA T st ces es && plainArg e
  | _, _ => false
def chkK (T : Tab) (st : Stat) : CEs → List Keyword → Bool
  | .nil, [] => true
  | .cons ce ces, ⟨_, e, _⟩ :: es => chkE T st ce e && chkK T st ces es
  | _, _ => false
def chkO (T : Tab) (st : Stat) : CO → Option Expr → Bool
  | .none, none => true
  | .some c, some e => chkE T st c e
  | _, _ => false
def chkI (T : Tab) (st : Stat) (tg : Expr) : CI → Expr → Bool
  | .ce c, e => chkE T st c e
  | .range1 a, e => (match vCall e with | some (x, [y]) => decide (x = "range") && glOk st "range" && T.free "range" && chkE T st a y && plainArg y | _ => false)
  | .range2 a b, e => (match vCall e with | some (x, [y, z]) => decide (x = "range") && glOk st "range" && T.free "range" && chkE T st a y && plainArg y && chkE T st b z && plainArg z | _ => false)
  | .enum a, e => (match vCall e with | some (x, [y]) => decide (x = "enumerate") && glOk st "enumerate" && T.free "enumerate" && chkE T st a y && plainArg y && isTupE tg | _ => false)
  | .zip a b, e => (match vCall e with | some (x, [y, z]) => decide (x = "zip") && glOk st "zip" && T.free "zip" && chkE T st a y && plainArg y && chkE T st b z && plainArg z && isTupE tg | _ => false)
end
structure Wld (U : Univ) (T : Tab) : Prop where
  free : ∀ x, T.free x = true → U.mg x = none
  con : ∀ k x t, T.con k = some (x, t) → ∃ v u, U.mg x = some u ∧ RelV v u ∧ ∀ F r, Rep U.W F r t v
  attr : ∀ f, U.W.attr f = T.attr f
  isc : ∀ c x, T.isc c = some x → U.mg x = some (.ref (U.W.cadr c)) ∧ IsOk U.W (.own c)
  xat : U.W.xat = T.xat
  xown : ∀ c x, T.xn c = some (x, true) → ∃ D, U.W.xcl c = .ref D ∧ U.mg x = some (.ref D)
  xblt : ∀ c x, T.xn c = some (x, false) → ∃ n, U.W.xcl c = .type n ∧ bootBuiltins x = some (.type n) ∧ x ≠ "__name__"
  xis : ∀ c d b, T.xis c d = some b → PySem.W.exmOne U.W.K (U.W.xcl c) (U.W.xcl d) = some b ∧ PySem.W.kitOne U.W.K (U.W.xcl c) (U.W.xcl d) = some b
  xone : ∀ c f, T.xat c = some (some f) → ∃ D fI b, U.W.xcl c = .ref D ∧ XT.Txt U.W.K b D fI (U.W.attr f) ∧ XFld U.W.K D (U.W.attr f)
  xnil : ∀ c, T.xat c = some none → ∃ D b, U.W.xcl c = .ref D ∧ PySem.W.excIn U.W.K D (XT.Bs.tl b) (XT.Bs.new b) = true ∧ PySem.W.keepIn U.W.K (.ref D) = true ∧ PySem.W.subIn U.W.K (.ref D) (.type "BaseException") = some true ∧ PySem.W.typeIn U.W.K (.ref D) = some (.type "type")
  xhot : ∀ a cls d, U.W.hx a cls d → ∃ D, cls = .ref D ∧ ExcC U.W.K D
  xcls : ∀ c, T.xat c ≠ none → ∃ D, U.W.xcl c = .ref D ∧ ExcC U.W.K D
  nf : ∀ x, T.nf x = true → NoFld U.W x
  nb : ∀ c, T.nb c = true → PySem.W.findIn U.W.K (.ref (U.W.cadr c)) "__bool__" = some none
  mt : ∀ g c x n, T.mt g = some (c, x, n) → Cls U.W.K (U.W.cadr c)
  pp : ∀ g c x n, T.pp g = some (c, x, n) → Cls U.W.K (U.W.cadr c)
abbrev FnU (U : Univ) (k : Nat) (f : Addr) (fd : FuncData) (ps : List Str) (sp : Sp) : Prop := FnG U.P U.w U.W.K U.mg U.base k f fd ps sp
structure Lev (U : Univ) (T : Tab) (Cf : Nat → EC) (C : EC) (k : Nat) : Prop where
  con : ∀ j x t, T.con j = some (x, t) → C.con j = some t
  fn : ∀ g x n, T.fn g = some (x, n) → (∀ ts S, C.call g ts S ≠ .no → ts.length = n) ∧ ∃ f fd ps, U.mg x = some (.ref f) ∧ PySem.W.keepIn U.W.K (.ref f) = true ∧ Binds U.W.K fd ps [] ∧ (∀ q ∈ T.kp g, KBd fd ps q.1 q.2.1 q.2.2) ∧ FnU U k f fd ps (spF U.W n (C.call g))
  cl : ∀ c x n, T.cl c = some (x, n) → (∀ ts S, (C.new c ts S ≠ .no → ts.length + 1 = n) ∧ ∀ S' x, C.new c ts S = .ok x S' → ∃ o, x = .fresh o) ∧ U.mg x = some (.ref (U.W.cadr c)) ∧
    ∃ f, Mk U.W.K (U.W.cadr c) f ∧ ((∀ ts S, C.new c ts S = .no) ∨ ∃ j fd ps, k = j + 1 ∧ Binds U.W.K fd ps [] ∧ FnU U j f fd ps (spI U.W n c (C.new c)) ∧ ∀ q ∈ T.kc c, KBd fd ps q.1 q.2.1 q.2.2)
  xat : C.xat = T.xat
  xis : C.xis = T.xis
  mt : ∀ g c x n, T.mt g = some (c, x, n) → (∀ ts S, C.call g ts S ≠ .no → ts.length = n) ∧ ∃ f fd ps, Meth U.W.K (U.W.cadr c) x f ∧ Binds U.W.K fd ps [] ∧ FnU U k f fd ps (spF U.W n (C.call g))
  lw : ∀ g c x n, T.mt g = some (c, x, n) → (∀ ts S, C.low g ts S ≠ .no → ts.length = n) ∧ ((∀ ts S, C.low g ts S = .no) ∨ ∃ j f fd ps, k = j + 4 ∧ Meth U.W.K (U.W.cadr c) x f ∧ Binds U.W.K fd ps [] ∧ FnU U j f fd ps (spF U.W n (C.low g)))
  pp : ∀ g c x n, T.pp g = some (c, x, n) → (∀ ts S, C.low g ts S ≠ .no → ts.length = n) ∧ ((∀ ts S, C.low g ts S = .no) ∨ ∃ j p f fd ps, k = j + 4 ∧ PropOf U.W.K (U.W.cadr c) x p f ∧ Binds U.W.K fd ps [] ∧ FnU U j f fd ps (spF U.W n (C.low g)))
  hf : ∀ g x, T.hf g = some x → ∃ f fd ps, U.mg x = some (.ref f) ∧ PySem.W.keepIn U.W.K (.ref f) = true ∧ Binds U.W.K fd ps [] ∧ FnZ U.P U.w U.W.K U.mg U.base k f fd ps (spH U.W (C.callH g))
  lf : U.lams = true → ∀ g x, T.lf g = some x → (∀ e env S, C.callL g e env S = .no) ∨ ∃ j f fd ps run, k = j + 2 ∧ U.mg x = some (.ref f) ∧ PySem.W.keepIn U.W.K (.ref f) = true ∧ Binds U.W.K fd ps [] ∧ FnL U.P U.w U.W.K U.mg U.base j f fd ps U.W run ∧ ∀ e env S, C.callL g e env S = run (fun S' => evE (Cf j) e env S') S
def Low (U : Univ) (T : Tab) (Cf : Nat → EC) (k : Nat) : Prop := ∀ j, j < k → Lev U T Cf (Cf j) j
theorem XOk.nms {U : Univ} {st : Stat} {k : Nat} {X : Cx} (q : XOk U st k X) : Nms st X := ⟨q.N, q.nd, q.sc, q.fnn, q.calm⟩
theorem XOk.roomG {U : Univ} {st : Stat} {k : Nat} {X : Cx} (q : XOk U st k X) (hc : st.calm = true) : RoomG k X.A := ⟨q.room hc, q.gd⟩
theorem XOk.fnX {U : Univ} {st : Stat} {k j : Nat} {X : Cx} {f : Addr} {fd : FuncData} {ps : List Str} {sp : Sp} (q : XOk U st k X) (h : FnU U j f fd ps sp) : FnX X j f fd ps sp := by
  unfold FnX
  rw [q.prog, q.w, q.K, q.mg, q.base]
  exact h
theorem gl_ok {U : Univ} {st : Stat} {k : Nat} {X : Cx} (q : XOk U st k X) {x : Str} (h : glOk st x = true) : Gl X x ∧ (x == ("__debug__" : Str)) = false := by
  unfold glOk at h
  rw [Bool.and_eq_true] at h
  refine ⟨?_, by simpa using h.2⟩
  show X.env.scope.names.lookup x = _
  rw [q.sc]
  have h1 := h.1
  split at h1
  · assumption
  · cases h1
theorem vis_ok {U : Univ} {st : Stat} {k i : Nat} {X : Cx} (q : XOk U st k X) {x : Str} (h : visOk st i x = true) : X.N[i]? = some x ∧ Vis X.env.scope x ∧ (x == ("__debug__" : Str)) = false ∧ (x == ("__classdict__" : Str)) = false := by
  unfold visOk at h
  rw [Bool.and_eq_true, Bool.and_eq_true, Bool.and_eq_true] at h
  obtain ⟨⟨⟨h1, h2⟩, h3⟩, h4⟩ := h
  refine ⟨by rw [q.N]; exact of_decide_eq_true h1, ?_, by simpa using h3, by simpa using h4⟩
  rw [q.sc]
  split at h2
  · exact .inl (by assumption)
  · exact .inr (.inl (by assumption))
  · exact .inr (.inr (by assumption))
  · cases h2
theorem XOk.blk {U : Univ} {st : Stat} {k : Nat} {X : Cx} (q : XOk U st k X) (hc : st.calm = true) (scope : Scope) (s : Shared) (H : Hp) (D : Addr) (cl : List (Str × Addr)) (fp : List Addr) : XOk U (inner st scope) k (X.blk s H scope (compEnvC scope cl D X.env) fp) :=
  ⟨q.prog, q.w, q.K, q.mg, q.base, q.N, q.nd, by rw [show (X.blk s H scope (compEnvC scope cl D X.env) fp).env.scope = relS scope X.env.scope from rfl, q.sc]; rfl, rfl, q.calm, q.nh, q.room, q.roomH, q.gd, fun a cls d z => absurd z (q.nh hc a cls d), fun z => nomatch z⟩
theorem XOk.lamB {U : Univ} {st : Stat} {j k : Nat} {X : Cx} (q : XOk U st k X) (hc : st.calm = true) {scope : Scope} {A : Around} {outer : List PySem.Env} {s : Shared} {H : Hp} {E : XK} {f c' : Addr} (hr : RoomG j (A.deeper (LamX.lamEnv X scope s.heap.objs.size f c'))) : XOk U (lamSt st scope) j (LamX.lamCx X A outer s H E scope f c') :=
  ⟨q.prog, q.w, q.K, q.mg, q.base, q.N, q.nd, rfl, rfl, fun _ => rfl, fun _ => q.nh hc, fun _ => hr.room, L2H.roomH_of hr.room, hr.gd, fun a cls d z => absurd z (q.nh hc a cls d), fun z => nomatch z⟩
theorem plains {T : Tab} {st : Stat} : ∀ {ces : CEs} {es : List Expr}, chkA T st ces es = true → es.all plainArg = true
  | .nil, [], _ => rfl
  | .nil, e :: es, h => by unfold chkA at h; cases h
  | .cons c cs, [], h => by unfold chkA at h; cases h
  | .cons c cs, e :: es, h => by
    unfold chkA at h
    rw [Bool.and_eq_true, Bool.and_eq_true] at h
    rw [List.all_cons, h.2, plains h.1.2]; rfl
end Z
set_option Elab.async false
set_option linter.all false
set_option maxRecDepth 100000
set_option maxHeartbeats 4000000
namespace Z
open PySem PySem.Spec PyProof.Rows L2
section
variable {U : Univ} {T : Tab} {Cf : Nat → EC} {C : EC} {k : Nat} {wx : WX}
def ActS (U : Univ) (C : EC) (st : Stat) (X : Cx) : Prop := st.act = true → ActOk U.W C X
def Trip (U : Univ) (wx : WX) (C : EC) (X : Cx) (e : Expr) (ce : CE) : Prop := SE U.W wx C X e ce ∧ ST U.W wx C X e ce ∧ (isBop e = true → SW U.W wx C X e ce)
theorem trip {st : Stat} {X : Cx} {e : Expr} {ce : CE} (q : XOk U st k X) (h : SE U.W wx C X e ce) (he : ∀ whole, isTrue e X.env whole = (do let v ← whole; standAt e.pos; holding [v] (truthy v))) (nb : isBop e = false) : Trip U wx C X e ce :=
  ⟨h, t_any q.K h he, fun z => by rw [nb] at z; cases z⟩
theorem units65 {st : Stat} {X : Cx} (q : XOk U st k X) : X.A.units + 65 < cLine := by have := q.roomH.un; omega
theorem o_imp {st : Stat} {X : Cx} {e : Option Expr} {c : CO} (h : SO U.W wx C X e c) : SO U.W wx C X e c := h
theorem con_rep (Wd : Wld U T) (L : Lev U T Cf C k) {st : Stat} {X : Cx} (q : XOk U st k X) {j : Nat} {x : Str} {t : Z.T} {pos : Pos} (hc : T.con j = some (x, t)) (hg : Gl X x) (hd : (x == ("__debug__" : Str)) = false) : SE U.W wx C X (.Name x pos) (.con j) := by
  obtain ⟨v, u, hm, rv, rt⟩ := Wd.con j x t hc
  refine (pe_glob hg (by rw [q.mg]; exact hm) rv hd).imp fun σ H Q h => ?_
  obtain ⟨F, r, env, S, g, h⟩ := h
  obtain ⟨y, e1, p⟩ := Rs.of (show Rs U.W wx F r H σ env (Out.of S ((C.con j).map R.val)) _ from h)
  rw [L.con j x t hc] at e1
  cases e1
  exact Post.same p g (rt F r)
theorem pts_of {X : Cx} {ifs : List Expr} {c : CO} {W : WT} (h : (ifs = [] ∧ c = .none) ∨ ∃ t cc, ifs = [t] ∧ c = .some cc ∧ ST W wx C X t cc) : PTs X ifs (tC W wx C c) := by
  rcases h with ⟨rfl, rfl⟩ | ⟨t, cc, rfl, rfl, h⟩
  · exact pts_nil
  · exact pts_one h
theorem ty_ok (Wd : Wld U T) {st : Stat} {X : Cx} (q : XOk U st k X) {b : BTy} {e : Expr} (h : chkTy T st b e = true) : NamesTy U.W X e b ∧ IsOk U.W b := by
  unfold chkTy at h
  split at h
  · rename_i x hx
    obtain ⟨p, rfl⟩ := vName_ok hx
    rw [Bool.and_eq_true] at h
    obtain ⟨g1, g2⟩ := gl_ok q h.1
    have h2 := h.2
    cases b with
    | own c =>
      obtain ⟨hm, ok⟩ := Wd.isc c x (of_decide_eq_true h2)
      exact ⟨⟨pe_glob g1 (by rw [q.mg]; exact hm) rfl g2, rfl⟩, ok⟩
    | exc c =>
      have h2 : (match T.xn c with | some (y, true) => decide (y = x) | some (y, false) => decide (y = x) && T.free x | none => false) = true := h2
      cases hxn : T.xn c with
      | none => rw [hxn] at h2; cases h2
      | some yb =>
        obtain ⟨y, b⟩ := yb
        rw [hxn] at h2
        cases b with
        | true =>
          have e1 := of_decide_eq_true (show decide (y = x) = true from h2)
          subst e1
          obtain ⟨D, hD, hm⟩ := Wd.xown c _ hxn
          refine ⟨⟨?_, rfl⟩, ?_⟩
          · show PE X _ (L2.tC (match U.W.xcl c with | .ref a => V.ref a | .type n => .ty n | _ => .non))
            rw [hD]
            exact pe_glob g1 (by rw [q.mg]; exact hm) rfl g2
          · show (match U.W.xcl c with | .ref _ => True | .type _ => True | _ => False)
            rw [hD]; trivial
        | false =>
          have h2 : (decide (y = x) && T.free x) = true := h2
          rw [Bool.and_eq_true] at h2
          have e1 := of_decide_eq_true h2.1
          subst e1
          obtain ⟨n, hD, hv, hn⟩ := Wd.xblt c _ hxn
          refine ⟨⟨?_, rfl⟩, ?_⟩
          · show PE X _ (L2.tC (match U.W.xcl c with | .ref a => V.ref a | .type n => .ty n | _ => .non))
            rw [hD]
            exact pe_bltn g1 (by rw [q.mg]; exact Wd.free _ h2.2) (u := .type n) hv rfl hn g2
          · show (match U.W.xcl c with | .ref _ => True | .type _ => True | _ => False)
            rw [hD]; trivial
    | int =>
      have h2 : (decide (x = "int") && T.free x) = true := h2
      rw [Bool.and_eq_true] at h2
      have e1 := of_decide_eq_true h2.1
      subst e1
      exact ⟨⟨pe_bltn g1 (by rw [q.mg]; exact Wd.free _ h2.2) (u := .type "int") (by decide +kernel) rfl (by decide +kernel) g2, rfl⟩, trivial⟩
    | bool =>
      have h2 : (decide (x = "bool") && T.free x) = true := h2
      rw [Bool.and_eq_true] at h2
      have e1 := of_decide_eq_true h2.1
      subst e1
      exact ⟨⟨pe_bltn g1 (by rw [q.mg]; exact Wd.free _ h2.2) (u := .type "bool") (by decide +kernel) rfl (by decide +kernel) g2, rfl⟩, trivial⟩
    | str =>
      have h2 : (decide (x = "str") && T.free x) = true := h2
      rw [Bool.and_eq_true] at h2
      have e1 := of_decide_eq_true h2.1
      subst e1
      exact ⟨⟨pe_bltn g1 (by rw [q.mg]; exact Wd.free _ h2.2) (u := .type "str") (by decide +kernel) rfl (by decide +kernel) g2, rfl⟩, trivial⟩
    | tuple =>
      have h2 : (decide (x = "tuple") && T.free x) = true := h2
      rw [Bool.and_eq_true] at h2
      have e1 := of_decide_eq_true h2.1
      subst e1
      exact ⟨⟨pe_bltn g1 (by rw [q.mg]; exact Wd.free _ h2.2) (u := .type "tuple") (by decide +kernel) rfl (by decide +kernel) g2, rfl⟩, trivial⟩
    | list =>
      have h2 : (decide (x = "list") && T.free x) = true := h2
      rw [Bool.and_eq_true] at h2
      have e1 := of_decide_eq_true h2.1
      subst e1
      exact ⟨⟨pe_bltn g1 (by rw [q.mg]; exact Wd.free _ h2.2) (u := .type "list") (by decide +kernel) rfl (by decide +kernel) g2, rfl⟩, trivial⟩
  · cases h
theorem tys_ok (Wd : Wld U T) {st : Stat} {X : Cx} (q : XOk U st k X) : ∀ {bs : List BTy} {es : List Expr}, chkTys T st bs es = true → Paired (NamesTy U.W X) es bs ∧ ∀ b ∈ bs, IsOk U.W b
  | [], [], _ => ⟨.nil, fun b hb => nomatch hb⟩
  | [], e :: es, h => by unfold chkTys at h; cases h
  | b :: bs, [], h => by unfold chkTys at h; cases h
  | b :: bs, e :: es, h => by
    unfold chkTys at h
    rw [Bool.and_eq_true] at h
    obtain ⟨z1, z2⟩ := ty_ok Wd q h.1
    obtain ⟨z3, z4⟩ := tys_ok Wd q h.2
    exact ⟨.cons z1 z3, fun c hc => by
      rcases List.mem_cons.mp hc with z | z
      · rw [z]; exact z2
      · exact z4 c z⟩
abbrev w0 : WX := fun _ _ _ _ => False
mutual
theorem sndE : ∀ (ce : CE) {U : Univ} {C : EC} {k : Nat} (Wd : Wld U T) (LL : Low U T Cf k) (L : Lev U T Cf C k) {st : Stat} {X : Cx} {wx : WX} {e : Expr}, XOk U st k X → Takes X wx → ActS U C st X → chkE T st ce e = true → Trip U wx C X e ce
  | .var i, U, C, k, Wd, LL, L, st, X, wx, e, q, tk, ac, h => by
    unfold chkE at h
    split at h
    · rename_i x hx
      obtain ⟨p, rfl⟩ := vName_ok hx
      obtain ⟨h1, h2, h3, h4⟩ := vis_ok q h
      exact trip q (e_var h1 h2 h3 h4) (fun _ => rfl) rfl
    · cases h
  | .con j, U, C, k, Wd, LL, L, st, X, wx, e, q, tk, ac, h => by
    unfold chkE at h
    split at h
    · rename_i x y t hx hc
      obtain ⟨p, rfl⟩ := vName_ok hx
      rw [Bool.and_eq_true] at h
      have e1 := of_decide_eq_true h.2
      subst e1
      obtain ⟨h1, h2⟩ := gl_ok q h.1
      exact trip q (con_rep Wd L q hc h1 h2) (fun _ => rfl) rfl
    · cases h
  | .int i, U, C, k, Wd, LL, L, st, X, wx, e, q, tk, ac, h => by
    unfold chkE at h
    split at h
    · rename_i j hx
      obtain ⟨kk, p, rfl⟩ := vInt_ok hx
      have e1 := of_decide_eq_true h
      subst e1
      exact trip q e_int (fun _ => rfl) rfl
    · cases h
  | .bl i, U, C, k, Wd, LL, L, st, X, wx, e, q, tk, ac, h => by
    unfold chkE at h
    split at h
    · rename_i j hx
      obtain ⟨kk, p, rfl⟩ := vBl_ok hx
      have e1 : j = i := by simpa using h
      subst e1
      exact trip q e_bl (fun _ => rfl) rfl
    · cases h
  | .str i, U, C, k, Wd, LL, L, st, X, wx, e, q, tk, ac, h => by
    unfold chkE at h
    split at h
    · rename_i j hx
      obtain ⟨kk, p, rfl⟩ := vStr_ok hx
      have e1 := of_decide_eq_true h
      subst e1
      exact trip q e_str (fun _ => rfl) rfl
    · cases h
  | .non, U, C, k, Wd, LL, L, st, X, wx, e, q, tk, ac, h => by
    unfold chkE at h
    obtain ⟨kk, p, rfl⟩ := vNon_ok h
    exact trip q e_non (fun _ => rfl) rfl
  | .tup es, U, C, k, Wd, LL, L, st, X, wx, e, q, tk, ac, h => by
    unfold chkE at h
    split at h
    · rename_i xs hx
      obtain ⟨kk, p, rfl⟩ := vTup_ok hx
      rw [Bool.and_eq_true] at h
      exact trip q (e_tup (sndA es Wd LL L q tk ac h.1).1 (of_decide_eq_true h.2)) (fun _ => rfl) rfl
    · cases h
  | .lst es, U, C, k, Wd, LL, L, st, X, wx, e, q, tk, ac, h => by
    unfold chkE at h
    split at h
    · rename_i xs hx
      obtain ⟨p, rfl⟩ := vLst_ok hx
      rw [Bool.and_eq_true] at h
      exact trip q (e_lst (sndA es Wd LL L q tk ac h.1).1 (of_decide_eq_true h.2)) (fun _ => rfl) rfl
    · cases h
  | .bin op a b, U, C, k, Wd, LL, L, st, X, wx, e, q, tk, ac, h => by
    unfold chkE at h
    split at h
    · rename_i x o y hx
      obtain ⟨p, rfl⟩ := vBin_ok hx
      rw [Bool.and_eq_true, Bool.and_eq_true] at h
      have e1 := of_decide_eq_true h.1.1
      subst e1
      exact trip q (e_bin q.K op (sndE a Wd LL L q tk ac h.1.2).1 (sndE b Wd LL L q tk ac h.2).1) (fun _ => rfl) rfl
    · cases h
  | .neg a, U, C, k, Wd, LL, L, st, X, wx, e, q, tk, ac, h => by
    unfold chkE at h
    split at h
    · rename_i x hx
      obtain ⟨p, rfl⟩ := vNeg_ok hx
      exact trip q (e_neg (sndE a Wd LL L q tk ac h).1) (fun _ => rfl) rfl
    · cases h
  | .bnot a, U, C, k, Wd, LL, L, st, X, wx, e, q, tk, ac, h => by
    unfold chkE at h
    split at h
    · rename_i x hx
      obtain ⟨p, rfl⟩ := vNot_ok hx
      have s := sndE a Wd LL L q tk ac h
      exact ⟨e_bnot q.K s.1, t_bnot s.2.1, fun z => by cases z⟩
    · cases h
  | .cmp op a b, U, C, k, Wd, LL, L, st, X, wx, e, q, tk, ac, h => by
    unfold chkE at h
    split at h
    · rename_i x o y hx
      obtain ⟨p, rfl⟩ := vCmp_ok hx
      rw [Bool.and_eq_true, Bool.and_eq_true, Bool.and_eq_true] at h
      have e1 := of_decide_eq_true h.1.1.1
      subst e1
      have hm : behindInMarks (cOf op) y = false := by simpa using h.2
      have sa := (sndE a Wd LL L q tk ac h.1.1.2).1
      have sb := (sndE b Wd LL L q tk ac h.1.2).1
      exact ⟨e_cmp q.K (units65 q) op sa sb hm, t_cmp q.K (units65 q) op sa sb hm, fun z => by cases z⟩
    · cases h
  | .chain o1 o2 a b c, U, C, k, Wd, LL, L, st, X, wx, e, q, tk, ac, h => by
    unfold chkE at h
    split at h
    · rename_i x o u y z hx
      obtain ⟨p, rfl⟩ := vChain_ok hx
      rw [Bool.and_eq_true, Bool.and_eq_true, Bool.and_eq_true, Bool.and_eq_true, Bool.and_eq_true] at h
      have e1 := of_decide_eq_true h.1.1.1.1.1
      have e2 := of_decide_eq_true h.1.1.1.1.2
      subst e1 e2
      have hm : lastMarks [cOf o1, cOf o2] [y, z] = false := by simpa using h.2
      have sa := (sndE a Wd LL L q tk ac h.1.1.1.2).1
      have sb := (sndE b Wd LL L q tk ac h.1.1.2).1
      have sc := (sndE c Wd LL L q tk ac h.1.2).1
      exact ⟨e_chain q.K (units65 q) o1 o2 sa sb sc hm, t_chain q.K (units65 q) o1 o2 sa sb sc hm, fun z => by cases z⟩
    · cases h
  | .band a b, U, C, k, Wd, LL, L, st, X, wx, e, q, tk, ac, h => by
    unfold chkE at h
    split at h
    · rename_i x y hx
      rw [Bool.and_eq_true] at h
      have sa := sndE a Wd LL L q tk ac h.1
      have sb := sndE b Wd LL L q tk ac h.2
      rcases vAnd_ok hx with ⟨p, rfl⟩ | ⟨c, d, r, p, rfl, rfl⟩
      · have w := w_band sa.2.1 (pw_and1 (pos := p) sb.2.1)
        exact ⟨e_band q.K sa.1 (pe_one sb.1), w.pt, fun _ => w⟩
      · have w := w_band sa.2.1 (sb.2.2 rfl)
        exact ⟨e_band q.K sa.1 sb.1, w.pt, fun _ => w⟩
    · cases h
  | .bor a b, U, C, k, Wd, LL, L, st, X, wx, e, q, tk, ac, h => by
    unfold chkE at h
    split at h
    · rename_i x y hx
      rw [Bool.and_eq_true] at h
      have sa := sndE a Wd LL L q tk ac h.1
      have sb := sndE b Wd LL L q tk ac h.2
      rcases vOr_ok hx with ⟨p, rfl⟩ | ⟨c, d, r, p, rfl, rfl⟩
      · have w := w_bor sa.2.1 (pw_or1 (pos := p) sb.2.1)
        exact ⟨e_bor q.K sa.1 (pe_one sb.1), w.pt, fun _ => w⟩
      · have w := w_bor sa.2.1 (sb.2.2 rfl)
        exact ⟨e_bor q.K sa.1 sb.1, w.pt, fun _ => w⟩
    · cases h
  | .ife t a b, U, C, k, Wd, LL, L, st, X, wx, e, q, tk, ac, h => by
    unfold chkE at h
    split at h
    · rename_i u x y hx
      obtain ⟨p, rfl⟩ := vIf_ok hx
      rw [Bool.and_eq_true, Bool.and_eq_true] at h
      have s0 := sndE t Wd LL L q tk ac h.1.1
      have sa := sndE a Wd LL L q tk ac h.1.2
      have sb := sndE b Wd LL L q tk ac h.2
      exact ⟨e_ife s0.2.1 sa.1 sb.1, t_ife s0.2.1 sa.2.1 sb.2.1, fun z => by cases z⟩
    · cases h
  | .ix a i, U, C, k, Wd, LL, L, st, X, wx, e, q, tk, ac, h => by
    unfold chkE at h
    split at h
    · rename_i x y hx
      obtain ⟨p, rfl⟩ := vSub_ok hx
      rw [Bool.and_eq_true, Bool.and_eq_true] at h
      exact trip q (e_ix q.K (sndE a Wd LL L q tk ac h.1.1).1 (sndE i Wd LL L q tk ac h.1.2).1 h.2) (fun _ => rfl) rfl
    · cases h
  | .sl a lo hi, U, C, k, Wd, LL, L, st, X, wx, e, q, tk, ac, h => by
    unfold chkE at h
    split at h
    · rename_i x y hx
      split at h
      · rename_i l hh hy
        obtain ⟨p, rfl⟩ := vSub_ok hx
        obtain ⟨p2, rfl⟩ := vSl_ok hy
        rw [Bool.and_eq_true, Bool.and_eq_true] at h
        exact trip q (e_sl q.K (sndE a Wd LL L q tk ac h.1.1).1 (sndO lo Wd LL L q tk ac h.1.2).1 (sndO hi Wd LL L q tk ac h.2).1) (fun _ => rfl) rfl
      · cases h
    · cases h
  | .fld a f, U, C, k, Wd, LL, L, st, X, wx, e, q, tk, ac, h => by
    unfold chkE at h
    split at h
    · rename_i x nm hx
      obtain ⟨p, rfl⟩ := vFld_ok hx
      rw [Bool.and_eq_true, Bool.and_eq_true, Bool.and_eq_true] at h
      obtain ⟨h, hcv⟩ := h
      have e1 : U.W.attr f = nm := (Wd.attr f).trans (of_decide_eq_true h.1.2)
      subst e1
      have sa := (sndE a Wd LL L q tk ac h.1.1).1
      cases hc : st.calm with
      | true => exact trip q (e_fld q.K (q.nh hc) sa h.2) (fun _ => rfl) rfl
      | false =>
        rw [hc] at hcv
        cases a with
        | var i =>
          have hv := h.1.1
          unfold chkE at hv
          split at hv
          · rename_i y hy
            obtain ⟨p', rfl⟩ := vName_ok hy
            exact trip q (e_fldV q.K q.hot (fun c g z => by
              rw [Wd.xat] at z
              obtain ⟨D, fI, b, z1, z2, z3⟩ := Wd.xone c g z
              exact ⟨D, z1, z3⟩) (L.xat.trans Wd.xat.symm) sa) (fun _ => rfl) rfl
          · cases hv
        | _ => cases hcv
    · cases h
  | .call g es, U, C, k, Wd, LL, L, st, X, wx, e, q, tk, ac, h => by
    unfold chkE at h
    split at h
    · rename_i x xs y n hx hf
      obtain ⟨p, p2, rfl⟩ := vCall_ok hx
      rw [Bool.and_eq_true, Bool.and_eq_true, Bool.and_eq_true] at h
      obtain ⟨h, hcm⟩ := h
      have e1 := of_decide_eq_true h.1.2
      subst e1
      obtain ⟨g1, g2⟩ := gl_ok q h.1.1
      obtain ⟨hn, f, fd, ps, hm, hk, hb, _, F⟩ := L.fn g y n hf
      have F' := q.fnX F
      have sa := (sndA es Wd LL L q tk ac h.2).1
      have pl := plains h.2
      cases xs with
      | nil =>
        cases es with
        | nil => exact trip q (e_call0 tk F' hn (q.roomG hcm) g1 (by rw [q.mg]; exact hm) (by rw [q.K]; exact hk) (by rw [q.K]; exact hb) g2) (fun _ => rfl) rfl
        | cons c cs => exact absurd h.2 (by unfold chkA; simp)
      | cons x0 xs =>
        rw [List.all_cons, Bool.and_eq_true] at pl
        exact trip q (e_call tk F' hn (q.roomG hcm) g1 (by rw [q.mg]; exact hm) (by rw [q.K]; exact hk) (by rw [q.K]; exact hb) sa pl.1 pl.2 g2) (fun _ => rfl) rfl
    · cases h
  | .new c es, U, C, k, Wd, LL, L, st, X, wx, e, q, tk, ac, h => by
    unfold chkE at h
    split at h
    · rename_i x xs y n hx hf
      obtain ⟨p, p2, rfl⟩ := vCall_ok hx
      rw [Bool.and_eq_true, Bool.and_eq_true, Bool.and_eq_true, Bool.and_eq_true] at h
      obtain ⟨h, hcm⟩ := h
      have e1 := of_decide_eq_true h.1.1.2
      subst e1
      obtain ⟨g1, g2⟩ := gl_ok q h.1.1.1
      obtain ⟨hn, hm, alt⟩ := L.cl c y n hf
      have sa := (sndA es Wd LL L q tk ac h.1.2).1
      have pl := plains h.1.2
      cases xs with
      | nil => exact absurd h.2 (by simp)
      | cons x0 xs =>
        rw [List.all_cons, Bool.and_eq_true] at pl
        obtain ⟨f, M, alt⟩ := alt
        rcases alt with no | ⟨j, fd, ps, rfl, hb, F, _⟩
        · exact trip q (e_new0 no (by rw [q.K]; exact M.kp) g1 (by rw [q.mg]; exact hm) sa pl.1 pl.2 g2) (fun _ => rfl) rfl
        · exact trip q (e_new tk (by rw [q.K]; exact M) (q.fnX F) hn (q.roomG hcm) g1 (by rw [q.mg]; exact hm) (by rw [q.K]; exact hb) sa pl.1 pl.2 g2) (fun _ => rfl) rfl
    · cases h
  | .bi b es, U, C, k, Wd, LL, L, st, X, wx, e, q, tk, ac, h => by
    by_cases hb : b = .lrange
    · subst hb
      unfold chkE at h
      split at h
      · rename_i x y hx
        split at h
        · rename_i z xs hy
          obtain ⟨p, p2, rfl⟩ := vCall_ok hx
          obtain ⟨p3, p4, rfl⟩ := vCall_ok hy
          simp only [Bool.and_eq_true] at h
          obtain ⟨⟨⟨⟨⟨⟨⟨⟨h1, h2⟩, h3⟩, h4⟩, h5⟩, h6⟩, h7⟩, h8⟩, hcm⟩ := h
          have e1 := of_decide_eq_true h1
          have e2 := of_decide_eq_true h2
          subst e1 e2
          have hl := of_decide_eq_true h8
          match xs, hl, h7 with
          | [a], _, h7 =>
            match es, h7 with
            | .cons c .nil, h7 =>
              have h7 : (chkE T st c a && true && plainArg a) = true := h7
              rw [Bool.and_eq_true, Bool.and_eq_true] at h7
              exact trip q (e_lrange (q.calm hcm) (gl_ok q h3).1 (by rw [q.mg]; exact Wd.free _ h5) (gl_ok q h4).1 (by rw [q.mg]; exact Wd.free _ h6) (sndE c Wd LL L q tk ac h7.1.1).1 h7.2) (fun _ => rfl) rfl
            | .cons c (.cons d r), h7 =>
              have h7 : (chkE T st c a && false && plainArg a) = true := h7
              simp at h7
            | .nil, h7 =>
              have h7 : false = true := h7
              cases h7
        · cases h
      · cases h
    · by_cases hb2 : b = .lenr
      · subst hb2
        unfold chkE at h
        split at h
        · rename_i x y hx
          split at h
          · rename_i z xs hy
            obtain ⟨p, p2, rfl⟩ := vCall_ok hx
            obtain ⟨p3, p4, rfl⟩ := vCall_ok hy
            simp only [Bool.and_eq_true] at h
            obtain ⟨⟨⟨⟨⟨⟨⟨h1, h2⟩, h3⟩, h4⟩, h5⟩, h6⟩, h7⟩, h8⟩ := h
            have e1 := of_decide_eq_true h1
            have e2 := of_decide_eq_true h2
            subst e1 e2
            have hl := of_decide_eq_true h8
            match xs, hl, h7 with
            | [a], _, h7 =>
              match es, h7 with
              | .cons c .nil, h7 =>
                have h7 : (chkE T st c a && true && plainArg a) = true := h7
                rw [Bool.and_eq_true, Bool.and_eq_true] at h7
                exact trip q (e_lenr (gl_ok q h3).1 (by rw [q.mg]; exact Wd.free _ h5) (gl_ok q h4).1 (by rw [q.mg]; exact Wd.free _ h6) (sndE c Wd LL L q tk ac h7.1.1).1 h7.2) (fun _ => rfl) rfl
              | .cons c (.cons d r), h7 =>
                have h7 : (chkE T st c a && false && plainArg a) = true := h7
                simp at h7
              | .nil, h7 =>
                have h7 : false = true := h7
                cases h7
          · cases h
        · cases h
      have h' : (match vCall e with | some (x, xs) => decide (x = biName b) && glOk st (biName b) && T.free (biName b) && chkA T st es xs && !xs.isEmpty && st.calm | none => false) = true := by
        cases b <;> first | exact absurd rfl hb | exact absurd rfl hb2 | (unfold chkE at h; exact h)
      clear h
      cases hx : vCall e with
      | none => rw [hx] at h'; cases h'
      | some xx =>
        obtain ⟨x, xs⟩ := xx
        rw [hx] at h'
        obtain ⟨p, p2, rfl⟩ := vCall_ok hx
        simp only [Bool.and_eq_true] at h'
        obtain ⟨⟨⟨⟨⟨h1, h2⟩, h3⟩, h4⟩, h5⟩, hcm⟩ := h'
        have e1 := of_decide_eq_true h1
        subst e1
        have pl := plains h4
        cases xs with
        | nil => cases h5
        | cons x0 xs =>
          rw [List.all_cons, Bool.and_eq_true] at pl
          exact trip q (e_bi q.K (q.calm hcm) q.gd (units65 q) b hb hb2 (gl_ok q h2).1 (by rw [q.mg]; exact Wd.free _ h3) (sndA es Wd LL L q tk ac h4).2 pl.1 pl.2) (fun _ => rfl) rfl
  | .keep a, U, C, k, Wd, LL, L, st, X, wx, e, q, tk, ac, h => by
    have h : (chkE T st a e && plainT e) = true := h
    rw [Bool.and_eq_true] at h
    have pt := h.2
    exact trip q (e_keep (sndE a Wd LL L q tk ac h.1).1) (fun w => by cases e <;> first | rfl | cases pt) (by cases e <;> first | rfl | cases pt)
  | .isi a bs, U, C, k, Wd, LL, L, st, X, wx, e, q, tk, ac, h => by
    unfold chkE at h
    split at h
    · rename_i x y t hx
      obtain ⟨p, p2, rfl⟩ := vCall_ok hx
      simp only [Bool.and_eq_true] at h
      obtain ⟨⟨⟨⟨⟨h1, h2⟩, h3⟩, h4⟩, h5⟩, h6⟩ := h
      have e1 := of_decide_eq_true h1
      subst e1
      have g1 := (gl_ok q h2).1
      have m1 : X.mg "isinstance" = none := by rw [q.mg]; exact Wd.free _ h3
      have sa := (sndE a Wd LL L q tk ac h4).1
      split at h6
      · rename_i ts ht
        obtain ⟨kk, tp, rfl⟩ := vTup_ok ht
        rw [Bool.and_eq_true, Bool.and_eq_true] at h6
        obtain ⟨h6, hcm⟩ := h6
        obtain ⟨z1, z2⟩ := tys_ok Wd q h6.1
        exact trip q (e_isiN q.K (q.nh hcm) g1 m1 sa h5 z1 (of_decide_eq_true h6.2) z2) (fun _ => rfl) rfl
      · rw [Bool.and_eq_true] at h6
        obtain ⟨h6, hcv⟩ := h6
        obtain ⟨z1, z2⟩ := tys_ok Wd q h6
        cases z1 with
        | cons z3 z4 =>
          cases z4
          cases hc : st.calm with
          | true => exact trip q (e_isi1 q.K (q.nh hc) g1 m1 sa h5 z3 (z2 _ List.mem_cons_self)) (fun _ => rfl) rfl
          | false =>
            rw [hc] at hcv
            cases a with
            | var i =>
              have hv := h4
              unfold chkE at hv
              split at hv
              · rename_i yy hy
                obtain ⟨p', rfl⟩ := vName_ok hy
                exact trip q (e_isiV q.K q.hot Wd.xhot (fun c d b z => (Wd.xis c d b (by rw [← L.xis]; exact z)).2) g1 m1 sa z3 (z2 _ List.mem_cons_self)) (fun _ => rfl) rfl
              · cases hv
            | _ => cases hcv
    · cases h
  | .callk g ks perm es fs, U, C, k, Wd, LL, L, st, X, wx, e, q, tk, ac, h => by
    unfold chkE at h
    split at h
    · rename_i x xs kw y n hx hf
      obtain ⟨p, p2, rfl⟩ := vCallK_ok hx
      simp only [Bool.and_eq_true] at h
      obtain ⟨⟨⟨⟨⟨⟨⟨⟨h1, h2⟩, h3⟩, h4⟩, h5⟩, h6⟩, h7⟩, h8⟩, hcm⟩ := h
      have e1 := of_decide_eq_true h2
      subst e1
      obtain ⟨g1, g2⟩ := gl_ok q h1
      obtain ⟨hn, f, fd, ps, hm, hk, _, kb, F⟩ := L.fn g y n hf
      have hkb := kb (xs.length, ks, perm) (by simpa using h6)
      exact trip q (e_callk tk (q.fnX F) hn (q.roomG hcm) g1 (by rw [q.mg]; exact hm) (by rw [q.K]; exact hk) hkb (of_decide_eq_true h5) (sndA es Wd LL L q tk ac h3).1 (sndK fs Wd LL L q tk ac h4) (of_decide_eq_true h7) (of_decide_eq_true h8) (plains h3) g2) (fun _ => rfl) rfl
    · cases h
  | .lc g it c ce, U, C, k, Wd, LL, L, st, X, wx, e, q, tk, ac, h => by
    unfold chkE at h
    split at h
    · rename_i elt tg iter ifs scope hx
      obtain ⟨p, rfl⟩ := vLc_ok hx
      simp only [Bool.and_eq_true] at h
      obtain ⟨⟨⟨⟨⟨⟨h1, hcm⟩, h2⟩, h3⟩, h4⟩, h5⟩, h6⟩ := h
      have hs : ∀ x, foldedSetIterable iter X.env x = pure x := fun x => by cases iter <;> first | rfl | (cases h4; done)
      have bo : BlkOk X.N X.env.scope scope (ownOf st.N g) := by rw [q.N, q.sc]; exact blkOk_by h3
      have hw : (ownOf st.N g).map (·.2) = slotsG g := by
        unfold ownOf
        rw [List.map_map]
        exact List.map_id _
      have hg : ∀ (s : Shared) (H : Hp) (D : Addr) (cl : List (Str × Addr)) (fp : List Addr), PG (X.blk s H scope (compEnvC scope cl D X.env) fp) tg (tGG U.W (slotsG g) (setG g)) := fun s H D cl fp => chkG_ok (q.blk hcm scope s H D cl fp).nms (q.blk hcm scope s H D cl fp).K h2
      have he : ∀ (s : Shared) (H : Hp) (D : Addr) (cl : List (Str × Addr)) (fp : List Addr), SE U.W w0 C (X.blk s H scope (compEnvC scope cl D X.env) fp) elt ce := fun s H D cl fp => (sndE ce Wd LL L (q.blk hcm scope s H D cl fp) L2.takes0 (fun z => nomatch z) h5).1
      have ht : ∀ (s : Shared) (H : Hp) (D : Addr) (cl : List (Str × Addr)) (fp : List Addr), PTs (X.blk s H scope (compEnvC scope cl D X.env) fp) ifs (tC U.W w0 C c) := fun s H D cl fp => pts_of (by
        split at h6
        · exact .inl ⟨rfl, (sndO c Wd LL L (q.blk hcm scope s H D cl fp) L2.takes0 (fun z => nomatch z) h6).2.1 rfl⟩
        · rename_i t
          obtain ⟨cc, z1, z2⟩ := (sndO c Wd LL L (q.blk hcm scope s H D cl fp) L2.takes0 (fun z => nomatch z) h6).2.2 t rfl
          exact .inr ⟨t, cc, rfl, z1, z2⟩
        · cases h6)
      have hi := (sndI it Wd LL L q tk ac (tg := tg) h1) false
      have hN : X.N.Nodup := by rw [q.N]; exact q.nd
      exact trip q ((pe_lc (q.calm hcm) hN hi bo hg ht he hs).imp fun σ H Q w => e_lc (q.calm hcm) hN hi bo hw hg ht he hs w) (fun _ => rfl) rfl
    · cases h
  | .callh g a, U, C, k, Wd, LL, L, st, X, wx, e, q, tk, ac, h => by
    unfold chkE at h
    split at h
    · rename_i x y nm hx hf
      obtain ⟨p, p2, rfl⟩ := vCall_ok hx
      simp only [Bool.and_eq_true] at h
      obtain ⟨⟨⟨h1, h2⟩, h3⟩, h4⟩ := h
      have e1 := of_decide_eq_true h2
      subst e1
      obtain ⟨g1, g2⟩ := gl_ok q h1
      obtain ⟨f, fd, ps, hm, hk, hb, F⟩ := L.hf g nm hf
      have sa := (sndE a Wd LL L q tk ac h3).1
      cases a with
      | var i =>
        unfold chkE at h3
        split at h3
        · rename_i yy hy
          obtain ⟨p', rfl⟩ := vName_ok hy
          exact trip q (e_callh q.hot (by rw [q.prog, q.w, q.K, q.mg, q.base]; exact F) q.roomH q.gd g1 (by rw [q.mg]; exact hm) (by rw [q.K]; exact hk) (by rw [q.K]; exact hb) sa g2) (fun _ => rfl) rfl
        · cases h3
      | _ => cases h4
    · cases h
  | .lam g ce, U, C, k, Wd, LL, L, st, X, wx, e, q, tk, ac, h => by
    unfold chkE at h
    split at h
    · rename_i x ps b sc nm hx hf
      obtain ⟨p, p2, lp, rfl⟩ := vLam_ok hx
      simp only [Bool.and_eq_true] at h
      obtain ⟨⟨⟨⟨⟨⟨h1, h2⟩, hcm⟩, h3⟩, h4⟩, h5⟩, h6⟩ := h
      have e1 := of_decide_eq_true h2
      subst e1
      obtain ⟨g1, g2⟩ := gl_ok q h1
      have hp := noPars_ok h4
      subst hp
      obtain ⟨hlm, c, P0, hcode, TB, hmT, hu⟩ := q.lam h3
      rcases L.lf hlm g nm hf with no | ⟨j, f, fd, ps', run, hj, hm, hk, hb, F, hrun⟩
      · refine trip q ⟨fun pins s σ H Q I hq => ?_⟩ (fun _ => rfl) rfl
        obtain ⟨F0, r, env, S, gd, hq⟩ := hq
        have hq : Rs U.W wx F0 r H σ env (C.callL g ce (env.map Slot.seen) S) fun x S' => Post U.W F0 r H σ env x S' Q := hq
        rw [no] at hq
        exact hq.elim
      · exact trip q (e_lam tk (by rw [q.prog, q.w, q.K, q.mg, q.base]; exact F) (fun env S => hrun ce env S) (by rw [← hj]; exact q.roomG hcm) g1 (by rw [q.mg]; exact hm) (by rw [q.K]; exact hk) (by rw [q.K]; exact hb) g2 TB hcode hmT hu (by rw [q.sc]; exact LamX.lamS_by h5) rfl (fun _ _ _ _ _ => rfl)
          fun A outer s H E f' c' hr => (sndE ce Wd (fun i hi => LL i (by omega)) (LL j (by omega)) (q.lamB hcm hr) (takes_of rfl rfl rfl rfl) (fun z => nomatch z) h6).1) (fun _ => rfl) rfl
    · cases h
  | .act i, U, C, k, Wd, LL, L, st, X, wx, e, q, tk, ac, h => by
    unfold chkE at h
    split at h
    · rename_i x hx
      obtain ⟨p, p2, rfl⟩ := vCall0_ok hx
      rw [Bool.and_eq_true, Bool.and_eq_true] at h
      obtain ⟨v1, v2, v3, v4⟩ := vis_ok q h.1.1
      exact trip q (ac h.1.2 X.pn X.xe wx i x _ _ v1 v2 v3 v4 tk) (fun _ => rfl) rfl
    · cases h
  | .dnil, U, C, k, Wd, LL, L, st, X, wx, e, q, tk, ac, h => by
    obtain ⟨p, rfl⟩ := vDnil_ok (show vDnil e = true from h)
    refine trip q (pe_dnewK.imp fun σ H Q h => ?_) (fun _ => rfl) rfl
    obtain ⟨F, r, env, S, g, h⟩ := h
    intro a ha
    obtain ⟨f1, f2, f3⟩ := g.fresh ha
    exact (show Post U.W F r H σ env (.val (.dct [] [])) S Q from h) (.ref a) _ r _ ((Step.laid F r ha (.dK [])).freeze F r (o := .dK []) ha f1) ((g.laid ha (.dK [])).freeze f1 f2 f3 upd_same) (.dnil upd_same) True.intro
  | .meth c g a es, U, C, k, Wd, LL, L, st, X, wx, e, q, tk, ac, h => by
    unfold chkE at h
    split at h
    · rename_i o m p xs q2 c' y n hx hf
      obtain rfl := vMethE_ok hx
      simp only [Bool.and_eq_true] at h
      obtain ⟨⟨⟨⟨⟨⟨⟨⟨h1, h2⟩, h3⟩, h4⟩, h5⟩, h6⟩, h7⟩, h8⟩, hcm⟩ := h
      obtain rfl := of_decide_eq_true h1
      obtain rfl := of_decide_eq_true h2
      obtain ⟨hn, f, fd, ps, hm, hb, F⟩ := L.mt g c' y n hf
      have cl := Wd.mt g c' y n hf
      have so := (sndE a Wd LL L q tk ac h3).1
      have sa := (sndA es Wd LL L q tk ac h4).1
      have pl := plains h4
      have hl := of_decide_eq_true h7
      cases xs with
      | nil =>
        cases es with
        | nil => exact trip q (e_meth0 q.K tk cl hm (Wd.nf _ h8) (q.fnX F) hn (q.roomG hcm) (by rw [q.K]; exact hb) so h5 h6) (fun _ => rfl) rfl
        | cons c cs => exact absurd h4 (by unfold chkA; simp)
      | cons x0 xs =>
        rw [List.all_cons, Bool.and_eq_true] at pl
        exact trip q (e_meth q.K tk cl hm (Wd.nf _ h8) (q.fnX F) hn (q.roomG hcm) (by rw [q.K]; exact hb) so sa pl.1 pl.2 hl h5 h6) (fun _ => rfl) rfl
    · cases h
  | .prop c g a, U, C, k, Wd, LL, L, st, X, wx, e, q, tk, ac, h => by
    unfold chkE at h
    split at h
    · rename_i o m c' y n hx hf
      obtain ⟨p, rfl⟩ := vFld_ok hx
      simp only [Bool.and_eq_true] at h
      obtain ⟨⟨⟨⟨⟨h1, h2⟩, h3⟩, h4⟩, h5⟩, hcm⟩ := h
      obtain rfl := of_decide_eq_true h1
      obtain rfl := of_decide_eq_true h2
      have so := (sndE a Wd LL L q tk ac h3).1
      obtain ⟨hn, alt⟩ := L.pp g c' y n hf
      rcases alt with no | ⟨j, p2, f, fd, ps, rfl, hp, hb, F⟩
      · exact trip q (e_prop0 no so h4) (fun _ => rfl) rfl
      · exact trip q (e_prop q.K (Wd.pp g c' y n hf) hp (Wd.nf _ h5) (q.fnX F) hn ((q.roomG hcm).mono (by omega)) (by rw [q.K]; exact hb) so h4) (fun _ => rfl) rfl
    · cases h
  | .spc kd c g a, U, C, k, Wd, LL, L, st, X, wx, e, q, tk, ac, h => by
    unfold chkE at h
    split at h
    · rename_i x o c' y n hx hf
      obtain ⟨p, p2, rfl⟩ := vCall_ok hx
      simp only [Bool.and_eq_true] at h
      obtain ⟨⟨⟨⟨⟨⟨⟨⟨h1, h2⟩, h3⟩, h4⟩, h5⟩, h6⟩, h7⟩, hcm⟩, h8⟩ := h
      obtain rfl := of_decide_eq_true h1
      obtain rfl := of_decide_eq_true h2
      obtain rfl := of_decide_eq_true h3
      have so := (sndE a Wd LL L q tk ac h6).1
      obtain ⟨g1, g2⟩ := gl_ok q h4
      obtain ⟨hn, alt⟩ := L.lw g c' _ n hf
      rcases alt with no | ⟨j, f, fd, ps, rfl, hm, hb, F⟩
      · exact trip q (e_spc0 kd no g1 (by rw [q.mg]; exact Wd.free _ h5) so h7) (fun _ => rfl) rfl
      · refine trip q (e_spc q.K kd hm (fun z => ?_) (q.fnX F) hn (q.roomG hcm) (units65 q) (by rw [q.K]; exact hb) g1 (by rw [q.mg]; exact Wd.free _ h5) so h7) (fun _ => rfl) rfl
        subst z
        rw [Bool.or_eq_true] at h8
        rcases h8 with z | z
        · exact absurd z (by decide)
        · exact Wd.nb _ z
    · cases h
  | .mb m a es, U, C, k, Wd, LL, L, st, X, wx, e, q, tk, ac, h => by
    unfold chkE at h
    split at h
    · rename_i o nm p x q2 hx
      obtain rfl := vMethE_ok hx
      simp only [Bool.and_eq_true] at h
      obtain ⟨⟨⟨⟨⟨h1, h2⟩, h3⟩, h4⟩, h5⟩, h6⟩ := h
      obtain rfl := of_decide_eq_true h1
      exact trip q (e_mb q.K (units65 q) m (sndE a Wd LL L q tk ac h2).1 (sndA es Wd LL L q tk ac h3).2 h4 h5 h6) (fun _ => rfl) rfl
    · cases h
  | .fstr es, U, C, k, Wd, LL, L, st, X, wx, e, q, tk, ac, h => by
    unfold chkE at h
    split at h
    · rename_i a b r hx
      obtain ⟨p, rfl⟩ := vFstr_ok hx
      exact trip q (e_fstr2 (sndF es Wd LL L q tk ac h)) (fun _ => rfl) rfl
    · cases h
  | .tups a es, U, C, k, Wd, LL, L, st, X, wx, e, q, tk, ac, h => by
    unfold chkE at h
    split at h
    · rename_i x xs hx
      obtain ⟨p, p2, p3, rfl⟩ := vTups_ok hx
      rw [Bool.and_eq_true] at h
      exact trip q (e_tups q.K (sndE a Wd LL L q tk ac h.1).1 (sndA es Wd LL L q tk ac h.2).1) (fun _ => rfl) rfl
    · cases h
  | .newk c ks perm fs, U, C, k, Wd, LL, L, st, X, wx, e, q, tk, ac, h => by
    unfold chkE at h
    split at h
    · rename_i x xs kw y n hx hf
      obtain ⟨p, p2, rfl⟩ := vCallK_ok hx
      simp only [Bool.and_eq_true] at h
      obtain ⟨⟨⟨⟨⟨⟨⟨h0, h1⟩, h2⟩, h3⟩, h4⟩, h5⟩, h6⟩, hcm⟩ := h
      have e1 := of_decide_eq_true h2
      subst e1
      have e0 : xs = [] := by simpa using h0
      subst e0
      obtain ⟨g1, g2⟩ := gl_ok q h1
      obtain ⟨hn, hm, f, M, alt⟩ := L.cl c y n hf
      have sk := sndK fs Wd LL L q tk ac h3
      rcases alt with no | ⟨j, fd, ps, rfl, hb, F, hk⟩
      · exact trip q (e_newk0 no (by rw [q.K]; exact M.kp) g1 (by rw [q.mg]; exact hm) (of_decide_eq_true h4) sk g2) (fun _ => rfl) rfl
      · exact trip q (e_newk tk (by rw [q.K]; exact M) (q.fnX F) hn (q.roomG hcm) g1 (by rw [q.mg]; exact hm) (hk _ (by simpa using h5)) (of_decide_eq_true h4) sk (of_decide_eq_true h6) g2) (fun _ => rfl) rfl
    · cases h
theorem sndF : ∀ (ces : CEs) {U : Univ} {C : EC} {k : Nat} (Wd : Wld U T) (LL : Low U T Cf k) (L : Lev U T Cf C k) {st : Stat} {X : Cx} {wx : WX} {es : List Expr}, XOk U st k X → Takes X wx → ActS U C st X → chkF T st ces es = true → SF U.W wx C X es ces
  | .nil, U, C, k, Wd, LL, L, st, X, wx, [], q, tk, ac, h => f_nil
  | .nil, U, C, k, Wd, LL, L, st, X, wx, e :: es, q, tk, ac, h => by unfold chkF at h; cases h
  | .cons c cs, U, C, k, Wd, LL, L, st, X, wx, [], q, tk, ac, h => by unfold chkF at h; cases h
  | .cons c cs, U, C, k, Wd, LL, L, st, X, wx, e :: es, q, tk, ac, h => by
    unfold chkF at h
    split at h
    · rename_i x hx
      obtain ⟨p, rfl⟩ := vFmt_ok hx
      rw [Bool.and_eq_true] at h
      exact f_fmt (sndE c Wd LL L q tk ac h.1).1 (sndF cs Wd LL L q tk ac h.2)
    · split at h
      · rename_i z y hy
        obtain ⟨j, p, rfl⟩ := vStr_ok hy
        rw [Bool.and_eq_true] at h
        obtain rfl := of_decide_eq_true h.1
        exact f_str (sndF cs Wd LL L q tk ac h.2)
      · cases h
theorem sndA : ∀ (ces : CEs) {U : Univ} {C : EC} {k : Nat} (Wd : Wld U T) (LL : Low U T Cf k) (L : Lev U T Cf C k) {st : Stat} {X : Cx} {wx : WX} {es : List Expr}, XOk U st k X → Takes X wx → ActS U C st X → chkA T st ces es = true → SA U.W wx C X es ces ∧ SB U.W wx C X es ces
  | .nil, U, C, k, Wd, LL, L, st, X, wx, es, q, tk, ac, h => by
    cases es with
    | nil => exact ⟨a_nil, b_nil⟩
    | cons e es => unfold chkA at h; cases h
  | .cons c cs, U, C, k, Wd, LL, L, st, X, wx, es, q, tk, ac, h => by
    cases es with
    | nil => unfold chkA at h; cases h
    | cons e es =>
      have h : (chkE T st c e && chkA T st cs es && plainArg e) = true := h
      rw [Bool.and_eq_true, Bool.and_eq_true] at h
      have s1 := (sndE c Wd LL L q tk ac h.1.1).1
      have s2 := sndA cs Wd LL L q tk ac h.1.2
      exact ⟨a_cons s1 s2.1 h.2, b_cons s1 s2.2 h.2⟩
theorem sndK : ∀ (ces : CEs) {U : Univ} {C : EC} {k : Nat} (Wd : Wld U T) (LL : Low U T Cf k) (L : Lev U T Cf C k) {st : Stat} {X : Cx} {wx : WX} {es : List Keyword}, XOk U st k X → Takes X wx → ActS U C st X → chkK T st ces es = true → SKw U.W wx C X es ces
  | .nil, U, C, k, Wd, LL, L, st, X, wx, es, q, tk, ac, h => by
    cases es with
    | nil => exact k_nil
    | cons e es => unfold chkK at h; cases h
  | .cons c cs, U, C, k, Wd, LL, L, st, X, wx, es, q, tk, ac, h => by
    cases es with
    | nil => unfold chkK at h; cases h
    | cons e es =>
      obtain ⟨nm, e, kp⟩ := e
      have h : (chkE T st c e && chkK T st cs es) = true := h
      rw [Bool.and_eq_true] at h
      exact k_cons (sndE c Wd LL L q tk ac h.1).1 (sndK cs Wd LL L q tk ac h.2)
theorem sndO : ∀ (c : CO) {U : Univ} {C : EC} {k : Nat} (Wd : Wld U T) (LL : Low U T Cf k) (L : Lev U T Cf C k) {st : Stat} {X : Cx} {wx : WX} {e : Option Expr}, XOk U st k X → Takes X wx → ActS U C st X → chkO T st c e = true → SO U.W wx C X e c ∧ (e = none → c = .none) ∧ ∀ t, e = some t → ∃ cc, c = .some cc ∧ ST U.W wx C X t cc
  | .none, U, C, k, Wd, LL, L, st, X, wx, e, q, tk, ac, h => by
    cases e with
    | none => exact ⟨o_none, fun _ => rfl, fun t z => nomatch z⟩
    | some e => unfold chkO at h; cases h
  | .some c, U, C, k, Wd, LL, L, st, X, wx, e, q, tk, ac, h => by
    cases e with
    | none => unfold chkO at h; cases h
    | some e =>
      have s := sndE c Wd LL L q tk ac (show chkE T st c e = true from h)
      exact ⟨o_some s.1, (fun z => nomatch z), fun t z => by cases z; exact ⟨c, rfl, s.2.1⟩⟩
theorem sndI : ∀ (ci : CI) {U : Univ} {C : EC} {k : Nat} (Wd : Wld U T) (LL : Low U T Cf k) (L : Lev U T Cf C k) {st : Stat} {X : Cx} {wx : WX} {tg e : Expr}, XOk U st k X → Takes X wx → ActS U C st X → chkI T st tg ci e = true → ∀ b : Bool, SI U.W wx C X b tg e ci
  | .ce c, U, C, k, Wd, LL, L, st, X, wx, tg, e, q, tk, ac, h, b => i_ce q.K (sndE c Wd LL L q tk ac (show chkE T st c e = true from h)).1
  | .range1 a, U, C, k, Wd, LL, L, st, X, wx, tg, e, q, tk, ac, h, b => by
    unfold chkI at h
    split at h
    · rename_i x y hx
      obtain ⟨p, p2, rfl⟩ := vCall_ok hx
      simp only [Bool.and_eq_true] at h
      obtain ⟨⟨⟨⟨h1, h2⟩, h3⟩, h4⟩, h5⟩ := h
      have e1 := of_decide_eq_true h1
      subst e1
      exact i_range1 (gl_ok q h2).1 (by rw [q.mg]; exact Wd.free _ h3) (sndE a Wd LL L q tk ac h4).1 h5
    · cases h
  | .range2 a a2, U, C, k, Wd, LL, L, st, X, wx, tg, e, q, tk, ac, h, b => by
    unfold chkI at h
    split at h
    · rename_i x y z hx
      obtain ⟨p, p2, rfl⟩ := vCall_ok hx
      simp only [Bool.and_eq_true] at h
      obtain ⟨⟨⟨⟨⟨⟨h1, h2⟩, h3⟩, h4⟩, h5⟩, h6⟩, h7⟩ := h
      have e1 := of_decide_eq_true h1
      subst e1
      exact i_range2 (gl_ok q h2).1 (by rw [q.mg]; exact Wd.free _ h3) (sndE a Wd LL L q tk ac h4).1 (sndE a2 Wd LL L q tk ac h6).1 h5 h7
    · cases h
  | .enum a, U, C, k, Wd, LL, L, st, X, wx, tg, e, q, tk, ac, h, b => by
    unfold chkI at h
    split at h
    · rename_i x y hx
      obtain ⟨p, p2, rfl⟩ := vCall_ok hx
      simp only [Bool.and_eq_true] at h
      obtain ⟨⟨⟨⟨⟨h1, h2⟩, h3⟩, h4⟩, h5⟩, h6⟩ := h
      have e1 := of_decide_eq_true h1
      subst e1
      cases tg <;> first | (cases h6; done) | skip
      exact i_enum q.K (gl_ok q h2).1 (by rw [q.mg]; exact Wd.free _ h3) (sndE a Wd LL L q tk ac h4).1 h5
    · cases h
  | .zip a a2, U, C, k, Wd, LL, L, st, X, wx, tg, e, q, tk, ac, h, b => by
    unfold chkI at h
    split at h
    · rename_i x y z hx
      obtain ⟨p, p2, rfl⟩ := vCall_ok hx
      simp only [Bool.and_eq_true] at h
      obtain ⟨⟨⟨⟨⟨⟨⟨h1, h2⟩, h3⟩, h4⟩, h5⟩, h6⟩, h7⟩, h8⟩ := h
      have e1 := of_decide_eq_true h1
      subst e1
      cases tg <;> first | (cases h8; done) | skip
      exact i_zip q.K (gl_ok q h2).1 (by rw [q.mg]; exact Wd.free _ h3) (sndE a Wd LL L q tk ac h4).1 (sndE a2 Wd LL L q tk ac h6).1 h5 h7
    · cases h
end
end
end Z
set_option Elab.async false
set_option linter.all false
set_option maxRecDepth 100000
set_option maxHeartbeats 4000000
namespace Z
open PySem PySem.Spec PyProof.Rows L2
theorem swap_attr (e o : Expr) (f : Str) (p : Pos) (l : Nat) (env : PySem.Env) : swapsWith e (some (.Attribute o f p)) l env = pure false := by cases e <;> rfl
theorem swap_sub (e o i : Expr) (p : Pos) (l : Nat) (env : PySem.Env) : swapsWith e (some (.Subscript o i p)) l env = pure false := by cases e <;> rfl
theorem swap_tup (e : Expr) (xs : List Expr) (k : Nat) (p : Pos) (l : Nat) (env : PySem.Env) : swapsWith e (some (.Tuple xs k p)) l env = pure false := by cases e <;> rfl
def swB (sc scope : Scope) (x : Str) (p : Pos) (q : Pos) : Bool := sc.names.lookup x == some .local && p.line == q.line && !(scope.names.any fun (n, k) => n == x && (k == .local || k == .cell))
theorem block_fun {env : PySem.Env} (hk : env.scope.kind = .function) : env.blockKind = .function := by unfold Env.blockKind; rw [hk]; rfl
theorem swap_lc {elt : Expr} {gs : List Comprehension} {scope : Scope} {pos py : Pos} {y : Str} {l : Nat} {env : PySem.Env} (hk : env.scope.kind = .function) : swapsWith (.ListComp elt gs scope pos) (some (.Name y py)) l env = pure (swB env.scope scope y py pos) := by
  unfold swapsWith swB
  simp only [block_fun hk, Env.kindOf, Expr.pos]
  rfl
def isConst : Expr → Bool := fun e => foldedForSure 8 e
def swC (sc : Scope) (x y : Str) (px py : Pos) (a b : Expr) : Bool := sc.names.lookup x == some .local && sc.names.lookup y == some .local && py.line == px.line && !(x == y) && plainArg a && plainArg b && !(foldedForSure 8 a && foldedForSure 8 b) && !(constantsAlone 8 a && constantsAlone 8 b)
theorem swap_two {x y : Str} {px py pt pt2 : Pos} {kt k2 : Nat} {a b : Expr} {env : PySem.Env} (hk : env.scope.kind = .function) (h : swC env.scope x y px py a b = true) : swappedStores [.Tuple [.Name x px, .Name y py] kt pt] (.Tuple [a, b] k2 pt2) env = pure (some [x, y]) := by
  unfold swC at h
  simp only [Bool.and_eq_true, Bool.not_eq_true', beq_iff_eq] at h
  obtain ⟨⟨⟨⟨⟨⟨⟨h1, h2⟩, h3⟩, h4⟩, h5⟩, h6⟩, h7⟩, h8⟩ := h
  have h4' : (y == x) = false := by
    have : ¬ (x = y) := by simpa using h4
    simpa using fun e => this e.symm
  unfold swappedStores
  simp [block_fun hk, Env.kindOf, h1, h2, h3, Expr.pos, List.eraseDups_cons, h4', h7, h8]
  rintro (z | z)
  · cases a <;> first | (cases z; done) | (cases h5; done)
  · cases b <;> first | (cases z; done) | (cases h6; done)
def swC3 (sc : Scope) (x y z : Str) (px py pz : Pos) (a b c : Expr) : Bool := sc.names.lookup x == some .local && sc.names.lookup y == some .local && sc.names.lookup z == some .local && py.line == px.line && pz.line == px.line && !(x == y) && !(x == z) && !(y == z) && plainArg a && plainArg b && plainArg c && !(foldedForSure 8 a && (foldedForSure 8 b && foldedForSure 8 c)) && !(constantsAlone 8 a && (constantsAlone 8 b && constantsAlone 8 c))
theorem ne_beq {x y : Str} (h : (x == y) = false) : (y == x) = false := by
  have : ¬ (x = y) := by simpa using h
  simpa using fun e => this e.symm
theorem swap_three {x y z : Str} {px py pz pt pt2 : Pos} {kt k2 : Nat} {a b c : Expr} {env : PySem.Env} (hk : env.scope.kind = .function) (h : swC3 env.scope x y z px py pz a b c = true) : swappedStores [.Tuple [.Name x px, .Name y py, .Name z pz] kt pt] (.Tuple [a, b, c] k2 pt2) env = pure (some [x, y, z]) := by
  unfold swC3 at h
  simp only [Bool.and_eq_true, Bool.not_eq_true', beq_iff_eq] at h
  obtain ⟨⟨⟨⟨⟨⟨⟨⟨⟨⟨⟨⟨h1, h2⟩, h3⟩, h4⟩, h5⟩, h6⟩, h7⟩, h8⟩, p1⟩, p2⟩, p3⟩, h9⟩, h10⟩ := h
  have h6' := ne_beq h6
  have h7' := ne_beq h7
  have h8' := ne_beq h8
  unfold swappedStores
  simp [block_fun hk, Env.kindOf, h1, h2, h3, h4, h5, Expr.pos, List.eraseDups_cons, h6', h7', h8', h9, h10]
  rintro (z | z | z)
  · cases a <;> first | (cases z; done) | (cases p1; done)
  · cases b <;> first | (cases z; done) | (cases p2; done)
  · cases c <;> first | (cases z; done) | (cases p3; done)
def swN (sc : Scope) (tg value : Expr) : Bool := match tg, value with
  | .Tuple ts _ _, .Tuple vs _ _ => vs.all (foldedForSure 8) || ts.any fun t => (match t with | .Name x _ => !(sc.names.lookup x == some .local) | _ => true)
  | .List _ _, .Tuple _ _ _ => false
  | _, _ => true
theorem filter_short {A B : Type} (f : A → Option B) : ∀ (l : List A), (l.any fun a => (f a).isNone) = true → (l.filterMap f).length < l.length
  | [], h => by cases h
  | a :: l, h => by
    rw [List.any_cons, Bool.or_eq_true] at h
    have le : (l.filterMap f).length ≤ l.length := List.length_filterMap_le f l
    cases e : f a with
    | none => rw [List.filterMap_cons_none e, List.length_cons]; omega
    | some b =>
      rw [e] at h
      rcases h with h | h
      · cases h
      · rw [List.filterMap_cons_some e, List.length_cons, List.length_cons]
        have := filter_short f l h
        omega
theorem swap_none {tg value : Expr} {env : PySem.Env} (h : swN env.scope tg value = true) : swappedStores [tg] value env = pure none := by
  unfold swN at h
  split at h
  · rename_i ts k1 p1 vs k2 p2
    unfold swappedStores
    simp only
    split
    · rfl
    · split
      · rfl
      · split
        · rfl
        · rename_i h3
          rw [Bool.or_eq_true] at h
          rcases h with h | h
          · simp only [h, if_true]
          · exfalso
            apply h3
            rw [Bool.or_eq_true]
            refine .inl ?_
            rw [bne_iff_ne]
            refine Nat.ne_of_lt (filter_short _ _ ?_)
            rw [List.any_eq_true] at h ⊢
            obtain ⟨t, ht, z⟩ := h
            refine ⟨t, ht, ?_⟩
            cases t <;> first | rfl | skip
            rename_i x px
            have z : (!(env.scope.names.lookup x == some .local)) = true := z
            have z : (env.scope.names.lookup x == some .local) = false := by simpa using z
            show (if (env.kindOf x == some .local && _) = true then some x else none).isNone = true
            rw [show (env.kindOf x == some .local) = false from z, Bool.false_and, if_neg Bool.false_ne_true]
            rfl
  · cases h
  · rename_i n1 n2
    unfold swappedStores
    cases tg <;> first | (cases value <;> first | rfl | exact absurd rfl (n1 _ _ _ _ _ _ rfl) | exact absurd rfl (n2 _ _ _ _ _ rfl)) | rfl
end Z
set_option Elab.async false
set_option linter.all false
set_option maxRecDepth 100000
set_option maxHeartbeats 4000000
namespace Z
open PySem PySem.Spec PyProof.Rows L2
def vNameP : Expr → Option (Str × Pos) | .Name x p => some (x, p) | _ => none
def vFldP : Expr → Option (Expr × Str × Pos) | .Attribute a f p => some (a, f, p) | _ => none
def vMeth : Expr → Option (Expr × Str × Pos × List Expr × Pos) | .Call (.Attribute a m p) xs [] q => some (a, m, p, xs, q) | _ => none
def sAsg : Stmt → Option (Expr × Expr × Pos) | .Assign [t] v p => some (t, v, p) | _ => none
def sAug : Stmt → Option (Str × Expr) | .AugAssign (.Name x _) .Add v _ => some (x, v) | _ => none
def sAugF : Stmt → Option (Expr × Str × Expr) | .AugAssign (.Attribute x f _) .Add v _ => some (x, f, v) | _ => none
def sExp : Stmt → Option Expr | .Expr e _ => some e | _ => none
def sRet : Stmt → Option (Option Expr) | .Return e _ => some e | _ => none
def sIfs : Stmt → Option (Expr × List Stmt × List Stmt) | .If c a b _ => some (c, a, b) | _ => none
def sFr : Stmt → Option (Expr × Expr × List Stmt) | .For t i b [] _ => some (t, i, b) | _ => none
def sWh : Stmt → Option (Expr × List Stmt) | .While c b [] _ => some (c, b) | _ => none
def sRaise : Stmt → Option (Str × List Expr) | .Raise (some (.Call (.Name x _) xs [] _)) none _ => some (x, xs) | _ => none
def sTry : Stmt → Option (List Stmt × List ExceptHandler) | .Try b hs [] [] _ => some (b, hs) | _ => none
def sPs : Stmt → Bool | .Pass _ => true | .Expr (.Constant (.str _) _ _) _ => true | _ => false
def sBk : Stmt → Bool | .Break _ => true | _ => false
def sCt : Stmt → Bool | .Continue _ => true | _ => false
section
variable {e : Expr} {s : Stmt}
theorem vNameP_ok {x p} (h : vNameP e = some (x, p)) : e = .Name x p := by unfold vNameP at h; split at h <;> first | (cases h; rfl) | cases h
theorem vFldP_ok {a f p} (h : vFldP e = some (a, f, p)) : e = .Attribute a f p := by unfold vFldP at h; split at h <;> first | (cases h; rfl) | cases h
theorem vMeth_ok {a m p xs q} (h : vMeth e = some (a, m, p, xs, q)) : e = .Call (.Attribute a m p) xs [] q := by unfold vMeth at h; split at h <;> first | (cases h; rfl) | cases h
theorem sAsg_ok {t v p} (h : sAsg s = some (t, v, p)) : s = .Assign [t] v p := by unfold sAsg at h; split at h <;> first | (cases h; rfl) | cases h
theorem sAug_ok {x v} (h : sAug s = some (x, v)) : ∃ p q, s = .AugAssign (.Name x p) .Add v q := by unfold sAug at h; split at h <;> first | (cases h; exact ⟨_, _, rfl⟩) | cases h
theorem sAugF_ok {x f v} (h : sAugF s = some (x, f, v)) : ∃ p q, s = .AugAssign (.Attribute x f p) .Add v q := by unfold sAugF at h; split at h <;> first | (cases h; exact ⟨_, _, rfl⟩) | cases h
theorem sExp_ok {v} (h : sExp s = some v) : ∃ p, s = .Expr v p := by unfold sExp at h; split at h <;> first | (cases h; exact ⟨_, rfl⟩) | cases h
theorem sRet_ok {v} (h : sRet s = some v) : ∃ p, s = .Return v p := by unfold sRet at h; split at h <;> first | (cases h; exact ⟨_, rfl⟩) | cases h
theorem sIfs_ok {c a b} (h : sIfs s = some (c, a, b)) : ∃ p, s = .If c a b p := by unfold sIfs at h; split at h <;> first | (cases h; exact ⟨_, rfl⟩) | cases h
theorem sFr_ok {c a b} (h : sFr s = some (c, a, b)) : ∃ p, s = .For c a b [] p := by unfold sFr at h; split at h <;> first | (cases h; exact ⟨_, rfl⟩) | cases h
theorem sWh_ok {c b} (h : sWh s = some (c, b)) : ∃ p, s = .While c b [] p := by unfold sWh at h; split at h <;> first | (cases h; exact ⟨_, rfl⟩) | cases h
theorem sRaise_ok {x xs} (h : sRaise s = some (x, xs)) : ∃ p q r, s = .Raise (some (.Call (.Name x p) xs [] q)) none r := by unfold sRaise at h; split at h <;> first | (cases h; exact ⟨_, _, _, rfl⟩) | cases h
theorem sTry_ok {b hs} (h : sTry s = some (b, hs)) : ∃ p, s = .Try b hs [] [] p := by unfold sTry at h; split at h <;> first | (cases h; exact ⟨_, rfl⟩) | cases h
theorem sBk_ok (h : sBk s = true) : ∃ p, s = .Break p := by unfold sBk at h; split at h <;> first | exact ⟨_, rfl⟩ | cases h
theorem sCt_ok (h : sCt s = true) : ∃ p, s = .Continue p := by unfold sCt at h; split at h <;> first | exact ⟨_, rfl⟩ | cases h
end
def chkT (T : Tab) (st : Stat) (fz : List Nat) : CT → Expr → Bool
  | .name i, e => (match vName e with | some x => nmOk st i x && !fz.contains i | none => false)
  | .ix a i, e => (match vSub e with | some (x, y) => chkE T st a x && chkE T st i y && plainIx y | none => false)
  | .fld a f, e => (match vFldP e with | some (x, nm, _) => chkE T st a x && decide (T.attr f = nm) | none => false)
  | .pair g h, e => (match vTup e with | some [x, y] => chkT T st fz g x && chkT T st fz h y && plainArg x && plainArg y && st.calm | _ => false)
  | .trip g h k, e => (match vTup e with | some [x, y, z] => chkT T st fz g x && chkT T st fz h y && chkT T st fz k z && plainArg x && plainArg y && plainArg z && st.calm | _ => false)
def isSubE : Expr → Bool | .Subscript _ _ _ => true | _ => false
def isLc : CE → Bool | .lc _ _ _ _ => true | _ => false
def disj (l fz : List Nat) : Bool := l.all fun i => !fz.contains i
def chkX (T : Tab) (st : Stat) (cs : List Nat) (t : Expr) : Bool := (match vTup t with
  | some ts => (match cs, ts with
    | [c1, c2], [t1, t2] => chkTy T st (.exc c1) t1 && chkTy T st (.exc c2) t2
    | [c1, c2, c3], [t1, t2, t3] => chkTy T st (.exc c1) t1 && chkTy T st (.exc c2) t2 && chkTy T st (.exc c3) t3
    | _, _ => false)
  | none => (match cs with | [c] => chkTy T st (.exc c) t | _ => false))
def hotSt (st : Stat) : Stat := ⟨st.N, st.sc, st.fn, false, false, false⟩
def chkN (st : Stat) : Option Nat → Option Str → Bool
  | none, none => true
  | some i, some n => decide (st.N[i]? = some n) && decide (st.sc.names.lookup n = some .local)
  | _, _ => false
mutual
def chkS (T : Tab) (st : Stat) : CS → List Nat → Stmt → Bool
  | .set i own ce, fz, s => (match sAsg s with
    | some (tg, v, _) => (match vNameP tg with | some (x, _) => nmOk st i x && !fz.contains i && chkE T st ce v && (noSwap v || isLc ce) | none => false)
    | none => false)
  | .par i j _ _ a b, fz, s => (match sAsg s with
    | some (tg, v, _) => (match vTup tg, vTup v with
      | some [t1, t2], some [v1, v2] => (match vNameP t1, vNameP t2 with
        | some (x, px), some (y, py) => nmOk st i x && nmOk st j y && !fz.contains i && !fz.contains j && !(i == j) && chkE T st a v1 && chkE T st b v2 && swC st.sc x y px py v1 v2 && st.calm
        | _, _ => false)
      | _, _ => false)
    | none => false)
  | .par3 i j l _ _ _ a b c, fz, s => (match sAsg s with
    | some (tg, v, _) => (match vTup tg, vTup v with
      | some [t1, t2, t3], some [v1, v2, v3] => (match vNameP t1, vNameP t2, vNameP t3 with
        | some (x, px), some (y, py), some (z, pz) => nmOk st i x && nmOk st j y && nmOk st l z && !fz.contains i && !fz.contains j && !fz.contains l && !(i == j) && !(i == l) && !(j == l) && chkE T st a v1 && chkE T st b v2 && chkE T st c v3 && swC3 st.sc x y z px py pz v1 v2 v3 && st.calm
        | _, _, _ => false)
      | _, _ => false)
    | none => false)
  | .asg (.fld a f) ce, fz, s => (match sAsg s with
    | some (tg, v, _) => (match vFldP tg with | some (x, nm, _) => chkE T st a x && decide (T.attr f = nm) && chkE T st ce v | none => false)
    | none => false)
  | .asg g ce, fz, s => (match sAsg s with | some (tg, v, _) => chkT T st fz g tg && chkE T st ce v && swN st.sc tg v && (isTupE tg || noSwap v || isSubE tg) && plainArg tg | none => false)
  | .move _ _, _, _ => false
  | .ext i ce, _, s => (match sAug s with | some (x, v) => nmOk st i x && chkE T st ce v | none => false)
  | .append a ce, _, s => (match sExp s with
    | some v => (match vMeth v with
      | some (o, m, p, [y], q) => decide (m = "append") && chkE T st a o && chkE T st ce y && plainArg y && plainBase o && (p.endLine == q.line)
      | _ => false)
    | none => false)
  | .augf a f ce, _, s => (match sAugF s with | some (x, nm, v) => chkE T st a x && decide (T.attr f = nm) && chkE T st ce v | none => false)
  | .expr ce, _, s => (match sExp s with | some v => chkE T st ce v && noSwap v | none => false)
  | .ret ce, _, s => (match sRet s with | some (some v) => chkE T st ce v | _ => false)
  | .retN, _, s => (match sRet s with | some none => true | _ => false)
  | .brk, _, s => sBk s
  | .cnt, _, s => sCt s
  | .pass, _, s => sPs s
  | .never, _, _ => true
  | .raise c es, _, s => (match sRaise s, T.xn c with
    | some (x, xs), some (y, true) => decide (y = x) && glOk st x && st.calm && (match T.xat c, es, xs with
      | some (some _), .cons ca .nil, [a] => chkE T st ca a && plainArg a
      | some none, .nil, [] => true
      | _, _, _ => false)
    | _, _ => false)
  | .stry b hs, fz, s => (match sTry s with | some (x, hds) => st.calm && !hds.isEmpty && chkB T st b fz x && chkH T st hs fz hds | none => false)
  | .sif t a b, fz, s => (match sIfs s with | some (c, x, y) => chkE T st t c && chkB T st a fz x && chkB T st b fz y | none => false)
  | .sfor g it b, fz, s => (match sFr s with | some (tg, i, x) => chkI T st tg it i && chkG st g tg && disj (slotsG g) fz && chkB T st b fz x && notSet i && st.calm | none => false)
  | .sforo g j b, fz, s => (match sFr s with
    | some (tg, i, x) => (match vName i with | some y => visOk st j y && chkG st g tg && disj (slotsG g) (j :: fz) && chkB T st b (j :: fz) x && st.calm | none => false)
    | none => false)
  | .swhile t b, fz, s => (match sWh s with | some (c, x) => chkE T st t c && chkB T st b fz x && st.calm | none => false)
def chkB (T : Tab) (st : Stat) : CSs → List Nat → List Stmt → Bool
  | .nil, _, [] => true
  | .cons c cs, fz, s :: ss => chkS T st c fz s && chkB T st cs fz ss
  | _, _, _ => false
def chkH (T : Tab) (st : Stat) : CHs → List Nat → List ExceptHandler → Bool
  | .nil, _, [] => true
  | .cons cs i b hs, fz, .ExceptHandler (some t) n (b₀ :: suite) _ :: hds => chkX T st cs t && chkN st i n && chkB T (hotSt st) b fz (b₀ :: suite) && chkH T st hs fz hds
  | _, _, _ => false
end
structure SOk (U : Univ) (st : Stat) (k : Nat) (X : Cx) : Prop where
  x : XOk U st k X
  own : st.calm = true → PassesOwn (model X.prog X.w) X.A X.env X.xe
  stk : X.stack = X.env :: X.outer
  fr : X.env.frame = some X.env.locals
  kind : X.env.scope.kind = .function
theorem notin_of {i : Nat} {fz : List Nat} (h : (!fz.contains i) = true) : i ∉ fz := by simpa using h
theorem disj_ok {l fz : List Nat} (h : disj l fz = true) : ∀ i ∈ l, i ∉ fz := fun i hi => notin_of (List.all_eq_true.mp h i hi)
section
variable {U : Univ} {T : Tab} {Cf : Nat → EC} {C : EC} {k : Nat}
theorem sndT (Wd : Wld U T) (LL : Low U T Cf k) (L : Lev U T Cf C k) {st : Stat} {X : Cx} {wx : WX} {en : Ent} {fz : List Nat} (q : XOk U st k X) (tk : Takes X wx) (ac : ActS U C st X) : ∀ (g : CT) {e : Expr}, chkT T st fz g e = true → SG U.W wx en fz C X e g
  | .name i, e, h => by
    unfold chkT at h
    split at h
    · rename_i x hx
      obtain ⟨p, rfl⟩ := vName_ok hx
      rw [Bool.and_eq_true] at h
      obtain ⟨h1, h2, h3, h4⟩ := nm_ok q.nms h.1
      exact g_name h1 h2 h3 h4 (notin_of h.2)
    · cases h
  | .ix a i, e, h => by
    unfold chkT at h
    split at h
    · rename_i x y hx
      obtain ⟨p, rfl⟩ := vSub_ok hx
      rw [Bool.and_eq_true, Bool.and_eq_true] at h
      have h2 := h.2
      exact g_ix (sndE a Wd LL L q tk ac h.1.1).1 (sndE i Wd LL L q tk ac h.1.2).1 fun v => by cases y <;> first | rfl | (cases h2; done)
    · cases h
  | .fld a f, e, h => by
    unfold chkT at h
    split at h
    · rename_i x nm px hy
      have e2 := vFldP_ok hy
      subst e2
      rw [Bool.and_eq_true] at h
      exact g_fld q.K ((Wd.attr f).trans (of_decide_eq_true h.2)) (sndE a Wd LL L q tk ac h.1).1
    · cases h
  | .pair g g2, e, h => by
    unfold chkT at h
    split at h
    · rename_i x y hx
      obtain ⟨kk, p, rfl⟩ := vTup_ok hx
      simp only [Bool.and_eq_true] at h
      obtain ⟨⟨⟨⟨h1, h2⟩, h3⟩, h4⟩, hcm⟩ := h
      have a1 := assignEach_cons h3 [y] X.env
      have a2 := assignEach_cons h4 [] X.env
      exact g_pair q.K (q.calm hcm) (sndT Wd LL L q tk ac g h1) (sndT Wd LL L q tk ac g2 h2) (by rw [a1]; rfl) (by rw [a2]; rfl) (by rw [a1, a2]; rfl) (by rw [a1, a2]; rfl)
    · cases h
  | .trip g g2 g3, e, h => by
    unfold chkT at h
    split at h
    · rename_i x y z hx
      obtain ⟨kk, p, rfl⟩ := vTup_ok hx
      simp only [Bool.and_eq_true] at h
      obtain ⟨⟨⟨⟨⟨⟨h1, h2⟩, h3⟩, h4⟩, h5⟩, h6⟩, hcm⟩ := h
      have a1 := assignEach_cons h4 [y, z] X.env
      have a2 := assignEach_cons h5 [z] X.env
      have a3 := assignEach_cons h6 [] X.env
      exact g_trip q.K (q.calm hcm) (sndT Wd LL L q tk ac g h1) (sndT Wd LL L q tk ac g2 h2) (sndT Wd LL L q tk ac g3 h3) (by rw [a1]; rfl) (by rw [a2]; rfl) (by rw [a3]; rfl) (by rw [a1, a2, a3]; rfl) (by rw [a1, a2, a3]; rfl)
    · cases h
theorem lc_parts (Wd : Wld U T) (LL : Low U T Cf k) (L : Lev U T Cf C k) {st : Stat} {X : Cx} {e : Expr} {g : CG} {it : CI} {c : CO} {ce : CE} {wx : WX} (q : XOk U st k X) (tk : Takes X wx) (ac : ActS U C st X) (h : chkE T st (.lc g it c ce) e = true) :
    ∃ elt tg iter ifs scope p, e = .ListComp elt [⟨tg, iter, ifs, 0⟩] scope p ∧ SI U.W wx C X false tg iter it ∧ BlkOk X.N X.env.scope scope (ownOf st.N g) ∧ (ownOf st.N g).map (·.2) = slotsG g ∧
    (∀ (s : Shared) (H : Hp) (D : Addr) (cl : List (Str × Addr)) (fp : List Addr), PG (X.blk s H scope (compEnvC scope cl D X.env) fp) tg (tGG U.W (slotsG g) (setG g))) ∧
    (∀ (s : Shared) (H : Hp) (D : Addr) (cl : List (Str × Addr)) (fp : List Addr), PTs (X.blk s H scope (compEnvC scope cl D X.env) fp) ifs (tC U.W w0 C c)) ∧
    (∀ (s : Shared) (H : Hp) (D : Addr) (cl : List (Str × Addr)) (fp : List Addr), SE U.W w0 C (X.blk s H scope (compEnvC scope cl D X.env) fp) elt ce) ∧ (∀ x, foldedSetIterable iter X.env x = pure x) ∧ st.calm = true := by
  unfold chkE at h
  split at h
  · rename_i elt tg iter ifs scope hx
    obtain ⟨p, rfl⟩ := vLc_ok hx
    simp only [Bool.and_eq_true] at h
    obtain ⟨⟨⟨⟨⟨⟨h1, hcm⟩, h2⟩, h3⟩, h4⟩, h5⟩, h6⟩ := h
    refine ⟨elt, tg, iter, ifs, scope, p, rfl, (sndI it Wd LL L q tk ac (tg := tg) h1) false, by rw [q.N, q.sc]; exact blkOk_by h3, ?_, fun s H D cl fp => chkG_ok (q.blk hcm scope s H D cl fp).nms (q.blk hcm scope s H D cl fp).K h2, fun s H D cl fp => pts_of ?_, fun s H D cl fp => (sndE ce Wd LL L (q.blk hcm scope s H D cl fp) L2.takes0 (fun z => nomatch z) h5).1, (fun x => by cases iter <;> first | rfl | (cases h4; done)), hcm⟩
    · unfold ownOf
      rw [List.map_map]
      exact List.map_id _
    · split at h6
      · exact .inl ⟨rfl, (sndO c Wd LL L (q.blk hcm scope s H D cl fp) L2.takes0 (fun z => nomatch z) h6).2.1 rfl⟩
      · rename_i t
        obtain ⟨cc, z1, z2⟩ := (sndO c Wd LL L (q.blk hcm scope s H D cl fp) L2.takes0 (fun z => nomatch z) h6).2.2 t rfl
        exact .inr ⟨t, cc, rfl, z1, z2⟩
      · cases h6
  · cases h
end
end Z
set_option Elab.async false
set_option linter.all false
set_option maxRecDepth 100000
set_option maxHeartbeats 4000000
namespace Z
open PySem PySem.Spec PyProof.Rows L2
section
variable {U : Univ} {T : Tab} {Cf : Nat → EC} {C : EC} {k : Nat}
section
variable {W : WT} {hx : Addr → Value → Option Addr → Prop} {fa : Addr → Hp → List Addr → Hp → Prop} {fam : ∀ (a : Addr) (F F' : Hp) (r r' : List Addr) (H H' : Hp), (∀ b o, F b = some o → F' b = some o) → (∀ (n : Nat) (b : Addr), r[n]? = some b → r'[n]? = some b) → (∀ c q, H c = some (LamX.CodeO c q) → H' c = some (LamX.CodeO c q)) → fa a F r H → fa a F' r' H'}
theorem spF_eq : spF (W.at_ hx fa fam) = spF W := by
  funext n f vs H Q E
  unfold spF
  rw [repL_eq, storeOk_eq, valOf_eq, exV_eq]
theorem spI_eq : spI (W.at_ hx fa fam) = spI W := by
  funext n c f vs H Q E
  unfold spI
  rw [repL_eq, storeOk_eq, obRep_eq, exV_eq]
theorem spH_eq : spH (W.at_ hx fa fam) = spH W := by
  funext f a cls d H Q
  unfold spH
  rw [storeOk_eq, valOf_eq, exV_eq]
end
abbrev Univ.at_ (U : Univ) (hx : Addr → Value → Option Addr → Prop) (fa : Addr → Hp → List Addr → Hp → Prop)
    (fam : ∀ (a : Addr) (F F' : Hp) (r r' : List Addr) (H H' : Hp), (∀ b o, F b = some o → F' b = some o) → (∀ (n : Nat) (b : Addr), r[n]? = some b → r'[n]? = some b) → (∀ c q, H c = some (LamX.CodeO c q) → H' c = some (LamX.CodeO c q)) → fa a F r H → fa a F' r' H') : Univ := ⟨U.P, U.w, U.mg, U.base, U.W.at_ hx fa fam, false⟩
section
variable {hx : Addr → Value → Option Addr → Prop} {fa : Addr → Hp → List Addr → Hp → Prop} {fam : ∀ (a : Addr) (F F' : Hp) (r r' : List Addr) (H H' : Hp), (∀ b o, F b = some o → F' b = some o) → (∀ (n : Nat) (b : Addr), r[n]? = some b → r'[n]? = some b) → (∀ c q, H c = some (LamX.CodeO c q) → H' c = some (LamX.CodeO c q)) → fa a F r H → fa a F' r' H'}
theorem wld_at (Wd : Wld U T) (h : ∀ a cls d, hx a cls d → ∃ D, cls = .ref D ∧ ExcC U.W.K D) : Wld (U.at_ hx fa fam) T where
  free := Wd.free
  con := fun k x t e => let ⟨v, u, z1, z2, z3⟩ := Wd.con k x t e; ⟨v, u, z1, z2, fun F r => (z3 F r).to⟩
  attr := Wd.attr
  isc := Wd.isc
  xat := Wd.xat
  xown := Wd.xown
  xblt := Wd.xblt
  xis := Wd.xis
  xone := Wd.xone
  xnil := Wd.xnil
  xhot := h
  xcls := Wd.xcls
  nf := Wd.nf
  nb := Wd.nb
  mt := Wd.mt
  pp := Wd.pp
theorem lev_at {j : Nat} {C' : EC} (L : Lev U T Cf C' j) : Lev (U.at_ hx fa fam) T Cf C' j where
  con := L.con
  fn := fun g x n e => by
    have z := L.fn g x n e
    rw [← spF_eq (hx := hx) (fa := fa) (fam := fam)] at z
    exact z
  cl := fun c x n e => by
    have z := L.cl c x n e
    rw [← spI_eq (hx := hx) (fa := fa) (fam := fam)] at z
    exact z
  xat := L.xat
  xis := L.xis
  mt := fun g c x n e => by
    have z := L.mt g c x n e
    rw [← spF_eq (hx := hx) (fa := fa) (fam := fam)] at z
    exact z
  lw := fun g c x n e => by
    have z := L.lw g c x n e
    rw [← spF_eq (hx := hx) (fa := fa) (fam := fam)] at z
    exact z
  pp := fun g c x n e => by
    have z := L.pp g c x n e
    rw [← spF_eq (hx := hx) (fa := fa) (fam := fam)] at z
    exact z
  hf := fun g x e => by
    have z := L.hf g x e
    rw [← spH_eq (hx := hx) (fa := fa) (fam := fam)] at z
    exact z
  lf := fun z => nomatch z
theorem low_at (L : Low U T Cf k) : Low (U.at_ hx fa fam) T Cf k := fun j hj => lev_at (L j hj)
theorem lev_act {j : Nat} {C' : EC} {a : Store → Out R} (L : Lev U T Cf C' j) : Lev U T Cf { C' with act := a } j := ⟨L.con, L.fn, L.cl, L.xat, L.xis, L.mt, L.lw, L.pp, L.hf, L.lf⟩
end
theorem SOk.suite {st : Stat} {X : Cx} (q : SOk U st k X) {a : Addr} {oe : Obj} {cls : Value} {d : Option Addr} {pn : List (Addr × Obj)} (hz : Zc cls d oe) (hf : ∃ vs, oe.data = .fields vs) : SOk (U.at_ (only U.W a cls d) U.W.fa U.W.fam) (hotSt st) k (X.suite a ((a, oe) :: pn)) where
  x := ⟨q.x.prog, q.x.w, q.x.K, q.x.mg, q.x.base, q.x.N, q.x.nd, q.x.sc, q.x.fnn, (fun z => nomatch z), (fun z => nomatch z), (fun z => nomatch z), ⟨q.x.roomH.dp, q.x.roomH.un⟩, q.x.gd, (fun a' cls' d' z => by
    obtain ⟨rfl, rfl, rfl, _⟩ := z
    exact ⟨oe, List.mem_cons_self, hz, hf⟩), (fun z => nomatch z)⟩
  own := fun z => nomatch z
  stk := q.stk
  fr := q.fr
  kind := q.kind
theorem SOk.tr {st : Stat} {X : Cx} (q : SOk U st k X) (hc : st.calm = true) {pn : List (Addr × Obj)} {xe : Value → Shared → Prop} (ow : PassesOwn (model X.prog X.w) X.A X.env xe) : SOk U st k (X.tr pn xe) where
  x := ⟨q.x.prog, q.x.w, q.x.K, q.x.mg, q.x.base, q.x.N, q.x.nd, q.x.sc, q.x.fnn, q.x.calm, q.x.nh, q.x.room, q.x.roomH, q.x.gd, fun a cls d z => absurd z (q.x.nh hc a cls d), q.x.lam⟩
  own := fun _ => ow
  stk := q.stk
  fr := q.fr
  kind := q.kind
theorem ActS.tr {st : Stat} {X : Cx} (ac : ActS U C st X) {pn : List (Addr × Obj)} {xe : Value → Shared → Prop} : ActS U C st (X.tr pn xe) := fun h pn' xe' => ac h pn' xe'
theorem nmX_ok (Wd : Wld U T) {st : Stat} {X : Cx} (q : XOk U st k X) {c : Nat} {t : Expr} (h : chkTy T st (.exc c) t = true) : ∃ x p, t = .Name x p ∧ Names X x (U.W.xcl c) := by
  unfold chkTy at h
  split at h
  · rename_i x hx
    obtain ⟨p, rfl⟩ := vName_ok hx
    rw [Bool.and_eq_true] at h
    obtain ⟨g1, g2⟩ := gl_ok q h.1
    refine ⟨x, p, rfl, g1, g2, ?_⟩
    have h2 : (match T.xn c with | some (y, true) => decide (y = x) | some (y, false) => decide (y = x) && T.free x | none => false) = true := h.2
    cases hxn : T.xn c with
    | none => rw [hxn] at h2; cases h2
    | some yb =>
      obtain ⟨y, b⟩ := yb
      rw [hxn] at h2
      cases b with
      | true =>
        have e1 := of_decide_eq_true (show decide (y = x) = true from h2)
        subst e1
        obtain ⟨D, hD, hm⟩ := Wd.xown c _ hxn
        exact .inl (by rw [q.mg, hm, hD])
      | false =>
        have h2 : (decide (y = x) && T.free x) = true := h2
        rw [Bool.and_eq_true] at h2
        have e1 := of_decide_eq_true h2.1
        subst e1
        obtain ⟨n, hD, hv, hn⟩ := Wd.xblt c _ hxn
        exact .inr ⟨by rw [q.mg]; exact Wd.free _ h2.2, by rw [hv, hD], hn⟩
  · cases h
theorem chkX_ok (Wd : Wld U T) {st : Stat} {X : Cx} (q : XOk U st k X) {cs : List Nat} {t : Expr} (h : chkX T st cs t = true) : TestE X t (cs.map fun c => U.W.xcl c) := by
  unfold chkX at h
  split at h
  · rename_i ts ht
    obtain ⟨kk, tp, rfl⟩ := vTup_ok ht
    split at h
    · rename_i c1 c2 t1 t2
      rw [Bool.and_eq_true] at h
      obtain ⟨x1, p1, rfl, n1⟩ := nmX_ok Wd q h.1
      obtain ⟨x2, p2, rfl, n2⟩ := nmX_ok Wd q h.2
      exact .two n1 n2
    · rename_i c1 c2 c3 t1 t2 t3
      rw [Bool.and_eq_true, Bool.and_eq_true] at h
      obtain ⟨x1, p1, rfl, n1⟩ := nmX_ok Wd q h.1.1
      obtain ⟨x2, p2, rfl, n2⟩ := nmX_ok Wd q h.1.2
      obtain ⟨x3, p3, rfl, n3⟩ := nmX_ok Wd q h.2
      exact .three n1 n2 n3
    · cases h
  · split at h
    · rename_i c
      obtain ⟨x1, p1, rfl, n1⟩ := nmX_ok Wd q h
      exact .one n1
    · cases h
theorem set_lc {en : Ent} {fz : List Nat} (Wd : Wld U T) (LL : Low U T Cf k) (L : Lev U T Cf C k) {st : Stat} {X : Cx} {wx : WX} (q : SOk U st k X) (tk : Takes X wx) (ac : ActS U C st X) {i : Nat} {own : Bool} {x : Str} {px pos : Pos} {v : Expr} {g : CG} {it : CI} {c : CO} {ce : CE} (hn : nmOk st i x = true) (hi : i ∉ fz) (h : chkE T st (.lc g it c ce) v = true) :
    SS U.W wx en fz C X (.Assign [.Name x px] v pos) (.set i own (.lc g it c ce)) := by
  obtain ⟨h1, h2, h3, h4⟩ := nm_ok q.x.nms hn
  have sv := (sndE _ Wd LL L q.x tk ac h).1
  obtain ⟨elt, tg, iter, ifs, scope, p, rfl, hit, bo, hw, hg, ht, he, hs, hcm⟩ := lc_parts Wd LL L q.x tk ac h
  cases hb : swB X.env.scope scope x px p with
  | false => exact s_set h1 h2 h3 h4 sv (by rw [swap_lc q.kind, hb]) hi
  | true =>
    have hl : X.env.scope.names.lookup x = some .local := by
      unfold swB at hb
      rw [Bool.and_eq_true, Bool.and_eq_true] at hb
      exact beq_iff_eq.mp hb.1.1
    exact s_set_of ((ps_setLc (q.x.calm hcm) h1 h2 hl (by rw [swap_lc q.kind, hb]) hit bo hg ht he hs).imp fun D σ H w => e_lc (q.x.calm hcm) h1 hit bo hw hg ht he hs w) hi
theorem sole (tg v : Expr) (l : Nat) (env : PySem.Env) (h : (isTupE tg || noSwap v || isSubE tg) = true) : swapsWithSole [tg] v l env = pure false := by
  show swapsWith v (some tg) l env = pure false
  rw [Bool.or_eq_true, Bool.or_eq_true] at h
  rcases h with (h | h) | h
  · cases tg <;> first | exact swap_tup .. | cases h
  · exact noSwap_ok h _ _ _
  · cases tg <;> first | exact swap_sub .. | cases h
mutual
theorem sndS : ∀ (c : CS) {U : Univ} (Wd : Wld U T) (LL : Low U T Cf k) (L : Lev U T Cf C k) {st : Stat} {X : Cx} {wx : WX} {en : Ent} (q : SOk U st k X) (tk : Takes X wx) (ac : ActS U C st X) {fz : List Nat} {s : Stmt}, chkS T st c fz s = true → SS U.W wx en fz C X s c
  | .set i own ce, U, Wd, LL, L, st, X, wx, en, q, tk, ac, fz, s, h => by
    unfold chkS at h
    split at h
    · rename_i tg v pos hx
      split at h
      · rename_i x px hy
        have e1 := sAsg_ok hx
        have e2 := vNameP_ok hy
        subst e1 e2
        simp only [Bool.and_eq_true] at h
        obtain ⟨⟨⟨h1, h2⟩, h3⟩, h4⟩ := h
        obtain ⟨n1, n2, n3, n4⟩ := nm_ok q.x.nms h1
        rw [Bool.or_eq_true] at h4
        rcases h4 with h4 | h4
        · exact s_set n1 n2 n3 n4 (sndE ce Wd LL L q.x tk ac h3).1 (noSwap_ok h4 _ _ _) (notin_of h2)
        · cases ce <;> first | (cases h4; done) | exact set_lc Wd LL L q tk ac h1 (notin_of h2) h3
      · cases h
    · cases h
  | .par i j oi oj a b, U, Wd, LL, L, st, X, wx, en, q, tk, ac, fz, s, h => by
    unfold chkS at h
    split at h
    · rename_i tg v pos hx
      split at h
      · rename_i t1 t2 v1 v2 ht hv
        split at h
        · rename_i x px y py hx1 hy1
          have e1 := sAsg_ok hx
          obtain ⟨kt, pt, e2⟩ := vTup_ok ht
          obtain ⟨kv, pv, e3⟩ := vTup_ok hv
          have e4 := vNameP_ok hx1
          have e5 := vNameP_ok hy1
          subst e1 e2 e3 e4 e5
          simp only [Bool.and_eq_true] at h
          obtain ⟨⟨⟨⟨⟨⟨⟨⟨h1, h2⟩, h3⟩, h4⟩, h5⟩, h6⟩, h7⟩, h8⟩, hcm⟩ := h
          obtain ⟨n1, n2, n3, n4⟩ := nm_ok q.x.nms h1
          obtain ⟨m1, m2, m3, m4⟩ := nm_ok q.x.nms h2
          have hij : i ≠ j := by simpa using h5
          have hw := swap_two (px := px) (py := py) (pt := pt) (pt2 := pv) (kt := kt) (k2 := kv) (a := v1) (b := v2) (env := X.env) q.kind (by rw [q.x.sc]; exact h8)
          have h9 := h8
          unfold swC at h9
          simp only [Bool.and_eq_true] at h9
          have l1 : X.env.scope.names.lookup x = some .local := by rw [q.x.sc]; exact beq_iff_eq.mp h9.1.1.1.1.1.1.1
          have l2 : X.env.scope.names.lookup y = some .local := by rw [q.x.sc]; exact beq_iff_eq.mp h9.1.1.1.1.1.1.2
          have p1 : plainArg v1 = true := h9.1.1.1.2
          have p2 : plainArg v2 = true := h9.1.1.2
          exact s_par (ps_par (q.x.calm hcm) n1 n2 m2 hij l1 l2 (pa_cons (sndE a Wd LL L q.x tk ac h6).1 (pa_cons (sndE b Wd LL L q.x tk ac h7).1 pa_nil (star_cons p2 [] _)) (star_cons p1 _ _)) hw rfl) (notin_of h3) (notin_of h4) hij
        · cases h
      · cases h
    · cases h
  | .par3 i j l oi oj ol a b c, U, Wd, LL, L, st, X, wx, en, q, tk, ac, fz, s, h => by
    unfold chkS at h
    split at h
    · rename_i tg v pos hx
      split at h
      · rename_i t1 t2 t3 v1 v2 v3 ht hv
        split at h
        · rename_i x px y py z pz hx1 hy1 hz1
          have e1 := sAsg_ok hx
          obtain ⟨kt, pt, e2⟩ := vTup_ok ht
          obtain ⟨kv, pv, e3⟩ := vTup_ok hv
          have e4 := vNameP_ok hx1
          have e5 := vNameP_ok hy1
          have e6 := vNameP_ok hz1
          subst e1 e2 e3 e4 e5 e6
          simp only [Bool.and_eq_true] at h
          obtain ⟨⟨⟨⟨⟨⟨⟨⟨⟨⟨⟨⟨⟨h1, h2⟩, h3⟩, f1⟩, f2⟩, f3⟩, d1⟩, d2⟩, d3⟩, c1⟩, c2⟩, c3⟩, h8⟩, hcm⟩ := h
          obtain ⟨n1, n2, n3, n4⟩ := nm_ok q.x.nms h1
          obtain ⟨m1, m2, m3, m4⟩ := nm_ok q.x.nms h2
          obtain ⟨k1, k2, k3, k4⟩ := nm_ok q.x.nms h3
          have hij : i ≠ j := by simpa using d1
          have hil : i ≠ l := by simpa using d2
          have hjl : j ≠ l := by simpa using d3
          have hw := swap_three (px := px) (py := py) (pz := pz) (pt := pt) (pt2 := pv) (kt := kt) (k2 := kv) (a := v1) (b := v2) (c := v3) (env := X.env) q.kind (by rw [q.x.sc]; exact h8)
          have h9 := h8
          unfold swC3 at h9
          simp only [Bool.and_eq_true] at h9
          obtain ⟨⟨⟨⟨⟨⟨⟨⟨⟨⟨⟨⟨l1, l2⟩, l3⟩, _⟩, _⟩, _⟩, _⟩, _⟩, p1⟩, p2⟩, p3⟩, _⟩, _⟩ := h9
          exact s_par3 (c := v3) (ps_par3 (q.x.calm hcm) n1 n2 m2 k2 hij hil hjl (by rw [q.x.sc]; exact beq_iff_eq.mp l1) (by rw [q.x.sc]; exact beq_iff_eq.mp l2) (by rw [q.x.sc]; exact beq_iff_eq.mp l3)
            (pa_cons (sndE a Wd LL L q.x tk ac c1).1 (pa_cons (sndE b Wd LL L q.x tk ac c2).1 (pa_cons (sndE c Wd LL L q.x tk ac c3).1 pa_nil (star_cons p3 [] _)) (star_cons p2 _ _)) (star_cons p1 _ _)) hw rfl) (notin_of f1) (notin_of f2) (notin_of f3)
        · cases h
      · cases h
    · cases h
  | .asg g ce, U, Wd, LL, L, st, X, wx, en, q, tk, ac, fz, s, h => by
    by_cases hf : ∃ a f, g = .fld a f
    · obtain ⟨a, f, rfl⟩ := hf
      unfold chkS at h
      split at h
      · rename_i tg v pos hx
        split at h
        · rename_i x nm px hy
          have e1 := sAsg_ok hx
          have e2 := vFldP_ok hy
          subst e1 e2
          simp only [Bool.and_eq_true] at h
          obtain ⟨⟨h1, h2⟩, h3⟩ := h
          exact s_fld q.x.K ((Wd.attr f).trans (of_decide_eq_true h2)) (sndE a Wd LL L q.x tk ac h1).1 (sndE ce Wd LL L q.x tk ac h3).1 (swap_attr _ _ _ _ _ _)
        · cases h
      · cases h
    · have h' : (match sAsg s with | some (tg, v, _) => chkT T st fz g tg && chkE T st ce v && swN st.sc tg v && (isTupE tg || noSwap v || isSubE tg) && plainArg tg | none => false) = true := by
        cases g <;> first | exact absurd ⟨_, _, rfl⟩ hf | (unfold chkS at h; exact h)
      clear h
      cases hx : sAsg s with
      | none => rw [hx] at h'; cases h'
      | some xx =>
        obtain ⟨tg, v, pos⟩ := xx
        rw [hx] at h'
        have e1 := sAsg_ok hx
        subst e1
        simp only [Bool.and_eq_true] at h'
        obtain ⟨⟨⟨⟨h1, h2⟩, h3⟩, h4⟩, h5⟩ := h'
        exact s_asg (sndE ce Wd LL L q.x tk ac h2).1 (sndT Wd LL L q.x tk ac g h1) (sole _ _ _ _ h4) (swap_none (by rw [q.x.sc]; exact h3)) (by rw [assignEach_cons h5]; rfl)
  | .move i j, U, Wd, LL, L, st, X, wx, en, q, tk, ac, fz, s, h => by unfold chkS at h; cases h
  | .ext i ce, U, Wd, LL, L, st, X, wx, en, q, tk, ac, fz, s, h => by
    unfold chkS at h
    split at h
    · rename_i x v hx
      obtain ⟨p, p2, rfl⟩ := sAug_ok hx
      rw [Bool.and_eq_true] at h
      obtain ⟨n1, n2, n3, n4⟩ := nm_ok q.x.nms h.1
      exact s_ext n1 n2 n3 n4 (sndE ce Wd LL L q.x tk ac h.2).1
    · cases h
  | .append a ce, U, Wd, LL, L, st, X, wx, en, q, tk, ac, fz, s, h => by
    unfold chkS at h
    split at h
    · rename_i v hx
      split at h
      · rename_i o m p y p2 hy
        obtain ⟨pos, rfl⟩ := sExp_ok hx
        have e1 := vMeth_ok hy
        subst e1
        simp only [Bool.and_eq_true] at h
        obtain ⟨⟨⟨⟨⟨h1, h2⟩, h3⟩, h4⟩, h5⟩, h6⟩ := h
        have e1 := of_decide_eq_true h1
        subst e1
        exact s_append (sndE a Wd LL L q.x tk ac h2).1 (sndE ce Wd LL L q.x tk ac h3).1 h4 h5 h6
      · cases h
    · cases h
  | .augf a f ce, U, Wd, LL, L, st, X, wx, en, q, tk, ac, fz, s, h => by
    unfold chkS at h
    split at h
    · rename_i x nm v hx
      obtain ⟨p, p2, rfl⟩ := sAugF_ok hx
      rw [Bool.and_eq_true, Bool.and_eq_true] at h
      exact s_augf q.x.K ((Wd.attr f).trans (of_decide_eq_true h.1.2)) (sndE a Wd LL L q.x tk ac h.1.1).1 (sndE ce Wd LL L q.x tk ac h.2).1
    · cases h
  | .expr ce, U, Wd, LL, L, st, X, wx, en, q, tk, ac, fz, s, h => by
    unfold chkS at h
    split at h
    · rename_i v hx
      obtain ⟨pos, rfl⟩ := sExp_ok hx
      rw [Bool.and_eq_true] at h
      exact s_expr (sndE ce Wd LL L q.x tk ac h.1).1 h.2
    · cases h
  | .ret ce, U, Wd, LL, L, st, X, wx, en, q, tk, ac, fz, s, h => by
    unfold chkS at h
    split at h
    · rename_i v hx
      obtain ⟨pos, rfl⟩ := sRet_ok hx
      exact s_ret (sndE ce Wd LL L q.x tk ac h).1
    · cases h
  | .retN, U, Wd, LL, L, st, X, wx, en, q, tk, ac, fz, s, h => by
    unfold chkS at h
    split at h
    · rename_i hx
      obtain ⟨pos, rfl⟩ := sRet_ok hx
      exact s_retN
    · cases h
  | .brk, U, Wd, LL, L, st, X, wx, en, q, tk, ac, fz, s, h => by
    obtain ⟨p, rfl⟩ := sBk_ok (show sBk s = true from h)
    exact s_brk
  | .cnt, U, Wd, LL, L, st, X, wx, en, q, tk, ac, fz, s, h => by
    obtain ⟨p, rfl⟩ := sCt_ok (show sCt s = true from h)
    exact s_cnt
  | .pass, U, Wd, LL, L, st, X, wx, en, q, tk, ac, fz, s, h => by
    have h : sPs s = true := h
    unfold sPs at h
    split at h
    · exact s_pass
    · exact s_doc
    · cases h
  | .never, U, Wd, LL, L, st, X, wx, en, q, tk, ac, fz, s, h => s_never
  | .raise c es, U, Wd, LL, L, st, X, wx, en, q, tk, ac, fz, s, h => by
    unfold chkS at h
    split at h
    · rename_i x xs y hx hn
      obtain ⟨p, p2, p3, rfl⟩ := sRaise_ok hx
      simp only [Bool.and_eq_true] at h
      obtain ⟨⟨⟨h1, h2⟩, hcm⟩, h4⟩ := h
      have e1 := of_decide_eq_true h1
      subst e1
      obtain ⟨g1, g2⟩ := gl_ok q.x h2
      obtain ⟨D, hD, hm⟩ := Wd.xown c _ hn
      have hm' : X.mg y = some (.ref D) := by rw [q.x.mg]; exact hm
      split at h4
      · rename_i f ca a hat
        rw [Bool.and_eq_true] at h4
        obtain ⟨D', fI, b, z1, z2, z3⟩ := Wd.xone c f hat
        rw [hD] at z1
        cases z1
        exact s_raise hD (q.x.calm hcm) tk (by rw [q.x.K]; exact z2) hm' (q.x.room hcm) (by rw [Wd.xat]; exact hat) (by rw [L.xat]; exact hat) (sndE ca Wd LL L q.x tk ac h4.1).1 h4.2 g1 g2
      · rename_i hat
        obtain ⟨D', b, z1, z2, z3, z4, z5⟩ := Wd.xnil c hat
        rw [hD] at z1
        cases z1
        rw [← q.x.K] at z2 z3 z4 z5
        exact s_raise0 hD (q.x.calm hcm) tk z2 hm' z3 (raises_own z4 z5) (by rw [Wd.xat]; exact hat) (by rw [L.xat]; exact hat) g1 g2
      · cases h4
    · cases h
  | .stry b hs, U, Wd, LL, L, st, X, wx, en, q, tk, ac, fz, s, h => by
    unfold chkS at h
    split at h
    · rename_i x hds hx
      obtain ⟨p, rfl⟩ := sTry_ok hx
      simp only [Bool.and_eq_true] at h
      obtain ⟨⟨⟨hcm, h1⟩, h2⟩, h3⟩ := h
      have hh := sndH hs Wd LL L (en := en) q hcm h3
      cases hds with
      | nil => cases h1
      | cons h0 hds =>
        refine s_try (q.x.nh hcm) (fun c d b z => ?_) q.stk q.fr tk (fun wy pn xe tky ow => sndB b Wd LL L (q.tr hcm ow) tky ac.tr h2) hh
        rw [q.x.K]
        exact (Wd.xis c d b (by rw [← L.xis]; exact z)).1
    · cases h
  | .sif t a b, U, Wd, LL, L, st, X, wx, en, q, tk, ac, fz, s, h => by
    unfold chkS at h
    split at h
    · rename_i c x y hx
      obtain ⟨pos, rfl⟩ := sIfs_ok hx
      simp only [Bool.and_eq_true] at h
      exact s_if (sndE t Wd LL L q.x tk ac h.1.1).2.1 (sndB a Wd LL L q tk ac h.1.2) (sndB b Wd LL L q tk ac h.2)
    · cases h
  | .sfor g it b, U, Wd, LL, L, st, X, wx, en, q, tk, ac, fz, s, h => by
    unfold chkS at h
    split at h
    · rename_i tg i x hx
      obtain ⟨pos, rfl⟩ := sFr_ok hx
      simp only [Bool.and_eq_true] at h
      obtain ⟨⟨⟨⟨⟨h1, h2⟩, h3⟩, h4⟩, h5⟩, hcm⟩ := h
      exact s_for (q.own hcm) (q.x.calm hcm) (sndI it Wd LL L q.x tk ac (tg := tg) h1 true) (chkG_ok q.x.nms q.x.K h2) (disj_ok h3) (sndB b Wd LL L q tk ac h4) fun x => by cases i <;> first | rfl | (cases h5; done)
    · cases h
  | .sforo g j b, U, Wd, LL, L, st, X, wx, en, q, tk, ac, fz, s, h => by
    unfold chkS at h
    split at h
    · rename_i tg i x hx
      split at h
      · rename_i y hy
        obtain ⟨pos, rfl⟩ := sFr_ok hx
        obtain ⟨p, rfl⟩ := vName_ok hy
        simp only [Bool.and_eq_true] at h
        obtain ⟨⟨⟨⟨h1, h2⟩, h3⟩, h4⟩, hcm⟩ := h
        obtain ⟨v1, v2, v3, v4⟩ := vis_ok q.x h1
        exact s_forO q.x.K (q.own hcm) (q.x.calm hcm) v1 v2 v3 v4 (chkG_ok q.x.nms q.x.K h2) (disj_ok h3) (sndB b Wd LL L q tk ac h4)
      · cases h
    · cases h
  | .swhile t b, U, Wd, LL, L, st, X, wx, en, q, tk, ac, fz, s, h => by
    unfold chkS at h
    split at h
    · rename_i c x hx
      obtain ⟨pos, rfl⟩ := sWh_ok hx
      simp only [Bool.and_eq_true] at h
      obtain ⟨h, hcm⟩ := h
      exact s_while (p := pos) (q.own hcm) (sndE t Wd LL L q.x tk ac h.1).2.1 (sndB b Wd LL L q tk ac h.2)
    · cases h
theorem sndB : ∀ (c : CSs) {U : Univ} (Wd : Wld U T) (LL : Low U T Cf k) (L : Lev U T Cf C k) {st : Stat} {X : Cx} {wx : WX} {en : Ent} (q : SOk U st k X) (tk : Takes X wx) (ac : ActS U C st X) {fz : List Nat} {s : List Stmt}, chkB T st c fz s = true → SSs U.W wx en fz C X s c
  | .nil, U, Wd, LL, L, st, X, wx, en, q, tk, ac, fz, s, h => by
    cases s with
    | nil => exact s_nil
    | cons a b => unfold chkB at h; cases h
  | .cons c cs, U, Wd, LL, L, st, X, wx, en, q, tk, ac, fz, s, h => by
    cases s with
    | nil => unfold chkB at h; cases h
    | cons a b =>
      have h : (chkS T st c fz a && chkB T st cs fz b) = true := h
      rw [Bool.and_eq_true] at h
      exact s_cons (sndS c Wd LL L q tk ac h.1) (sndB cs Wd LL L q tk ac h.2)
theorem sndH : ∀ (c : CHs) {U : Univ} (Wd : Wld U T) (LL : Low U T Cf k) (L : Lev U T Cf C k) {st : Stat} {X : Cx} {en : Ent} (q : SOk U st k X) (hc : st.calm = true) {fz : List Nat} {hds : List ExceptHandler}, chkH T st c fz hds = true → HsOk U.W en fz C X hds c
  | .nil, U, Wd, LL, L, st, X, en, q, hc, fz, hds, h => by
    cases hds with
    | nil => exact .nil
    | cons a b => unfold chkH at h; cases h
  | .cons cs i b hs, U, Wd, LL, L, st, X, en, q, hc, fz, hds, h => by
    cases hds with
    | nil => unfold chkH at h; cases h
    | cons hd hds' =>
      obtain ⟨typ, n, sb, pos⟩ := hd
      cases typ with
      | none => unfold chkH at h; cases h
      | some t =>
      cases sb with
      | nil => unfold chkH at h; cases h
      | cons b₀ suite =>
      have h : (chkX T st cs t && chkN st i n && chkB T (hotSt st) b fz (b₀ :: suite) && chkH T st hs fz hds') = true := h
      simp only [Bool.and_eq_true] at h
      obtain ⟨⟨⟨h1, h2⟩, h3⟩, h4⟩ := h
      have te := chkX_ok Wd q.x h1
      have ih := sndH hs Wd LL L (en := en) q hc h4
      have su : ∀ (a : Addr) (oe : Obj) (cls : Value) (d : Option Addr) (pn : List (Addr × Obj)), Zc cls d oe → (∃ vs, oe.data = .fields vs) → SSs (U.W.at_ (only U.W a cls d) U.W.fa U.W.fam) wNo en fz C (X.suite a ((a, oe) :: pn)) (b₀ :: suite) b := fun a oe cls d pn hz hf =>
        sndB b (U := U.at_ (only U.W a cls d) U.W.fa U.W.fam) (wld_at Wd fun a' cls' d' z => by
          obtain ⟨rfl, rfl, rfl, c, zc, rfl⟩ := z
          exact Wd.xcls c (by rw [← Wd.xat]; exact zc)) (low_at LL) (lev_at L) (q.suite hz hf) takes_none5 (fun z => nomatch z) h3
      cases i with
      | none =>
        cases n with
        | none => exact .bare te su ih
        | some n => unfold chkN at h2; cases h2
      | some i =>
        cases n with
        | none => unfold chkN at h2; cases h2
        | some n =>
          unfold chkN at h2
          rw [Bool.and_eq_true] at h2
          exact .named te (by rw [q.x.N]; exact q.x.nd) (by rw [q.x.N]; exact of_decide_eq_true h2.1) (by show X.env.scope.names.lookup n = _; rw [q.x.sc]; exact of_decide_eq_true h2.2) su ih
end
end
end Z
set_option Elab.async false
set_option linter.all false
set_option maxRecDepth 100000
set_option maxHeartbeats 4000000
namespace Z
open PySem PySem.Spec PyProof.Rows L2
theorem law_runsT {P : Program} {w : World} {K : PySem.W.Frag} {mg mb : Str → Option Value} {k : Nat} {fa a : Addr} {cs : List (Addr × Addr)} {fd : FuncData} {x : Str} {sp : Sp} {s₁ : Shared} {vs : List Value} {ns : List Int}
    (KX : K.In s₁.heap) (hns : s₁.heap.Ns mainGlobals mg) (hb : s₁.heap.Ns builtinsNs mb) (hbb : ∀ x : Str, x ≠ "__name__" → mb x = bootBuiltins x) (hlim : s₁.heap.NoLimit) (hg : s₁.gens = #[])
    (hT : ∀ p ∈ cs, s₁.heap.get? p.2 = some { cls := .none, data := .fields #[] }) (nT : ∀ p ∈ cs, K.lookup p.2 = none) (C : ∀ p ∈ cs, PySem.W.CodeHd s₁.heap p.1 p.2)
    (hbm : ∃ (bm : Addr) (ob : Obj), mg "__builtins__" = some (.ref bm) ∧ bm ≠ builtinsNs ∧ s₁.heap.get? bm = some ob ∧ ob.cls = .type "module" ∧ ob.dict = some builtinsNs ∧ ob.data = .plain)
    (ha : s₁.heap.get? a = some { cls := .type "list", data := .seq vs.toArray }) (hi : IntsAre vs ns) (hl : ns.length ≤ sizeLine) (hr : Room k callerA)
    (F : ∀ base : Heap, K.In base → base.Ns mainGlobals mg → (∀ p ∈ cs, LamX.TabB base mg p.1 p.2) → FnG P w K mg base k fa fd [x] sp) (hbind : ∀ (s : Shared) (u : Value), BindsTo s fd ⟨[u], []⟩ [(x, u)])
    (hsp : ∀ H : Hp, (∀ p ∈ cs, H p.2 = some (.tbl #[])) → SqL K H a (ns.map V.int) → sp [.ref a] H (fun v _ => v = .bl true) fun _ _ _ => False) :
    codeAny (model P w) callerA (.call (.ref fa) ⟨[.ref a], []⟩) (fun r s' => r = .ok (.ret (.bool true)) ∧ OldK s₁.heap s'.heap ∧ s'.os = s₁.os ∧ AllBare s'.gens) s₁ := by
  have rv := vals_ints hi
  have lenV := hi.length
  have isT : ∀ b : Addr, b ∈ cs.map (·.2) → s₁.heap.get? b = some { cls := .none, data := .fields #[] } := fun b hb => by
    obtain ⟨p, hp, e⟩ := List.mem_map.mp hb
    rw [← e]
    exact hT p hp
  have aT : a ∉ cs.map (·.2) := fun z => by
    have q := isT a z
    rw [ha] at q
    have z' : Data.seq vs.toArray _ = Data.fields #[] := congrArg Obj.data (Option.some.inj q)
    cases z'
  have memT : ∀ p ∈ cs, p.2 ∈ cs.map (·.2) := fun p hp => List.mem_map.mpr ⟨p, hp, rfl⟩
  -- from an abstract heap in which nothing but the script and the tables may be tracked
  have core : ∀ H : Hp, (∀ p ∈ cs, H p.2 = some (.tbl #[])) → (∀ b, H b = none ∨ b ∈ cs.map (·.2) ∨ ∃ o xs, H b = some (.frz o (.lst xs))) → SqL K H a (ns.map V.int) → HOk P w H s₁.heap → (∀ b, H b ≠ none → b = a ∨ b ∈ cs.map (·.2)) → (H a ≠ none → K.lookup a = none) →
      codeAny (model P w) callerA (.call (.ref fa) ⟨[.ref a], []⟩) (fun r s' => r = .ok (.ret (.bool true)) ∧ OldK s₁.heap s'.heap ∧ s'.os = s₁.os ∧ AllBare s'.gens) s₁ := by
    intro H hH hO hS hok hA hK
    have base_of : ∀ {b : Addr} {o : Obj}, s₁.heap.get? b = some o → H b = none → (hidT s₁.heap H).get? b = some o := fun e n => hidT_get e n
    have noD : ∀ {b : Addr} {o : Obj}, s₁.heap.get? b = some o → (∀ vs n, o.data ≠ .seq vs n) → o.data ≠ .fields #[] → H b = none := fun {b o} e h1 h2 => by
      cases q : H b with
      | none => rfl
      | some u =>
        rcases hA b (by rw [q]; simp) with e' | e'
        · rw [e', ha] at e
          cases e
          exact (h1 _ _ rfl).elim
        · rw [isT b e'] at e
          cases e
          exact (h2 rfl).elim
    have noA : ∀ {b : Addr} {o : Obj} {es : Array DictEntry} {ep : Nat}, s₁.heap.get? b = some o → o.data = .dict es ep → H b = none := fun {b o es ep} e d => by
      refine noD e (fun vs n z => ?_) fun z => ?_
      · rw [d] at z
        cases z
      · rw [d] at z
        cases z
    have nsK : ∀ {b : Addr} {m : Str → Option Value}, s₁.heap.Ns b m → (hidT s₁.heap H).Ns b m := fun {b m} ⟨o, es, ep, e, d, r⟩ => ⟨o, es, ep, base_of e (noA e d), d, r⟩
    have hKb : K.In (hidT s₁.heap H) := fun b o e => base_of (KX b o e) (by
      cases q : H b with
      | none => rfl
      | some u =>
        rcases hA b (by rw [q]; simp) with e' | e'
        · rw [e'] at e q
          rw [hK (by rw [q]; simp)] at e
          cases e
        · obtain ⟨p, hp, ep⟩ := List.mem_map.mp e'
          rw [← ep, nT p hp] at e
          cases e)
    have hM : L2.Mod K mg (hidT s₁.heap H) := ⟨hKb, nsK hns, ⟨mb, nsK hb, hbb⟩, let ⟨mc, h1, h2⟩ := hlim; ⟨mc, nsK h1, h2⟩⟩
    have TB : ∀ p ∈ cs, LamX.TabB (hidT s₁.heap H) mg p.1 p.2 := fun p hp => by
      have hTp := hT p hp
      refine ⟨?_, ?_, fun z => ?_⟩
      · obtain ⟨o, us, file, tf, flags, tg, inF, text, tt, e1, r1, r2, r3, r4, r5, r6, r7, r8, hne⟩ := C p hp
        refine ⟨o, us, file, tf, flags, tg, inF, text, tt, base_of e1 (noD e1 (fun vs n z => ?_) fun z => ?_), r1, r2, r3, r4, r5, r6, r7, r8, hne⟩
        · rw [r2] at z
          cases z
        · rw [r2] at z
          cases z
          simp at r3
      · obtain ⟨bm, ob, b1, b2, b3, b4, b5, b6⟩ := hbm
        have nG : bm ≠ mainGlobals := fun q => by
          obtain ⟨o, es, ep, e, hd, _⟩ := hns
          rw [q, e] at b3
          cases b3
          rw [hd] at b6
          cases b6
        have nP : bm ≠ p.2 := fun q => by
          rw [q, hTp] at b3
          cases b3
          cases b6
        refine ⟨bm, ob, b1, b2, nG, nP, base_of b3 (noD b3 (fun vs n z => ?_) fun z => ?_), b4, b5, b6⟩
        · rw [b6] at z
          cases z
        · rw [b6] at z
          cases z
      · obtain ⟨o, es, ep, e, hd, _⟩ := hns
        rw [z, hTp] at e
        cases e
        cases hd
    have e0 : Env0 P w K mg (hidT s₁.heap H) callerA [] s₁ H := ⟨rfl, hM, fun b o e => of_hidT e, Nat.le_of_eq (hidT_size _ _), trivial, fun b hb => absurd (show b ∈ ([] : List Addr) from hb) (by simp), hok, .of_eq hg⟩
    refine codeAny_mono ((F _ hKb (nsK hns) TB).run callerA [] s₁ H ⟨[.ref a], []⟩ [.ref a] [.ref a] _ _ ⟨hr, rfl⟩ e0 (hbind s₁ (.ref a)) (.cons rfl .nil) (hsp H hH hS)) fun r s' h => ?_
    cases r with
    | error e => exact (cx_never h).elim
    | ok fl =>
      cases fl with
      | next => exact False.elim h
      | brk => exact False.elim h
      | cont => exact False.elim h
      | ret u =>
        obtain ⟨v, H', os, bare, un, hok', r', q⟩ := h
        have q' : v = .bl true := q
        subst q'
        obtain rfl : u = Value.bool true := r'
        have key : ∀ b o, b ∉ cs.map (·.2) → s₁.heap.get? b = some o → s'.heap.get? b = some o := fun b o nb e => by
          cases q : H b with
          | none => exact un.keep b o e q (by intro z; exact absurd (show b ∈ ([] : List Addr) from z) (by simp)) (by simp)
          | some u =>
            rcases hO b with z | z | ⟨ob, xs, z⟩
            · rw [q] at z; cases z
            · exact absurd z nb
            · have z2 := un.frzs b ob _ z
              obtain ⟨e1, _⟩ := hok b _ z
              obtain ⟨e2, _⟩ := hok' b _ z2
              rw [e] at e1; cases e1
              exact e2
        have grown : ∀ p ∈ cs, ∃ more : Array Value, s'.heap.get? p.2 = some { cls := .none, data := .fields more } := fun p hp => by
          obtain ⟨more, z⟩ := un.tbls p.2 #[] (hH p hp)
          exact ⟨_, hok' p.2 _ z⟩
        refine ⟨rfl, ⟨fun b o e => ?_, fun b o e => ?_⟩, os, bare⟩
        · by_cases hb : b ∈ cs.map (·.2)
          · obtain ⟨p, hp, ep⟩ := List.mem_map.mp hb
            obtain ⟨more, hm⟩ := grown p hp
            rw [← ep] at e ⊢
            rw [hT p hp] at e
            cases e
            exact .inr (.inl ⟨((C p hp).tab (hT p hp)).isCodeTable, rfl, #[], more, rfl, by rw [Array.empty_append]; exact hm⟩)
          · exact .inl (key b o hb e)
        · by_cases hb : b ∈ cs.map (·.2)
          · obtain ⟨p, hp, ep⟩ := List.mem_map.mp hb
            obtain ⟨more, hm⟩ := grown p hp
            rw [← ep]
            exact ⟨_, hm⟩
          · exact ⟨o, key b o hb e⟩
  cases hk : K.lookup a with
  | some o =>
    have e := KX a o hk
    rw [ha] at e
    cases e
    refine core (fun b => if b ∈ cs.map (·.2) then some (.tbl #[]) else none) (fun p hp => if_pos (memT p hp)) (fun b => ?_) (.inr ⟨_, vs.toArray, _, hk, rfl, rfl, rfl, by rw [List.size_toArray, lenV]; exact hl, by simpa using rv⟩) (fun b u z => ?_) (fun b z => ?_) fun z => absurd (show (if a ∈ cs.map (·.2) then some (HO.tbl #[]) else none) = none from if_neg aT) z
    · by_cases hb : b ∈ cs.map (·.2)
      · exact .inr (.inl hb)
      · exact .inl (if_neg hb)
    · by_cases hb : b ∈ cs.map (·.2)
      · have z' := (if_pos hb).symm.trans z
        cases z'
        exact isT b hb
      · have z' := (if_neg hb).symm.trans z
        cases z'
    · by_cases hb : b ∈ cs.map (·.2)
      · exact .inr hb
      · exact absurd (if_neg hb) z
  | none =>
    refine core (fun b => if b = a then some (.frz { cls := .type "list", data := .seq vs.toArray } (.lst (ns.map V.int))) else if b ∈ cs.map (·.2) then some (.tbl #[]) else none) (fun p hp => (if_neg (show ¬ p.2 = a from fun z => aT (by rw [← z]; exact memT p hp))).trans (if_pos (memT p hp))) (fun b => ?_)
      (.inl (.inr ⟨{ cls := .type "list", data := .seq vs.toArray }, if_pos rfl⟩)) (fun b u z => ?_) (fun b z => ?_) fun _ => hk
    · by_cases hb : b = a
      · exact .inr (.inr ⟨_, _, if_pos hb⟩)
      · by_cases hb2 : b ∈ cs.map (·.2)
        · exact .inr (.inl hb2)
        · exact .inl ((if_neg hb).trans (if_neg hb2))
    · by_cases hb : b = a
      · have z' := (if_pos hb).symm.trans z
        cases z'
        rw [hb]
        exact ⟨ha, by rw [List.length_map]; exact hl, vs, _, rv, ha⟩
      · have z1 := (if_neg hb).symm.trans z
        by_cases hb2 : b ∈ cs.map (·.2)
        · have z' := (if_pos hb2).symm.trans z1
          cases z'
          exact isT b hb2
        · have z' := (if_neg hb2).symm.trans z1
          cases z'
    · by_cases hb : b = a
      · exact .inl hb
      · by_cases hb2 : b ∈ cs.map (·.2)
        · exact .inr hb2
        · exact absurd ((if_neg hb).trans (if_neg hb2)) z
theorem walk_GT {l : PySem.W.OpenLaw} {n k : Nat} {q : Program} {loose : List Str} {XP : (Str → Option Value) → Heap → Prop} {YP : World → Heap → Prop} {d : DefRec} {x : Str}
    (hn : l.most = some n) (hn2 : n ≤ sizeLine) (hdf : d.params.defaults = []) (hr : Room k callerA)
    (F : ∀ (w : World) (mg : Str → Option Value) (fa : Addr) (h : Heap), YP w h → h.Ns mainGlobals mg → mg d.name = some (.ref fa) →
      ∃ (K : PySem.W.Frag) (fd : FuncData) (cs : List (Addr × Addr)) (sp : Sp), K.In h ∧ (∀ p ∈ cs, h.get? p.2 = some { cls := .none, data := .fields #[] }) ∧ (∀ p ∈ cs, K.lookup p.2 = none) ∧ (∀ p ∈ cs, PySem.W.CodeHd h p.1 p.2) ∧ (∀ (s : Shared) (u : Value), BindsTo s fd ⟨[u], []⟩ [(x, u)]) ∧
        (∀ (H : Hp) (a : Addr) (ns : List Int), ns.length ≤ n → (∀ p ∈ cs, H p.2 = some (.tbl #[])) → SqL K H a (ns.map V.int) → sp [.ref a] H (fun v _ => v = .bl true) fun _ _ _ => False) ∧
        ∀ base : Heap, K.In base → base.Ns mainGlobals mg → (∀ p ∈ cs, LamX.TabB base mg p.1 p.2) → FnG l.prog w K mg base k fa fd [x] sp) :
    PySem.W.WalkO q loose XP YP l.row.toRowW d [] (fun f vs => PySem.call f vs) := by
  refine Att.attach_callB hn hdf fun w s₀ s₁ mg mb fa o pm cd doc a vs ns G Y ho hd hcd hmg hobj hints hlen hbits hg => ?_
  obtain ⟨K, fd, cs, sp, KX, hT, nT, C, hb, hsp, hF⟩ := F w mg fa _ Y G.T.g hmg
  exact law_runsT KX G.T.g G.T.b G.T.builtins G.T.nolimit hg hT nT C G.T.bmain hobj hints (Nat.le_trans hlen hn2) hr hF hb fun H hH hS => hsp H a ns hlen hH hS
end Z
set_option Elab.async false
set_option linter.all false
set_option maxRecDepth 100000
set_option maxHeartbeats 4000000
namespace Z
open PySem PySem.Spec PyProof.Rows L2
def gAt (K : PySem.W.Frag) (x f : Str) : Addr := match PySem.W.recIn K (He.ma K (He.ga K x) f) "property" with
  | some (.ref g :: _) => g
  | _ => 0
def fnAt (K : PySem.W.Frag) (a : Addr) : He.FnW := match K.lookup a with
  | some ob => (match ob.data with
    | .func q => some (q.name, q.qualname, q.params, q.body, q.scope, q.globals, q.closure, q.builtins)
    | _ => none)
  | none => none
def okAt (K : PySem.W.Frag) (a : Addr) (qual : Str) : Bool := PySem.W.keepIn K (.ref a) && (match K.lookup a with
  | some ob => (match ob.data with
    | .func q => PySem.W.codeIn K q.code qual && (He.dflB K q.defaults [] && He.kwdB K q.kwdefaults [])
    | _ => false)
  | none => false)
theorem funD_at {K : PySem.W.Frag} {a : Addr} {name qual : Str} {params : Arguments} {body : List Stmt} {scope : Scope} (e : fnAt K a = some (name, qual, params, .stmts body, scope, mainGlobals, [], builtinsNs)) (c : okAt K a qual = true) :
    ∃ fd, FunD K name qual params body scope [] [] a fd := by
  unfold okAt at c
  unfold fnAt at e
  rw [Bool.and_eq_true] at c
  obtain ⟨kp, c⟩ := c
  cases q : K.lookup a with
  | none => rw [q] at c; cases c
  | some ob =>
    obtain ⟨o1, o2, o3, o4⟩ := ob
    rw [q] at c e
    cases o3 with
    | func z =>
      obtain ⟨z1, z2, z3, z4, z5, z6, z7, z8, z9, z10, z11, z12, z13, z14, z15⟩ := z
      have e2 : some (z1, z2, z3, z4, z5, z6, z7, z15) = some (name, qual, params, FuncBody.stmts body, scope, mainGlobals, [], builtinsNs) := e
      cases e2
      have c : (PySem.W.codeIn K z13 qual && (He.dflB K z8 [] && He.kwdB K z9 [])) = true := c
      rw [Bool.and_eq_true, Bool.and_eq_true] at c
      exact ⟨_, ⟨o1, o2, z8, z9, z10, z11, z12, z13, z14, o4, rfl, q, c.1, He.dflB_ok c.2.1, He.kwdB_ok c.2.2⟩, kp⟩
    | _ => cases c
def getW (pr : List He.DefD) (K : PySem.W.Frag) : List He.FnW := pr.map fun d => fnAt K (gAt K d.at_.1 (d.at_.2.getD ""))
def obsP (n : Nat) (fa : List He.Fa) (fn : List He.DefD) (tf : List He.Defn) (ex : PySem.W.Frag → Bool) (pr : List He.DefD) (g : Addr → Option Obj) : He.AlX × List He.FnW := (He.obsX n fa fn [] tf ex g, getW pr (He.frT g (He.asD g n)))
def hookP (n : Nat) (fa : List He.Fa) (fn : List He.DefD) (tf : List He.Defn) (ex : PySem.W.Frag → Bool) (pr : List He.DefD) : PySem.W.Hook where
  α := He.AlX × List He.FnW
  obs := fun s => obsP n fa fn tf ex pr s.heap.get?
  val := fun w => (He.valX fn [] w, pr.map He.DefD.val)
  says := fun w h => ∃ K : PySem.W.Frag, K.In h ∧ He.SaysX fa fn [] tf ex w h K ∧ getW pr K = pr.map He.DefD.val
  of := fun w s e => ⟨_, He.frT_in, He.saysX_of (congrArg Prod.fst e), congrArg Prod.snd e⟩
  keeps := fun _ _ _ ⟨K, hK, c, e⟩ k => ⟨K, PySem.W.Frag.In.keeps hK k, ⟨c.t, c.more, c.hd, c.out, fun p hp => k _ _ (c.empty p hp)⟩, e⟩
theorem obsP_eq {n : Nat} {fa : List He.Fa} {fn : List He.DefD} {tf : List He.Defn} {ex : PySem.W.Frag → Bool} {pr : List He.DefD} {g : Addr → Option Obj} {s : Shared} (h : ∀ a, g a = s.heap.get? a) : obsP n fa fn tf ex pr g = (hookP n fa fn tf ex pr).obs s := by
  rw [show g = s.heap.get? from funext h]
  rfl
theorem getW_at {pr : List He.DefD} {K : PySem.W.Frag} (e : getW pr K = pr.map He.DefD.val) {d : He.DefD} (h : d ∈ pr) : fnAt K (gAt K d.at_.1 (d.at_.2.getD "")) = d.val := by
  obtain ⟨i, hi⟩ := List.mem_iff_getElem?.mp h
  have z : (getW pr K)[i]? = (pr.map He.DefD.val)[i]? := by rw [e]
  unfold getW at z
  rw [List.getElem?_map, List.getElem?_map, hi] at z
  exact Option.some.inj z
end Z
set_option Elab.async false
set_option linter.all false
set_option maxRecDepth 100000
set_option maxHeartbeats 4000000
namespace Z
open PySem PySem.Spec PyProof.Rows L2
def KAll (name qual : Str) (stm : Stmt) (ps : List Str) : List (Nat × List Str × List Nat) → Prop
  | [] => True
  | p :: r => (∀ (kV doc pm : Value) (an : Option Addr) (cdv ct : Value) (us ws : List Value), us.length = p.1 → ws.length = p.2.1.length →
      bindArgs (PySem.W.fnOf name qual (defArgs stm) (defBody stm) (defScope stm) .none kV doc pm an cdv ct) ⟨us, p.2.1.zip ws⟩ = pure (ps.zip (permU p.2.2 (us ++ ws)))) ∧ KAll name qual stm ps r
theorem KAll.mem {name qual : Str} {stm : Stmt} {ps : List Str} : ∀ {l : List (Nat × List Str × List Nat)} {p : Nat × List Str × List Nat}, KAll name qual stm ps l → p ∈ l → ∀ (kV doc pm : Value) (an : Option Addr) (cdv ct : Value) (us ws : List Value), us.length = p.1 → ws.length = p.2.1.length →
      bindArgs (PySem.W.fnOf name qual (defArgs stm) (defBody stm) (defScope stm) .none kV doc pm an cdv ct) ⟨us, p.2.1.zip ws⟩ = pure (ps.zip (permU p.2.2 (us ++ ws)))
  | p :: r, q, h, hm => by
    rcases List.mem_cons.mp hm with z | z
    · rw [z]; exact h.1
    · exact h.2.mem z
structure Def where
  id : Nat
  cls : Option Str
  name : Str
  qual : Str
  stm : Stmt
  ps : List Str
  N : List Str
  code : FDef
  bind : ∀ (kV doc pm : Value) (an : Option Addr) (cdv ct : Value) (us : List Value), us.length = ps.length → bindArgs (PySem.W.fnOf name qual (defArgs stm) (defBody stm) (defScope stm) .none kV doc pm an cdv ct) ⟨us, []⟩ = pure (ps.zip us)
  kws : List (Nat × List Str × List Nat)
  kbind : KAll name qual stm ps kws
  /-- 0: called; 1: called with a lambda; 2: called with a handled error; 3: an error's __init__ -/
  kind : Nat := 0
  /-- it makes lambdas -/
  lam : Bool := false
  /-- the class's number, of a method (kind 4), of a property (kind 5) -/
  cid : Nat := 0
structure CSrc where
  id : Nat
  name : Str
  ini : Nat
  nf : Nat
structure XSrc where
  id : Nat
  name : Str
  own : Bool
  blt : String
  rz : Option (Option (Nat × Nat))
  root : XT.Bs
  sup : List Nat
structure Src where
  defs : List Def
  cls : List CSrc
  nums : List (Nat × Str × Int)
  frees : List Str
  attrs : List Str
  errs : List XSrc := []
def Def.at_ (d : Def) : Str × Option Str := match d.cls with | none => (d.name, none) | some c => (c, some d.name)
def Def.dd (d : Def) : He.DefD := ⟨d.at_, d.name, d.qual, defArgs d.stm, defBody d.stm, defScope d.stm, [], []⟩
def Src.def_ (Q : Src) (g : Nat) : Option Def := Q.defs.find? fun d => d.id == g
def Src.cls_ (Q : Src) (c : Nat) : Option CSrc := Q.cls.find? fun d => d.id == c
def Src.int_ (Q : Src) (k : Nat) : Option (Nat × Str × Int) := Q.nums.find? fun d => d.1 == k
def Src.err_ (Q : Src) (c : Nat) : Option XSrc := Q.errs.find? fun d => d.id == c
def Src.xat_ (Q : Src) (c : Nat) : Option (Option Nat) := (match Q.err_ c with | some s => s.rz.map fun o => o.map Prod.fst | none => none)
def Src.xis_ (Q : Src) (c d : Nat) : Option Bool := (match Q.err_ c, Q.err_ d with | some s, some _ => (match s.rz with | some _ => some (s.sup.contains d) | none => none) | _, _ => none)
def Src.ofCls (Q : Src) (kd g : Nat) : Option (Nat × Str × Nat) := (match Q.def_ g with
  | some d => (match d.cls, Q.cls_ d.cid, decide (d.kind = kd) with
    | some cn, some s, true => (match decide (s.name = cn) with | true => some (d.cid, d.name, d.ps.length) | false => none)
    | _, _, _ => none)
  | none => none)
def Src.tab (Q : Src) : Tab where
  fn := fun g => (match Q.def_ g with | some d => (match d.cls, d.kind with | none, 0 => some (d.name, d.ps.length) | _, _ => none) | none => none)
  cl := fun c => (match Q.cls_ c with | some s => (match Q.def_ s.ini with | some d => some (s.name, d.ps.length) | none => none) | none => none)
  con := fun k => (match Q.int_ k with | some (_, x, i) => some (x, .int i) | none => none)
  free := fun x => Q.frees.contains x
  attr := fun f => Q.attrs.getD f ""
  kp := fun g => (match Q.def_ g with | some d => d.kws | none => [])
  isc := fun c => (match Q.cls_ c with | some s => some s.name | none => none)
  xn := fun c => (match Q.err_ c with | some s => some (s.name, s.own) | none => none)
  xat := Q.xat_
  xis := Q.xis_
  hf := fun g => (match Q.def_ g with | some d => (match d.cls, d.kind with | none, 2 => some d.name | _, _ => none) | none => none)
  lf := fun g => (match Q.def_ g with | some d => (match d.cls, d.kind with | none, 1 => some d.name | _, _ => none) | none => none)
  mt := Q.ofCls 4
  kc := fun c => (match Q.cls_ c with | some s => (match Q.def_ s.ini with | some d => d.kws | none => []) | none => [])
  pp := Q.ofCls 5
  nf := fun x => !Q.attrs.contains x
  nb := fun c => (Q.cls_ c).isSome
def Src.prog (Q : Src) : Prog where
  fn := fun g => (match Q.def_ g with | some d => some d.code | none => none)
  cl := fun c => (match Q.cls_ c with | some s => some ⟨s.ini, s.nf⟩ | none => none)
  con := fun k => (match Q.int_ k with | some (_, _, i) => some (.int i) | none => none)
  xat := Q.xat_
  xis := Q.xis_
def initA : Arguments → Option Str
  | ⟨[], [⟨s, none, _⟩, ⟨f, none, _⟩], none, [], [], none, []⟩ => if s = "self" then some f else none
  | _ => none
def initB : List Stmt → Option (Str × Str)
  | [.Assign [.Attribute (.Name s _) f _] (.Name g _) _] => if s = "self" then some (f, g) else none
  | _ => none
def initS : Scope → Option Str
  | ⟨.function, [(s, .local), (f, .local)], false, false, []⟩ => if s = "self" then some f else none
  | _ => none
def initOk (fa : Str) (stm : Stmt) : Bool := decide (initA (defArgs stm) = some fa) && decide (initB (defBody stm) = some (fa, fa)) && decide (initS (defScope stm) = some fa)
theorem initA_ok {fa : Str} {a : Arguments} (h : initA a = some fa) : ∃ p1 p2, a = XT.iA fa p1 p2 := by
  unfold initA at h
  split at h
  · split at h
    · rename_i e
      cases h
      subst e
      exact ⟨_, _, rfl⟩
    · cases h
  · cases h
theorem initB_ok {fa : Str} {b : List Stmt} (h : initB b = some (fa, fa)) : ∃ q1 q2 q3 q4, b = XT.iB fa q1 q2 q3 q4 := by
  unfold initB at h
  split at h
  · split at h
    · rename_i e
      cases h
      subst e
      exact ⟨_, _, _, _, rfl⟩
    · cases h
  · cases h
theorem initS_ok {fa : Str} {sc : Scope} (h : initS sc = some fa) : sc = XT.iS fa := by
  unfold initS at h
  split at h
  · split at h
    · rename_i e
      cases h
      subst e
      rfl
    · cases h
  · cases h
def scOk (N ps : List Str) (sc : Scope) : Bool := (match sc.kind with | .function => true | _ => false) && !sc.isCoroutine && !sc.isGenerator && decide N.Nodup && decide (N.take ps.length = ps) &&
  (ps.all fun x => match sc.names.lookup x with | some .local => true | some .cell => true | _ => false) && sc.names.all fun y => match y.2 with | .free => false | _ => true
theorem scOk_ok {N ps : List Str} {sc : Scope} (h : scOk N ps sc = true) : FnScope N ps sc := by
  unfold scOk at h
  simp only [Bool.and_eq_true, Bool.not_eq_true'] at h
  obtain ⟨⟨⟨⟨⟨⟨h1, h2⟩, h3⟩, h4⟩, h5⟩, h6⟩, h7⟩ := h
  refine ⟨?_, h2, h3, of_decide_eq_true h4, of_decide_eq_true h5, fun x hx => ?_, fun y hy e => ?_⟩
  · split at h1
    · assumption
    · cases h1
  · have z := List.all_eq_true.mp h6 x hx
    split at z
    · exact .inl (by assumption)
    · exact .inr (by assumption)
    · cases z
  · have z := List.all_eq_true.mp h7 y hy
    rw [e] at z
    cases z
def Def.chk (d : Def) (T : Tab) (fz : List Nat) : Bool := decide (d.code.np = d.ps.length) && decide (d.code.nl = d.N.length) && scOk d.N d.ps (defScope d.stm) && (match d.kind with
  | 0 => chkB T ⟨d.N, defScope d.stm, fun _ => true, true, false, d.lam⟩ d.code.body fz (defBody d.stm)
  | 1 => decide (d.ps.length = 1) && chkB T ⟨d.N, defScope d.stm, fun _ => true, true, true, false⟩ d.code.body fz (defBody d.stm)
  | 2 => decide (d.ps.length = 1) && chkB T ⟨d.N, defScope d.stm, fun _ => true, false, false, false⟩ d.code.body fz (defBody d.stm)
  | 4 => !d.lam && chkB T ⟨d.N, defScope d.stm, fun _ => true, true, false, d.lam⟩ d.code.body fz (defBody d.stm)
  | 5 => !d.lam && chkB T ⟨d.N, defScope d.stm, fun _ => true, true, false, d.lam⟩ d.code.body fz (defBody d.stm)
  | _ => false)
def Def.inCls (d : Def) : Bool := d.cls.isSome && !decide (d.kind = 4) && !decide (d.kind = 5)
def Src.chkC (Q : Src) (c : CSrc) : Bool := decide (c.nf ≤ Q.attrs.length) && (match Q.def_ c.ini with | some d => decide (d.cls = some c.name) && decide (d.name = "__init__") && decide (d.kind = 0) && d.chk Q.tab [0] | none => false)
def Src.chkX (Q : Src) (x : XSrc) : Bool := (match x.own with
  | true => true
  | false => decide (bootBuiltins x.name = some (.type x.blt)) && !(x.name == ("__name__" : Str))) && (match x.rz with
  | none => true
  | some o => x.own && (match o with
    | none => true
    | some (f, g) => decide (f < Q.attrs.length) && (match Q.def_ g with
      | some d => decide (d.kind = 3) && decide (d.cls = some x.name) && decide (d.name = "__init__") && initOk (Q.attrs.getD f "") d.stm && (decide (Q.attrs.getD f "" = "value") || decide (Q.attrs.getD f "" = "index") || decide (Q.attrs.getD f "" = "limit"))
      | none => false)))
def Src.attrOk (Q : Src) : Bool := decide Q.attrs.Nodup && decide (Q.attrs.length ≤ 900)
def Src.ok (Q : Src) : Bool := Q.attrOk && (Q.defs.all fun d => d.inCls || d.chk Q.tab []) && (Q.cls.all fun c => Q.chkC c) && Q.errs.all fun x => Q.chkX x
def Src.fa (Q : Src) : List He.Fa := (Q.defs.flatMap fun d => match d.cls with | none => [.glo d.name] | some x => (match d.kind with | 4 => [.meth x d.name] | _ => [])) ++ (Q.frees.map .free ++ (Q.nums.map (fun p => .int p.2.1 p.2.2) ++ (Q.cls.flatMap (fun c => .glo c.name :: .cls c.name :: .mkr c.name :: .noat c.name "__bool__" :: Q.attrs.map (.noat c.name)) ++ Q.errs.flatMap fun x => match x.own with | true => [.glo x.name] | false => [])))
def Src.fn (Q : Src) : List He.DefD := (Q.defs.filter fun d => !decide (d.kind = 5)).map Def.dd
def Src.pr (Q : Src) : List He.DefD := (Q.defs.filter fun d => decide (d.kind = 5)).map Def.dd
def Src.exP (Q : Src) (K : PySem.W.Frag) : Bool := Q.defs.all fun d => !decide (d.kind = 5) || (match d.cls with
  | some x => (match PySem.W.findIn K (.ref (He.ga K x)) d.name with
    | some (some (.ref p)) => He.eqO (PySem.W.specialIn K (.ref p) "__get__") (some (some (.builtin "property.__get__"))) && (decide (PySem.W.takesIn K (.ref p) = some true) && ((match PySem.W.recIn K p "property" with | some (.ref _ :: _) => true | _ => false) && okAt K (gAt K x d.name) d.qual))
    | _ => false)
  | none => false)
def Src.lams (Q : Src) : List Def := Q.defs.filter fun d => d.lam
def Src.tf (Q : Src) : List He.Defn := Q.lams.map Def.at_
def Src.tabs (Q : Src) (K : PySem.W.Frag) : List (Addr × Str) := Q.lams.map fun d => ((He.cT K d.at_).2, (d.qual ++ ".<locals>.") ++ "<lambda>")
def Src.cs (Q : Src) (K : PySem.W.Frag) : List (Addr × Addr) := Q.lams.map fun d => He.cT K d.at_
def XSrc.val (K : PySem.W.Frag) (x : XSrc) : Value := (match x.own with | true => .ref (He.ga K x.name) | false => .type x.blt)
def Src.wt (Q : Src) (h : Q.attrOk = true) (K : PySem.W.Frag) : WT where
  K := K
  cadr := fun c => (match Q.cls_ c with | some s => He.ga K s.name | none => 0)
  attr := fun f => Q.attrs.getD f ""
  nat := Q.attrs.length
  inj := fun i j hi hj e => by
    unfold Src.attrOk at h
    rw [Bool.and_eq_true] at h
    have nd : Q.attrs.Nodup := of_decide_eq_true h.1
    rw [List.getD_eq_getElem?_getD, List.getD_eq_getElem?_getD, List.getElem?_eq_getElem hi, List.getElem?_eq_getElem hj] at e
    exact (List.getElem_inj nd).mp e
  few := by
    unfold Src.attrOk at h
    rw [Bool.and_eq_true] at h
    exact of_decide_eq_true h.2
  cids := Q.cls.map (·.id)
  xcl := fun c => (match Q.err_ c with | some s => s.val K | none => .none)
  xat := Q.xat_
  hx := fun _ _ _ => False
  tabs := Q.tabs K
  fa := fun _ _ _ _ => False
  fam := fun _ _ _ _ _ _ _ _ _ _ h => h
def Src.exC (Q : Src) (K : PySem.W.Frag) : Bool := Q.cls.all fun c =>
  He.eqO (PySem.W.findIn K (.ref (He.ga K c.name)) "__class__") (some (some (.builtin "object.__class__"))) && (He.eqO (PySem.W.specialIn K (.builtin "object.__class__") "__get__") (some (some (.builtin "getset_descriptor.__get__"))) &&
  (decide (PySem.W.takesIn K (.builtin "object.__class__") = some true) && (decide (PySem.W.mroIn K (He.ga K c.name) (.type "object") = some true) &&
  ((["int", "bool", "str", "tuple", "list"].all fun n => decide (PySem.W.kitOne K (.ref (He.ga K c.name)) (.type n) = some false)) &&
  ((Q.cls.all fun d => decide (PySem.W.kitOne K (.ref (He.ga K c.name)) (.ref (He.ga K d.name)) = some (c.id == d.id))) && plainTys.all fun a => decide (PySem.W.kitOne K (.type a) (.ref (He.ga K c.name)) = some false))))))
def Src.exX (Q : Src) (K : PySem.W.Frag) : Bool := Q.errs.all fun x => (match x.rz with
  | none => true
  | some o => He.eqO (PySem.W.findIn K (.ref (He.ga K x.name)) "__getattribute__") (some (some (.builtin "BaseException.__getattribute__"))) && (He.eqO (PySem.W.findIn K (.ref (He.ga K x.name)) "__getattr__") (some none) &&
    (decide (PySem.W.subIn K (.ref (He.ga K x.name)) (.type "BaseException") = some true) && (PySem.W.hasDictIn K (He.ga K x.name) && (He.eqO (PySem.W.findIn K (.ref (He.ga K x.name)) "__class__") (some (some (.builtin "object.__class__"))) &&
    (He.eqO (PySem.W.specialIn K (.builtin "object.__class__") "__get__") (some (some (.builtin "getset_descriptor.__get__"))) && (decide (PySem.W.takesIn K (.builtin "object.__class__") = some true) && (decide (PySem.W.mroIn K (He.ga K x.name) (.type "object") = some true) &&
    (PySem.W.keepIn K (.ref (He.ga K x.name)) && (decide (PySem.W.typeIn K (.ref (He.ga K x.name)) = some (.type "type")) &&
    ((Q.errs.all fun y => decide (PySem.W.exmOne K (.ref (He.ga K x.name)) (y.val K) = some (x.sup.contains y.id)) && decide (PySem.W.kitOne K (.ref (He.ga K x.name)) (y.val K) = some (x.sup.contains y.id))) &&
    (match o with
    | none => PySem.W.excIn K (He.ga K x.name) x.root.tl x.root.new
    | some (f, _) => PySem.W.excInitIn K (He.ga K x.name) x.root.tl x.root.new && (He.eqO (PySem.W.findIn K (.ref (He.ga K x.name)) "__setattr__") (some (some (.builtin "object.__setattr__"))) && (He.eqO (PySem.W.findIn K (.ref (He.ga K x.name)) (Q.attrs.getD f "")) (some none) &&
      (He.eqO (PySem.W.findIn K (.ref (He.ga K x.name)) "__init__") (some (some (.ref (He.ma K (He.ga K x.name) "__init__")))) && decide (PySem.W.typeIn K (.ref (He.ma K (He.ga K x.name) "__init__")) = some (.type "function")))))))))))))))))
def Src.ex (Q : Src) (K : PySem.W.Frag) : Bool := Q.exC K && (Q.exX K && (decide ((Q.tabs K).map Prod.fst).Nodup && Q.exP K))
section
variable {Q : Src} {K : PySem.W.Frag}
theorem says_fa {fa : List He.Fa} {fn : List He.DefD} (c : He.SaysD fa fn K) {f : He.Fa} (h : f ∈ fa) : f.ok K = true := by
  obtain ⟨i, hi⟩ := List.mem_iff_getElem?.mp h
  exact c.fact i hi
theorem says_def {fa : List He.Fa} (c : He.SaysD fa Q.fn K) {d : Def} (h : d ∈ Q.defs) (hk : d.kind ≠ 5) : ∃ fd, FunD K d.name d.qual (defArgs d.stm) (defBody d.stm) (defScope d.stm) [] [] (He.fAd K d.at_) fd :=
  He.SaysD.defs c (d := d.dd) (List.mem_map.mpr ⟨d, List.mem_filter.mpr ⟨h, by simpa using hk⟩, rfl⟩)
theorem says_pr (e : getW Q.pr K = Q.pr.map He.DefD.val) (x : Q.exP K = true) {d : Def} (h : d ∈ Q.defs) (hk : d.kind = 5) {cn : Str} (hc : d.cls = some cn) : ∃ p fd, PropOf K (He.ga K cn) d.name p (gAt K cn d.name) ∧ FunD K d.name d.qual (defArgs d.stm) (defBody d.stm) (defScope d.stm) [] [] (gAt K cn d.name) fd := by
  have z := List.all_eq_true.mp x d h
  rw [hk, hc] at z
  have z : (match PySem.W.findIn K (.ref (He.ga K cn)) d.name with
    | some (some (.ref p)) => He.eqO (PySem.W.specialIn K (.ref p) "__get__") (some (some (.builtin "property.__get__"))) && (decide (PySem.W.takesIn K (.ref p) = some true) && ((match PySem.W.recIn K p "property" with | some (.ref _ :: _) => true | _ => false) && okAt K (gAt K cn d.name) d.qual))
    | _ => false) = true := z
  split at z
  · rename_i p hp
    simp only [Bool.and_eq_true] at z
    obtain ⟨z1, z2, z3, z4⟩ := z
    have w := getW_at e (d := d.dd) (List.mem_map.mpr ⟨d, List.mem_filter.mpr ⟨h, by simpa using hk⟩, rfl⟩)
    have ea : d.at_ = (cn, some d.name) := by unfold Def.at_; rw [hc]
    have w : fnAt K (gAt K d.at_.1 (d.at_.2.getD "")) = d.dd.val := w
    rw [ea] at w
    obtain ⟨fd, F⟩ := funD_at (show fnAt K (gAt K cn d.name) = some (d.name, d.qual, defArgs d.stm, .stmts (defBody d.stm), defScope d.stm, mainGlobals, [], builtinsNs) from w) z4
    have ma : He.ma K (He.ga K cn) d.name = p := by unfold He.ma; rw [hp]
    refine ⟨p, fd, ⟨hp, He.eqO_ok z1, of_decide_eq_true z2, ?_⟩, F⟩
    split at z3
    · rename_i g rest hr
      refine ⟨rest, ?_⟩
      have : gAt K cn d.name = g := by unfold gAt; rw [ma, hr]
      rw [this]; exact hr
    · cases z3
  · cases z
theorem def_mem {g : Nat} {d : Def} (h : Q.def_ g = some d) : d ∈ Q.defs := List.mem_of_find?_eq_some h
theorem cls_mem {g : Nat} {d : CSrc} (h : Q.cls_ g = some d) : d ∈ Q.cls := List.mem_of_find?_eq_some h
theorem int_mem {g : Nat} {d : Nat × Str × Int} (h : Q.int_ g = some d) : d ∈ Q.nums := List.mem_of_find?_eq_some h
theorem runF_len {C : EC} {fd : FDef} {ts : List T} {S : Store} (h : runF C fd ts S ≠ .no) : ts.length = fd.np := by
  unfold runF at h
  split at h
  · rename_i z; simpa using z
  · exact absurd rfl h
theorem runI_len {C : EC} {c : Nat} {cd : CDef} {fd : FDef} {ts : List T} {S : Store} (h : runI C c cd fd ts S ≠ .no) : ts.length + 1 = fd.np := by
  unfold runI at h
  split at h
  · rename_i z; simpa using z
  · exact absurd rfl h
theorem runI_new {C : EC} {c : Nat} {cd : CDef} {fd : FDef} {ts : List T} {S S' : Store} {x : R} (h : runI C c cd fd ts S = .ok x S') : ∃ o, x = .fresh o := by
  unfold runI at h
  split at h
  · split at h
    · split at h
      · cases h; exact ⟨_, rfl⟩
      · cases h
    · cases h
    · cases h
  · cases h
end
section
variable {Q : Src} {K : PySem.W.Frag} {P : Program} {w : World} {mg : Str → Option Value} {base h0 : Heap}
theorem cadr_of {hq : Q.attrOk = true} {c : Nat} {s : CSrc} (e : Q.cls_ c = some s) : (Q.wt hq K).cadr c = He.ga K s.name := by show (match Q.cls_ c with | some s => He.ga K s.name | none => 0) = _; rw [e]
theorem cls_id {c : Nat} {s : CSrc} (e : Q.cls_ c = some s) : s.id = c := by
  have := List.find?_some e
  simpa using this
theorem ex_C (x : Q.ex K = true) : Q.exC K = true := by unfold Src.ex at x; rw [Bool.and_eq_true] at x; exact x.1
theorem ex_X (x : Q.ex K = true) : Q.exX K = true := by unfold Src.ex at x; rw [Bool.and_eq_true, Bool.and_eq_true] at x; exact x.2.1
theorem ex_P (x : Q.ex K = true) : Q.exP K = true := by unfold Src.ex at x; rw [Bool.and_eq_true, Bool.and_eq_true, Bool.and_eq_true] at x; exact x.2.2.2
theorem ex_T (x : Q.ex K = true) : ((Q.tabs K).map Prod.fst).Nodup := by unfold Src.ex at x; rw [Bool.and_eq_true, Bool.and_eq_true, Bool.and_eq_true] at x; exact of_decide_eq_true x.2.2.1
theorem err_mem {c : Nat} {s : XSrc} (h : Q.err_ c = some s) : s ∈ Q.errs := List.mem_of_find?_eq_some h
theorem err_id {c : Nat} {s : XSrc} (e : Q.err_ c = some s) : s.id = c := by
  have := List.find?_some e
  simpa using this
theorem clsI_ok {hq : Q.attrOk = true} (x : Q.ex K = true) {c : Nat} {s : CSrc} (e : Q.cls_ c = some s) : ClsI (Q.wt hq K) c ∧ IsOk (Q.wt hq K) (.own c) := by
  have z := List.all_eq_true.mp (ex_C x) s (cls_mem e)
  simp only [Bool.and_eq_true] at z
  obtain ⟨z1, z2, z3, z4, z5, z6, z7⟩ := z
  have ca : (Q.wt hq K).cadr c = He.ga K s.name := cadr_of e
  have id := cls_id e
  refine ⟨⟨?_, He.eqO_ok z2, of_decide_eq_true z3, ?_, fun n hn => ?_, fun d hd => ?_⟩, ?_, fun a ha => ?_⟩
  · rw [ca]; exact He.eqO_ok z1
  · rw [ca]; exact of_decide_eq_true z4
  · rw [ca]; exact of_decide_eq_true (List.all_eq_true.mp z5 n hn)
  · obtain ⟨t, ht, hd⟩ := List.mem_map.mp (show d ∈ Q.cls.map (·.id) from hd)
    have q := List.all_eq_true.mp z6
    have fd : ∃ u, Q.cls_ d = some u := by
      cases q0 : Q.cls_ d with
      | some u => exact ⟨u, rfl⟩
      | none =>
        have := List.find?_eq_none.mp q0 t ht
        exact absurd (by simpa using hd) this
    obtain ⟨u, hu⟩ := fd
    have cd : (Q.wt hq K).cadr d = He.ga K u.name := cadr_of hu
    show PySem.W.kitOne K (.ref ((Q.wt hq K).cadr c)) (.ref ((Q.wt hq K).cadr d)) = _
    rw [ca, cd, of_decide_eq_true (q u (cls_mem hu)), id, cls_id hu]
  · exact List.mem_map.mpr ⟨s, cls_mem e, id⟩
  · show PySem.W.kitOne K (.type a) (.ref ((Q.wt hq K).cadr c)) = some false
    rw [ca]; exact of_decide_eq_true (List.all_eq_true.mp z7 a ha)
theorem err_chk (hk : Q.ok = true) {x : XSrc} (h : x ∈ Q.errs) : Q.chkX x = true := by
  unfold Src.ok at hk
  rw [Bool.and_eq_true] at hk
  exact List.all_eq_true.mp hk.2 x h
theorem err_glo (kin : K.In h0) (gl : h0.Ns mainGlobals mg) (c : He.SaysD Q.fa Q.fn K) {x : XSrc} (h : x ∈ Q.errs) (ho : x.own = true) : mg x.name = some (.ref (He.ga K x.name)) :=
  He.glo_ok kin gl (says_fa c (List.mem_append_right _ (List.mem_append_right _ (List.mem_append_right _ (List.mem_append_right _ (List.mem_flatMap.mpr ⟨x, h, by rw [ho]; exact List.mem_singleton.mpr rfl⟩))))))
theorem err_own (hk : Q.ok = true) {x : XSrc} (h : x ∈ Q.errs) {o : Option (Nat × Nat)} (er : x.rz = some o) : x.own = true := by
  have z := err_chk hk h
  unfold Src.chkX at z
  rw [er, Bool.and_eq_true] at z
  have z := z.2
  rw [Bool.and_eq_true] at z
  exact z.1
theorem err_val (hk : Q.ok = true) {x : XSrc} (h : x ∈ Q.errs) {o : Option (Nat × Nat)} (er : x.rz = some o) : x.val K = .ref (He.ga K x.name) := by
  unfold XSrc.val
  rw [err_own hk h er]
theorem err_ex (hk : Q.ok = true) (ex : Q.ex K = true) {x : XSrc} (h : x ∈ Q.errs) {o : Option (Nat × Nat)} (er : x.rz = some o) : ExcC K (He.ga K x.name) ∧ (∀ fx, PySem.W.findIn K (.ref (He.ga K x.name)) fx = some none → XFld K (He.ga K x.name) fx) ∧
    ∀ y ∈ Q.errs, PySem.W.exmOne K (.ref (He.ga K x.name)) (y.val K) = some (x.sup.contains y.id) ∧ PySem.W.kitOne K (.ref (He.ga K x.name)) (y.val K) = some (x.sup.contains y.id) := by
  have z := List.all_eq_true.mp (ex_X ex) x h
  rw [er] at z
  simp only [Bool.and_eq_true] at z
  obtain ⟨z1, z2, z3, z4, z5, z6, z7, z8, z9, z10, z11, z12⟩ := z
  refine ⟨⟨He.eqO_ok z1, He.eqO_ok z2, of_decide_eq_true z3, z4, He.eqO_ok z5, He.eqO_ok z6, of_decide_eq_true z7, of_decide_eq_true z8⟩, fun fx hf => ⟨He.eqO_ok z1, He.eqO_ok z2, of_decide_eq_true z3, z4, hf⟩, fun y hy => ?_⟩
  have q := List.all_eq_true.mp z11 y hy
  rw [Bool.and_eq_true] at q
  exact ⟨of_decide_eq_true q.1, of_decide_eq_true q.2⟩
theorem err_nil (ex : Q.ex K = true) {x : XSrc} (h : x ∈ Q.errs) (er : x.rz = some none) : PySem.W.excIn K (He.ga K x.name) x.root.tl x.root.new = true ∧ PySem.W.keepIn K (.ref (He.ga K x.name)) = true ∧ PySem.W.subIn K (.ref (He.ga K x.name)) (.type "BaseException") = some true ∧ PySem.W.typeIn K (.ref (He.ga K x.name)) = some (.type "type") := by
  have z := List.all_eq_true.mp (ex_X ex) x h
  rw [er] at z
  simp only [Bool.and_eq_true] at z
  obtain ⟨z1, z2, z3, z4, z5, z6, z7, z8, z9, z10, z11, z12⟩ := z
  exact ⟨z12, z9, of_decide_eq_true z3, of_decide_eq_true z10⟩
theorem excInit_in {b : XT.Bs} {D : Addr} (q : PySem.W.excInitIn K D b.tl b.new = true) (hd : PySem.W.hasDictIn K D = true) :
    ∃ nm q N bs bm sn sub ab col dd k0 k1 k2 k3 k5, K.lookup D = some (excClassObj nm q D N bs bm true sn sub ab col dd k0 k1 k2 k3 k5 b.new) ∧ PySem.W.excTail b.tl bm = true := by
  unfold PySem.W.excInitIn at q
  split at q
  · rename_i dd cd sl ho
    split at q
    · rename_i C' bm k0 k1 k2 k3 n k5 hm hs
      simp only [Bool.and_eq_true, beq_iff_eq, Bool.not_eq_true'] at q
      obtain ⟨⟨⟨rfl, rfl⟩, hdel⟩, ht⟩ := q
      obtain ⟨nm, bs, mro, ns, qn, hdc, sn, sub, ab, col, del⟩ := cd
      dsimp only at hm hdel
      subst hm hdel
      have hsl : sl = #[k0, k1, k2, k3, some (.builtin b.new), k5] := by
        obtain ⟨l⟩ := sl
        simp only at hs
        rw [hs]
      subst hsl
      obtain ⟨cd', hc, hh⟩ := PySem.W.any_some hd
      unfold PySem.W.clsIn at hc
      rw [ho] at hc
      cases hc
      dsimp only at hh
      subst hh
      exact ⟨_, _, _, _, _, _, _, _, _, _, _, _, _, _, _, ho, ht⟩
    · cases q
  · cases q
theorem err_one (hk : Q.ok = true) (ex : Q.ex K = true) (c : He.SaysD Q.fa Q.fn K) {x : XSrc} (h : x ∈ Q.errs) {f g : Nat} (er : x.rz = some (some (f, g))) :
    XT.Txt K x.root (He.ga K x.name) (He.ma K (He.ga K x.name) "__init__") (Q.attrs.getD f "") ∧ XFld K (He.ga K x.name) (Q.attrs.getD f "") := by
  have z := List.all_eq_true.mp (ex_X ex) x h
  rw [er] at z
  simp only [Bool.and_eq_true] at z
  obtain ⟨z1, z2, z3, z4, z5, z6, z7, z8, z9, z10, z11, z12, z13, z14, z15, z16⟩ := z
  have y := err_chk hk h
  unfold Src.chkX at y
  rw [er, Bool.and_eq_true] at y
  have y := y.2
  dsimp only at y
  rw [Bool.and_eq_true, Bool.and_eq_true] at y
  have y := y.2.2
  cases ed : Q.def_ g with
  | none => rw [ed] at y; cases y
  | some d =>
    rw [ed] at y
    simp only [Bool.and_eq_true, Bool.or_eq_true, decide_eq_true_eq] at y
    obtain ⟨⟨⟨⟨y0, y1⟩, y2⟩, y3⟩, y4⟩ := y
    unfold initOk at y3
    simp only [Bool.and_eq_true, decide_eq_true_eq] at y3
    obtain ⟨⟨i1, i2⟩, i3⟩ := y3
    obtain ⟨p1, p2, ea⟩ := initA_ok i1
    obtain ⟨q1, q2, q3, q4, eb⟩ := initB_ok i2
    have es := initS_ok i3
    obtain ⟨fd, FD⟩ := says_def c (def_mem ed) (by rw [y0]; decide)
    obtain ⟨oc, od, dV, kV, doc, pm, an, cdv, ct, osl, rfl, lk, hcd, hD, hK⟩ := FD.ex
    have dn : dV = .none := by
      rcases hD with ⟨_, rfl⟩ | ⟨e, _⟩
      · rfl
      · exact absurd rfl e
    subst dn
    rw [ea, eb, es, y2] at lk
    have adr : He.fAd K d.at_ = He.ma K (He.ga K x.name) "__init__" := by unfold Def.at_; rw [y1, y2]; rfl
    rw [adr] at lk
    refine ⟨⟨excInit_in z12 z4, He.eqO_ok z13, He.eqO_ok z14, He.eqO_ok z15, of_decide_eq_true z16, z9, of_decide_eq_true z3, of_decide_eq_true z10, ?_, _, oc, od, kV, doc, pm, an, cdv, ct, osl, p1, p2, q1, q2, q3, q4, lk, hcd⟩, He.eqO_ok z1, He.eqO_ok z2, of_decide_eq_true z3, z4, He.eqO_ok z14⟩
    rcases y4 with (y4 | y4) | y4
    · exact .inl y4
    · exact .inr (.inl y4)
    · exact .inr (.inr y4)
theorem cls_fact (c : He.SaysD Q.fa Q.fn K) {s : CSrc} (hs : s ∈ Q.cls) {f : He.Fa} (hf : f ∈ (.glo s.name :: .cls s.name :: .mkr s.name :: .noat s.name "__bool__" :: Q.attrs.map (He.Fa.noat s.name))) : f.ok K = true :=
  says_fa c (List.mem_append_right _ (List.mem_append_right _ (List.mem_append_right _ (List.mem_append_left _ (List.mem_flatMap.mpr ⟨s, hs, hf⟩)))))
theorem ofCls_ok {kd g c n : Nat} {x : Str} (h : Q.ofCls kd g = some (c, x, n)) : ∃ d s, Q.def_ g = some d ∧ d.cls = some s.name ∧ Q.cls_ c = some s ∧ d.kind = kd ∧ d.cid = c ∧ d.name = x ∧ d.ps.length = n := by
  unfold Src.ofCls at h
  split at h
  · rename_i d hd
    split at h
    · rename_i cn s e1 e2 e3
      split at h
      · rename_i e4
        cases h
        have e4 := of_decide_eq_true e4
        subst e4
        exact ⟨d, s, hd, e1, e2, of_decide_eq_true e3, rfl, rfl, rfl⟩
      · cases h
    · cases h
  · cases h
theorem wld_ok (hk : Q.ok = true) (hq : Q.attrOk = true) (kin : K.In h0) (gl : h0.Ns mainGlobals mg) (c : He.SaysD Q.fa Q.fn K) (ex : Q.ex K = true) : Wld ⟨P, w, mg, base, Q.wt hq K, true⟩ Q.tab where
  free := fun x hx => He.free_ok kin gl (says_fa c (f := .free x) (List.mem_append_right _ (List.mem_append_left _ (List.mem_map.mpr ⟨x, by simpa [Src.tab] using hx, rfl⟩))))
  con := fun k x t hk => by
    have hk : (match Q.int_ k with | some (_, x, i) => some (x, T.int i) | none => none) = some (x, t) := hk
    cases e : Q.int_ k with
    | none => rw [e] at hk; cases hk
    | some p =>
      obtain ⟨j, y, i⟩ := p
      rw [e] at hk
      cases hk
      obtain ⟨tk, ht⟩ := He.int_ok kin gl (says_fa c (f := .int x i) (List.mem_append_right _ (List.mem_append_right _ (List.mem_append_left _ (List.mem_map.mpr ⟨_, int_mem e, rfl⟩)))))
      exact ⟨.int i, _, ht, ⟨tk, rfl⟩, fun F r => .int i⟩
  attr := fun f => rfl
  isc := fun c' x h => by
    have h : (match Q.cls_ c' with | some s => some s.name | none => none) = some x := h
    cases e : Q.cls_ c' with
    | none => rw [e] at h; cases h
    | some s =>
      rw [e] at h
      cases h
      refine ⟨?_, (clsI_ok (hq := hq) ex e).2⟩
      show mg s.name = some (.ref ((Q.wt hq K).cadr c'))
      rw [cadr_of e]
      exact He.glo_ok kin gl (says_fa c (List.mem_append_right _ (List.mem_append_right _ (List.mem_append_right _ (List.mem_append_left _ (List.mem_flatMap.mpr ⟨s, cls_mem e, List.mem_cons_self⟩))))))
  xat := rfl
  xown := fun c' x h => by
    have h : (match Q.err_ c' with | some s => some (s.name, s.own) | none => none) = some (x, true) := h
    cases e : Q.err_ c' with
    | none => rw [e] at h; cases h
    | some s =>
      rw [e] at h
      have h1 : s.name = x ∧ s.own = true := ⟨congrArg Prod.fst (Option.some.inj h), congrArg Prod.snd (Option.some.inj h)⟩
      refine ⟨He.ga K s.name, ?_, ?_⟩
      · show (match Q.err_ c' with | some s => s.val K | none => .none) = _
        rw [e]
        show (match s.own with | true => Value.ref (He.ga K s.name) | false => .type s.blt) = _
        rw [h1.2]
      · rw [← h1.1]
        exact err_glo kin gl c (err_mem e) h1.2
  xblt := fun c' x h => by
    have h : (match Q.err_ c' with | some s => some (s.name, s.own) | none => none) = some (x, false) := h
    cases e : Q.err_ c' with
    | none => rw [e] at h; cases h
    | some s =>
      rw [e] at h
      have h1 : s.name = x ∧ s.own = false := ⟨congrArg Prod.fst (Option.some.inj h), congrArg Prod.snd (Option.some.inj h)⟩
      have z := err_chk hk (err_mem e)
      unfold Src.chkX at z
      rw [h1.2, Bool.and_eq_true] at z
      have z := z.1
      rw [Bool.and_eq_true] at z
      refine ⟨s.blt, ?_, by rw [← h1.1]; exact of_decide_eq_true z.1, by rw [← h1.1]; simpa using z.2⟩
      show (match Q.err_ c' with | some s => s.val K | none => .none) = _
      rw [e]
      show (match s.own with | true => Value.ref (He.ga K s.name) | false => .type s.blt) = _
      rw [h1.2]
  xis := fun c' d' b h => by
    have h : (match Q.err_ c', Q.err_ d' with | some s, some _ => (match s.rz with | some _ => some (s.sup.contains d') | none => none) | _, _ => none) = some b := h
    cases e : Q.err_ c' with
    | none => rw [e] at h; cases h
    | some s =>
      cases e2 : Q.err_ d' with
      | none => rw [e, e2] at h; cases h
      | some t =>
        rw [e, e2] at h
        dsimp only at h
        cases er : s.rz with
        | none => rw [er] at h; cases h
        | some o =>
          rw [er] at h
          cases h
          obtain ⟨_, _, z⟩ := err_ex hk ex (err_mem e) er
          have q := z t (err_mem e2)
          rw [err_id e2] at q
          show PySem.W.exmOne K (match Q.err_ c' with | some s => s.val K | none => .none) (match Q.err_ d' with | some s => s.val K | none => .none) = _ ∧ PySem.W.kitOne K (match Q.err_ c' with | some s => s.val K | none => .none) (match Q.err_ d' with | some s => s.val K | none => .none) = _
          rw [e, e2]
          dsimp only
          rw [err_val hk (err_mem e) er]
          exact q
  xone := fun c' f h => by
    have h : (match Q.err_ c' with | some s => s.rz.map fun o => o.map Prod.fst | none => none) = some (some f) := h
    cases e : Q.err_ c' with
    | none => rw [e] at h; cases h
    | some s =>
      rw [e] at h
      dsimp only at h
      cases er : s.rz with
      | none => rw [er] at h; cases h
      | some o =>
        rw [er] at h
        cases o with
        | none => cases h
        | some fg =>
          obtain ⟨f', g⟩ := fg
          cases h
          obtain ⟨z1, z2⟩ := err_one hk ex c (err_mem e) er
          refine ⟨He.ga K s.name, _, s.root, ?_, z1, z2⟩
          show (match Q.err_ c' with | some s => s.val K | none => .none) = _
          rw [e]
          exact err_val hk (err_mem e) er
  xnil := fun c' h => by
    have h : (match Q.err_ c' with | some s => s.rz.map fun o => o.map Prod.fst | none => none) = some none := h
    cases e : Q.err_ c' with
    | none => rw [e] at h; cases h
    | some s =>
      rw [e] at h
      dsimp only at h
      cases er : s.rz with
      | none => rw [er] at h; cases h
      | some o =>
        rw [er] at h
        cases o with
        | some fg => cases h
        | none =>
          refine ⟨He.ga K s.name, s.root, ?_, err_nil ex (err_mem e) er⟩
          show (match Q.err_ c' with | some s => s.val K | none => .none) = _
          rw [e]
          exact err_val hk (err_mem e) er
  xhot := fun a cls d z => nomatch z
  xcls := fun c' h => by
    cases e : Q.err_ c' with
    | none =>
      exact absurd (show (match Q.err_ c' with | some s => s.rz.map fun o => o.map Prod.fst | none => none) = none by rw [e]) h
    | some s =>
      cases er : s.rz with
      | none => exact absurd (show (match Q.err_ c' with | some s => s.rz.map fun o => o.map Prod.fst | none => none) = none by rw [e]; show s.rz.map _ = _; rw [er]; rfl) h
      | some o =>
        obtain ⟨z1, _, _⟩ := err_ex hk ex (err_mem e) er
        refine ⟨He.ga K s.name, ?_, z1⟩
        show (match Q.err_ c' with | some s => s.val K | none => .none) = _
        rw [e]
        exact err_val hk (err_mem e) er
  nf := fun x hx i hi e => by
    have hi : i < Q.attrs.length := hi
    have hx : (!Q.attrs.contains x) = true := hx
    have : x ∈ Q.attrs := by
      rw [e]
      show Q.attrs.getD i "" ∈ Q.attrs
      rw [List.getD_eq_getElem?_getD, List.getElem?_eq_getElem hi]
      exact List.getElem_mem hi
    simp [this] at hx
  nb := fun c' h => by
    have h : (Q.cls_ c').isSome = true := h
    obtain ⟨s, e⟩ := Option.isSome_iff_exists.mp h
    show PySem.W.findIn K (.ref ((Q.wt hq K).cadr c')) "__bool__" = some none
    rw [cadr_of e]
    exact He.noat_ok (cls_fact c (cls_mem e) (List.mem_cons_of_mem _ (List.mem_cons_of_mem _ (List.mem_cons_of_mem _ List.mem_cons_self))))
  mt := fun g c' x n h => by
    obtain ⟨d, s, _, _, e, _⟩ := ofCls_ok (show Q.ofCls 4 g = some (c', x, n) from h)
    show Cls K ((Q.wt hq K).cadr c')
    rw [cadr_of e]
    exact He.cls_ok (cls_fact c (cls_mem e) (List.mem_cons_of_mem _ List.mem_cons_self))
  pp := fun g c' x n h => by
    obtain ⟨d, s, _, _, e, _⟩ := ofCls_ok (show Q.ofCls 5 g = some (c', x, n) from h)
    show Cls K ((Q.wt hq K).cadr c')
    rw [cadr_of e]
    exact He.cls_ok (cls_fact c (cls_mem e) (List.mem_cons_of_mem _ List.mem_cons_self))
theorem fn_glob (kin : K.In h0) (gl : h0.Ns mainGlobals mg) (c : He.SaysD Q.fa Q.fn K) {d : Def} (hd : d ∈ Q.defs) (hc : d.cls = none) : mg d.name = some (.ref (He.fAd K d.at_)) := by
  have z := He.glo_ok kin gl (says_fa c (f := .glo d.name) (List.mem_append_left _ (List.mem_flatMap.mpr ⟨d, hd, by rw [hc]; exact List.mem_singleton.mpr rfl⟩)))
  have e : He.fAd K d.at_ = He.ga K d.name := by unfold Def.at_; rw [hc]; rfl
  rw [e]; exact z
end
end Z
set_option Elab.async false
set_option linter.all false
set_option maxRecDepth 100000
set_option maxHeartbeats 4000000
namespace Z
open PySem PySem.Spec PyProof.Rows L2
section
variable {Q : Src} {K : PySem.W.Frag} {P : Program} {w : World} {mg : Str → Option Value} {base h0 : Heap}
theorem src_ok (hk : Q.ok = true) : (∀ d ∈ Q.defs, (d.inCls || d.chk Q.tab []) = true) ∧ (∀ c ∈ Q.cls, Q.chkC c = true) := by
  unfold Src.ok at hk
  rw [Bool.and_eq_true, Bool.and_eq_true, Bool.and_eq_true] at hk
  exact ⟨fun d hd => List.all_eq_true.mp hk.1.1.2 d hd, fun c hc => List.all_eq_true.mp hk.1.2 c hc⟩
theorem xok_b {hq : Q.attrOk = true} {k : Nat} {X : Cx} {d : Def} {fd : FuncData} (hkd : (defScope d.stm).kind = .function) (hd : d ∈ Q.defs) (ex : Q.ex K = true) (tb : ∀ p ∈ Q.cs K, LamX.TabB base mg p.1 p.2) (FD : FunD K d.name d.qual (defArgs d.stm) (defBody d.stm) (defScope d.stm) [] [] (He.fAd K d.at_) fd)
    (b : BdOk P w (Q.wt hq K) mg base d.N (He.fAd K d.at_) d.qual (defScope d.stm) k X) : SOk ⟨P, w, mg, base, Q.wt hq K, true⟩ ⟨d.N, defScope d.stm, fun _ => true, true, false, d.lam⟩ k X where
  x := ⟨b.prog, b.w, b.K, b.mg, b.base, b.N, b.nd, b.sc, b.fnn, fun _ => b.calm, fun _ _ _ _ z => z, fun _ => b.room.room, L2H.roomH_of b.room.room, b.room.gd, fun _ _ _ z => z.elim, fun hl => by
    refine ⟨rfl, ?_⟩
    have hl : d.lam = true := hl
    obtain ⟨oc, od, dV, kV, doc, pm, an, cdv, ct, osl, rfl, lk, hcd, _, _⟩ := FD.ex
    obtain ⟨oc', od', fd', osl', lk', hc'⟩ := b.cd
    have lk' : K.lookup (He.fAd K d.at_) = some ⟨oc', od', .func fd', osl'⟩ := lk'
    rw [lk] at lk'
    cases lk'
    obtain ⟨c, rfl⟩ := He.codeIn_ref hcd
    have ec : He.codeOf K d.at_ = c := He.codeOf_eq lk rfl
    have hm : d ∈ Q.lams := List.mem_filter.mpr ⟨hd, hl⟩
    have tb' := tb (He.cT K d.at_) (List.mem_map.mpr ⟨d, hm, rfl⟩)
    have e1 : (He.cT K d.at_).1 = c := ec
    rw [e1, ← b.mg, ← b.base] at tb'
    have mem : ((He.cT K d.at_).2, X.env.qual ++ "<lambda>") ∈ Q.tabs K := by
      rw [b.ql]
      exact List.mem_map.mpr ⟨d, hm, rfl⟩
    refine ⟨c, (He.cT K d.at_).2, hc', tb', mem, fun p hp e => ?_⟩
    have nd := ex_T ex
    obtain ⟨i, hi⟩ := List.mem_iff_getElem?.mp (show p ∈ Q.tabs K from hp)
    obtain ⟨j, hj⟩ := List.mem_iff_getElem?.mp mem
    have hi2 : ((Q.tabs K).map Prod.fst)[i]? = some p.1 := by rw [List.getElem?_map, hi]; rfl
    have hj2 : ((Q.tabs K).map Prod.fst)[j]? = some p.1 := by rw [List.getElem?_map, hj, e]; rfl
    have hil : i < ((Q.tabs K).map Prod.fst).length := (List.getElem?_eq_some_iff.mp hi2).1
    have ij : i = j := (List.getElem?_inj hil nd).mp (hi2.trans hj2.symm)
    subst ij
    rw [hi] at hj
    cases hj
    rfl⟩
  own := fun _ => b.own
  stk := b.stk
  fr := b.fr
  kind := by rw [b.sc]; exact hkd
theorem def_G (hk : Q.ok = true) (hq : Q.attrOk = true) (ex : Q.ex K = true) (tb : ∀ p ∈ Q.cs K, LamX.TabB base mg p.1 p.2) (Wd : Wld ⟨P, w, mg, base, Q.wt hq K, true⟩ Q.tab) {j : Nat} (LL : Low ⟨P, w, mg, base, Q.wt hq K, true⟩ Q.tab (lev Q.prog) j) (L : Lev ⟨P, w, mg, base, Q.wt hq K, true⟩ Q.tab (lev Q.prog) (lev Q.prog j) j) {g : Nat} {d : Def} (e : Q.def_ g = some d) (ec : d.cls = none) (ek : d.kind = 0) {fd : FuncData}
    (FD : FunD K d.name d.qual (defArgs d.stm) (defBody d.stm) (defScope d.stm) [] [] (He.fAd K d.at_) fd) :
    FnG P w K mg base (j + 1) (He.fAd K d.at_) fd d.ps (spF (Q.wt hq K) d.ps.length ((lev Q.prog (j + 1)).call g)) ∧ ∀ ts S, (lev Q.prog (j + 1)).call g ts S ≠ .no → ts.length = d.ps.length := by
  have ck := (src_ok hk).1 d (def_mem e)
  unfold Def.inCls at ck
  rw [ec] at ck
  have ck : d.chk Q.tab [] = true := ck
  unfold Def.chk at ck
  rw [ek] at ck
  simp only [Bool.and_eq_true] at ck
  obtain ⟨⟨⟨c1, c2⟩, c3⟩, c4⟩ := ck
  have c1 := of_decide_eq_true c1
  have c2 := of_decide_eq_true c2
  have call : (lev Q.prog (j + 1)).call g = fun ts S => runF (lev Q.prog j) d.code ts S := by
    funext ts S
    rw [lev.eq_def]
    show (match (match Q.def_ g with | some d => some d.code | none => none) with | some fd => runF (lev Q.prog j) fd ts S | none => .no) = _
    rw [e]
  rw [call]
  refine ⟨fn_sound (base := base) (P := P) (w := w) (mg := mg) (W := Q.wt hq K) FD (scOk_ok c3) c1 c2 fun en X wx b tk => ?_, fun ts S hy => (runF_len hy).trans c1⟩
  exact sndB d.code.body Wd LL L (xok_b (scOk_ok c3).kind (def_mem e) ex tb FD b) tk (fun z => nomatch z) c4
theorem def_M (hk : Q.ok = true) (hq : Q.attrOk = true) (ex : Q.ex K = true) (Wd : Wld ⟨P, w, mg, base, Q.wt hq K, true⟩ Q.tab) {j : Nat} (LL : Low ⟨P, w, mg, base, Q.wt hq K, true⟩ Q.tab (lev Q.prog) j) (L : Lev ⟨P, w, mg, base, Q.wt hq K, true⟩ Q.tab (lev Q.prog) (lev Q.prog j) j) {g : Nat} {d : Def} (e : Q.def_ g = some d) (ek : d.kind = 4 ∨ d.kind = 5) {f : Addr} {fd : FuncData}
    (FD : FunD K d.name d.qual (defArgs d.stm) (defBody d.stm) (defScope d.stm) [] [] f fd) :
    FnG P w K mg base (j + 1) f fd d.ps (spF (Q.wt hq K) d.ps.length ((lev Q.prog (j + 1)).call g)) ∧ ∀ ts S, (lev Q.prog (j + 1)).call g ts S ≠ .no → ts.length = d.ps.length := by
  have ck := (src_ok hk).1 d (def_mem e)
  have nc : d.inCls = false := by
    unfold Def.inCls
    rcases ek with z | z <;> rw [z] <;> simp
  rw [nc] at ck
  have ck : d.chk Q.tab [] = true := ck
  unfold Def.chk at ck
  have ck : (decide (d.code.np = d.ps.length) && decide (d.code.nl = d.N.length) && scOk d.N d.ps (defScope d.stm) && (!d.lam && chkB Q.tab ⟨d.N, defScope d.stm, fun _ => true, true, false, d.lam⟩ d.code.body [] (defBody d.stm))) = true := by
    rcases ek with z | z <;> (rw [z] at ck; exact ck)
  simp only [Bool.and_eq_true] at ck
  obtain ⟨⟨⟨c1, c2⟩, c3⟩, c0, c4⟩ := ck
  have c1 := of_decide_eq_true c1
  have c2 := of_decide_eq_true c2
  have c0 : d.lam = false := by simpa using c0
  have call : (lev Q.prog (j + 1)).call g = fun ts S => runF (lev Q.prog j) d.code ts S := by
    funext ts S
    rw [lev.eq_def]
    show (match (match Q.def_ g with | some d => some d.code | none => none) with | some fd => runF (lev Q.prog j) fd ts S | none => .no) = _
    rw [e]
  rw [call]
  refine ⟨fn_sound (base := base) (P := P) (w := w) (mg := mg) (W := Q.wt hq K) FD (scOk_ok c3) c1 c2 fun en X wx b tk => ?_, fun ts S hy => (runF_len hy).trans c1⟩
  exact sndB d.code.body Wd LL L ⟨⟨b.prog, b.w, b.K, b.mg, b.base, b.N, b.nd, b.sc, b.fnn, fun _ => b.calm, fun _ _ _ _ z => z, fun _ => b.room.room, L2H.roomH_of b.room.room, b.room.gd, fun _ _ _ z => z.elim, fun hl => Bool.noConfusion ((show d.lam = true from hl).symm.trans c0)⟩, fun _ => b.own, b.stk, b.fr, by rw [b.sc]; exact (scOk_ok c3).kind⟩ tk (fun z => Bool.noConfusion (show false = true from z)) c4
theorem def_L (hk : Q.ok = true) (hq : Q.attrOk = true) (ex : Q.ex K = true) (tb : ∀ p ∈ Q.cs K, LamX.TabB base mg p.1 p.2) (Wd : Wld ⟨P, w, mg, base, Q.wt hq K, true⟩ Q.tab) {j : Nat} (LL : Low ⟨P, w, mg, base, Q.wt hq K, true⟩ Q.tab (lev Q.prog) (j + 1)) (L : Lev ⟨P, w, mg, base, Q.wt hq K, true⟩ Q.tab (lev Q.prog) (lev Q.prog (j + 1)) (j + 1)) {g : Nat} {d : Def} (e : Q.def_ g = some d) (ec : d.cls = none) (ek : d.kind = 1) {fd : FuncData}
    (FD : FunD K d.name d.qual (defArgs d.stm) (defBody d.stm) (defScope d.stm) [] [] (He.fAd K d.at_) fd) :
    FnL P w K mg base j (He.fAd K d.at_) fd d.ps (Q.wt hq K) (fun a S => runL { lev Q.prog (j + 1) with act := a } d.code S) := by
  have ck := (src_ok hk).1 d (def_mem e)
  unfold Def.inCls at ck
  rw [ec] at ck
  have ck : d.chk Q.tab [] = true := ck
  unfold Def.chk at ck
  rw [ek] at ck
  simp only [Bool.and_eq_true] at ck
  obtain ⟨⟨⟨c1, c2⟩, c3⟩, c0, c4⟩ := ck
  have c1 := of_decide_eq_true c1
  have c2 := of_decide_eq_true c2
  refine fnL_sound (base := base) (P := P) (w := w) (mg := mg) (W := Q.wt hq K) (fun _ _ _ z => z) FD (scOk_ok c3) c1 c2 (of_decide_eq_true c0) fun fl c' q σ0 env0 a en X wx b aok tk => ?_
  exact sndB d.code.body (U := Univ.at_ ⟨P, w, mg, base, Q.wt hq K, true⟩ (Q.wt hq K).hx (faL (Q.wt hq K) fl c' q σ0 env0) famL) (wld_at Wd fun _ _ _ z => z.elim) (low_at LL) (lev_at (lev_act L))
    ⟨⟨b.prog, b.w, b.K, b.mg, b.base, b.N, b.nd, b.sc, b.fnn, fun _ => b.calm, fun _ _ _ _ z => z, fun _ => b.room.room, L2H.roomH_of b.room.room, b.room.gd, fun _ _ _ z => z.elim, (fun z => Bool.noConfusion (show false = true from z))⟩, fun _ => b.own, b.stk, b.fr, by rw [b.sc]; exact (scOk_ok c3).kind⟩ tk (fun _ => aok) c4
theorem def_Z (hk : Q.ok = true) (hq : Q.attrOk = true) (ex : Q.ex K = true) (tb : ∀ p ∈ Q.cs K, LamX.TabB base mg p.1 p.2) (Wd : Wld ⟨P, w, mg, base, Q.wt hq K, true⟩ Q.tab) {j : Nat} (LL : Low ⟨P, w, mg, base, Q.wt hq K, true⟩ Q.tab (lev Q.prog) j) (L : Lev ⟨P, w, mg, base, Q.wt hq K, true⟩ Q.tab (lev Q.prog) (lev Q.prog j) j) {g : Nat} {d : Def} (e : Q.def_ g = some d) (ec : d.cls = none) (ek : d.kind = 2) {fd : FuncData}
    (FD : FunD K d.name d.qual (defArgs d.stm) (defBody d.stm) (defScope d.stm) [] [] (He.fAd K d.at_) fd) :
    FnZ P w K mg base (j + 1) (He.fAd K d.at_) fd d.ps (spH (Q.wt hq K) (fun c l S => runH (lev Q.prog j) d.code c l S)) := by
  have ck := (src_ok hk).1 d (def_mem e)
  unfold Def.inCls at ck
  rw [ec] at ck
  have ck : d.chk Q.tab [] = true := ck
  unfold Def.chk at ck
  rw [ek] at ck
  simp only [Bool.and_eq_true] at ck
  obtain ⟨⟨⟨c1, c2⟩, c3⟩, c0, c4⟩ := ck
  have c1 := of_decide_eq_true c1
  have c2 := of_decide_eq_true c2
  refine fnZ_sound (base := base) (P := P) (w := w) (mg := mg) (W := Q.wt hq K) FD (scOk_ok c3) c1 c2 (of_decide_eq_true c0) fun en X p cls d' b hz hf => ?_
  exact sndB d.code.body (U := Univ.at_ ⟨P, w, mg, base, Q.wt hq K, true⟩ (only (Q.wt hq K) p.1 cls d') (Q.wt hq K).fa (Q.wt hq K).fam) (wld_at Wd fun a' cls' d' z => by
      obtain ⟨rfl, rfl, rfl, c, zc, rfl⟩ := z
      exact Wd.xcls c zc) (low_at LL) (lev_at L)
    ⟨⟨b.prog, b.w, b.K, b.mg, b.base, b.N, b.nd, b.sc, b.fnn, (fun z => Bool.noConfusion (show false = true from z)), (fun z => Bool.noConfusion (show false = true from z)), (fun z => Bool.noConfusion (show false = true from z)), b.room, b.gd, (fun a' cls' d' z => by
      obtain ⟨rfl, rfl, rfl, _⟩ := z
      exact ⟨p.2, by rw [b.pn]; exact List.mem_singleton.mpr rfl, hz, hf⟩), (fun z => Bool.noConfusion (show false = true from z))⟩, (fun z => Bool.noConfusion (show false = true from z)), b.stk, b.fr, by rw [b.sc]; exact (scOk_ok c3).kind⟩ takes_none5 (fun z => Bool.noConfusion (show false = true from z)) c4
theorem kbd_of {name qual : Str} {params : Arguments} {body : List Stmt} {scope : Scope} {kws : List (Str × V)} {f : Addr} {fd : FuncData} {ps : List Str} {p : Nat × List Str × List Nat} (FD : FunD K name qual params body scope [] kws f fd)
    (h : ∀ (kV doc pm : Value) (an : Option Addr) (cdv ct : Value) (us ws : List Value), us.length = p.1 → ws.length = p.2.1.length → bindArgs (PySem.W.fnOf name qual params body scope .none kV doc pm an cdv ct) ⟨us, p.2.1.zip ws⟩ = pure (ps.zip (permU p.2.2 (us ++ ws)))) : KBd fd ps p.1 p.2.1 p.2.2 := fun s us ws l1 l2 => by
  obtain ⟨oc, od, dV, kV, doc, pm, an, cdv, ct, osl, rfl, lk, hcd, hD, hK⟩ := FD.ex
  rcases hD with ⟨_, rfl⟩ | ⟨e, _⟩
  · exact .of_eq (h kV doc pm an cdv ct us ws l1 l2)
  · exact absurd rfl e
theorem lev_ok (hk : Q.ok = true) (hq : Q.attrOk = true) (kin : K.In h0) (gl : h0.Ns mainGlobals mg) (c : He.SaysD Q.fa Q.fn K) (ex : Q.ex K = true) (pr : getW Q.pr K = Q.pr.map He.DefD.val) (tb : ∀ p ∈ Q.cs K, LamX.TabB base mg p.1 p.2) : ∀ k, Lev ⟨P, w, mg, base, Q.wt hq K, true⟩ Q.tab (lev Q.prog) (lev Q.prog k) k := by
  have Wd := wld_ok (P := P) (w := w) (base := base) hk hq kin gl c ex
  have hk0 := hk
  have hcls := (src_ok hk).2
  have con : ∀ k, ∀ j x t, Q.tab.con j = some (x, t) → (lev Q.prog k).con j = some t := fun k j x t h => by
    have h : (match Q.int_ j with | some (_, x, i) => some (x, T.int i) | none => none) = some (x, t) := h
    have g : (lev Q.prog k).con = Q.prog.con := by cases k <;> rw [lev.eq_def]
    rw [g]
    show (match Q.int_ j with | some (_, _, i) => some (T.int i) | none => none) = some t
    cases e : Q.int_ j with
    | none => rw [e] at h; cases h
    | some p => obtain ⟨y, z, i⟩ := p; rw [e] at h; cases h; rfl
  intro k
  induction k using Nat.strongRecOn with
  | _ k ih =>
    have LL : Low ⟨P, w, mg, base, Q.wt hq K, true⟩ Q.tab (lev Q.prog) k := fun j hj => ih j hj
    refine ⟨con k, fun g x n hg => ?_, fun cc x n hc => ?_, by cases k <;> rw [lev.eq_def] <;> rfl, by cases k <;> rw [lev.eq_def] <;> rfl, fun g cc x n hg => ?_, fun g cc x n hg => ?_, fun g cc x n hg => ?_, fun g x hg => ?_, fun _ g x hg => ?_⟩
    · have hg : (match Q.def_ g with | some d => (match d.cls, d.kind with | none, 0 => some (d.name, d.ps.length) | _, _ => none) | none => none) = some (x, n) := hg
      cases e : Q.def_ g with
      | none => rw [e] at hg; cases hg
      | some d =>
        rw [e] at hg
        dsimp only at hg
        cases ec : d.cls with
        | some _ => rw [ec] at hg; cases hg
        | none =>
          rw [ec] at hg
          have ek : d.kind = 0 ∧ (d.name, d.ps.length) = (x, n) := by
            split at hg
            · rename_i z1 z2; exact ⟨z2, Option.some.inj hg⟩
            · cases hg
          obtain ⟨ek, en⟩ := ek
          cases en
          obtain ⟨fd, FD⟩ := says_def c (def_mem e) (by rw [ek]; decide)
          refine ⟨fun ts S hy => ?_, He.fAd K d.at_, fd, d.ps, fn_glob kin gl c (def_mem e) ec, FD.kp, FunD.bindsN FD d.bind, ?_, ?_⟩
          · cases k with
            | zero => exact absurd rfl hy
            | succ j => exact (def_G hk0 hq ex tb Wd (fun i hi => ih i (Nat.lt_succ_of_lt hi)) (ih j (Nat.lt_succ_self j)) e ec ek FD).2 ts S hy
          · intro p hp
            have hp : p ∈ d.kws := by
              have : p ∈ (match Q.def_ g with | some d => d.kws | none => []) := hp
              rw [e] at this; exact this
            exact kbd_of FD (d.kbind.mem hp)
          · cases k with
            | zero => exact ⟨fun vs H Q E z => z.1, fun A ou s H ar us vs Q E _ _ _ _ z => by obtain ⟨_, F, r, ts, S, _, _, _, z⟩ := z; exact z.elim⟩
            | succ j => exact (def_G hk0 hq ex tb Wd (fun i hi => ih i (Nat.lt_succ_of_lt hi)) (ih j (Nat.lt_succ_self j)) e ec ek FD).1
    · have hc : (match Q.cls_ cc with | some s => (match Q.def_ s.ini with | some d => some (s.name, d.ps.length) | none => none) | none => none) = some (x, n) := hc
      cases e : Q.cls_ cc with
      | none => rw [e] at hc; cases hc
      | some s =>
        rw [e] at hc
        dsimp only at hc
        have hs := cls_mem e
        have ck := hcls s hs
        unfold Src.chkC at ck
        rw [Bool.and_eq_true] at ck
        obtain ⟨cf, ck⟩ := ck
        cases ed : Q.def_ s.ini with
        | none => rw [ed] at hc; cases hc
        | some d =>
          rw [ed] at hc ck
          cases hc
          simp only [Bool.and_eq_true] at ck
          obtain ⟨⟨⟨k1, k2⟩, k3⟩, ck⟩ := ck
          have k3 := of_decide_eq_true k3
          have k1 := of_decide_eq_true k1
          have k2 := of_decide_eq_true k2
          unfold Def.chk at ck
          rw [k3] at ck
          simp only [Bool.and_eq_true] at ck
          obtain ⟨⟨⟨c1, c2⟩, c3⟩, c4⟩ := ck
          have c1 := of_decide_eq_true c1
          have c2 := of_decide_eq_true c2
          have hd := def_mem ed
          obtain ⟨fd, FD⟩ := says_def c hd (by rw [k3]; decide)
          have cad : (Q.wt hq K).cadr cc = He.ga K s.name := by show (match Q.cls_ cc with | some s => He.ga K s.name | none => 0) = _; rw [e]
          have adr : He.fAd K d.at_ = He.ma K (He.ga K s.name) "__init__" := by unfold Def.at_; rw [k1, k2]; rfl
          have new : ∀ j, (lev Q.prog (j + 2)).new cc = fun ts S => runI (lev Q.prog j) cc ⟨s.ini, s.nf⟩ d.code ts S := fun j => by
            funext ts S
            rw [lev.eq_def]
            show (match (match Q.cls_ cc with | some s => some (CDef.mk s.ini s.nf) | none => none) with | some cd => (match (match Q.def_ cd.ini with | some d => some d.code | none => none) with | some fd => runI (lev Q.prog j) cc cd fd ts S | none => .no) | none => .no) = _
            rw [e]
            dsimp only
            rw [ed]
          refine ⟨fun ts S => ⟨fun hy => ?_, fun S' x hy => ?_⟩, ?_, He.fAd K d.at_, ?_, ?_⟩
          · match k, hy with
            | 0, hy => exact absurd rfl hy
            | 1, hy => exact absurd rfl hy
            | j + 2, hy =>
              rw [new j] at hy
              exact (runI_len hy).trans c1
          · match k, hy with
            | 0, hy => cases hy
            | 1, hy => cases hy
            | j + 2, hy =>
              rw [new j] at hy
              exact runI_new hy
          · show mg s.name = some (.ref ((Q.wt hq K).cadr cc))
            rw [cad]
            exact He.glo_ok kin gl (cls_fact c hs (List.mem_cons_self))
          · show Mk K ((Q.wt hq K).cadr cc) _
            rw [cad, adr]
            exact He.mkr_ok (cls_fact c hs (List.mem_cons_of_mem _ (List.mem_cons_of_mem _ List.mem_cons_self)))
          · match k, ih with
            | 0, _ => exact .inl fun _ _ => rfl
            | 1, _ => exact .inl fun _ _ => rfl
            | j + 2, ih =>
              refine .inr ⟨j + 1, fd, d.ps, rfl, FunD.bindsN FD d.bind, ?_, fun q hq => kbd_of FD (d.kbind.mem (by
                have z : q ∈ (match Q.cls_ cc with | some s => (match Q.def_ s.ini with | some d => d.kws | none => []) | none => []) := hq
                rw [e] at z
                dsimp only at z
                rw [ed] at z
                exact z))⟩
              rw [new j]
              refine init_sound (base := base) (P := P) (w := w) (mg := mg) (W := Q.wt hq K) (cd := ⟨s.ini, s.nf⟩) FD (scOk_ok c3) c1 c2 (of_decide_eq_true cf) ⟨?_, fun i hi => ?_, (clsI_ok ex e).1⟩ fun en X wx b tk => ?_
              · show Cls K ((Q.wt hq K).cadr cc)
                rw [cad]
                exact He.cls_ok (cls_fact c hs (List.mem_cons_of_mem _ List.mem_cons_self))
              · show NoAttr K ((Q.wt hq K).cadr cc) (Q.attrs.getD i "")
                rw [cad]
                refine He.noat_ok (cls_fact c hs (List.mem_cons_of_mem _ (List.mem_cons_of_mem _ (List.mem_cons_of_mem _ (List.mem_cons_of_mem _ (List.mem_map.mpr ⟨_, ?_, rfl⟩))))))
                have hi : i < Q.attrs.length := hi
                rw [List.getD_eq_getElem?_getD, List.getElem?_eq_getElem hi]
                exact List.getElem_mem hi
              · exact sndB d.code.body Wd (fun i hi => ih i (by omega)) (ih j (by omega)) (xok_b (scOk_ok c3).kind hd ex tb FD b) tk (fun z => nomatch z) c4
    · obtain ⟨d, s, e, e1, e2, e3, e4, e5, e6⟩ := ofCls_ok (show Q.ofCls 4 g = some (cc, x, n) from hg)
      subst e5 e6
      obtain ⟨fd, FD⟩ := says_def c (def_mem e) (by rw [e3]; decide)
      have ma : He.fAd K d.at_ = He.ma K (He.ga K s.name) d.name := by unfold Def.at_; rw [e1]; rfl
      have ca : (Q.wt hq K).cadr cc = He.ga K s.name := cadr_of e2
      have hm : Meth K ((Q.wt hq K).cadr cc) d.name (He.fAd K d.at_) := by
        rw [ma, ca]
        exact He.meth_ok (says_fa c (f := .meth s.name d.name) (List.mem_append_left _ (List.mem_flatMap.mpr ⟨d, def_mem e, by rw [e1, e3]; exact List.mem_singleton.mpr rfl⟩)))
      refine ⟨fun ts S hy => ?_, He.fAd K d.at_, fd, d.ps, hm, FunD.bindsN FD d.bind, ?_⟩
      · cases k with
        | zero => exact absurd rfl hy
        | succ j => exact (def_M hk0 hq ex Wd (fun i hi => ih i (Nat.lt_succ_of_lt hi)) (ih j (Nat.lt_succ_self j)) e (.inl e3) FD).2 ts S hy
      · cases k with
        | zero => exact ⟨fun vs H Q E z => z.1, fun A ou s H ar us vs Q E _ _ _ _ z => by obtain ⟨_, F, r, ts, S, _, _, _, z⟩ := z; exact z.elim⟩
        | succ j => exact (def_M hk0 hq ex Wd (fun i hi => ih i (Nat.lt_succ_of_lt hi)) (ih j (Nat.lt_succ_self j)) e (.inl e3) FD).1
    · obtain ⟨d, s, e, e1, e2, e3, e4, e5, e6⟩ := ofCls_ok (show Q.ofCls 4 g = some (cc, x, n) from hg)
      subst e5 e6
      obtain ⟨fd, FD⟩ := says_def c (def_mem e) (by rw [e3]; decide)
      have ma : He.fAd K d.at_ = He.ma K (He.ga K s.name) d.name := by unfold Def.at_; rw [e1]; rfl
      have ca : (Q.wt hq K).cadr cc = He.ga K s.name := cadr_of e2
      have hm : Meth K ((Q.wt hq K).cadr cc) d.name (He.fAd K d.at_) := by
        rw [ma, ca]
        exact He.meth_ok (says_fa c (f := .meth s.name d.name) (List.mem_append_left _ (List.mem_flatMap.mpr ⟨d, def_mem e, by rw [e1, e3]; exact List.mem_singleton.mpr rfl⟩)))
      match k, ih with
      | 0, ih => exact ⟨fun ts S hy => absurd rfl hy, .inl fun _ _ => rfl⟩
      | 1, ih => exact ⟨fun ts S hy => absurd rfl hy, .inl fun _ _ => rfl⟩
      | 2, ih => exact ⟨fun ts S hy => absurd rfl hy, .inl fun _ _ => rfl⟩
      | 3, ih => exact ⟨fun ts S hy => absurd rfl hy, .inl fun _ _ => rfl⟩
      | 4, ih =>
        rw [show (lev Q.prog 4).low = (lev Q.prog 0).call from lev_low Q.prog 0]
        exact ⟨fun ts S hy => absurd rfl hy, .inl fun _ _ => rfl⟩
      | j + 5, ih =>
        rw [show (lev Q.prog (j + 5)).low = (lev Q.prog (j + 1)).call from lev_low Q.prog (j + 1)]
        have z := def_M hk0 hq ex Wd (fun i hi => ih i (by omega)) (ih j (by omega)) e (.inl e3) FD
        exact ⟨z.2, .inr ⟨j + 1, _, fd, d.ps, rfl, hm, FunD.bindsN FD d.bind, z.1⟩⟩
    · obtain ⟨d, s, e, e1, e2, e3, e4, e5, e6⟩ := ofCls_ok (show Q.ofCls 5 g = some (cc, x, n) from hg)
      subst e5 e6
      have ca : (Q.wt hq K).cadr cc = He.ga K s.name := cadr_of e2
      obtain ⟨p, fd, hp, FD⟩ := says_pr pr (ex_P ex) (def_mem e) e3 e1
      match k, ih with
      | 0, ih => exact ⟨fun ts S hy => absurd rfl hy, .inl fun _ _ => rfl⟩
      | 1, ih => exact ⟨fun ts S hy => absurd rfl hy, .inl fun _ _ => rfl⟩
      | 2, ih => exact ⟨fun ts S hy => absurd rfl hy, .inl fun _ _ => rfl⟩
      | 3, ih => exact ⟨fun ts S hy => absurd rfl hy, .inl fun _ _ => rfl⟩
      | 4, ih =>
        rw [show (lev Q.prog 4).low = (lev Q.prog 0).call from lev_low Q.prog 0]
        exact ⟨fun ts S hy => absurd rfl hy, .inl fun _ _ => rfl⟩
      | j + 5, ih =>
        rw [show (lev Q.prog (j + 5)).low = (lev Q.prog (j + 1)).call from lev_low Q.prog (j + 1)]
        have z := def_M hk0 hq ex Wd (fun i hi => ih i (by omega)) (ih j (by omega)) e (.inr e3) FD
        exact ⟨z.2, .inr ⟨j + 1, p, _, fd, d.ps, rfl, by show PropOf K ((Q.wt hq K).cadr cc) d.name p _; rw [ca]; exact hp, FunD.bindsN FD d.bind, z.1⟩⟩
    · have hg : (match Q.def_ g with | some d => (match d.cls, d.kind with | none, 2 => some d.name | _, _ => none) | none => none) = some x := hg
      cases e : Q.def_ g with
      | none => rw [e] at hg; cases hg
      | some d =>
        rw [e] at hg
        dsimp only at hg
        cases ec : d.cls with
        | some _ => rw [ec] at hg; cases hg
        | none =>
          rw [ec] at hg
          have ek : d.kind = 2 ∧ d.name = x := by
            split at hg
            · rename_i z1 z2; exact ⟨z2, Option.some.inj hg⟩
            · cases hg
          obtain ⟨ek, rfl⟩ := ek
          obtain ⟨fd, FD⟩ := says_def c (def_mem e) (by rw [ek]; decide)
          refine ⟨He.fAd K d.at_, fd, d.ps, fn_glob kin gl c (def_mem e) ec, FD.kp, FunD.bindsN FD d.bind, ?_⟩
          have one : d.ps.length = 1 := by
            have ck := (src_ok hk0).1 d (def_mem e)
            unfold Def.inCls at ck
            rw [ec] at ck
            have ck : d.chk Q.tab [] = true := ck
            unfold Def.chk at ck
            rw [ek] at ck
            simp only [Bool.and_eq_true] at ck
            exact of_decide_eq_true ck.2.1
          cases k with
          | zero => exact ⟨one, fun A ou s H ar p cls d' Q' _ _ _ _ _ _ _ z => by obtain ⟨F, r, c0, l, S, _, _, _, z⟩ := z; exact z.elim⟩
          | succ j =>
            have z := def_Z hk0 hq ex tb Wd (fun i hi => ih i (Nat.lt_succ_of_lt hi)) (ih j (Nat.lt_succ_self j)) e ec ek FD
            have call : (lev Q.prog (j + 1)).callH g = fun c l S => runH (lev Q.prog j) d.code c l S := by
              funext c l S
              rw [lev.eq_def]
              show (match (match Q.def_ g with | some d => some d.code | none => none) with | some fd => runH (lev Q.prog j) fd c l S | none => .no) = _
              rw [e]
            show FnZ P w K mg base (j + 1) _ fd d.ps (spH (Q.wt hq K) ((lev Q.prog (j + 1)).callH g))
            rw [call]
            exact z
    · have hg : (match Q.def_ g with | some d => (match d.cls, d.kind with | none, 1 => some d.name | _, _ => none) | none => none) = some x := hg
      cases e : Q.def_ g with
      | none => rw [e] at hg; cases hg
      | some d =>
        rw [e] at hg
        dsimp only at hg
        cases ec : d.cls with
        | some _ => rw [ec] at hg; cases hg
        | none =>
          rw [ec] at hg
          have ek : d.kind = 1 ∧ d.name = x := by
            split at hg
            · rename_i z1 z2; exact ⟨z2, Option.some.inj hg⟩
            · cases hg
          obtain ⟨ek, rfl⟩ := ek
          obtain ⟨fd, FD⟩ := says_def c (def_mem e) (by rw [ek]; decide)
          match k, ih with
          | 0, _ => exact .inl fun _ _ _ => rfl
          | 1, _ => exact .inl fun _ _ _ => rfl
          | j + 2, ih =>
            refine .inr ⟨j, He.fAd K d.at_, fd, d.ps, _, rfl, fn_glob kin gl c (def_mem e) ec, FD.kp, FunD.bindsN FD d.bind, def_L hk0 hq ex tb Wd (fun i hi => ih i (by omega)) (ih (j + 1) (by omega)) e ec ek FD, fun ce env S => ?_⟩
            rw [lev.eq_def]
            show (match (match Q.def_ g with | some d => some d.code | none => none) with | some fd => runL { lev Q.prog (j + 1) with act := fun S' => evE (lev Q.prog j) ce env S' } fd S | none => .no) = _
            rw [e]
theorem law_fn (hk : Q.ok = true) (hq : Q.attrOk = true) (kin : K.In h0) (gl : h0.Ns mainGlobals mg) (c : He.SaysD Q.fa Q.fn K) (ex : Q.ex K = true) (pr : getW Q.pr K = Q.pr.map He.DefD.val) {g : Nat} {d : Def} (hg : Q.def_ g = some d) (hc : d.cls = none) (ek : d.kind = 0) (k : Nat) :
    ∃ fd, mg d.name = some (.ref (He.fAd K d.at_)) ∧ FunD K d.name d.qual (defArgs d.stm) (defBody d.stm) (defScope d.stm) [] [] (He.fAd K d.at_) fd ∧
      ∀ (P : Program) (w : World) (base : Heap), (∀ p ∈ Q.cs K, LamX.TabB base mg p.1 p.2) → FnG P w K mg base (k + 1) (He.fAd K d.at_) fd d.ps (spF (Q.wt hq K) d.ps.length ((lev Q.prog (k + 1)).call g)) := by
  obtain ⟨fd, FD⟩ := says_def c (def_mem hg) (by rw [ek]; decide)
  exact ⟨fd, fn_glob kin gl c (def_mem hg) hc, FD, fun P w base tb => (def_G hk hq ex tb (wld_ok hk hq kin gl c ex) (fun j _ => lev_ok hk hq kin gl c ex pr tb j) (lev_ok hk hq kin gl c ex pr tb k) hg hc ek FD).1⟩
end
end Z
set_option Elab.async false
set_option linter.all false
set_option maxRecDepth 100000
set_option maxHeartbeats 4000000
namespace Z
open PySem PySem.Spec PyProof.Rows L2
def noTbl (H : Hp) : Hp := fun b => (match H b with | some (.tbl _) => none | o => o)
theorem noTbl_le (H : Hp) : Le (noTbl H) H := fun b o h => by
  unfold noTbl at h
  split at h
  · cases h
  · exact h
theorem noTbl_nt (H : Hp) : ∀ b ps, noTbl H b ≠ some (.tbl ps) := fun b ps h => by
  unfold noTbl at h
  split at h
  · cases h
  · rename_i z; exact z ps h
theorem noTbl_of {H : Hp} {b : Addr} {o : HO} (h : H b = some o) (n : ∀ ps, o ≠ .tbl ps) : noTbl H b = some o := by
  unfold noTbl
  rw [h]
  cases o <;> first | rfl | exact absurd rfl (n _)
theorem sp_law {W : WT} {f : List T → Store → Out R} {H : Hp} {a : Addr} {ns : List Int} {S' : Store} {E : XK} (e : f [.lst (ns.map .int)] [] = .ok (.val (.bl true)) S') (hS : SqL W.K H a (ns.map V.int)) (tb : LamX.Tabs W.tabs H) : spF W 1 f [.ref a] H (fun v _ => v = .bl true) E := by
  have rl : RepL W (noTbl H) [] (ns.map T.int) (ns.map V.int) := RepL.ofInts ns
  have hS' : SqL W.K (noTbl H) a (ns.map V.int) := by
    rcases hS with (h | ⟨o, h⟩) | h
    · exact .inl (.inl (noTbl_of h fun _ z => by cases z))
    · exact .inl (.inr ⟨o, noTbl_of h fun _ z => by cases z⟩)
    · exact .inr h
  exact ⟨rfl, noTbl H, [], [.lst (ns.map .int)], [], .cons (.lst hS' rl.len rl.at_) .nil, noTbl_le H, ⟨rfl, (fun i j b h => nomatch h), (fun n b o h => nomatch h), tb, noTbl_nt H⟩, by rw [e]; exact fun v F' r' H' _ _ _ vo => by cases vo; rfl⟩
theorem law_walk {Q : Src} (hk : Q.ok = true) {l : PySem.W.OpenLaw} {n m g k : Nat} {q : Program} {loose : List Str} {XP : (Str → Option Value) → Heap → Prop} {D : DefRec} {d : Def} {x : Str}
    (hn : l.most = some n) (hn2 : n ≤ sizeLine) (hdf : D.params.defaults = []) (hr : Room (k + 1) callerA) (hg : Q.def_ g = some d) (hc : d.cls = none) (hp : d.ps = [x]) (hD : D.name = d.name)
    (ev : ∀ ns : List Int, ns.length ≤ n → ∃ S', (lev Q.prog (k + 1)).call g [.lst (ns.map .int)] [] = .ok (.val (.bl true)) S') (ek : d.kind = 0 := by rfl) :
    PySem.W.WalkO q loose XP (hookP m Q.fa Q.fn Q.tf Q.ex Q.pr).says l.row.toRowW D [] (fun f vs => PySem.call f vs) := by
  have hq : Q.attrOk = true := by
    have hk := hk
    unfold Src.ok at hk
    rw [Bool.and_eq_true, Bool.and_eq_true, Bool.and_eq_true] at hk
    exact hk.1.1.1
  refine walk_GT (n := n) (k := k + 1) (x := x) hn hn2 hdf hr fun w mg fa h Y G hmg => ?_
  obtain ⟨K, kin, c, pr⟩ := Y
  obtain ⟨fd, hf, FD, F⟩ := law_fn hk hq kin G c.t.d c.more pr hg hc ek k
  rw [hD, hf] at hmg
  cases hmg
  have b := FunD.bindsA (ps := d.ps) FD d.bind
  have inTf : ∀ p ∈ Q.cs K, ∃ t ∈ Q.tf, p = He.cT K t := fun p hp => by
    obtain ⟨d', hd', e⟩ := List.mem_map.mp (show p ∈ Q.lams.map fun d => He.cT K d.at_ from hp)
    exact ⟨d'.at_, List.mem_map.mpr ⟨d', hd', rfl⟩, e.symm⟩
  refine ⟨K, fd, Q.cs K, spF (Q.wt hq K) d.ps.length ((lev Q.prog (k + 1)).call g), kin, fun p hp => ?_, fun p hp => ?_, fun p hp => ?_, fun s u => ?_, fun H a ns hl hT hS => ?_, fun base _ _ tb => ?_⟩
  · obtain ⟨t, ht, rfl⟩ := inTf p hp; exact c.empty t ht
  · obtain ⟨t, ht, rfl⟩ := inTf p hp; exact c.out t ht
  · obtain ⟨t, ht, rfl⟩ := inTf p hp; exact PySem.W.codeHd_of_K kin (c.hd t ht)
  · have z := b s [u] (by rw [hp]; rfl)
    rw [hp] at z
    exact z
  · obtain ⟨S', e⟩ := ev ns hl
    rw [hp]
    refine sp_law e hS fun t ht => ?_
    obtain ⟨d', hd', e'⟩ := List.mem_map.mp (show t ∈ Q.tabs K from ht)
    subst e'
    exact LamX.TabS.nil (hT (He.cT K d'.at_) (List.mem_map.mpr ⟨d', hd', rfl⟩))
  · have z := F l.prog w base tb
    rw [hp] at z ⊢
    exact z
end Z
set_option Elab.async false
set_option linter.all false
set_option maxRecDepth 100000
set_option maxHeartbeats 1000000
namespace Z
open PySem
def WpX {A : Type} (X : Nat → List T → Store → Prop) (o : Out A) (Q : A → Store → Prop) : Prop := match o with
  | .ok a S => Q a S
  | .ex c l S => X c l S
  | .no => False
def WSX (X : Nat → List T → Env → Store → Prop) (f : Fl) (N : Env → Store → Prop) (B K : Env → Store → Prop) (R : R → Store → Prop) : Prop := match f with
  | .nx e S => N e S
  | .bk e S => B e S
  | .ct e S => K e S
  | .rt x S => R x S
  | .ex c l e S => X c l e S
  | .no => False
abbrev Wp {A : Type} (o : Out A) (Q : A → Store → Prop) : Prop := WpX (fun _ _ _ => False) o Q
abbrev WS (f : Fl) (N : Env → Store → Prop) (B K : Env → Store → Prop) (R : R → Store → Prop) : Prop := WSX (fun _ _ _ _ => False) f N B K R
theorem WpX.mono {A : Type} {o : Out A} {X : Nat → List T → Store → Prop} {Q Q' : A → Store → Prop} (h : WpX X o Q) (i : ∀ a S, Q a S → Q' a S) : WpX X o Q' := by
  cases o with
  | ok a S => exact i a S h
  | _ => exact h
theorem WpX.monoX {A : Type} {o : Out A} {X X' : Nat → List T → Store → Prop} {Q Q' : A → Store → Prop} (h : WpX X o Q) (i : ∀ a S, Q a S → Q' a S) (x : ∀ c l S, X c l S → X' c l S) : WpX X' o Q' := by
  cases o with
  | ok a S => exact i a S h
  | ex c l S => exact x c l S h
  | no => exact h
theorem Wp.mono {A : Type} {o : Out A} {X : Nat → List T → Store → Prop} {Q Q' : A → Store → Prop} (h : Wp o Q) (i : ∀ a S, Q a S → Q' a S) : WpX X o Q' := h.monoX i fun _ _ _ z => z.elim
theorem WSX.mono {f : Fl} {X X' : Nat → List T → Env → Store → Prop} {N B K N' B' K' : Env → Store → Prop} {Rr R' : R → Store → Prop} (h : WSX X f N B K Rr) (x : ∀ c l e S, X c l e S → X' c l e S) (n : ∀ e S, N e S → N' e S) (b : ∀ e S, B e S → B' e S) (k : ∀ e S, K e S → K' e S) (r : ∀ x S, Rr x S → R' x S) : WSX X' f N' B' K' R' := by
  cases f with
  | nx e S => exact n e S h
  | bk e S => exact b e S h
  | ct e S => exact k e S h
  | rt e S => exact r e S h
  | ex c l e S => exact x c l e S h
  | no => exact h
theorem WS.mono {f : Fl} {X : Nat → List T → Env → Store → Prop} {N B K N' B' K' : Env → Store → Prop} {Rr R' : R → Store → Prop} (h : WS f N B K Rr) (n : ∀ e S, N e S → N' e S) (b : ∀ e S, B e S → B' e S) (k : ∀ e S, K e S → K' e S) (r : ∀ x S, Rr x S → R' x S) : WSX X f N' B' K' R' := WSX.mono h (fun _ _ _ _ z => z.elim) n b k r
theorem Wp.ok {A : Type} {o : Out A} {a : A} {S : Store} (h : Wp o fun b S' => b = a ∧ S' = S) : o = .ok a S := by
  cases o with
  | ok b S' => obtain ⟨rfl, rfl⟩ := h; rfl
  | _ => exact h.elim
theorem Wp.get {A : Type} {o : Out A} {Q : A → Store → Prop} (h : Wp o Q) : ∃ a S, o = .ok a S ∧ Q a S := by
  cases o with
  | ok b S' => exact ⟨b, S', rfl, h⟩
  | _ => exact h.elim
section
variable {A B' : Type} {Q : A → Store → Prop} {C : EC} {env : Env} {S : Store} {N B K : Env → Store → Prop} {V : R → Store → Prop} {Y : R → Store → Prop} {X : Nat → List T → Store → Prop} {XS : Nat → List T → Env → Store → Prop}
@[simp] theorem wp_ok {a : A} : WpX X (.ok a S) Q = Q a S := rfl
@[simp] theorem wp_no : WpX X (.no : Out A) Q = False := rfl
theorem wp_bind {o : Out A} {f : A → Store → Out B'} {Q : B' → Store → Prop} : WpX X (o.bind f) Q = WpX X o fun a S => WpX X (f a S) Q := by cases o <;> rfl
theorem wp_bind0 {o : Out A} {f : A → Store → Out B'} {Q : B' → Store → Prop} : Wp (o.bind f) Q = Wp o fun a S => Wp (f a S) Q := wp_bind
theorem wp_only {o : Out A} {f : A → Store → Out B'} {Q : B' → Store → Prop} : WpX X (o.only f) Q = Wp o fun a S => WpX X (f a S) Q := by cases o <;> rfl
theorem wp_of {o : Option A} : WpX X (.of S o) Q = ∃ a, o = some a ∧ Q a S := by
  cases o with
  | none => simp [WpX, Out.of]
  | some a => simp [WpX, Out.of]
theorem wp_m {o : Option A} : WpX X (match o with | some a => Out.ok a S | none => Out.no) Q = ∃ a, o = some a ∧ Q a S := wp_of
theorem w_var {i : Nat} : WpX X (evE C (.var i) env S) V = match env[i]? with | some (.val t) => V (.val t) S | some (.own _) => V (.own i) S | some (.hot c l) => V (.hot c l) S | _ => False := by
  show WpX X (match env[i]? with | some (.val t) => .ok (.val t) S | some (.own _) => .ok (.own i) S | some (.hot c l) => .ok (.hot c l) S | _ => .no) V = _
  split <;> rfl
theorem w_int {i : Int} : WpX X (evE C (.int i) env S) V = V (.val (.int i)) S := rfl
theorem w_bl {i : Bool} : WpX X (evE C (.bl i) env S) V = V (.val (.bl i)) S := rfl
theorem w_str {i : Str} : WpX X (evE C (.str i) env S) V = V (.val (.str i)) S := rfl
theorem w_non : WpX X (evE C .non env S) V = V (.val .non) S := rfl
theorem w_con {k : Nat} : WpX X (evE C (.con k) env S) V = ∃ t, C.con k = some t ∧ V (.val t) S := by
  show WpX X (Out.of S ((C.con k).map R.val)) V = _
  cases C.con k with
  | none => simp [WpX, Out.of]
  | some t => simp [WpX, Out.of]
theorem w_tup {es : CEs} : WpX X (evE C (.tup es) env S) V = WpX X (evEs C es env S) fun ts S1 => V (.val (.tup ts)) S1 := wp_bind
theorem w_lst {es : CEs} : WpX X (evE C (.lst es) env S) V = WpX X (evEs C es env S) fun ts S1 => V (.fresh (.lst ts)) S1 := wp_bind
theorem w_bin {op : BOp} {a b : CE} : WpX X (evE C (.bin op a b) env S) V = WpX X (evE C a env S) fun x S1 => WpX X (evE C b env S1) fun y S2 => ∃ t u z, flat env S2 x = some t ∧ flat env S2 y = some u ∧ binT op t u = some z ∧ V z S2 := by
  show WpX X (Out.bind _ _) V = _
  rw [wp_bind]
  congr 1
  funext x S1
  rw [wp_bind]
  congr 1
  funext y S2
  apply propext
  cases h1 : flat env S2 x <;> cases h2 : flat env S2 y <;> simp [wp_of]
theorem w_neg {a : CE} : WpX X (evE C (.neg a) env S) V = WpX X (evE C a env S) fun x S1 => ∃ i, x = .val (.int i) ∧ V (.val (.int (-i))) S1 := by
  show WpX X (Out.bind _ _) V = _
  rw [wp_bind]
  congr 1
  funext x S1
  apply propext
  split
  · simp
  · rename_i h; constructor
    · intro z; exact z.elim
    · rintro ⟨i, rfl, _⟩; exact (h i rfl).elim
theorem wp_evC {op : COp} {x y : R} {W : Bool → Store → Prop} : WpX X (evC op env S x y) W = match op with
    | .is => y = .val .non ∧ W (isNon x) S
    | .isnot => y = .val .non ∧ W (!isNon x) S
    | op => ∃ t u k, flat env S x = some t ∧ flat env S y = some u ∧ cmpT op t u = some k ∧ W k S := by
  apply propext
  unfold evC
  split
  · cases y with
    | val t => cases t <;> simp
    | _ => simp
  · cases y with
    | val t => cases t <;> simp
    | _ => simp
  · rename_i h1 h2
    cases op <;> first | exact absurd rfl h1 | exact absurd rfl h2 | (cases h1 : flat env S x <;> cases h2 : flat env S y <;> simp [wp_of])
theorem w_cmp {op : COp} {a b : CE} : WpX X (evE C (.cmp op a b) env S) V = WpX X (evE C a env S) fun x S1 => WpX X (evE C b env S1) fun y S2 => WpX X (evC op env S2 x y) fun k S3 => V (.val (.bl k)) S3 := by
  show WpX X (Out.bind _ _) V = _
  rw [wp_bind]
  congr 1
  funext x S1
  rw [wp_bind]
  congr 1
  funext y S2
  rw [wp_bind]
  rfl
theorem w_chain {p q : COp} {a b c : CE} : WpX X (evE C (.chain p q a b c) env S) V = WpX X (evE C a env S) fun x S1 => WpX X (evE C b env S1) fun y S2 => WpX X (evC p env S2 x y) fun k S3 => (match k with
    | true => WpX X (evE C c env S3) fun z S4 => WpX X (evC q env S4 y z) fun k' S5 => V (.val (.bl k')) S5
    | false => V (.val (.bl false)) S3) := by
  show WpX X (Out.bind _ _) V = _
  rw [wp_bind]
  congr 1
  funext x S1
  rw [wp_bind]
  congr 1
  funext y S2
  rw [wp_bind]
  congr 1
  funext k S3
  cases k with
  | true =>
    show WpX X (Out.bind _ _) V = _
    rw [wp_bind]
    congr 1
    funext z S4
    rw [wp_bind]
    rfl
  | false => rfl
theorem wp_truO {o : Out R} {W : Bool → Store → Prop} : WpX X (truO env o) W = WpX X o fun x S1 => ∃ t k, flat env S1 x = some t ∧ truT t = some k ∧ W k S1 := by
  unfold truO
  rw [wp_bind]
  congr 1
  funext x S1
  apply propext
  cases h : flat env S1 x <;> simp [wp_of]
theorem v_band {a b : CE} : WpX X (evE C (.band a b) env S) V = WpX X (evE C a env S) fun x S1 => ∃ t k, flat env S1 x = some t ∧ truT t = some k ∧ (match k with | true => WpX X (evE C b env S1) V | false => V x S1) := by
  show WpX X (Out.bind _ _) V = _
  rw [wp_bind]
  congr 1
  funext x S1
  apply propext
  cases h : flat env S1 x with
  | none => simp
  | some t => cases h2 : truT t with
    | none => simp [h2]
    | some k => cases k <;> simp [h2]
theorem v_bor {a b : CE} : WpX X (evE C (.bor a b) env S) V = WpX X (evE C a env S) fun x S1 => ∃ t k, flat env S1 x = some t ∧ truT t = some k ∧ (match k with | true => V x S1 | false => WpX X (evE C b env S1) V) := by
  show WpX X (Out.bind _ _) V = _
  rw [wp_bind]
  congr 1
  funext x S1
  apply propext
  cases h : flat env S1 x with
  | none => simp
  | some t => cases h2 : truT t with
    | none => simp [h2]
    | some k => cases k <;> simp [h2]
theorem w_bnot {a : CE} : WpX X (evE C (.bnot a) env S) V = WpX X (evE C a env S) fun x S1 => ∃ t k, flat env S1 x = some t ∧ truT t = some k ∧ V (.val (.bl (!k))) S1 := by
  show WpX X (Out.bind _ _) V = _
  rw [wp_bind, wp_truO]
  rfl
theorem w_ife {t a b : CE} : WpX X (evE C (.ife t a b) env S) V = WpX X (evE C t env S) fun x S1 => ∃ t k, flat env S1 x = some t ∧ truT t = some k ∧ (match k with | true => WpX X (evE C a env S1) V | false => WpX X (evE C b env S1) V) := by
  show WpX X (Out.bind _ _) V = _
  rw [wp_bind, wp_truO]
  congr 1
  funext x S1
  apply propext
  constructor
  · rintro ⟨t, k, h1, h2, h3⟩; exact ⟨t, k, h1, h2, by cases k <;> exact h3⟩
  · rintro ⟨t, k, h1, h2, h3⟩; exact ⟨t, k, h1, h2, by cases k <;> exact h3⟩
theorem w_ix {a b : CE} : WpX X (evE C (.ix a b) env S) V = WpX X (evE C a env S) fun x S1 => WpX X (evE C b env S1) fun y S2 => ∃ t u z, flat env S2 x = some t ∧ flat env S2 y = some u ∧ ixT t u = some z ∧ V (.val z) S2 := by
  show WpX X (Out.bind _ _) V = _
  rw [wp_bind]
  congr 1
  funext x S1
  rw [wp_bind]
  congr 1
  funext y S2
  apply propext
  cases h1 : flat env S2 x with
  | none => simp
  | some t => cases h2 : flat env S2 y with
    | none => simp
    | some u => cases h3 : ixT t u <;> simp [wp_of, h3]
theorem w_sl {a : CE} {lo hi : CO} : WpX X (evE C (.sl a lo hi) env S) V = WpX X (evE C a env S) fun x S1 => WpX X (evO C lo env S1) fun l S2 => WpX X (evO C hi env S2) fun h S3 => ∃ t z, flat env S3 x = some t ∧ slT l h t = some z ∧ V z S3 := by
  show WpX X (Out.bind _ _) V = _
  rw [wp_bind]
  congr 1
  funext x S1
  rw [wp_bind]
  congr 1
  funext l S2
  rw [wp_bind]
  congr 1
  funext h S3
  apply propext
  cases h1 : flat env S3 x <;> simp [wp_of]
theorem w_onone {Q : Option Int → Store → Prop} : WpX X (evO C .none env S) Q = Q none S := rfl
theorem w_osome {e : CE} {Q : Option Int → Store → Prop} : WpX X (evO C (.some e) env S) Q = WpX X (evE C e env S) fun x S1 => ∃ i, x = .val (.int i) ∧ Q (some i) S1 := by
  show WpX X (Out.bind _ _) Q = _
  rw [wp_bind]
  congr 1
  funext x S1
  apply propext
  split
  · simp
  · rename_i h; constructor
    · intro z; exact z.elim
    · rintro ⟨i, rfl, _⟩; exact (h i rfl).elim
theorem w_fld {a : CE} {f : Nat} (h : WpX X (evE C a env S) fun x S1 => ∃ t, fldR env S1 x f = some t ∧ V (.val t) S1) : WpX X (evE C (.fld a f) env S) V := by
  show WpX X (Out.bind _ _) V
  rw [wp_bind]
  refine h.mono fun x S1 ⟨t, e, v⟩ => ?_
  cases x with
  | hot c l => cases e
  | _ => show WpX X (Out.of S1 ((fldR env S1 _ f).map R.val)) V; rw [e]; exact v
theorem w_call {g : Nat} {es : CEs} : WpX X (evE C (.call g es) env S) V = WpX X (evEs C es env S) fun ts S1 => WpX X (C.call g ts S1) V := wp_bind
theorem w_new {c : Nat} {es : CEs} : WpX X (evE C (.new c es) env S) V = WpX X (evEs C es env S) fun ts S1 => WpX X (C.new c ts S1) V := wp_bind
theorem w_callk {g : Nat} {ks : List Str} {pm : List Nat} {es fs : CEs} : WpX X (evE C (.callk g ks pm es fs) env S) V = WpX X (evEs C es env S) fun ts S1 => WpX X (evEs C fs env S1) fun us S2 => WpX X (C.call g (pm.map fun i => ((ts ++ us)[i]?).getD .non) S2) V := by
  show WpX X (Out.bind _ _) V = _
  rw [wp_bind]
  congr 1
  funext ts S1
  exact wp_bind
theorem w_keep {e : CE} : WpX X (evE C (.keep e) env S) V = WpX X (evE C e env S) fun x S1 => ∃ o, x = .fresh o ∧ V (.val (.ref S1.length)) (S1 ++ [o]) := by
  show WpX X (Out.bind _ _) V = _
  rw [wp_bind]
  congr 1
  funext x S1
  apply propext
  cases x <;> simp
theorem w_isi {a : CE} {cs : List BTy} (h : WpX X (evE C a env S) fun x S1 => ∃ t b, flat env S1 x = some t ∧ isiT t cs = some b ∧ V (.val (.bl b)) S1) : WpX X (evE C (.isi a cs) env S) V := by
  show WpX X (Out.bind _ _) V
  rw [wp_bind]
  refine h.mono fun x S1 ⟨t, b, e, e2, v⟩ => ?_
  cases x with
  | hot c l => cases e
  | _ =>
    show WpX X (match flat env S1 _ with | some t => Out.of S1 ((isiT t cs).map fun b => R.val (.bl b)) | none => .no) V
    rw [e]
    show WpX X (Out.of S1 ((isiT t cs).map fun b => R.val (.bl b))) V
    rw [e2]; exact v
theorem w_bi {b : Bi} {es : CEs} : WpX X (evE C (.bi b es) env S) V = WpX X (evRs C es env S) fun ts S1 => ∃ z, biT b ts = some z ∧ V z S1 := by
  show WpX X (Out.bind _ _) V = _
  rw [wp_bind]
  congr 1
  funext ts S1
  exact wp_of
theorem w_lc {g : CG} {it : CI} {c : CO} {e : CE} : WpX X (evE C (.lc g it c e) env S) V = WpX X (evI C false it env S) fun ts S1 => Wp (compL (fun env' S' => (match c with
      | .none => (evE C e env' S').bind fun x S'' => .of S'' ((sink x).map some)
      | .some c => (truO env' (evE C c env' S')).bind fun k S'' => (match k with
        | true => (evE C e env' S'').bind fun x S3 => .of S3 ((sink x).map some)
        | false => .ok none S''))) (setG g) (wipeE env (slotsG g)) ts S1) fun l S2 => l.length ≤ LIM ∧ V (.fresh (.lst l)) S2 := by
  rw [evE, wp_bind]
  congr 1
  funext ts S1
  rw [wp_only]
  congr 1
  funext l S2
  apply propext
  by_cases h : l.length ≤ LIM <;> simp [wp_of, guardT, h]
theorem w_anil {Q : List T → Store → Prop} : WpX X (evEs C .nil env S) Q = Q [] S := rfl
theorem w_acons {e : CE} {es : CEs} {Q : List T → Store → Prop} : WpX X (evEs C (.cons e es) env S) Q = WpX X (evE C e env S) fun x S1 => ∃ t, sink x = some t ∧ WpX X (evEs C es env S1) fun ts S2 => Q (t :: ts) S2 := by
  show WpX X (Out.bind _ _) Q = _
  rw [wp_bind]
  congr 1
  funext x S1
  apply propext
  cases h : sink x with
  | none => simp
  | some t => simp [wp_bind]
theorem w_bnil {Q : List T → Store → Prop} : WpX X (evRs C .nil env S) Q = Q [] S := rfl
theorem w_bcons {e : CE} {es : CEs} {Q : List T → Store → Prop} : WpX X (evRs C (.cons e es) env S) Q = WpX X (evE C e env S) fun x S1 => WpX X (evRs C es env S1) fun ts S2 => ∃ t, flat env S2 x = some t ∧ Q (t :: ts) S2 := by
  show WpX X (Out.bind _ _) Q = _
  rw [wp_bind]
  congr 1
  funext x S1
  rw [wp_bind]
  congr 1
  funext ts S2
  apply propext
  cases h : flat env S2 x <;> simp
theorem w_ice {e : CE} {b : Bool} {Q : List T → Store → Prop} : WpX X (evI C b (.ce e) env S) Q = WpX X (evE C e env S) fun x S1 => ∃ k ts, seqR b env x = some (k, ts) ∧ Q ts S1 := by
  show WpX X (Out.bind _ _) Q = _
  rw [wp_bind]
  congr 1
  funext x S1
  apply propext
  split
  · rename_i k ts h; exact ⟨fun z => ⟨k, ts, h, z⟩, fun ⟨k', ts', h', z⟩ => by rw [h] at h'; cases h'; exact z⟩
  · rename_i h; simp [h]
theorem w_irange1 {a : CE} {b : Bool} {Q : List T → Store → Prop} : WpX X (evI C b (.range1 a) env S) Q = WpX X (evE C a env S) fun x S1 => ∃ i, x = .val (.int i) ∧ in62 i = true ∧ Q (rangeT 0 i) S1 := by
  show WpX X (Out.bind _ _) Q = _
  rw [wp_bind]
  congr 1
  funext x S1
  apply propext
  split
  · rename_i i
    cases h : in62 i <;> simp [wp_of, guardT, h]
  · rename_i h; constructor
    · intro z; exact z.elim
    · rintro ⟨i, rfl, _⟩; exact (h i rfl).elim
theorem w_ienum {e : CE} {b : Bool} {Q : List T → Store → Prop} : WpX X (evI C b (.enum e) env S) Q = WpX X (evE C e env S) fun x S1 => ∃ k ts, seqR b env x = some (k, ts) ∧ Q (enumT 0 ts) S1 := by
  show WpX X (Out.bind _ _) Q = _
  rw [wp_bind]
  congr 1
  funext x S1
  apply propext
  split
  · rename_i k ts h; exact ⟨fun z => ⟨k, ts, h, z⟩, fun ⟨k', ts', h', z⟩ => by rw [h] at h'; cases h'; exact z⟩
  · rename_i h; simp [h]
theorem ws_of {A : Type} {o : Out A} {f : A → Store → Fl} : WSX XS (Fl.of env o f) N B K Y = WpX (fun c l s => XS c l env s) o fun a S1 => WSX XS (f a S1) N B K Y := by cases o <;> rfl
theorem s_nil' : WSX XS (exB C .nil env S) N B K Y = N env S := rfl
theorem s_cons' {s : CS} {ss : CSs} : WSX XS (exB C (.cons s ss) env S) N B K Y = WSX XS (exS C s env S) (fun env1 S1 => WSX XS (exB C ss env1 S1) N B K Y) B K Y := by
  show WSX XS (match exS C s env S with | .nx env1 S1 => exB C ss env1 S1 | r => r) N B K Y = _
  cases exS C s env S <;> rfl
theorem s_set' {i : Nat} {own : Bool} {e : CE} : WSX XS (exS C (.set i own e) env S) N B K Y = WpX (fun c l s => XS c l env s) (evE C e env S) fun x S1 => ∃ o, slotOf own x = some o ∧ N (env.set i o) S1 := by
  show WSX XS (Fl.of _ _ _) N B K Y = _
  rw [ws_of]
  congr 1
  funext x S1
  apply propext
  cases h : slotOf own x <;> simp [WSX]
theorem s_par' {i j : Nat} {oi oj : Bool} {a b : CE} : WSX XS (exS C (.par i j oi oj a b) env S) N B K Y = WpX (fun c l s => XS c l env s) (evE C a env S) fun x S1 => WpX (fun c l s => XS c l env s) (evE C b env S1) fun y S2 => ∃ o u, slotOf oi x = some o ∧ slotOf oj y = some u ∧ N ((env.set i o).set j u) S2 := by
  show WSX XS (Fl.of _ _ _) N B K Y = _
  rw [ws_of]
  congr 1
  funext x S1
  rw [ws_of]
  congr 1
  funext y S2
  apply propext
  cases h : slotOf oi x <;> cases h2 : slotOf oj y <;> simp [WSX]
theorem s_asg' {g : CT} {e : CE} : WSX XS (exS C (.asg g e) env S) N B K Y = WpX (fun c l s => XS c l env s) (evE C e env S) fun x S1 => ∃ t, sink x = some t ∧ Wp (asgT C g t env S1) fun env' S2 => N env' S2 := by
  show WSX XS (Fl.of _ _ _) N B K Y = _
  rw [ws_of]
  congr 1
  funext x S1
  apply propext
  cases h : sink x with
  | none => simp [WSX]
  | some t =>
    simp only [Option.some.injEq, exists_eq_left']
    cases asgT C g t env S1 <;> rfl
theorem s_append' {a e : CE} : WSX XS (exS C (.append a e) env S) N B K Y = WpX (fun c l s => XS c l env s) (evE C a env S) fun x S1 => isL env S1 x = true ∧ WpX (fun c l s => XS c l env s) (evE C e env S1) fun y S2 => ∃ t env' S', sink y = some t ∧ change env S2 x (appT t) = some (env', S') ∧ N env' S' := by
  show WSX XS (Fl.of _ _ _) N B K Y = _
  rw [ws_of]
  congr 1
  funext x S1
  apply propext
  cases h0 : isL env S1 x with
  | false => simp [WSX]
  | true =>
    simp only [true_and]
    rw [ws_of]
    apply Eq.to_iff
    congr 1
    funext y S2
    apply propext
    cases h : sink y with
    | none => simp [WSX]
    | some t =>
      cases h2 : change env S2 x (appT t) with
      | none => simp [WSX, h2]
      | some z =>
        obtain ⟨e1, s1⟩ := z
        simp only [h2, WSX]
        exact ⟨fun z => ⟨t, e1, s1, rfl, h2, z⟩, fun ⟨t', e', s', h3, h4, z⟩ => by cases h3; rw [h2] at h4; cases h4; exact z⟩
theorem s_expr' {e : CE} : WSX XS (exS C (.expr e) env S) N B K Y = WpX (fun c l s => XS c l env s) (evE C e env S) fun _ S1 => N env S1 := by
  show WSX XS (Fl.of _ _ _) N B K Y = _
  rw [ws_of]; rfl
theorem s_ret' {e : CE} : WSX XS (exS C (.ret e) env S) N B K Y = WpX (fun c l s => XS c l env s) (evE C e env S) fun x S1 => (match x with
      | .own i => (match env[i]? with | some (.own o) => Y (.fresh o) S1 | _ => False)
      | .hot _ _ => False
      | x => Y x S1) := by
  show WSX XS (Fl.of _ _ _) N B K Y = _
  rw [ws_of]
  congr 1
  funext x S1
  cases x with
  | val t => rfl
  | fresh o => rfl
  | hot c l => rfl
  | own i =>
    show WSX XS (match env[i]? with | some (.own o) => Fl.rt (.fresh o) S1 | _ => .no) N B K Y = _
    split <;> simp [WSX, *]
theorem s_retN' : WSX XS (exS C .retN env S) N B K Y = Y (.val .non) S := rfl
theorem s_brk' : WSX XS (exS C .brk env S) N B K Y = B env S := rfl
theorem s_cnt' : WSX XS (exS C .cnt env S) N B K Y = K env S := rfl
theorem s_pass' : WSX XS (exS C .pass env S) N B K Y = N env S := rfl
theorem s_never' : WSX XS (exS C .never env S) N B K Y = False := rfl
theorem s_sif' {t : CE} {a b : CSs} : WSX XS (exS C (.sif t a b) env S) N B K Y = WpX (fun c l s => XS c l env s) (evE C t env S) fun x S1 => ∃ u k, flat env S1 x = some u ∧ truT u = some k ∧ (match k with | true => WSX XS (exB C a env S1) N B K Y | false => WSX XS (exB C b env S1) N B K Y) := by
  show WSX XS (Fl.of _ _ _) N B K Y = _
  rw [ws_of, wp_truO]
  congr 1
  funext x S1
  apply propext
  constructor
  · rintro ⟨t, k, h1, h2, h3⟩; exact ⟨t, k, h1, h2, by cases k <;> exact h3⟩
  · rintro ⟨t, k, h1, h2, h3⟩; exact ⟨t, k, h1, h2, by cases k <;> exact h3⟩
theorem s_sfor' {g : CG} {it : CI} {b : CSs} : WSX XS (exS C (.sfor g it b) env S) N B K Y = WpX (fun c l s => XS c l env s) (evI C true it env S) fun ts S1 => WSX XS (forL (setG g) (fun e s => exB C b e s) ts env S1) N B K Y := by
  show WSX XS (Fl.of _ _ _) N B K Y = _
  rw [ws_of]
theorem s_sforo' {g : CG} {j : Nat} {b : CSs} : WSX XS (exS C (.sforo g j b) env S) N B K Y = WSX XS (forO (setG g) j (fun e s => exB C b e s) FUEL 0 env S) N B K Y := rfl
theorem s_swhile' {t : CE} {b : CSs} : WSX XS (exS C (.swhile t b) env S) N B K Y = WSX XS (whileL (fun e s => truO e (evE C t e s)) (fun e s => exB C b e s) FUEL env S) N B K Y := rfl
theorem ws_for {set : T → Env → Option Env} {bd : Env → Store → Fl} (J : Nat → Env → Store → Prop) : ∀ (ts : List T) (i : Nat) {env : Env} {S : Store}, J i env S →
    (∀ (n : Nat) (t : T) (env : Env) (S : Store), ts[n]? = some t → J (i + n) env S → ∃ env1, set t env = some env1 ∧ WSX XS (bd env1 S) (J (i + n + 1)) N (J (i + n + 1)) Y) → (∀ env S, J (i + ts.length) env S → N env S) → WSX XS (forL set bd ts env S) N B K Y
  | [], i, env, S, j, _, d => d env S j
  | t :: ts, i, env, S, j, h, d => by
    obtain ⟨env1, e1, w⟩ := h 0 t env S rfl j
    unfold forL
    rw [e1]
    dsimp only
    have go : ∀ e s, J (i + 1) e s → WSX XS (forL set bd ts e s) N B K Y := fun e s j' => ws_for J ts (i + 1) j' (fun n t' e' s' ht j2 => by
      have := h (n + 1) t' e' s' ht (by rw [show i + (n + 1) = i + 1 + n by omega]; exact j2)
      rw [show i + (n + 1) + 1 = i + 1 + n + 1 by omega] at this
      exact this) fun e' s' j2 => d e' s' (by rw [List.length_cons, show i + (ts.length + 1) = i + 1 + ts.length by omega]; exact j2)
    cases q : bd env1 S with
    | nx e s => rw [q] at w; exact go e s w
    | ct e s => rw [q] at w; exact go e s w
    | bk e s => rw [q] at w; exact w
    | rt x s => rw [q] at w; exact w
    | ex c l e s => rw [q] at w; exact w
    | no => rw [q] at w; exact w.elim
theorem ws_while {test : Env → Store → Out Bool} {bd : Env → Store → Fl} (J : Nat → Env → Store → Prop) : ∀ (m n : Nat) {env : Env} {S : Store}, m < n → J m env S →
    (∀ (m : Nat) (env : Env) (S : Store), J m env S → WpX (fun c l s => XS c l env s) (test env S) fun k S1 => match k with
      | true => WSX XS (bd env S1) (fun e s => ∃ m', m' < m ∧ J m' e s) N (fun e s => ∃ m', m' < m ∧ J m' e s) Y
      | false => N env S1) → WSX XS (whileL test bd n env S) N B K Y
  | m, 0, env, S, h, _, _ => absurd h (Nat.not_lt_zero m)
  | m, n + 1, env, S, hm, j, h => by
    unfold whileL
    rw [ws_of]
    refine (h m env S j).mono fun k S1 w => ?_
    cases k with
    | false => exact w
    | true =>
      dsimp only at w ⊢
      have go : ∀ e s, (∃ m', m' < m ∧ J m' e s) → WSX XS (whileL test bd n e s) N B K Y := fun e s ⟨m', l, j'⟩ => ws_while J m' n (by omega) j' h
      cases q : bd env S1 with
      | nx e s => rw [q] at w; exact go e s w
      | ct e s => rw [q] at w; exact go e s w
      | bk e s => rw [q] at w; exact w
      | rt x s => rw [q] at w; exact w
      | ex c l e s => rw [q] at w; exact w
      | no => rw [q] at w; exact w.elim
theorem ws_forO {set : T → Env → Option Env} {bd : Env → Store → Fl} {j : Nat} (ts : List T) (J : Nat → Env → Store → Prop) (hj : ∀ k env S, J k env S → env[j]? = some (.own (.lst ts))) : ∀ (n k : Nat) {env : Env} {S : Store}, ts.length < n + k → k ≤ ts.length → J k env S →
    (∀ (k : Nat) (t : T) (env : Env) (S : Store), ts[k]? = some t → J k env S → ∃ env1, set t env = some env1 ∧ WSX XS (bd env1 S) (J (k + 1)) N (J (k + 1)) Y) → (∀ env S, J ts.length env S → N env S) → WSX XS (forO set j bd n k env S) N B K Y
  | 0, k, env, S, l, l2, _, _, _ => absurd l (by omega)
  | n + 1, k, env, S, l, l2, jk, h, d => by
    unfold forO
    rw [hj k env S jk]
    dsimp only
    cases et : ts[k]? with
    | none =>
      have : ts.length ≤ k := List.getElem?_eq_none_iff.mp et
      have : k = ts.length := by omega
      subst this
      exact d env S jk
    | some t =>
      have lt : k < ts.length := (List.getElem?_eq_some_iff.mp et).1
      obtain ⟨env1, e1, w⟩ := h k t env S et jk
      dsimp only
      rw [e1]
      dsimp only
      have go : ∀ e s, J (k + 1) e s → WSX XS (forO set j bd n (k + 1) e s) N B K Y := fun e s j' => ws_forO ts J hj n (k + 1) (by omega) lt j' h d
      cases q : bd env1 S with
      | nx e s => rw [q] at w; exact go e s w
      | ct e s => rw [q] at w; exact go e s w
      | bk e s => rw [q] at w; exact w
      | rt x s => rw [q] at w; exact w
      | ex c l e s => rw [q] at w; exact w
      | no => rw [q] at w; exact w.elim
theorem wp_comp {step : Env → Store → Out (Option T)} {set : T → Env → Option Env} {env0 : Env} (I : Store → Prop) (P : T → T → Prop) : ∀ (ts : List T) {S : Store} {Q : List T → Store → Prop}, I S →
    (∀ t ∈ ts, ∀ S, I S → ∃ env1, set t env0 = some env1 ∧ Wp (step env1 S) fun o S' => ∃ x, o = some x ∧ P t x ∧ I S') → (∀ (l : List T) (S' : Store), l.length = ts.length → (∀ (i : Nat) (t x : T), ts[i]? = some t → l[i]? = some x → P t x) → I S' → Q l S') → Wp (compL step set env0 ts S) Q
  | [], S, Q, i, _, d => d [] S rfl (fun i t x h => by simp at h) i
  | t :: ts, S, Q, i, h, d => by
    obtain ⟨env1, e1, w⟩ := h t List.mem_cons_self S i
    unfold compL
    rw [e1]
    dsimp only
    rw [wp_bind0]
    refine w.mono fun o S1 ⟨x, e, p, i1⟩ => ?_
    subst e
    dsimp only
    rw [wp_bind0]
    refine wp_comp I P ts i1 (fun t' ht S' i' => h t' (List.mem_cons_of_mem _ ht) S' i') fun l S' hl hp i' => ?_
    refine d (x :: l) S' (by simp [hl]) (fun j t' x' h1 h2 => ?_) i'
    cases j with
    | zero => simp at h1 h2; subst h1 h2; exact p
    | succ j => exact hp j t' x' (by simpa using h1) (by simpa using h2)
theorem wp_runF {fd : FDef} {ts : List T} {V : R → Store → Prop} (h : ts.length = fd.np) (w : WSX (fun c l _ s => X c l s) (exB C fd.body (slots fd.nl (ts.map Slot.val)) S) (fun _ S' => V (.val .non) S') (fun _ _ => False) (fun _ _ => False) V) : WpX X (runF C fd ts S) V := by
  unfold runF
  rw [show (ts.length == fd.np) = true by simpa using h]
  dsimp only
  cases q : exB C fd.body (slots fd.nl (ts.map Slot.val)) S with
  | nx e s => rw [q] at w; exact w
  | bk e s => rw [q] at w; exact w.elim
  | ct e s => rw [q] at w; exact w.elim
  | rt x s => rw [q] at w; exact w
  | ex c l e s => rw [q] at w; exact w
  | no => rw [q] at w; exact w.elim
end
theorem lev_call {P : Prog} {k g : Nat} {d : FDef} (e : P.fn g = some d) (ts : List T) (S : Store) : (lev P (k + 1)).call g ts S = runF (lev P k) d ts S := by
  rw [lev.eq_def]
  show (match P.fn g with | some fd => runF (lev P k) fd ts S | none => .no) = _
  rw [e]
theorem lev_new {P : Prog} {k c : Nat} {cd : CDef} {d : FDef} (e : P.cl c = some cd) (e2 : P.fn cd.ini = some d) (ts : List T) (S : Store) : (lev P (k + 2)).new c ts S = runI (lev P k) c cd d ts S := by
  rw [lev.eq_def]
  show (match P.cl c with | some cd => (match P.fn cd.ini with | some fd => runI (lev P k) c cd fd ts S | none => .no) | none => .no) = _
  rw [e]
  dsimp only
  rw [e2]
theorem wp_call {P : Prog} {k g : Nat} {d : FDef} {ts : List T} {S : Store} {V : R → Store → Prop} {X : Nat → List T → Store → Prop} (e : P.fn g = some d) (h : ts.length = d.np)
    (w : WSX (fun c l _ s => X c l s) (exB (lev P k) d.body (slots d.nl (ts.map Slot.val)) S) (fun _ S' => V (.val .non) S') (fun _ _ => False) (fun _ _ => False) V) : WpX X ((lev P (k + 1)).call g ts S) V := by
  rw [lev_call e]
  exact wp_runF h w
theorem lev_con {P : Prog} {k : Nat} : (lev P k).con = P.con := by cases k <;> rw [lev.eq_def]
end Z
set_option Elab.async false
set_option linter.all false
set_option maxRecDepth 100000
set_option maxHeartbeats 1000000
namespace Z
open PySem
section
variable {C : EC} {env : Env} {S : Store} {V : R → Store → Prop} {N B K : Env → Store → Prop} {Y : R → Store → Prop} {Q : List T → Store → Prop} {X : Nat → List T → Store → Prop} {XS : Nat → List T → Env → Store → Prop}
theorem i_var {i : Nat} {t : T} (h : env[i]? = some (.val t)) (v : V (.val t) S) : WpX X (evE C (.var i) env S) V := by rw [w_var, h]; exact v
theorem i_own {i : Nat} {o : Ob} (h : env[i]? = some (.own o)) (v : V (.own i) S) : WpX X (evE C (.var i) env S) V := by rw [w_var, h]; exact v
theorem i_int {i : Int} (v : V (.val (.int i)) S) : WpX X (evE C (.int i) env S) V := v
theorem i_bl {i : Bool} (v : V (.val (.bl i)) S) : WpX X (evE C (.bl i) env S) V := v
theorem i_str {i : Str} (v : V (.val (.str i)) S) : WpX X (evE C (.str i) env S) V := v
theorem i_non (v : V (.val .non) S) : WpX X (evE C .non env S) V := v
theorem i_con {k : Nat} {t : T} (h : C.con k = some t) (v : V (.val t) S) : WpX X (evE C (.con k) env S) V := by rw [w_con]; exact ⟨t, h, v⟩
theorem i_tup {es : CEs} (h : WpX X (evEs C es env S) fun ts S1 => V (.val (.tup ts)) S1) : WpX X (evE C (.tup es) env S) V := by rw [w_tup]; exact h
theorem i_lst {es : CEs} (h : WpX X (evEs C es env S) fun ts S1 => V (.fresh (.lst ts)) S1) : WpX X (evE C (.lst es) env S) V := by rw [w_lst]; exact h
def BinK (op : BOp) (t u : Option T) (S : Store) (V : R → Store → Prop) : Prop := ∃ t' u' z, t = some t' ∧ u = some u' ∧ binT op t' u' = some z ∧ V z S
theorem i_bin {op : BOp} {a b : CE} (h : WpX X (evE C a env S) fun x S1 => WpX X (evE C b env S1) fun y S2 => BinK op (flat env S2 x) (flat env S2 y) S2 V) : WpX X (evE C (.bin op a b) env S) V := by rw [w_bin]; exact h
theorem k_bin {op : BOp} {t u : T} {z : R} (e : binT op t u = some z) (v : V z S) : BinK op (some t) (some u) S V := ⟨t, u, z, rfl, rfl, e, v⟩
theorem k_addI {a b : Int} (v : V (.val (.int (a + b))) S) : BinK .add (some (.int a)) (some (.int b)) S V := k_bin rfl v
theorem k_subI {a b : Int} (v : V (.val (.int (a - b))) S) : BinK .sub (some (.int a)) (some (.int b)) S V := k_bin rfl v
theorem k_mulI {a b : Int} (h : (small64 a || small64 b) = true) (v : V (.val (.int (a * b))) S) : BinK .mul (some (.int a)) (some (.int b)) S V := k_bin (by show guardT _ _ = _; rw [h]; rfl) v
theorem k_fdivI {a b : Int} (h : 0 < b) (h2 : b < 1073741824) (v : V (.val (.int (a / b))) S) : BinK .fdiv (some (.int a)) (some (.int b)) S V := k_bin (by show guardT _ _ = _; rw [decide_eq_true h, decide_eq_true h2]; rfl) v
theorem k_modI {a b : Int} (h : 0 < b) (v : V (.val (.int (a % b))) S) : BinK .mod (some (.int a)) (some (.int b)) S V := k_bin (by show guardT _ _ = _; rw [decide_eq_true h]; rfl) v
theorem k_powI {a b : Int} (h : (decide (0 ≤ b) && decide (b ≤ 1000000) && decide (a.natAbs < 2 ^ 64)) = true) (v : V (.val (.int (a ^ b.toNat))) S) : BinK .pow (some (.int a)) (some (.int b)) S V := k_bin (by show guardT _ _ = _; rw [h]; rfl) v
theorem k_addT {a b : List T} (h : a.length + b.length ≤ LIM) (v : V (.val (.tup (a ++ b))) S) : BinK .add (some (.tup a)) (some (.tup b)) S V := k_bin (by show guardT _ _ = _; rw [decide_eq_true h]; rfl) v
theorem k_addL {a b : List T} (h : a.length + b.length ≤ LIM) (v : V (.fresh (.lst (a ++ b))) S) : BinK .add (some (.lst a)) (some (.lst b)) S V := k_bin (by show guardT _ _ = _; rw [decide_eq_true h]; rfl) v
theorem k_mulT {a : List T} {k : Int} (h : (decide (-(2 ^ 63) ≤ k) && decide (k ≤ 1000) && decide (a.length ≤ 1000)) = true) (v : V (.val (.tup (List.replicate k.toNat a).flatten)) S) : BinK .mul (some (.tup a)) (some (.int k)) S V := k_bin (by show guardT _ _ = _; rw [h]; rfl) v
theorem i_neg {a : CE} (h : WpX X (evE C a env S) fun x S1 => ∃ i, x = .val (.int i) ∧ V (.val (.int (-i))) S1) : WpX X (evE C (.neg a) env S) V := by rw [w_neg]; exact h
theorem i_negI {i : Int} (v : V (.val (.int (-i))) S) : WpX X (evE C (.neg (.int i)) env S) V := i_neg (i_int ⟨i, rfl, v⟩)
def CmpK (op : COp) (t u : Option T) (S : Store) (W : Bool → Store → Prop) : Prop := ∃ t' u' k, t = some t' ∧ u = some u' ∧ cmpT op t' u' = some k ∧ W k S
def EvK (op : COp) (env : Env) (S : Store) (x y : R) (W : Bool → Store → Prop) : Prop := Wp (evC op env S x y) W
theorem i_cmp {op : COp} {a b : CE} (h : WpX X (evE C a env S) fun x S1 => WpX X (evE C b env S1) fun y S2 => EvK op env S2 x y fun k S3 => V (.val (.bl k)) S3) : WpX X (evE C (.cmp op a b) env S) V := by
  rw [w_cmp]
  exact h.mono fun x S1 h => h.mono fun y S2 h => Wp.mono (show Wp (evC op env S2 x y) _ from h) fun _ _ z => z
theorem e_is {x : R} {W : Bool → Store → Prop} (w : W (isNon x) S) : EvK .is env S x (.val .non) W := w
theorem e_isnot {x : R} {W : Bool → Store → Prop} (w : W (!isNon x) S) : EvK .isnot env S x (.val .non) W := w
theorem e_cmp' {op : COp} {x y : R} {W : Bool → Store → Prop} (h1 : op ≠ .is) (h2 : op ≠ .isnot) (w : CmpK op (flat env S x) (flat env S y) S W) : EvK op env S x y W := by
  show WpX _ (evC op env S x y) W
  rw [wp_evC]
  cases op <;> first | exact absurd rfl h1 | exact absurd rfl h2 | exact w
theorem k_cmp {op : COp} {t u : T} {k : Bool} {W : Bool → Store → Prop} (e : cmpT op t u = some k) (w : W k S) : CmpK op (some t) (some u) S W := ⟨t, u, k, rfl, rfl, e, w⟩
theorem k_eq {t u : T} {W : Bool → Store → Prop} (h1 : okD DEEP t = true) (h2 : okD DEEP u = true) (w : W (eqvT t u) S) : CmpK .eq (some t) (some u) S W := k_cmp (by show guardT _ _ = _; rw [h1, h2]; rfl) w
theorem k_ne {t u : T} {W : Bool → Store → Prop} (h1 : okD DEEP t = true) (h2 : okD DEEP u = true) (w : W (!eqvT t u) S) : CmpK .ne (some t) (some u) S W := k_cmp (by show guardT _ _ = _; rw [h1, h2]; rfl) w
theorem k_eqI {a b : Int} {W : Bool → Store → Prop} (w : W (decide (a = b)) S) : CmpK .eq (some (.int a)) (some (.int b)) S W := k_eq rfl rfl (by
  have : eqvT (.int a) (.int b) = decide (a = b) := by
    unfold eqvT toD
    simp only [PyData.eqv]
    by_cases h : a = b <;> simp [h]
  rw [this]; exact w)
theorem k_neI {a b : Int} {W : Bool → Store → Prop} (w : W (!decide (a = b)) S) : CmpK .ne (some (.int a)) (some (.int b)) S W := k_ne rfl rfl (by
  have : eqvT (.int a) (.int b) = decide (a = b) := by
    unfold eqvT toD
    simp only [PyData.eqv]
    by_cases h : a = b <;> simp [h]
  rw [this]; exact w)
theorem k_ltI {a b : Int} {W : Bool → Store → Prop} (w : W (decide (a < b)) S) : CmpK .lt (some (.int a)) (some (.int b)) S W := k_cmp rfl w
theorem k_leI {a b : Int} {W : Bool → Store → Prop} (w : W (decide (a ≤ b)) S) : CmpK .le (some (.int a)) (some (.int b)) S W := k_cmp rfl w
theorem k_gtI {a b : Int} {W : Bool → Store → Prop} (w : W (decide (b < a)) S) : CmpK .gt (some (.int a)) (some (.int b)) S W := k_cmp rfl w
theorem k_geI {a b : Int} {W : Bool → Store → Prop} (w : W (decide (b ≤ a)) S) : CmpK .ge (some (.int a)) (some (.int b)) S W := k_cmp rfl w
theorem i_chain {p q : COp} {a b c : CE} (h : WpX X (evE C a env S) fun x S1 => WpX X (evE C b env S1) fun y S2 => EvK p env S2 x y fun k S3 => ((k = true → WpX X (evE C c env S3) fun z S4 => EvK q env S4 y z fun k' S5 => V (.val (.bl k')) S5) ∧ (k = false → V (.val (.bl false)) S3))) : WpX X (evE C (.chain p q a b c) env S) V := by
  rw [w_chain]
  refine h.mono fun x S1 h => h.mono fun y S2 h => Wp.mono (show Wp (evC p env S2 x y) _ from h) fun k S3 h => ?_
  cases k with
  | true => exact (h.1 rfl).mono fun z S4 h => Wp.mono (show Wp (evC q env S4 _ z) _ from h) fun _ _ z => z
  | false => exact h.2 rfl
def TruK (t : Option T) (W : Bool → Prop) : Prop := ∃ t' k, t = some t' ∧ truT t' = some k ∧ W k
theorem k_tru {t : T} {k : Bool} {W : Bool → Prop} (e : truT t = some k) (w : W k) : TruK (some t) W := ⟨t, k, rfl, e, w⟩
theorem k_trB {k : Bool} {W : Bool → Prop} (w : W k) : TruK (some (.bl k)) W := k_tru rfl w
theorem i_band {a b : CE} (h : WpX X (evE C a env S) fun x S1 => TruK (flat env S1 x) fun k => (k = true → WpX X (evE C b env S1) V) ∧ (k = false → V x S1)) : WpX X (evE C (.band a b) env S) V := by
  rw [v_band]
  refine h.mono fun x S1 ⟨t, k, h1, h2, h3⟩ => ⟨t, k, h1, h2, ?_⟩
  cases k with
  | true => exact h3.1 rfl
  | false => exact h3.2 rfl
theorem i_bor {a b : CE} (h : WpX X (evE C a env S) fun x S1 => TruK (flat env S1 x) fun k => (k = true → V x S1) ∧ (k = false → WpX X (evE C b env S1) V)) : WpX X (evE C (.bor a b) env S) V := by
  rw [v_bor]
  refine h.mono fun x S1 ⟨t, k, h1, h2, h3⟩ => ⟨t, k, h1, h2, ?_⟩
  cases k with
  | true => exact h3.1 rfl
  | false => exact h3.2 rfl
theorem i_bnot {a : CE} (h : WpX X (evE C a env S) fun x S1 => TruK (flat env S1 x) fun k => V (.val (.bl (!k))) S1) : WpX X (evE C (.bnot a) env S) V := by rw [w_bnot]; exact h
theorem i_ife {t a b : CE} (h : WpX X (evE C t env S) fun x S1 => TruK (flat env S1 x) fun k => (k = true → WpX X (evE C a env S1) V) ∧ (k = false → WpX X (evE C b env S1) V)) : WpX X (evE C (.ife t a b) env S) V := by
  rw [w_ife]
  refine h.mono fun x S1 ⟨t, k, h1, h2, h3⟩ => ⟨t, k, h1, h2, ?_⟩
  cases k with
  | true => exact h3.1 rfl
  | false => exact h3.2 rfl
def IxK (t u : Option T) (S : Store) (V : R → Store → Prop) : Prop := ∃ t' u' z, t = some t' ∧ u = some u' ∧ ixT t' u' = some z ∧ V (.val z) S
theorem i_ix {a b : CE} (h : WpX X (evE C a env S) fun x S1 => WpX X (evE C b env S1) fun y S2 => IxK (flat env S2 x) (flat env S2 y) S2 V) : WpX X (evE C (.ix a b) env S) V := by rw [w_ix]; exact h
theorem k_ix {t u z : T} (e : ixT t u = some z) (v : V (.val z) S) : IxK (some t) (some u) S V := ⟨t, u, z, rfl, rfl, e, v⟩
theorem atT_nat {ts : List T} {i : Nat} {t : T} (h : ts[i]? = some t) : atT ts (i : Int) = some t := by
  have hi := (List.getElem?_eq_some_iff.mp h).1
  unfold atT ixN
  rw [if_pos (Int.natCast_nonneg i), if_pos (by omega)]
  simpa using h
theorem atT_last {ts : List T} {t : T} : atT (ts ++ [t]) (-1) = some t := by
  unfold atT ixN
  rw [if_neg (by decide), if_pos (by rw [List.length_append, List.length_singleton]; omega)]
  show (ts ++ [t])[(-1 + ((ts ++ [t]).length : Int)).toNat]? = _
  rw [show (-1 + ((ts ++ [t]).length : Int)).toNat = ts.length by rw [List.length_append, List.length_singleton]; omega]
  simp
theorem k_ixT {ts : List T} {i : Nat} {t : T} (h : ts[i]? = some t) (v : V (.val t) S) : IxK (some (.tup ts)) (some (.int (i : Int))) S V := k_ix (atT_nat h) v
theorem k_ixL {ts : List T} {i : Nat} {t : T} (h : ts[i]? = some t) (v : V (.val t) S) : IxK (some (.lst ts)) (some (.int (i : Int))) S V := k_ix (atT_nat h) v
def SlK (l h : Option Int) (t : Option T) (S : Store) (V : R → Store → Prop) : Prop := ∃ t' z, t = some t' ∧ slT l h t' = some z ∧ V z S
theorem i_sl {a : CE} {lo hi : CO} (h : WpX X (evE C a env S) fun x S1 => WpX X (evO C lo env S1) fun l S2 => WpX X (evO C hi env S2) fun h S3 => SlK l h (flat env S3 x) S3 V) : WpX X (evE C (.sl a lo hi) env S) V := by rw [w_sl]; exact h
theorem k_slT {l h : Option Int} {ts : List T} (v : V (.val (.tup (cutT ts l h))) S) : SlK l h (some (.tup ts)) S V := ⟨_, _, rfl, rfl, v⟩
theorem k_slL {l h : Option Int} {ts : List T} (v : V (.fresh (.lst (cutT ts l h))) S) : SlK l h (some (.lst ts)) S V := ⟨_, _, rfl, rfl, v⟩
theorem i_onone {Q : Option Int → Store → Prop} (q : Q none S) : WpX X (evO C .none env S) Q := q
theorem i_osome {e : CE} {Q : Option Int → Store → Prop} (h : WpX X (evE C e env S) fun x S1 => ∃ i, x = .val (.int i) ∧ Q (some i) S1) : WpX X (evO C (.some e) env S) Q := by rw [w_osome]; exact h
theorem i_fld {a : CE} {f : Nat} (h : WpX X (evE C a env S) fun x S1 => ∃ t, fldR env S1 x f = some t ∧ V (.val t) S1) : WpX X (evE C (.fld a f) env S) V := w_fld h
theorem i_call {g : Nat} {es : CEs} (h : WpX X (evEs C es env S) fun ts S1 => WpX X (C.call g ts S1) V) : WpX X (evE C (.call g es) env S) V := by rw [w_call]; exact h
theorem i_new {g : Nat} {es : CEs} (h : WpX X (evEs C es env S) fun ts S1 => WpX X (C.new g ts S1) V) : WpX X (evE C (.new g es) env S) V := by rw [w_new]; exact h
theorem i_callk {g : Nat} {ks : List Str} {pm : List Nat} {es fs : CEs} (h : WpX X (evEs C es env S) fun ts S1 => WpX X (evEs C fs env S1) fun us S2 => WpX X (C.call g (pm.map fun i => ((ts ++ us)[i]?).getD .non) S2) V) : WpX X (evE C (.callk g ks pm es fs) env S) V := by rw [w_callk]; exact h
theorem i_keep {e : CE} (h : WpX X (evE C e env S) fun x S1 => ∃ o, x = .fresh o ∧ V (.val (.ref S1.length)) (S1 ++ [o])) : WpX X (evE C (.keep e) env S) V := by rw [w_keep]; exact h
def IsiK (cs : List BTy) (t : Option T) (W : Bool → Prop) : Prop := ∃ t' b, t = some t' ∧ isiT t' cs = some b ∧ W b
theorem i_isi {a : CE} {cs : List BTy} (h : WpX X (evE C a env S) fun x S1 => IsiK cs (flat env S1 x) fun b => V (.val (.bl b)) S1) : WpX X (evE C (.isi a cs) env S) V := w_isi h
theorem k_isi {cs : List BTy} {t : T} {b : Bool} {W : Bool → Prop} (e : isiT t cs = some b) (w : W b) : IsiK cs (some t) W := ⟨t, b, rfl, e, w⟩
def BiK (b : Bi) (ts : List T) (S : Store) (V : R → Store → Prop) : Prop := ∃ z, biT b ts = some z ∧ V z S
theorem i_bi {b : Bi} {es : CEs} (h : WpX X (evRs C es env S) fun ts S1 => BiK b ts S1 V) : WpX X (evE C (.bi b es) env S) V := by rw [w_bi]; exact h
theorem k_bi {b : Bi} {ts : List T} {z : R} (e : biT b ts = some z) (v : V z S) : BiK b ts S V := ⟨z, e, v⟩
theorem k_divmod {a b : Int} (h : 0 < b) (h2 : b < 1073741824) (v : V (.val (.tup [.int (a / b), .int (a % b)])) S) : BiK .divmod [.int a, .int b] S V := k_bi (by show guardT _ _ = _; rw [decide_eq_true h, decide_eq_true h2]; rfl) v
theorem i_anil (q : Q [] S) : WpX X (evEs C .nil env S) Q := q
def SinkK (x : Option T) (W : T → Prop) : Prop := ∃ t, x = some t ∧ W t
theorem k_sink {t : T} {W : T → Prop} (w : W t) : SinkK (some t) W := ⟨t, rfl, w⟩
theorem k_sinkO {i : Nat} {ts : List T} {W : T → Prop} (h : env[i]? = some (.own (.lst ts))) (w : W (.lst ts)) : SinkK (flat env S (.own i)) W := by
  refine ⟨.lst ts, ?_, w⟩
  show (match env[i]? with | some (.own o) => o.toT | _ => none) = _
  rw [h]
theorem i_acons {e : CE} {es : CEs} (h : WpX X (evE C e env S) fun x S1 => SinkK (sink x) fun t => WpX X (evEs C es env S1) fun ts S2 => Q (t :: ts) S2) : WpX X (evEs C (.cons e es) env S) Q := by rw [w_acons]; exact h
theorem i_bnil (q : Q [] S) : WpX X (evRs C .nil env S) Q := q
theorem i_bcons {e : CE} {es : CEs} (h : WpX X (evE C e env S) fun x S1 => WpX X (evRs C es env S1) fun ts S2 => SinkK (flat env S2 x) fun t => Q (t :: ts) S2) : WpX X (evRs C (.cons e es) env S) Q := by rw [w_bcons]; exact h
theorem i_ice {e : CE} {b : Bool} (h : WpX X (evE C e env S) fun x S1 => ∃ k ts, seqR b env x = some (k, ts) ∧ Q ts S1) : WpX X (evI C b (.ce e) env S) Q := by rw [w_ice]; exact h
theorem i_irange1 {a : CE} {b : Bool} (h : WpX X (evE C a env S) fun x S1 => ∃ i, x = .val (.int i) ∧ in62 i = true ∧ Q (rangeT 0 i) S1) : WpX X (evI C b (.range1 a) env S) Q := by rw [w_irange1]; exact h
theorem i_ienum {e : CE} {b : Bool} (h : WpX X (evE C e env S) fun x S1 => ∃ k ts, seqR b env x = some (k, ts) ∧ Q (enumT 0 ts) S1) : WpX X (evI C b (.enum e) env S) Q := by rw [w_ienum]; exact h
theorem i_lc {g : CG} {it : CI} {c : CO} {e : CE} (h : WpX X (evI C false it env S) fun ts S1 => Wp (compL (fun env' S' => (match c with
      | .none => (evE C e env' S').bind fun x S'' => .of S'' ((sink x).map some)
      | .some c => (truO env' (evE C c env' S')).bind fun k S'' => (match k with
        | true => (evE C e env' S'').bind fun x S3 => .of S3 ((sink x).map some)
        | false => .ok none S''))) (setG g) (wipeE env (slotsG g)) ts S1) fun l S2 => l.length ≤ LIM ∧ V (.fresh (.lst l)) S2) : WpX X (evE C (.lc g it c e) env S) V := by rw [w_lc]; exact h
def itemK (C : EC) (e : CE) (env' : Env) (S' : Store) : Out (Option T) := (evE C e env' S').bind fun x S'' => .of S'' ((sink x).map some)
def itemT (C : EC) (c e : CE) (env' : Env) (S' : Store) : Out (Option T) := (truO env' (evE C c env' S')).bind fun k S'' => (match k with
        | true => (evE C e env' S'').bind fun x S3 => .of S3 ((sink x).map some)
        | false => .ok none S'')
theorem i_lc0 {g : CG} {it : CI} {e : CE} (h : WpX X (evI C false it env S) fun ts S1 => Wp (compL (itemK C e) (setG g) (wipeE env (slotsG g)) ts S1) fun l S2 => l.length ≤ LIM ∧ V (.fresh (.lst l)) S2) : WpX X (evE C (.lc g it .none e) env S) V := i_lc h
theorem i_lc1 {g : CG} {it : CI} {c e : CE} (h : WpX X (evI C false it env S) fun ts S1 => Wp (compL (itemT C c e) (setG g) (wipeE env (slotsG g)) ts S1) fun l S2 => l.length ≤ LIM ∧ V (.fresh (.lst l)) S2) : WpX X (evE C (.lc g it (.some c) e) env S) V := i_lc h
theorem i_item {e : CE} {P : Option T → Store → Prop} (h : WpX X (evE C e env S) fun x S1 => SinkK (sink x) fun t => P (some t) S1) : WpX X (itemK C e env S) P := by
  unfold itemK
  rw [wp_bind]
  refine h.mono fun x S1 ⟨t, e, p⟩ => ?_
  rw [e]; exact p
theorem i_itemT {c e : CE} {P : Option T → Store → Prop} (h : WpX X (evE C c env S) fun x S1 => TruK (flat env S1 x) fun k => (k = true → WpX X (evE C e env S1) fun x S1 => SinkK (sink x) fun t => P (some t) S1) ∧ (k = false → P none S1)) : WpX X (itemT C c e env S) P := by
  unfold itemT
  rw [wp_bind, wp_truO]
  refine h.mono fun x S1 ⟨t, k, h1, h2, h3⟩ => ⟨t, k, h1, h2, ?_⟩
  cases k with
  | true => exact i_item (h3.1 rfl)
  | false => exact h3.2 rfl
theorem i_nil (n : N env S) : WSX XS (exB C .nil env S) N B K Y := n
theorem i_cons {s : CS} {ss : CSs} (h : WSX XS (exS C s env S) (fun env1 S1 => WSX XS (exB C ss env1 S1) N B K Y) B K Y) : WSX XS (exB C (.cons s ss) env S) N B K Y := by rw [s_cons']; exact h
def SlotK (o : Option Slot) (W : Slot → Prop) : Prop := ∃ s, o = some s ∧ W s
theorem k_slot {s : Slot} {W : Slot → Prop} (w : W s) : SlotK (some s) W := ⟨s, rfl, w⟩
theorem i_set {i : Nat} {own : Bool} {e : CE} (h : WpX (fun c l s => XS c l env s) (evE C e env S) fun x S1 => SlotK (slotOf own x) fun o => N (env.set i o) S1) : WSX XS (exS C (.set i own e) env S) N B K Y := by rw [s_set']; exact h
theorem i_par {i j : Nat} {oi oj : Bool} {a b : CE} (h : WpX (fun c l s => XS c l env s) (evE C a env S) fun x S1 => WpX (fun c l s => XS c l env s) (evE C b env S1) fun y S2 => SlotK (slotOf oi x) fun o => SlotK (slotOf oj y) fun u => N ((env.set i o).set j u) S2) : WSX XS (exS C (.par i j oi oj a b) env S) N B K Y := by
  rw [s_par']
  exact h.mono fun x S1 h => h.mono fun y S2 ⟨o, e1, u, e2, n⟩ => ⟨o, u, e1, e2, n⟩
theorem i_asg {g : CT} {e : CE} (h : WpX (fun c l s => XS c l env s) (evE C e env S) fun x S1 => SinkK (sink x) fun t => Wp (asgT C g t env S1) fun env' S2 => N env' S2) : WSX XS (exS C (.asg g e) env S) N B K Y := by rw [s_asg']; exact h
def ChK (o : Option (Env × Store)) (W : Env → Store → Prop) : Prop := ∃ z, o = some z ∧ W z.1 z.2
theorem k_ch {e : Env} {s : Store} {W : Env → Store → Prop} (w : W e s) : ChK (some (e, s)) W := ⟨_, rfl, w⟩
theorem i_append {a e : CE} (h : WpX (fun c l s => XS c l env s) (evE C a env S) fun x S1 => isL env S1 x = true ∧ WpX (fun c l s => XS c l env s) (evE C e env S1) fun y S2 => SinkK (sink y) fun t => ChK (change env S2 x (appT t)) N) : WSX XS (exS C (.append a e) env S) N B K Y := by
  rw [s_append']
  exact h.mono fun x S1 ⟨h0, h⟩ => ⟨h0, h.mono fun y S2 ⟨t, e1, z, e2, n⟩ => ⟨t, z.1, z.2, e1, e2, n⟩⟩
theorem and_isL {x : R} {p : Prop} (h : isL env S x = true) (q : p) : isL env S x = true ∧ p := ⟨h, q⟩
theorem i_expr {e : CE} (h : WpX (fun c l s => XS c l env s) (evE C e env S) fun _ S1 => N env S1) : WSX XS (exS C (.expr e) env S) N B K Y := by rw [s_expr']; exact h
def RetK (env : Env) (x : R) (S1 : Store) (Y : R → Store → Prop) : Prop := (match x with
      | .own i => (match env[i]? with | some (.own o) => Y (.fresh o) S1 | _ => False)
      | .hot _ _ => False
      | x => Y x S1)
theorem i_ret {e : CE} (h : WpX (fun c l s => XS c l env s) (evE C e env S) fun x S1 => RetK env x S1 Y) : WSX XS (exS C (.ret e) env S) N B K Y := by rw [s_ret']; exact h
theorem k_retV {t : T} (y : Y (.val t) S) : RetK env (.val t) S Y := y
theorem k_retF {o : Ob} (y : Y (.fresh o) S) : RetK env (.fresh o) S Y := y
theorem i_retN (y : Y (.val .non) S) : WSX XS (exS C .retN env S) N B K Y := y
theorem i_brk (b : B env S) : WSX XS (exS C .brk env S) N B K Y := b
theorem i_cnt (b : K env S) : WSX XS (exS C .cnt env S) N B K Y := b
theorem i_pass (b : N env S) : WSX XS (exS C .pass env S) N B K Y := b
theorem i_sif {t : CE} {a b : CSs} (h : WpX (fun c l s => XS c l env s) (evE C t env S) fun x S1 => TruK (flat env S1 x) fun k => (k = true → WSX XS (exB C a env S1) N B K Y) ∧ (k = false → WSX XS (exB C b env S1) N B K Y)) : WSX XS (exS C (.sif t a b) env S) N B K Y := by
  rw [s_sif']
  refine h.mono fun x S1 ⟨t, k, h1, h2, h3⟩ => ⟨t, k, h1, h2, ?_⟩
  cases k with
  | true => exact h3.1 rfl
  | false => exact h3.2 rfl
theorem i_sfor {g : CG} {it : CI} {b : CSs} (h : WpX (fun c l s => XS c l env s) (evI C true it env S) fun ts S1 => WSX XS (forL (setG g) (fun e s => exB C b e s) ts env S1) N B K Y) : WSX XS (exS C (.sfor g it b) env S) N B K Y := by rw [s_sfor']; exact h
theorem i_tix {a i : CE} {t : T} {N : Env → Store → Prop} (h : Wp (evE C a env S) fun x S1 => Wp (evE C i env S1) fun y S2 => SinkK (flat env S2 y) fun u => ChK (change env S2 x (fun o => putIx o u t)) N) : Wp (asgT C (.ix a i) t env S) N := by
  show Wp (Out.bind _ _) N
  rw [wp_bind0]
  refine h.mono fun x S1 h => ?_
  rw [wp_bind0]
  refine h.mono fun y S2 ⟨u, e1, z, e2, n⟩ => ?_
  rw [e1]
  dsimp only
  rw [e2]
  exact n
theorem i_tname {i : Nat} {t : T} {N : Env → Store → Prop} (n : N (env.set i (.val t)) S) : Wp (asgT C (.name i) t env S) N := n
theorem i_tpair {g h : CT} {t1 t2 : T} {N : Env → Store → Prop} (n : Wp (asgT C g t1 env S) fun env1 S1 => Wp (asgT C h t2 env1 S1) N) : Wp (asgT C (.pair g h) (.tup [t1, t2]) env S) N := by
  show Wp (Out.bind _ _) N
  rw [wp_bind0]; exact n
theorem i_ttrip {g h m : CT} {t1 t2 t3 : T} {N : Env → Store → Prop} (n : Wp (asgT C g t1 env S) fun env1 S1 => Wp (asgT C h t2 env1 S1) fun env2 S2 => Wp (asgT C m t3 env2 S2) N) : Wp (asgT C (.trip g h m) (.tup [t1, t2, t3]) env S) N := by
  show Wp (Out.bind _ _) N
  rw [wp_bind0]
  refine n.mono fun e s n => ?_
  rw [wp_bind0]; exact n
theorem i_tpairL {g h : CT} {t1 t2 : T} {N : Env → Store → Prop} (n : Wp (asgT C g t1 env S) fun env1 S1 => Wp (asgT C h t2 env1 S1) N) : Wp (asgT C (.pair g h) (.lst [t1, t2]) env S) N := by
  show Wp (Out.bind _ _) N
  rw [wp_bind0]; exact n
theorem i_ttripL {g h m : CT} {t1 t2 t3 : T} {N : Env → Store → Prop} (n : Wp (asgT C g t1 env S) fun env1 S1 => Wp (asgT C h t2 env1 S1) fun env2 S2 => Wp (asgT C m t3 env2 S2) N) : Wp (asgT C (.trip g h m) (.lst [t1, t2, t3]) env S) N := by
  show Wp (Out.bind _ _) N
  rw [wp_bind0]
  refine n.mono fun e s n => ?_
  rw [wp_bind0]; exact n
theorem i_tfld {a : CE} {f : Nat} {t : T} {N : Env → Store → Prop} (h : Wp (evE C a env S) fun x S1 => ChK (change env S1 x (putF f t)) N) : Wp (asgT C (.fld a f) t env S) N := by
  show Wp (Out.bind _ _) N
  rw [wp_bind0]
  refine h.mono fun x S1 ⟨z, e2, n⟩ => ?_
  rw [e2]
  exact n
end
end Z
set_option Elab.async false
set_option linter.all false
set_option maxRecDepth 100000
set_option maxHeartbeats 1000000
namespace Z
class Has (P : Prog) (i : Nat) (d : outParam FDef) : Prop where
  at_ : P.fn i = some d
class HasC (P : Prog) (i : Nat) (d : outParam CDef) : Prop where
  at_ : P.cl i = some d
class HasK (P : Prog) (i : Nat) (t : outParam T) : Prop where
  at_ : P.con i = some t
class HasX (P : Prog) (i : Nat) (a : outParam (Option Nat)) : Prop where
  at_ : P.xat i = some a
class HasI (P : Prog) (l : outParam (List (Nat × Nat × Bool))) : Prop where
  at_ : ∀ x ∈ l, P.xis x.1 x.2.1 = some x.2.2
theorem i_conH {P : Prog} {j k : Nat} {t : T} [h : HasK P k t] {env : Env} {S : Store} {V : R → Store → Prop} {X : Nat → List T → Store → Prop} (v : V (.val t) S) : WpX X (evE (lev P j) (.con k) env S) V := i_con (by rw [lev_con]; exact h.at_) v
theorem k_slotF {ts : List T} {W : Slot → Prop} (w : W (.val (.lst ts))) : SlotK (slotOf false (.fresh (.lst ts))) W := ⟨_, rfl, w⟩
section
variable {C : EC} {env : Env} {S : Store} {V : R → Store → Prop} {N B K : Env → Store → Prop} {Y : R → Store → Prop} {X : Nat → List T → Store → Prop} {XS : Nat → List T → Env → Store → Prop}
theorem i_par3 {i j l : Nat} {oi oj ol : Bool} {a b c : CE} (h : WpX (fun c l s => XS c l env s) (evE C a env S) fun x S1 => WpX (fun c l s => XS c l env s) (evE C b env S1) fun y S2 => WpX (fun c l s => XS c l env s) (evE C c env S2) fun z S3 => SlotK (slotOf oi x) fun o => SlotK (slotOf oj y) fun u => SlotK (slotOf ol z) fun q => N (((env.set i o).set j u).set l q) S3) : WSX XS (exS C (.par3 i j l oi oj ol a b c) env S) N B K Y := by
  show WSX XS (Fl.of _ _ _) N B K Y
  rw [ws_of]
  refine h.mono fun x S1 h => ?_
  rw [ws_of]
  refine h.mono fun y S2 h => ?_
  rw [ws_of]
  refine h.mono fun z S3 ⟨o, e1, u, e2, q, e3, n⟩ => ?_
  rw [e1, e2, e3]
  exact n
theorem lev_xat {P : Prog} {k : Nat} : (lev P k).xat = P.xat := by cases k <;> rw [lev.eq_def]
theorem lev_xis {P : Prog} {k : Nat} : (lev P k).xis = P.xis := by cases k <;> rw [lev.eq_def]
theorem i_raise1 {P : Prog} {k c f : Nat} [h : HasX P c (some f)] {e : CE} (w : WpX (fun c l s => XS c l env s) (evE (lev P k) e env S) fun x S1 => SinkK (sink x) fun t => XS c [t] env S1) : WSX XS (exS (lev P k) (.raise c (.cons e .nil)) env S) N B K Y := by
  show WSX XS (match evEs (lev P k) (.cons e .nil) env S with
    | .ok ts S1 => (match (lev P k).xat c, ts with
      | some none, [] => .ex c [] env S1
      | some (some _), [t] => .ex c [t] env S1
      | _, _ => .no)
    | .ex c l S1 => .ex c l env S1
    | .no => .no) N B K Y
  have z : WpX (fun c l s => XS c l env s) (evEs (lev P k) (.cons e .nil) env S) fun ts S1 => ∃ t, ts = [t] ∧ XS c [t] env S1 := by
    refine i_acons (w.mono fun x S1 ⟨t, e, q⟩ => ⟨t, e, i_anil ⟨t, rfl, q⟩⟩)
  rw [lev_xat, h.at_]
  cases q : evEs (lev P k) (.cons e .nil) env S with
  | ok ts S1 =>
    rw [q] at z
    obtain ⟨t, rfl, z⟩ := z
    exact z
  | ex c l S1 => rw [q] at z; exact z
  | no => rw [q] at z; exact z.elim
theorem i_raise0 {P : Prog} {k c : Nat} [h : HasX P c none] (w : XS c [] env S) : WSX XS (exS (lev P k) (.raise c .nil) env S) N B K Y := by
  show WSX XS (match evEs (lev P k) .nil env S with
    | .ok ts S1 => (match (lev P k).xat c, ts with
      | some none, [] => .ex c [] env S1
      | some (some _), [t] => .ex c [t] env S1
      | _, _ => .no)
    | .ex c l S1 => .ex c l env S1
    | .no => .no) N B K Y
  rw [lev_xat, h.at_]
  exact w
def WH (C : EC) (XS : Nat → List T → Env → Store → Prop) (hs : CHs) (c : Nat) (l : List T) (env : Env) (S : Store) (Y : R → Store → Prop) : Prop := WSX XS (exH C hs c l env S) (fun _ _ => False) (fun _ _ => False) (fun _ _ => False) Y
theorem i_stry {b : CSs} {hs : CHs} (w : WSX (fun c l e s => WH C XS hs c l e s Y) (exB C b env S) N B K Y) : WSX XS (exS C (.stry b hs) env S) N B K Y := by
  show WSX XS (match exB C b env S with
    | .ex c l env1 S1 => exH C hs c l env1 S1
    | r => r) N B K Y
  cases q : exB C b env S with
  | ex c l e s =>
    rw [q] at w
    exact WSX.mono (show WSX XS (exH C hs c l e s) _ _ _ _ from w) (fun _ _ _ _ z => z) (fun _ _ z => z.elim) (fun _ _ z => z.elim) (fun _ _ z => z.elim) fun _ _ z => z
  | nx e s => rw [q] at w; exact w
  | bk e s => rw [q] at w; exact w
  | ct e s => rw [q] at w; exact w
  | rt x s => rw [q] at w; exact w
  | no => rw [q] at w; exact w.elim
theorem h_yes {c : Nat} {l : List T} {cs : List Nat} {i : Nat} {b : CSs} {hs : CHs} (e : xisA C.xis c cs = some true) (w : WS (exB C b (env.set i (.hot c l)) S) (fun _ _ => False) (fun _ _ => False) (fun _ _ => False) Y) : WH C XS (.cons cs (some i) b hs) c l env S Y := by
  unfold WH exH
  rw [e]
  dsimp only
  cases q : exB C b (env.set i (.hot c l)) S with
  | rt x s => rw [q] at w; exact w
  | _ => rw [q] at w; exact w.elim
theorem h_yes0 {c : Nat} {l : List T} {cs : List Nat}  {b : CSs} {hs : CHs} (e : xisA C.xis c cs = some true) (w : WS (exB C b env S) (fun _ _ => False) (fun _ _ => False) (fun _ _ => False) Y) : WH C XS (.cons cs none b hs) c l env S Y := by
  unfold WH exH
  rw [e]
  dsimp only
  cases q : exB C b env S with
  | rt x s => rw [q] at w; exact w
  | _ => rw [q] at w; exact w.elim
theorem h_no {c : Nat} {l : List T} {cs : List Nat} {i : Option Nat} {b : CSs} {hs : CHs} (e : xisA C.xis c cs = some false) (w : WH C XS hs c l env S Y) : WH C XS (.cons cs i b hs) c l env S Y := by
  unfold WH exH
  rw [e]
  exact w
theorem h_nil {c : Nat} {l : List T} (w : XS c l env S) : WH C XS .nil c l env S Y := w
theorem i_hot {i c : Nat} {l : List T} (h : env[i]? = some (.hot c l)) (v : V (.hot c l) S) : WpX X (evE C (.var i) env S) V := by rw [w_var, h]; exact v
theorem i_fldH {i c f : Nat} {l : List T} {t : T} (h : env[i]? = some (.hot c l)) (e : hotFld C c l f = some t) (v : V (.val t) S) : WpX X (evE C (.fld (.var i) f) env S) V := by
  show WpX X (Out.bind _ _) V
  rw [wp_bind]
  refine i_hot h ?_
  show WpX X (Out.of S ((hotFld C c l f).map R.val)) V
  rw [e]
  exact v
theorem i_isiH {i c d : Nat} {l : List T} {b : Bool} (h : env[i]? = some (.hot c l)) (e : C.xis c d = some b) (v : V (.val (.bl b)) S) : WpX X (evE C (.isi (.var i) [.exc d]) env S) V := by
  show WpX X (Out.bind _ _) V
  rw [wp_bind]
  refine i_hot h ?_
  show WpX X (Out.of S ((C.xis c d).map fun b => R.val (.bl b))) V
  rw [e]
  exact v
theorem i_callh {g i c : Nat} {l : List T} (h : env[i]? = some (.hot c l)) (w : Wp (C.callH g c l S) V) : WpX X (evE C (.callh g (.var i)) env S) V := by
  show WpX X (Out.bind _ _) V
  rw [wp_bind]
  refine i_hot h ?_
  show WpX X ((C.callH g c l S).only fun x S2 => .ok x S2) V
  rw [wp_only]
  exact w
theorem i_lam {g : Nat} {e : CE} (w : WpX X (C.callL g e (env.map Slot.seen) S) V) : WpX X (evE C (.lam g e) env S) V := w
theorem i_act {i : Nat} (h : env[i]? = some .act) (w : WpX X (C.act S) V) : WpX X (evE C (.act i) env S) V := by
  show WpX X (match env[i]? with | some .act => C.act S | _ => .no) V
  rw [h]
  exact w
theorem i_dnil (v : V (.val (.dct [] [])) S) : WpX X (evE C .dnil env S) V := v
end
abbrev actC (P : Prog) (k : Nat) (e : CE) (env : Env) : EC := { lev P (k + 1) with act := fun S' => evE (lev P k) e env S' }
theorem lev_callL {P : Prog} {k g : Nat} {d : FDef} (h : P.fn g = some d) (e : CE) (env : Env) (S : Store) : (lev P (k + 2)).callL g e env S = runL (actC P k e env) d S := by
  rw [lev.eq_def]
  show (match P.fn g with | some fd => runL _ fd S | none => .no) = _
  rw [h]
theorem wp_callL {P : Prog} {k g : Nat} {d : FDef} {e : CE} {env : Env} {S : Store} {V : R → Store → Prop} {X : Nat → List T → Store → Prop} (h : P.fn g = some d) (hn : d.np = 1)
    (w : WSX (fun c l _ s => X c l s) (exB (actC P k e env) d.body (slots d.nl [.act]) S) (fun _ S' => V (.val .non) S') (fun _ _ => False) (fun _ _ => False) V) : WpX X ((lev P (k + 2)).callL g e env S) V := by
  rw [lev_callL h]
  unfold runL
  rw [show (d.np == 1) = true by simpa using hn]
  dsimp only
  cases q : exB (actC P k e env) d.body (slots d.nl [.act]) S with
  | nx e s => rw [q] at w; exact w
  | bk e s => rw [q] at w; exact w.elim
  | ct e s => rw [q] at w; exact w.elim
  | rt x s => rw [q] at w; exact w
  | ex c l e s => rw [q] at w; exact w
  | no => rw [q] at w; exact w.elim
theorem wp_callH {P : Prog} {k g : Nat} {d : FDef} {c : Nat} {l : List T} {S : Store} {V : R → Store → Prop} (h : P.fn g = some d) (hn : d.np = 1)
    (w : WS (exB (lev P k) d.body (slots d.nl [.hot c l]) S) (fun _ S' => V (.val .non) S') (fun _ _ => False) (fun _ _ => False) V) : Wp ((lev P (k + 1)).callH g c l S) V := by
  have e : (lev P (k + 1)).callH g c l S = runH (lev P k) d c l S := by
    rw [lev.eq_def]
    show (match P.fn g with | some fd => runH (lev P k) fd c l S | none => .no) = _
    rw [h]
  rw [e]
  unfold runH
  rw [show (d.np == 1) = true by simpa using hn]
  dsimp only
  cases q : exB (lev P k) d.body (slots d.nl [.hot c l]) S with
  | nx e s => rw [q] at w; exact w
  | rt x s => rw [q] at w; exact w
  | _ => rw [q] at w; exact w.elim
theorem act_xis {P : Prog} {k : Nat} {e : CE} {env : Env} : (actC P k e env).xis = P.xis := by show (lev P (k + 1)).xis = _; rw [lev_xis]
theorem act_xat {P : Prog} {k : Nat} {e : CE} {env : Env} : (actC P k e env).xat = P.xat := by show (lev P (k + 1)).xat = _; rw [lev_xat]
theorem xis_get {P : Prog} {l : List (Nat × Nat × Bool)} [h : HasI P l] (c d : Nat) (b : Bool) (m : (c, d, b) ∈ l) : P.xis c d = some b := h.at_ _ m
section
variable {C : EC} {env : Env} {S : Store} {V : R → Store → Prop} {N B K : Env → Store → Prop} {Y : R → Store → Prop} {X : Nat → List T → Store → Prop} {XS : Nat → List T → Env → Store → Prop}
def ClsK (c : Nat) (x : Option T) (S : Store) (W : T → Prop) : Prop := ∃ t, x = some t ∧ isCls S c t = true ∧ W t
theorem k_clsI {c : Nat} {fs : List T} {W : T → Prop} (w : W (.ins c fs)) : ClsK c (some (.ins c fs)) S W := ⟨_, rfl, by show (c == c) = true; simp, w⟩
theorem k_clsR {c n : Nat} {fs : List (Option T)} {W : T → Prop} (h : S[n]? = some (.ins c fs)) (w : W (.ref n)) : ClsK c (some (.ref n)) S W := ⟨_, rfl, by show (match S[n]? with | some (.ins d _) => d == c | _ => false) = true; rw [h]; simp, w⟩
theorem i_meth {c g : Nat} {a : CE} {es : CEs} (h : WpX X (evE C a env S) fun x S1 => ClsK c (sink x) S1 fun t => WpX X (evEs C es env S1) fun ts S2 => WpX X (C.call g (t :: ts) S2) V) : WpX X (evE C (.meth c g a es) env S) V := by
  show WpX X (Out.bind _ _) V
  rw [wp_bind]
  refine h.mono fun x S1 ⟨t, e, ec, h⟩ => ?_
  rw [e]
  dsimp only
  rw [ec]
  dsimp only
  rw [wp_bind]
  exact h
theorem i_prop {c g : Nat} {a : CE} (h : WpX X (evE C a env S) fun x S1 => ClsK c (sink x) S1 fun t => Wp (C.low g [t] S1) V) : WpX X (evE C (.prop c g a) env S) V := by
  show WpX X (Out.bind _ _) V
  rw [wp_bind]
  refine h.mono fun x S1 ⟨t, e, ec, h⟩ => ?_
  rw [e]
  dsimp only
  rw [ec]
  dsimp only
  rw [wp_only]
  exact h
def SpcK (k : Spk) (y : R) (W : R → Prop) : Prop := ∃ z, spcR k y = some z ∧ W z
theorem i_spc {k : Spk} {c g : Nat} {a : CE} (h : WpX X (evE C a env S) fun x S1 => ClsK c (sink x) S1 fun t => Wp (C.low g [t] S1) fun y S2 => SpcK k y fun z => V z S2) : WpX X (evE C (.spc k c g a) env S) V := by
  show WpX X (Out.bind _ _) V
  rw [wp_bind]
  refine h.mono fun x S1 ⟨t, e, ec, h⟩ => ?_
  rw [e]
  dsimp only
  rw [ec]
  dsimp only
  rw [wp_only]
  refine Wp.mono h fun y S2 ⟨z, ez, w⟩ => ?_
  rw [ez]
  exact w
theorem len_ok {n : Nat} (h : n < 1000000) : (decide (0 ≤ (n : Int)) && decide ((n : Int) < 2 ^ 63)) = true := by
  have : (1000000 : Int) ≤ 2 ^ 63 := by decide
  rw [Bool.and_eq_true]
  exact ⟨decide_eq_true (Int.natCast_nonneg n), decide_eq_true (by omega)⟩
theorem spc_len (n : Int) : spcR .len (.val (.int n)) = guardT (decide (0 ≤ n) && decide (n < 2 ^ 63)) (.val (.int n)) := rfl
theorem spc_bool (n : Int) : spcR .bool (.val (.int n)) = guardT (decide (0 ≤ n) && decide (n < 2 ^ 63)) (.val (.bl (n != 0))) := rfl
theorem k_spcLen {n : Nat} {W : R → Prop} (h : n < 1000000) (w : W (.val (.int (n : Nat)))) : SpcK .len (.val (.int (n : Nat))) W := ⟨.val (.int (n : Nat)), by rw [spc_len, len_ok h]; rfl, w⟩
theorem k_spcBool {n : Nat} {W : R → Prop} (h : n < 1000000) (w : W (.val (.bl ((n : Int) != 0)))) : SpcK .bool (.val (.int (n : Nat))) W := ⟨.val (.bl ((n : Int) != 0)), by rw [spc_bool, len_ok h]; rfl, w⟩
theorem k_spcRepr {x : PySem.Str} {W : R → Prop} (w : W (.val (.str x))) : SpcK .repr (.val (.str x)) W := ⟨_, rfl, w⟩
def MbK (m : Mb) (t : Option T) (ts : List T) (S : Store) (V : R → Store → Prop) : Prop := ∃ t' z, t = some t' ∧ mbT m t' ts = some z ∧ V z S
theorem i_mb {m : Mb} {a : CE} {es : CEs} (h : WpX X (evE C a env S) fun x S1 => isMb m (flat env S1 x) = true ∧ WpX X (evRs C es env S1) fun ts S2 => MbK m (flat env S2 x) ts S2 V) : WpX X (evE C (.mb m a es) env S) V := by
  show WpX X (Out.bind _ _) V
  rw [wp_bind]
  refine h.mono fun x S1 ⟨e, h⟩ => ?_
  rw [e]
  dsimp only
  rw [wp_bind]
  refine h.mono fun ts S2 ⟨t, z, e1, e2, v⟩ => ?_
  rw [e1]
  dsimp only
  rw [e2]
  exact v
theorem k_mb {m : Mb} {t : T} {ts : List T} {z : R} (e : mbT m t ts = some z) (v : V z S) : MbK m (some t) ts S V := ⟨t, z, rfl, e, v⟩
theorem i_fstr {es : CEs} (h : WpX X (evFs C es PySem.Str.empty env S) fun y S1 => V (.val (.str y)) S1) : WpX X (evE C (.fstr es) env S) V := by
  show WpX X (Out.bind _ _) V
  rw [wp_bind]
  exact h
def FmtK (acc : PySem.Str) (x : R) (W : PySem.Str → Prop) : Prop := ∃ t y, x = .val t ∧ fmtT t = some y ∧ (acc ++ y).length ≤ LIM ∧ W (acc ++ y)
theorem f_end {acc : PySem.Str} {Q : PySem.Str → Store → Prop} (q : Q acc S) : WpX X (evFs C .nil acc env S) Q := q
theorem f_one {e : CE} {es : CEs} {acc : PySem.Str} {Q : PySem.Str → Store → Prop} (h : WpX X (evE C e env S) fun x S1 => FmtK acc x fun y => WpX X (evFs C es y env S1) Q) : WpX X (evFs C (.cons e es) acc env S) Q := by
  show WpX X (Out.bind _ _) Q
  rw [wp_bind]
  refine h.mono fun x S1 ⟨t, y, ex, e1, hl, h⟩ => ?_
  subst ex
  dsimp only
  rw [e1]
  dsimp only
  rw [decide_eq_true hl]
  exact h
theorem i_tups {a : CE} {es : CEs} (h : WpX X (evE C a env S) fun x S1 => ∃ us, x = .val (.tup us) ∧ WpX X (evEs C es env S1) fun ts S2 => us.length + ts.length ≤ LIM ∧ V (.val (.tup (us ++ ts))) S2) : WpX X (evE C (.tups a es) env S) V := by
  show WpX X (Out.bind _ _) V
  rw [wp_bind]
  refine h.mono fun x S1 ⟨us, e, h⟩ => ?_
  subst e
  dsimp only
  rw [wp_bind]
  refine h.mono fun ts S2 ⟨hl, v⟩ => ?_
  rw [decide_eq_true hl]
  exact v
theorem i_augf {a e : CE} {f : Nat} (h : WpX (fun c l s => XS c l env s) (evE C a env S) fun x S1 => ∃ i, fldR env S1 x f = some (.int i) ∧ WpX (fun c l s => XS c l env s) (evE C e env S1) fun y S2 => ∃ j, y = .val (.int j) ∧ ((clsR env S1 x).isSome && clsR env S2 x == clsR env S1 x) = true ∧ ChK (change env S2 x (putF f (.int (i + j)))) N) : WSX XS (exS C (.augf a f e) env S) N B K Y := by
  show WSX XS (Fl.of _ _ _) N B K Y
  rw [ws_of]
  refine h.mono fun x S1 ⟨i, e1, h⟩ => ?_
  rw [e1]
  dsimp only
  rw [ws_of]
  refine h.mono fun y S2 ⟨j, e2, e3, z, e4, n⟩ => ?_
  subst e2
  dsimp only
  rw [e3]
  dsimp only
  rw [e4]
  exact n
end
end Z
set_option Elab.async false
set_option linter.all false
set_option maxRecDepth 100000
set_option maxHeartbeats 1000000
namespace Z
open PySem
theorem get_set {S : Store} {n : Nat} {o o' : Ob} (h : S[n]? = some o) : (S.set n o')[n]? = some o' := by rw [List.getElem?_set_self (List.getElem?_eq_some_iff.mp h).1]
theorem flat_ref {env : Env} {S : Store} {n : Nat} {ts : List T} (h : S[n]? = some (.lst ts)) : flat env S (.val (.ref n)) = some (.lst ts) := by
  show (match S[n]? with | some o => o.toT | none => none) = _
  rw [h]
theorem change_ref {env : Env} {S : Store} {n : Nat} {ts us : List T} {f : Ob → Option Ob} (h : S[n]? = some (.lst ts)) (e : f (.lst ts) = some (.lst us)) : change env S (.val (.ref n)) f = some (env, S.set n (.lst us)) := by
  show (match S[n]? with | some o => (f o).map fun o' => (env, S.set n o') | none => none) = _
  rw [h]
  dsimp only
  rw [e]; rfl
theorem k_tupL {ts : List T} {S : Store} {V : R → Store → Prop} (v : V (.val (.tup ts)) S) : BiK .tuple [.lst ts] S V := k_bi rfl v
theorem k_tupT {ts : List T} {S : Store} {V : R → Store → Prop} (v : V (.val (.tup ts)) S) : BiK .tuple [.tup ts] S V := k_bi rfl v
theorem k_lenL {ts : List T} {S : Store} {V : R → Store → Prop} (v : V (.val (.int (ts.length : Int))) S) : BiK .len [.lst ts] S V := k_bi rfl v
theorem k_lenT {ts : List T} {S : Store} {V : R → Store → Prop} (v : V (.val (.int (ts.length : Int))) S) : BiK .len [.tup ts] S V := k_bi rfl v
theorem k_bint {i : Int} {S : Store} {V : R → Store → Prop} (v : V (.val (.int i)) S) : BiK .int [.int i] S V := k_bi rfl v
theorem k_abs {i : Int} {S : Store} {V : R → Store → Prop} (v : V (.val (.int (if i < 0 then -i else i))) S) : BiK .abs [.int i] S V := k_bi rfl v
theorem k_min2 {i j : Int} {S : Store} {V : R → Store → Prop} (v : V (.val (.int (if j < i then j else i))) S) : BiK .min2 [.int i, .int j] S V := k_bi rfl v
theorem k_max2 {i j : Int} {S : Store} {V : R → Store → Prop} (v : V (.val (.int (if j > i then j else i))) S) : BiK .max2 [.int i, .int j] S V := k_bi rfl v
theorem k_ixR {env : Env} {S : Store} {n : Nat} {ts : List T} {u t : T} {V : R → Store → Prop} (h : S[n]? = some (.lst ts)) (e : ixT (.lst ts) u = some t) (v : V (.val t) S) : IxK (flat env S (.val (.ref n))) (some u) S V := by
  rw [flat_ref h]; exact k_ix e v
theorem k_chR {env : Env} {S : Store} {n : Nat} {ts us : List T} {f : Ob → Option Ob} {W : Env → Store → Prop} (h : S[n]? = some (.lst ts)) (e : f (.lst ts) = some (.lst us)) (w : W env (S.set n (.lst us))) : ChK (change env S (.val (.ref n)) f) W := by
  rw [change_ref h e]; exact k_ch w
theorem in62_nat {m : Nat} (h : m < 1000000) : in62 (m : Int) = true := by
  unfold in62
  rw [Bool.and_eq_true]
  exact ⟨decide_eq_true (by omega), decide_eq_true (by omega)⟩
theorem lim_big : (1000000 : Nat) ≤ LIM := by show 1000000 ≤ sizeLine; rw [sizeLine_eq]; omega
theorem bi_lrange {i : Int} : biT .lrange [.int i] = guardT (in62 i && decide (i.toNat ≤ LIM)) (.fresh (.lst (rangeT 0 i))) := rfl
theorem guard_true {A : Type} {b : Bool} {a : A} (h : b = true) : guardT b a = some a := by rw [h]; rfl
theorem lim_nat {m : Nat} (h : m < 1000000) : decide ((m : Int).toNat ≤ LIM) = true := decide_eq_true (Nat.le_trans (by omega) lim_big)
theorem k_lrange {m : Nat} {S : Store} {V : R → Store → Prop} (h : m < 1000000) (v : V (.fresh (.lst (rangeT 0 (m : Int)))) S) : BiK .lrange [.int (m : Int)] S V :=
  ⟨.fresh (.lst (rangeT 0 (m : Int))), bi_lrange.trans (guard_true (Bool.and_eq_true_iff.mpr ⟨in62_nat h, lim_nat h⟩)), v⟩
local macro_rules | `(tactic| bv_omega) => `(tactic| repeat (first | (with_reducible refine i_cons ?_) | (with_reducible refine i_nil ?_) | (with_reducible refine i_set ?_) | (with_reducible refine i_par ?_) | (with_reducible refine i_par3 ?_) | (with_reducible refine i_asg ?_) | (with_reducible refine i_append ?_) | (with_reducible refine i_expr ?_) | (with_reducible refine i_ret ?_) | (with_reducible refine i_retN ?_) | (with_reducible refine i_brk ?_) | (with_reducible refine i_cnt ?_) | (with_reducible refine i_pass ?_) | (with_reducible refine i_sif ?_) | (with_reducible refine i_sfor ?_) | (with_reducible refine i_int ?_) | (with_reducible refine i_bl ?_) | (with_reducible refine i_str ?_) | (with_reducible refine i_non ?_) | (with_reducible refine i_tup ?_) | (with_reducible refine i_lst ?_) | (with_reducible refine i_bin ?_) | (with_reducible refine i_neg ?_) | (with_reducible refine i_cmp ?_) | (with_reducible refine i_chain ?_) | (with_reducible refine i_band ?_) | (with_reducible refine i_bor ?_) | (with_reducible refine i_bnot ?_) | (with_reducible refine i_ife ?_) | (with_reducible refine i_ix ?_) | (with_reducible refine i_sl ?_) | (with_reducible refine i_onone ?_) | (with_reducible refine i_osome ?_) | (with_reducible refine i_fld ?_) | (with_reducible refine i_call ?_) | (with_reducible refine i_new ?_) | (with_reducible refine i_callk ?_) | (with_reducible refine i_isi ?_) | (with_reducible refine i_bi ?_) | (with_reducible refine i_anil ?_) | (with_reducible refine i_acons ?_) | (with_reducible refine i_bnil ?_) | (with_reducible refine i_bcons ?_) | (with_reducible refine i_ice ?_) | (with_reducible refine i_irange1 ?_) | (with_reducible refine i_ienum ?_) | (with_reducible refine i_lc0 ?_) | (with_reducible refine i_lc1 ?_) | (with_reducible refine i_item ?_) | (with_reducible refine i_itemT ?_) | (with_reducible refine i_tix ?_) | (with_reducible refine i_tname ?_) | (with_reducible refine i_tpair ?_) | (with_reducible refine i_ttrip ?_) | (with_reducible refine i_tfld ?_) | (with_reducible refine i_dnil ?_) | (with_reducible refine i_fstr ?_) | (with_reducible refine f_end ?_) | (with_reducible refine f_one ?_) | (with_reducible refine i_meth ?_) | (with_reducible refine i_prop ?_) | (with_reducible refine i_spc ?_) | (with_reducible refine i_mb ?_) | (with_reducible refine i_tups ?_) | (with_reducible refine i_augf ?_) | (with_reducible refine i_lam ?_) | (with_reducible refine i_stry ?_) | (with_reducible refine i_raise1 ?_) | (with_reducible refine i_raise0 ?_) | (with_reducible refine h_nil ?_) | (with_reducible refine i_var (by with_unfolding_all exact rfl) ?_) | (with_reducible refine i_own (by with_unfolding_all exact rfl) ?_) | (with_reducible refine and_isL (by with_unfolding_all exact rfl) ?_) | ((with_reducible change EvK _ _ _ _ _ _); first | (with_reducible refine e_is ?_) | (with_reducible refine e_isnot ?_) | (with_reducible refine e_cmp' (by decide) (by decide) ?_)) | ((with_reducible change BinK _ _ _ _ _); first | (with_reducible refine k_addI ?_) | (with_reducible refine k_subI ?_) | (with_reducible refine k_mulI (by first | exact Bool.or_eq_true_iff.mpr (.inr (by decide)) | exact Bool.or_eq_true_iff.mpr (.inl (by decide))) ?_) | (with_reducible refine k_fdivI (by first | decide | assumption | omega) (by first | decide | assumption | omega) ?_) | (with_reducible refine k_modI (by first | decide | assumption | omega) ?_)) | ((with_reducible change CmpK _ _ _ _ _); first | (with_reducible refine k_eqI ?_) | (with_reducible refine k_neI ?_) | (with_reducible refine k_ltI ?_) | (with_reducible refine k_leI ?_) | (with_reducible refine k_gtI ?_) | (with_reducible refine k_geI ?_)) | ((with_reducible change TruK _ _); first | (with_reducible refine k_trB ?_)) | ((with_reducible change SinkK _ _); first | (with_reducible refine k_sink ?_) | (with_reducible refine k_sinkO (by with_unfolding_all exact rfl) ?_)) | ((with_reducible change SlotK _ _); first | (with_reducible refine k_slot ?_) | (with_reducible refine k_slotF ?_)) | ((with_reducible change RetK _ _ _ _); first | (with_reducible refine k_retV ?_) | (with_reducible refine k_retF ?_)) | ((with_reducible change SlK _ _ _ _ _); first | (with_reducible refine k_slT ?_) | (with_reducible refine k_slL ?_)) | ((with_reducible change ChK _ _); first | (refine k_ch ?_) | (refine k_chR (by first | assumption | exact get_set (by assumption) | exact get_set (get_set (by assumption)) | exact get_set (get_set (get_set (by assumption)))) (by exact rfl) ?_)) | ((with_reducible change IxK _ _ _ _); first | (refine k_ixR (by first | assumption | exact get_set (by assumption) | exact get_set (get_set (by assumption)) | exact get_set (get_set (get_set (by assumption)))) (by exact rfl) ?_) | (refine k_ix (by exact rfl) ?_)) | ((with_reducible change BiK _ _ _ _); first | (with_reducible refine k_listT ?_) | (with_reducible refine k_bint ?_) | (with_reducible refine k_lenT ?_) | (with_reducible refine k_lenL ?_) | (with_reducible refine k_tupL ?_) | (with_reducible refine k_tupT ?_) | (with_reducible refine k_abs ?_) | (with_reducible refine k_min2 ?_) | (with_reducible refine k_max2 ?_) | (with_reducible refine k_lrange (by omega) ?_) | (with_reducible refine k_divmod (by first | decide | assumption | omega) (by first | decide | assumption | omega) ?_))))
def c_law_dip_32 : FDef := ⟨2, 3, (.cons (.asg (.ix (.var 0) (.int 1)) (.bin .add (.ix (.var 0) (.int 1)) (.int 6))) (.cons (.sif (.cmp .gt (.ix (.var 0) (.int 0)) (.int 0)) (.cons (.asg (.pair (.ix (.var 0) (.int 0)) (.name 2)) (.bi .divmod (.cons (.bi .int (.cons (.ix (.var 0) (.int 0)) .nil)) (.cons (.var 1) .nil)))) (.cons (.ret (.var 2)) .nil)) .nil) (.cons (.asg (.ix (.var 0) (.int 2)) (.bin .mod (.bi .int (.cons (.bin .add (.bin .add (.bin .mul (.ix (.var 0) (.int 2)) (.int 50023)) (.bin .mul (.ix (.var 0) (.int 1)) (.int 90001))) (.bin .mul (.bin .fdiv (.ix (.var 0) (.int 2)) (.int 11003)) (.int 71))) .nil)) (.int 1999999487))) (.cons (.ret (.bin .mod (.bi .int (.cons (.bin .fdiv (.ix (.var 0) (.int 2)) (.int 373)) .nil)) (.var 1))) .nil))))⟩
theorem dip_ok {P : Prog} {k : Nat} [Has P 32 c_law_dip_32] {S : Store} {n : Nat} {o c x m : Int} (h : S[n]? = some (.lst [.int o, .int c, .int x])) (hm : 0 < m) (hm2 : m < 1073741824) :
    Wp ((lev P (k + 1)).call 32 [.ref n, .int m] S) fun y S' => ∃ r o' c' x', y = .val (.int r) ∧ 0 ≤ r ∧ r < m ∧ S' = S.set n (.lst [.int o', .int c', .int x']) := by
  refine wp_call Has.at_ rfl ?_
  change WS (exB (lev P k) _ [.val (.ref n), .val (.int m), .un] S) _ _ _ _
  show WS (exB (lev P k) c_law_dip_32.body _ S) _ _ _ _
  unfold c_law_dip_32
  bv_omega
  refine ⟨fun hb => ?_, fun hb => ?_⟩
  · bv_omega
    exact ⟨_, _, _, _, rfl, Int.emod_nonneg _ (by omega), Int.emod_lt_of_pos _ hm, by rw [List.set_set]; rfl⟩
  · bv_omega
    exact ⟨_, _, _, _, rfl, Int.emod_nonneg _ (by omega), Int.emod_lt_of_pos _ hm, by rw [List.set_set]; rfl⟩
abbrev Ch (n : Nat) (S : Store) : Prop := ∃ o c x : Int, S[n]? = some (.lst [.int o, .int c, .int x])
abbrev nT (k : Nat) : T := .int (k : Int)
def goT : Option Nat → T
  | none => .non
  | some k => nT k
theorem dip_ch {P : Prog} {k : Nat} [Has P 32 c_law_dip_32] {S : Store} {n : Nat} {m : Nat} (h : Ch n S) (hm : 0 < m) (hm2 : m < 1000000) :
    Wp ((lev P (k + 1)).call 32 [.ref n, .int (m : Int)] S) fun y S' => ∃ r : Nat, y = .val (nT r) ∧ r < m ∧ Ch n S' := by
  obtain ⟨o, c, x, h⟩ := h
  refine (dip_ok h (m := (m : Int)) (by omega) (by omega)).mono ?_
  rintro y S' ⟨r, o', c', x', rfl, h0, h1, rfl⟩
  refine ⟨r.toNat, ?_, by omega, o', c', x', get_set h⟩
  show R.val (.int r) = R.val (.int (r.toNat : Int))
  rw [Int.toNat_of_nonneg h0]
def c_law_one_33 : FDef := ⟨2, 2, (.cons (.ret (.ix (.var 1) (.call 32 (.cons (.var 0) (.cons (.bi .len (.cons (.var 1) .nil)) .nil))))) .nil)⟩
theorem one_ch {P : Prog} {k : Nat} [Has P 32 c_law_dip_32] [Has P 33 c_law_one_33] {S : Store} {n : Nat} {ts : List T} (h : Ch n S) (hm : 0 < ts.length) (hm2 : ts.length < 1000000) :
    Wp ((lev P (k + 2)).call 33 [.ref n, .lst ts] S) fun y S' => ∃ t, y = .val t ∧ t ∈ ts ∧ Ch n S' := by
  refine wp_call Has.at_ rfl ?_
  change WS (exB (lev P (k + 1)) _ [.val (.ref n), .val (.lst ts)] S) _ _ _ _
  unfold c_law_one_33
  bv_omega
  refine (dip_ch h hm hm2).mono ?_
  rintro y S' ⟨r, rfl, hr, hc⟩
  have hg : ts[r]? = some ts[r] := List.getElem?_eq_getElem hr
  refine k_ixL hg ?_
  bv_omega
  exact ⟨_, rfl, List.getElem_mem hr, hc⟩
theorem choose {A : Type} {p : A → Prop} {f : A → T} : ∀ {l : List T}, (∀ x ∈ l, ∃ a, p a ∧ x = f a) → ∃ as : List A, as.length = l.length ∧ (∀ a ∈ as, p a) ∧ l = as.map f
  | [], _ => ⟨[], rfl, (fun a h => nomatch h), rfl⟩
  | x :: l, h => by
    obtain ⟨a, pa, e⟩ := h x List.mem_cons_self
    obtain ⟨as, hl, hp, e2⟩ := choose (l := l) fun y hy => h y (List.mem_cons_of_mem _ hy)
    refine ⟨a :: as, by simp [hl], fun b hb => ?_, by rw [e, e2]; rfl⟩
    rcases List.mem_cons.mp hb with z | z
    · rw [z]; exact pa
    · exact hp b z
theorem comp_range {step : Env → Store → Out (Option T)} {set : T → Env → Option Env} {env0 : Env} {A : Type} (I : Store → Prop) (p : A → Prop) (f : A → T) (m : Nat) {S : Store} {Q : List T → Store → Prop} (i0 : I S)
    (h : ∀ j : Nat, j < m → ∀ S, I S → ∃ env1, set (nT j) env0 = some env1 ∧ Wp (step env1 S) fun o S' => ∃ a, p a ∧ o = some (f a) ∧ I S') (d : ∀ (as : List A) (S' : Store), as.length = m → (∀ a ∈ as, p a) → I S' → Q (as.map f) S') : Wp (compL step set env0 (rangeT 0 (m : Int)) S) Q := by
  refine wp_comp I (fun _ x => ∃ a, p a ∧ x = f a) _ i0 (fun t ht S i => ?_) fun l S' hl hp i => ?_
  · unfold rangeT at ht
    obtain ⟨j, hj, rfl⟩ := List.mem_map.mp ht
    have hj := List.mem_range.mp hj
    obtain ⟨env1, e1, w⟩ := h j (by omega) S i
    refine ⟨env1, by rw [show T.int (0 + (j : Int)) = nT j by rw [Int.zero_add]]; exact e1, w.mono ?_⟩
    rintro o S' ⟨a, pa, rfl, i'⟩
    exact ⟨f a, rfl, ⟨a, pa, rfl⟩, i'⟩
  · have hl2 : l.length = m := by
      rw [hl]; unfold rangeT; simp
    obtain ⟨as, h1, h2, rfl⟩ := choose (p := p) (f := f) (l := l) fun x hx => by
      obtain ⟨j, hj⟩ := List.mem_iff_getElem?.mp hx
      have hj2 : j < (rangeT 0 (m : Int)).length := by rw [← hl]; exact (List.getElem?_eq_some_iff.mp hj).1
      exact hp j _ x (List.getElem?_eq_getElem hj2) hj
    exact d as S' (by rw [h1, hl2]) h2 i
def goOk (n : Nat) (g : Option Nat) : Prop := ∀ j, g = some j → j < n
def c_law_goals_34 : FDef := ⟨2, 5, (.cons (.set 2 false (.call 32 (.cons (.var 0) (.cons (.int 3) .nil)))) (.cons (.sif (.cmp .eq (.var 2) (.int 0)) (.cons (.ret (.bi .tuple (.cons (.lc (.name 4) (.range1 (.var 1)) .none (.call 33 (.cons (.var 0) (.cons (.bin .add (.lst (.cons (.non) .nil)) (.bi .lrange (.cons (.var 1) .nil))) .nil)))) .nil))) .nil) .nil) (.cons (.set 3 false (.bin .add (.int 1) (.call 32 (.cons (.var 0) (.cons (.int 2) .nil))))) (.cons (.sif (.cmp .eq (.var 2) (.int 1)) (.cons (.ret (.bi .tuple (.cons (.lc (.name 4) (.range1 (.var 1)) .none (.ife (.cmp .lt (.bin .add (.var 4) (.var 3)) (.var 1)) (.bin .add (.var 4) (.var 3)) (.non))) .nil))) .nil) .nil) (.cons (.ret (.bi .tuple (.cons (.lc (.name 4) (.range1 (.var 1)) .none (.bin .mod (.bi .int (.cons (.bin .add (.var 4) (.var 3)) .nil)) (.var 1))) .nil))) .nil)))))⟩
theorem mem_non_range {m : Nat} {t : T} (h : t ∈ [T.non] ++ rangeT 0 (m : Int)) : ∃ g, goOk m g ∧ t = goT g := by
  rcases List.mem_append.mp h with h | h
  · rw [List.mem_singleton.mp h]; exact ⟨none, (fun j z => nomatch z), rfl⟩
  · unfold rangeT at h
    obtain ⟨j, hj, rfl⟩ := List.mem_map.mp h
    have hj := List.mem_range.mp hj
    exact ⟨some j, fun i z => by cases z; omega, by show _ = T.int (j : Int); rw [Int.zero_add]⟩
theorem len_range {m : Nat} : (rangeT 0 (m : Int)).length = m := by unfold rangeT; simp
theorem goals_ch {P : Prog} {k : Nat} [Has P 32 c_law_dip_32] [Has P 33 c_law_one_33] [Has P 34 c_law_goals_34] {S : Store} {n m : Nat} (h : Ch n S) (hm : 0 < m) (hm2 : m < 1000) :
    Wp ((lev P (k + 3)).call 34 [.ref n, .int (m : Int)] S) fun y S' => ∃ w : List (Option Nat), y = .val (.tup (w.map goT)) ∧ w.length = m ∧ (∀ g ∈ w, goOk m g) ∧ Ch n S' := by
  refine wp_call Has.at_ rfl ?_
  change WS (exB (lev P (k + 2)) _ [.val (.ref n), .val (.int (m : Int)), .un, .un, .un] S) _ _ _ _
  unfold c_law_goals_34
  have lb := lim_big
  bv_omega
  refine (dip_ch (m := 3) h (by decide) (by decide)).mono ?_
  rintro y S1 ⟨way, rfl, hw, hc⟩
  bv_omega
  refine ⟨fun hb => ?_, fun hb => ?_⟩
  · bv_omega
    refine ⟨_, rfl, in62_nat (by omega), ?_⟩
    refine comp_range (Ch n) (goOk m) goT m hc (fun j hj S2 h2 => ⟨_, rfl, ?_⟩) fun as S2 hl hp h2 => ⟨by rw [List.length_map]; omega, ?_⟩
    · bv_omega
      refine k_addL (by rw [len_range, List.length_singleton]; omega) ?_
      bv_omega
      refine (one_ch h2 (by rw [List.length_append]; exact Nat.lt_of_lt_of_le Nat.zero_lt_one (Nat.le_add_right _ _)) (by rw [List.length_append, len_range, List.length_singleton]; omega)).mono ?_
      rintro y S3 ⟨t, rfl, ht, h3⟩
      obtain ⟨g, hg, rfl⟩ := mem_non_range ht
      exact k_sink ⟨g, hg, rfl, h3⟩
    · bv_omega
      exact ⟨as, rfl, hl, hp, h2⟩
  · bv_omega
    refine (dip_ch (m := 2) hc (by decide) (by decide)).mono ?_
    rintro y S2 ⟨st, rfl, hs, h2⟩
    bv_omega
    refine ⟨fun hb2 => ?_, fun hb2 => ?_⟩
    · bv_omega
      refine ⟨_, rfl, in62_nat (by omega), ?_⟩
      refine comp_range (Ch n) (goOk m) goT m h2 (fun j hj S3 h3 => ⟨_, rfl, ?_⟩) fun as S3 hl hp h3 => ⟨by rw [List.length_map]; omega, ?_⟩
      · refine i_item ?_
        bv_omega
        refine ⟨fun hb3 => ?_, fun hb3 => ?_⟩
        · have hb3 := of_decide_eq_true hb3
          bv_omega
          exact ⟨some (j + (1 + st)), fun i z => by cases z; omega, by show some (T.int _) = some (T.int _); congr 2, h3⟩
        · bv_omega
          exact ⟨none, (fun i z => nomatch z), rfl, h3⟩
      · bv_omega
        exact ⟨as, rfl, hl, hp, h3⟩
    · bv_omega
      refine ⟨_, rfl, in62_nat (by omega), ?_⟩
      refine comp_range (Ch n) (goOk m) goT m h2 (fun j hj S3 h3 => ⟨_, rfl, ?_⟩) fun as S3 hl hp h3 => ⟨by rw [List.length_map]; omega, ?_⟩
      · refine i_item ?_
        bv_omega
        exact ⟨some ((j + (1 + st)) % m), fun i z => by cases z; exact Nat.mod_lt _ hm, by show some (T.int _) = some (T.int _); congr 2, h3⟩
      · bv_omega
        exact ⟨as, rfl, hl, hp, h3⟩
end Z
set_option Elab.async false
set_option linter.all false
set_option maxRecDepth 100000
set_option maxHeartbeats 1000000
namespace Z
open PySem
structure Ra where
  sizes : List Nat
  homes : List Nat
  ways : List (List (Option Nat))
def wayT (w : List (Option Nat)) : T := .tup (w.map goT)
def Ra.told (r : Ra) : T := .tup [.tup (r.sizes.map nT), .tup (r.homes.map nT), .tup (r.ways.map wayT)]
def wayOk (n : Nat) (w : List (Option Nat)) : Prop := w.length = n ∧ ∀ g ∈ w, goOk n g
structure Ra.Ok (r : Ra) (mh mk : Nat) : Prop where
  n1 : 0 < r.sizes.length
  n2 : r.sizes.length ≤ mh
  s1 : ∀ s ∈ r.sizes, 1 ≤ s ∧ s ≤ 3
  k1 : 0 < r.homes.length
  k2 : r.homes.length ≤ mk
  h : ∀ h ∈ r.homes, h < r.sizes.length
  wl : r.ways.length = r.homes.length
  w : ∀ w ∈ r.ways, wayOk r.sizes.length w
theorem mk_ok {ss hs : List Nat} {ws : List (List (Option Nat))} {sz kn mh mk : Nat} (ssl : ss.length = sz) (hsl : hs.length = kn) (wsl : ws.length = kn) (sz1 : 0 < sz) (sz2 : sz ≤ mh) (kn1 : 0 < kn) (kn2 : kn ≤ mk) (ssp : ∀ s ∈ ss, 1 ≤ s ∧ s ≤ 3) (hsp : ∀ h ∈ hs, h < sz) (wsp : ∀ w ∈ ws, wayOk sz w) : Ra.Ok ⟨ss, hs, ws⟩ mh mk := by
  subst ssl
  exact ⟨sz1, sz2, ssp, by rw [← hsl] at kn1; exact kn1, by rw [← hsl] at kn2; exact kn2, hsp, by rw [← hsl] at wsl; exact wsl, wsp⟩
theorem cut_to {ts : List T} {i : Nat} : cutT ts none (some (i : Int)) = ts.take i := by
  unfold cutT sIx
  try dsimp only
  rw [if_neg (by omega)]
  simp only [List.drop_zero, Nat.sub_zero, Int.toNat_natCast]
  by_cases h : i ≤ ts.length
  · rw [Nat.min_eq_left h]
  · rw [Nat.min_eq_right (by omega), List.take_length, List.take_of_length_le (by omega)]
theorem cut_from {ts : List T} {i : Nat} : cutT ts (some (i : Int)) none = ts.drop i := by
  unfold cutT sIx
  try dsimp only
  rw [if_neg (by omega)]
  simp only [Int.toNat_natCast]
  by_cases h : i ≤ ts.length
  · rw [Nat.min_eq_left h, List.take_of_length_le (by rw [List.length_drop]; omega)]
  · rw [Nat.min_eq_right (by omega), List.drop_length, List.drop_of_length_le (by omega)]; simp
theorem put_nat {ts : List T} {k : Nat} {t : T} (h : k < ts.length) : putIx (.lst ts) (.int (k : Int)) t = some (.lst (ts.set k t)) := by
  show (ixN ts.length (k : Int)).map _ = _
  unfold ixN
  rw [if_pos (by omega), if_pos (by omega)]
  rfl
theorem k_chO {env : Env} {S : Store} {i : Nat} {o o' : Ob} {f : Ob → Option Ob} {W : Env → Store → Prop} (h : env[i]? = some (.own o)) (e : f o = some o') (w : W (env.set i (.own o')) S) : ChK (change env S (.own i) f) W := by
  refine ⟨(env.set i (.own o'), S), ?_, w⟩
  show (match env[i]? with | some (.own o) => (f o).map fun o' => (env.set i (.own o'), S) | _ => none) = _
  rw [h]
  dsimp only
  rw [e]; rfl
theorem app_ok {ts : List T} {t : T} (h : ts.length < 1000000) : appT t (.lst ts) = some (.lst (ts ++ [t])) := by
  show guardT _ _ = _
  exact guard_true (decide_eq_true (Nat.lt_of_lt_of_le h lim_big))
theorem getmap {A B : Type} {f : A → B} {l : List A} {i : Nat} (h : i < l.length) : (l.map f)[i]? = some (f l[i]) := by rw [List.getElem?_map, List.getElem?_eq_getElem h]; rfl
local macro_rules | `(tactic| bv_omega) => `(tactic| repeat (first | (with_reducible refine i_cons ?_) | (with_reducible refine i_nil ?_) | (with_reducible refine i_set ?_) | (with_reducible refine i_par ?_) | (with_reducible refine i_par3 ?_) | (with_reducible refine i_asg ?_) | (with_reducible refine i_append ?_) | (with_reducible refine i_expr ?_) | (with_reducible refine i_ret ?_) | (with_reducible refine i_retN ?_) | (with_reducible refine i_brk ?_) | (with_reducible refine i_cnt ?_) | (with_reducible refine i_pass ?_) | (with_reducible refine i_sif ?_) | (with_reducible refine i_sfor ?_) | (with_reducible refine i_int ?_) | (with_reducible refine i_bl ?_) | (with_reducible refine i_str ?_) | (with_reducible refine i_non ?_) | (with_reducible refine i_tup ?_) | (with_reducible refine i_lst ?_) | (with_reducible refine i_bin ?_) | (with_reducible refine i_neg ?_) | (with_reducible refine i_cmp ?_) | (with_reducible refine i_chain ?_) | (with_reducible refine i_band ?_) | (with_reducible refine i_bor ?_) | (with_reducible refine i_bnot ?_) | (with_reducible refine i_ife ?_) | (with_reducible refine i_ix ?_) | (with_reducible refine i_sl ?_) | (with_reducible refine i_onone ?_) | (with_reducible refine i_osome ?_) | (with_reducible refine i_fld ?_) | (with_reducible refine i_call ?_) | (with_reducible refine i_new ?_) | (with_reducible refine i_callk ?_) | (with_reducible refine i_isi ?_) | (with_reducible refine i_bi ?_) | (with_reducible refine i_anil ?_) | (with_reducible refine i_acons ?_) | (with_reducible refine i_bnil ?_) | (with_reducible refine i_bcons ?_) | (with_reducible refine i_ice ?_) | (with_reducible refine i_irange1 ?_) | (with_reducible refine i_ienum ?_) | (with_reducible refine i_lc0 ?_) | (with_reducible refine i_lc1 ?_) | (with_reducible refine i_item ?_) | (with_reducible refine i_itemT ?_) | (with_reducible refine i_tix ?_) | (with_reducible refine i_tname ?_) | (with_reducible refine i_tpair ?_) | (with_reducible refine i_ttrip ?_) | (with_reducible refine i_tfld ?_) | (with_reducible refine i_dnil ?_) | (with_reducible refine i_fstr ?_) | (with_reducible refine f_end ?_) | (with_reducible refine f_one ?_) | (with_reducible refine i_meth ?_) | (with_reducible refine i_prop ?_) | (with_reducible refine i_spc ?_) | (with_reducible refine i_mb ?_) | (with_reducible refine i_tups ?_) | (with_reducible refine i_augf ?_) | (with_reducible refine i_lam ?_) | (with_reducible refine i_stry ?_) | (with_reducible refine i_raise1 ?_) | (with_reducible refine i_raise0 ?_) | (with_reducible refine h_nil ?_) | (with_reducible refine i_var (by with_unfolding_all exact rfl) ?_) | (with_reducible refine i_own (by with_unfolding_all exact rfl) ?_) | (with_reducible refine and_isL (by with_unfolding_all exact rfl) ?_) | ((with_reducible change EvK _ _ _ _ _ _); first | (with_reducible refine e_is ?_) | (with_reducible refine e_isnot ?_) | (with_reducible refine e_cmp' (by decide) (by decide) ?_)) | ((with_reducible change BinK _ _ _ _ _); first | (with_reducible refine k_addI ?_) | (with_reducible refine k_subI ?_) | (with_reducible refine k_mulI (by first | exact Bool.or_eq_true_iff.mpr (.inr (by decide)) | exact Bool.or_eq_true_iff.mpr (.inl (by decide))) ?_) | (with_reducible refine k_fdivI (by first | decide | assumption | omega) (by first | decide | assumption | omega) ?_) | (with_reducible refine k_modI (by first | decide | assumption | omega) ?_)) | ((with_reducible change CmpK _ _ _ _ _); first | (with_reducible refine k_eqI ?_) | (with_reducible refine k_neI ?_) | (with_reducible refine k_ltI ?_) | (with_reducible refine k_leI ?_) | (with_reducible refine k_gtI ?_) | (with_reducible refine k_geI ?_)) | ((with_reducible change TruK _ _); first | (with_reducible refine k_trB ?_)) | ((with_reducible change SinkK _ _); first | (with_reducible refine k_sink ?_) | (with_reducible refine k_sinkO (by with_unfolding_all exact rfl) ?_)) | ((with_reducible change SlotK _ _); first | (with_reducible refine k_slot ?_) | (with_reducible refine k_slotF ?_)) | ((with_reducible change RetK _ _ _ _); first | (with_reducible refine k_retV ?_) | (with_reducible refine k_retF ?_)) | ((with_reducible change SlK _ _ _ _ _); first | (with_reducible refine k_slT ?_) | (with_reducible refine k_slL ?_)) | ((with_reducible change ChK _ _); first | (refine k_ch ?_) | (refine k_chR (by first | assumption | exact get_set (by assumption) | exact get_set (get_set (by assumption)) | exact get_set (get_set (get_set (by assumption)))) (by exact rfl) ?_)) | ((with_reducible change IxK _ _ _ _); first | (refine k_ixR (by first | assumption | exact get_set (by assumption) | exact get_set (get_set (by assumption)) | exact get_set (get_set (get_set (by assumption)))) (by exact rfl) ?_) | (refine k_ix (by exact rfl) ?_)) | ((with_reducible change BiK _ _ _ _); first | (with_reducible refine k_listT ?_) | (with_reducible refine k_bint ?_) | (with_reducible refine k_lenT ?_) | (with_reducible refine k_lenL ?_) | (with_reducible refine k_tupL ?_) | (with_reducible refine k_tupT ?_) | (with_reducible refine k_abs ?_) | (with_reducible refine k_min2 ?_) | (with_reducible refine k_max2 ?_) | (with_reducible refine k_lrange (by omega) ?_) | (with_reducible refine k_divmod (by first | decide | assumption | omega) (by first | decide | assumption | omega) ?_))))
def c_law_told_35 : FDef := ⟨3, 14, (.cons (.asg (.pair (.name 7) (.name 8)) (.tup (.cons (.bin .add (.int 1) (.call 32 (.cons (.var 0) (.cons (.var 1) .nil)))) (.cons (.bin .add (.int 1) (.call 32 (.cons (.var 0) (.cons (.var 2) .nil)))) .nil)))) (.cons (.asg (.pair (.name 9) (.name 10)) (.tup (.cons (.call 33 (.cons (.var 0) (.cons (.lst (.cons (.int 1) (.cons (.int 1) (.cons (.int 2) (.cons (.int 3) .nil))))) .nil))) (.cons (.call 32 (.cons (.var 0) (.cons (.int 4) .nil))) .nil)))) (.cons (.set 3 false (.bi .tuple (.cons (.lc (.name 12) (.range1 (.var 7)) .none (.bin .add (.int 1) (.call 32 (.cons (.var 0) (.cons (.var 9) .nil))))) .nil))) (.cons (.set 4 false (.bi .tuple (.cons (.lc (.name 12) (.range1 (.var 8)) .none (.call 32 (.cons (.var 0) (.cons (.var 7) .nil)))) .nil))) (.cons (.set 5 false (.call 34 (.cons (.var 0) (.cons (.var 7) .nil)))) (.cons (.set 6 true (.lc (.name 12) (.range1 (.var 8)) .none (.ife (.cmp .gt (.var 10) (.int 0)) (.var 5) (.call 34 (.cons (.var 0) (.cons (.var 7) .nil)))))) (.cons (.sif (.cmp .eq (.var 10) (.int 2)) (.cons (.par 12 13 false false (.call 32 (.cons (.var 0) (.cons (.var 8) .nil))) (.call 32 (.cons (.var 0) (.cons (.var 7) .nil)))) (.cons (.set 11 false (.call 33 (.cons (.var 0) (.cons (.bin .add (.lst (.cons (.non) .nil)) (.bi .lrange (.cons (.var 7) .nil))) .nil)))) (.cons (.asg (.ix (.var 6) (.var 12)) (.bin .add (.bin .add (.sl (.ix (.var 6) (.var 12)) .none (.some (.var 13))) (.tup (.cons (.var 11) .nil))) (.sl (.ix (.var 6) (.var 12)) (.some (.bin .add (.var 13) (.int 1))) .none))) .nil))) .nil) (.cons (.ret (.tup (.cons (.var 3) (.cons (.var 4) (.cons (.bi .tuple (.cons (.var 6) .nil)) .nil))))) .nil))))))))⟩
set_option maxHeartbeats 4000000 in
theorem told_ch {P : Prog} {k : Nat} [Has P 32 c_law_dip_32] [Has P 33 c_law_one_33] [Has P 34 c_law_goals_34] [Has P 35 c_law_told_35] {S : Store} {n mh mk : Nat} (h : Ch n S) (h1 : 0 < mh) (h2 : mh < 1000) (k1 : 0 < mk) (k2 : mk < 1000) :
    Wp ((lev P (k + 4)).call 35 [.ref n, .int (mh : Int), .int (mk : Int)] S) fun y S' => ∃ r : Ra, y = .val r.told ∧ r.Ok mh mk ∧ Ch n S' := by
  have lb := lim_big
  refine wp_call Has.at_ rfl ?_
  change WS (exB (lev P (k + 3)) _ [.val (.ref n), .val (.int (mh : Int)), .val (.int (mk : Int)), .un, .un, .un, .un, .un, .un, .un, .un, .un, .un, .un] S) _ _ _ _
  unfold c_law_told_35
  bv_omega
  refine (dip_ch h h1 (by omega)).mono ?_
  rintro y S1 ⟨a, rfl, ha, c1⟩
  bv_omega
  refine (dip_ch c1 k1 (by omega)).mono ?_
  rintro y S2 ⟨b, rfl, hb, c2⟩
  bv_omega
  refine (one_ch c2 (by decide) (by decide)).mono ?_
  rintro y S3 ⟨top, rfl, ht, c3⟩
  obtain ⟨tp, rfl, tp1, tp2⟩ : ∃ tp : Nat, top = nT tp ∧ 1 ≤ tp ∧ tp ≤ 3 := by
    rcases List.mem_cons.mp ht with z | ht
    · exact ⟨1, z, by omega, by omega⟩
    rcases List.mem_cons.mp ht with z | ht
    · exact ⟨1, z, by omega, by omega⟩
    rcases List.mem_cons.mp ht with z | ht
    · exact ⟨2, z, by omega, by omega⟩
    rcases List.mem_cons.mp ht with z | ht
    · exact ⟨3, z, by omega, by omega⟩
    · exact nomatch ht
  bv_omega
  refine (dip_ch (m := 4) c3 (by decide) (by decide)).mono ?_
  rintro y S4 ⟨way, rfl, hway, c4⟩
  bv_omega
  obtain ⟨sz, hsz, sz1, sz2⟩ : ∃ sz : Nat, (1 + (a : Int)) = (sz : Int) ∧ 0 < sz ∧ sz ≤ mh := ⟨1 + a, by omega, by omega, by omega⟩
  obtain ⟨kn, hkn, kn1, kn2⟩ : ∃ kn : Nat, (1 + (b : Int)) = (kn : Int) ∧ 0 < kn ∧ kn ≤ mk := ⟨1 + b, by omega, by omega, by omega⟩
  rw [hsz, hkn]
  refine ⟨_, rfl, in62_nat (by omega), ?_⟩
  refine comp_range (Ch n) (fun s => 1 ≤ s ∧ s ≤ 3) nT sz c4 (fun j hj S5 c5 => ⟨_, rfl, ?_⟩) fun ss S5 ssl ssp c5 => ⟨by rw [List.length_map]; omega, ?_⟩
  · refine i_item ?_
    bv_omega
    refine (dip_ch (m := tp) c5 (by omega) (by omega)).mono ?_
    rintro y S6 ⟨r, rfl, hr, c6⟩
    bv_omega
    exact ⟨1 + r, ⟨by omega, by omega⟩, by show some (T.int _) = some (T.int _); congr 2, c6⟩
  bv_omega
  refine ⟨_, rfl, in62_nat (by omega), ?_⟩
  refine comp_range (Ch n) (fun s => s < sz) nT kn c5 (fun j hj S6 c6 => ⟨_, rfl, ?_⟩) fun hs S6 hsl hsp c6 => ⟨by rw [List.length_map]; omega, ?_⟩
  · refine i_item ?_
    bv_omega
    refine (dip_ch (m := sz) c6 (by omega) (by omega)).mono ?_
    rintro y S7 ⟨r, rfl, hr, c7⟩
    bv_omega
    exact ⟨r, hr, rfl, c7⟩
  bv_omega
  refine (goals_ch c6 sz1 (by omega)).mono ?_
  rintro y S7 ⟨fst, rfl, fl, fp, c7⟩
  bv_omega
  refine ⟨_, rfl, in62_nat (by omega), ?_⟩
  refine comp_range (Ch n) (wayOk sz) wayT kn c7 (fun j hj S8 c8 => ⟨_, rfl, ?_⟩) fun ws S8 wsl wsp c8 => ⟨by rw [List.length_map]; omega, ?_⟩
  · refine i_item ?_
    bv_omega
    refine ⟨fun hb => ?_, fun hb => ?_⟩
    · bv_omega
      exact ⟨fst, ⟨fl, fp⟩, rfl, c8⟩
    · bv_omega
      refine (goals_ch c8 sz1 (by omega)).mono ?_
      rintro y S9 ⟨w, rfl, wl, wp, c9⟩
      bv_omega
      exact ⟨w, ⟨wl, wp⟩, rfl, c9⟩
  bv_omega
  refine ⟨fun hb => ?_, fun hb => ?_⟩
  · bv_omega
    refine (dip_ch (m := kn) c8 (by omega) (by omega)).mono ?_
    rintro y S9 ⟨i, rfl, hi, c9⟩
    bv_omega
    refine (dip_ch (m := sz) c9 (by omega) (by omega)).mono ?_
    rintro y S10 ⟨q, rfl, hq, c10⟩
    bv_omega
    refine k_addL (by rw [len_range, List.length_singleton]; omega) ?_
    bv_omega
    refine (one_ch c10 (by rw [List.length_append]; exact Nat.lt_of_lt_of_le Nat.zero_lt_one (Nat.le_add_right _ _)) (by rw [List.length_append, len_range, List.length_singleton]; omega)).mono ?_
    rintro y S11 ⟨t, rfl, ht, c11⟩
    obtain ⟨g, hg, rfl⟩ := mem_non_range ht
    bv_omega
    have hiw : i < ws.length := by omega
    have gw : (ws.map wayT)[i]? = some (.tup (ws[i].map goT)) := getmap hiw
    obtain ⟨wl, wp⟩ := wsp ws[i] (List.getElem_mem hiw)
    have ct : (cutT (ws[i].map goT) none (some (q : Int))) = (ws[i].take q).map goT := by rw [cut_to, List.map_take]
    have cf : (cutT (ws[i].map goT) (some ((q : Int) + 1)) none) = (ws[i].drop (q + 1)).map goT := by rw [show ((q : Int) + 1) = ((q + 1 : Nat) : Int) by omega, cut_from, List.map_drop]
    refine k_ixL gw ?_
    bv_omega
    refine ⟨_, rfl, ?_⟩
    bv_omega
    refine k_addT (by rw [ct, List.length_map, List.length_take, List.length_singleton]; omega) ?_
    bv_omega
    refine k_ixL gw ?_
    bv_omega
    refine ⟨_, rfl, ?_⟩
    bv_omega
    refine k_addT (by rw [ct, cf, List.length_append, List.length_map, List.length_map, List.length_take, List.length_drop, List.length_singleton]; omega) ?_
    bv_omega
    refine k_chO rfl (put_nat (by rw [List.length_map]; omega)) ?_
    bv_omega
    refine ⟨⟨ss, hs, ws.set i ((ws[i].take q ++ [g]) ++ ws[i].drop (q + 1))⟩, ?_, mk_ok ssl hsl (by rw [List.length_set]; exact wsl) sz1 sz2 kn1 kn2 ssp hsp ?_, c11⟩
    · rw [ct, cf]
      show R.val (T.tup [_, _, T.tup _]) = R.val (T.tup [_, _, T.tup _])
      rw [List.map_set]
      unfold wayT
      rw [List.map_append, List.map_append]
      rfl
    · intro w hw
      rcases List.mem_or_eq_of_mem_set hw with hw | rfl
      · exact wsp w hw
      · refine ⟨by rw [List.length_append, List.length_append, List.length_take, List.length_drop, List.length_singleton]; omega, fun g' hg' => ?_⟩
        rcases List.mem_append.mp hg' with hg' | hg'
        · rcases List.mem_append.mp hg' with hg' | hg'
          · exact wp g' (List.mem_of_mem_take hg')
          · rw [List.mem_singleton.mp hg']; exact hg
        · exact wp g' (List.mem_of_mem_drop hg')
  · bv_omega
    exact ⟨⟨ss, hs, ws⟩, rfl, mk_ok ssl hsl wsl sz1 sz2 kn1 kn2 ssp hsp wsp, c8⟩
end Z
set_option Elab.async false
set_option linter.all false
set_option maxRecDepth 100000
set_option maxHeartbeats 1000000
namespace Z
open PySem
def pth (full : Nat → Bool) (nxt : Nat → Option Nat) : Nat → List Nat → Option Nat → List Nat × Option Nat
  | 0, row, _ => (row, none)
  | _ + 1, row, none => (row, none)
  | f + 1, row, some h => if h ∈ row then (row, none) else if full h then pth full nxt f (row ++ [h]) (nxt h) else (row ++ [h], some h)
def Ra.full (r : Ra) (fl : List Nat) (h : Nat) : Bool := decide (fl.getD h 0 = r.sizes.getD h 0)
def Ra.nxt (r : Ra) (k h : Nat) : Option Nat := (r.ways.getD k []).getD h none
def Ra.home (r : Ra) (k : Nat) : Nat := r.homes.getD k 0
def Ra.path (r : Ra) (fl : List Nat) (k : Nat) : List Nat × Option Nat := pth (r.full fl) (r.nxt k) (r.sizes.length + 1) [] (some (r.home k))
structure FiOk (r : Ra) (fl : List Nat) : Prop where
  l : fl.length = r.sizes.length
  le : ∀ h, h < r.sizes.length → fl.getD h 0 ≤ r.sizes.getD h 0
abbrev nsT (l : List Nat) : T := .tup (l.map nT)
theorem at_nT {l : List Nat} {i : Nat} (h : i < l.length) : (l.map nT)[i]? = some (nT (l.getD i 0)) := by
  rw [getmap h, List.getD_eq_getElem?_getD, List.getElem?_eq_getElem h]; rfl
theorem at_wayT {l : List (List (Option Nat))} {i : Nat} (h : i < l.length) : (l.map wayT)[i]? = some (.tup ((l.getD i []).map goT)) := by
  rw [getmap h, List.getD_eq_getElem?_getD, List.getElem?_eq_getElem h]; rfl
theorem at_goT {l : List (Option Nat)} {i : Nat} (h : i < l.length) : (l.map goT)[i]? = some (goT (l.getD i none)) := by
  rw [getmap h, List.getD_eq_getElem?_getD, List.getElem?_eq_getElem h]; rfl
theorem getD_mem {A : Type} {l : List A} {i : Nat} {d : A} (h : i < l.length) : l.getD i d ∈ l := by
  rw [List.getD_eq_getElem?_getD, List.getElem?_eq_getElem h]; exact List.getElem_mem h
theorem eqv_int {a b : Int} : eqvT (.int a) (.int b) = decide (a = b) := by
  unfold eqvT toD
  simp only [PyData.eqv]
  by_cases h : a = b <;> simp [h]
theorem mem_nT {h : Nat} : ∀ {row : List Nat}, memT (nT h) (row.map nT) = decide (h ∈ row)
  | [] => by simp [memT]
  | x :: row => by
    have ih := mem_nT (h := h) (row := row)
    unfold memT at ih ⊢
    rw [List.map_cons, List.any_cons, ih, eqv_int]
    by_cases e : h = x
    · subst e; simp
    · have e1 : ¬ ((x : Int) = (h : Int)) := by omega
      simp [e, e1]
theorem ok_nT : ∀ {row : List Nat}, (row.map nT).all (okD DEEP) = true
  | [] => rfl
  | x :: row => by rw [List.map_cons, List.all_cons, ok_nT]; rfl
theorem k_notin {h : Nat} {row : List Nat} {S : Store} {W : Bool → Store → Prop} (w : W (!decide (h ∈ row)) S) : CmpK .notin (some (.int (h : Int))) (some (.lst (row.map nT))) S W := k_cmp (by
  show guardT _ _ = _
  rw [ok_nT, mem_nT]; rfl) w
theorem k_in {h : Nat} {row : List Nat} {S : Store} {W : Bool → Store → Prop} (w : W (decide (h ∈ row)) S) : CmpK .isin (some (.int (h : Int))) (some (.lst (row.map nT))) S W := k_cmp (by
  show guardT _ _ = _
  rw [ok_nT, mem_nT]; rfl) w
theorem row_le {row : List Nat} {n : Nat} (h : row.Nodup) (h2 : ∀ x ∈ row, x < n) : row.length ≤ n := by
  have := h.length_le_of_subset (l₂ := List.range n) fun x hx => List.mem_range.mpr (h2 x hx)
  rwa [List.length_range] at this
theorem i_tru {C : EC} {t : CE} {env : Env} {S : Store} {X : Nat → List T → Store → Prop} {W : Bool → Store → Prop} (h : WpX X (evE C t env S) fun x S1 => TruK (flat env S1 x) fun k => W k S1) : WpX X (truO env (evE C t env S)) W := by
  rw [wp_truO]
  exact h
theorem i_swhile {C : EC} {t : CE} {b : CSs} {env : Env} {S : Store} {N B K : Env → Store → Prop} {Y : R → Store → Prop} {XS : Nat → List T → Env → Store → Prop} (J : Nat → Env → Store → Prop) (m : Nat) (hm : m < FUEL) (j : J m env S)
    (h : ∀ (m : Nat) (env : Env) (S : Store), J m env S → WpX (fun c l s => XS c l env s) (evE C t env S) fun x S1 => TruK (flat env S1 x) fun k => (k = true → WSX XS (exB C b env S1) (fun e s => ∃ m', m' < m ∧ J m' e s) N (fun e s => ∃ m', m' < m ∧ J m' e s) Y) ∧ (k = false → N env S1)) : WSX XS (exS C (.swhile t b) env S) N B K Y := by
  rw [s_swhile']
  refine ws_while J m FUEL hm j fun m env S j => ?_
  refine i_tru ((h m env S j).mono fun x S1 ⟨t, k, h1, h2, h3⟩ => ⟨t, k, h1, h2, ?_⟩)
  cases k with
  | true => exact h3.1 rfl
  | false => exact h3.2 rfl
theorem fuel_big : (1000 : Nat) < FUEL := by unfold FUEL; decide
theorem nod_app {row : List Nat} {h : Nat} (n : row.Nodup) (h2 : h ∉ row) : (row ++ [h]).Nodup := by
  rw [List.nodup_append]
  refine ⟨n, by simp, fun a ha b hb => ?_⟩
  rw [List.mem_singleton.mp hb]
  exact fun e => h2 (e ▸ ha)
local macro_rules | `(tactic| bv_omega) => `(tactic| repeat (first | (with_reducible refine i_cons ?_) | (with_reducible refine i_nil ?_) | (with_reducible refine i_set ?_) | (with_reducible refine i_par ?_) | (with_reducible refine i_par3 ?_) | (with_reducible refine i_asg ?_) | (with_reducible refine i_append ?_) | (with_reducible refine i_expr ?_) | (with_reducible refine i_ret ?_) | (with_reducible refine i_retN ?_) | (with_reducible refine i_brk ?_) | (with_reducible refine i_cnt ?_) | (with_reducible refine i_pass ?_) | (with_reducible refine i_sif ?_) | (with_reducible refine i_sfor ?_) | (with_reducible refine i_int ?_) | (with_reducible refine i_bl ?_) | (with_reducible refine i_str ?_) | (with_reducible refine i_non ?_) | (with_reducible refine i_tup ?_) | (with_reducible refine i_lst ?_) | (with_reducible refine i_bin ?_) | (with_reducible refine i_neg ?_) | (with_reducible refine i_cmp ?_) | (with_reducible refine i_chain ?_) | (with_reducible refine i_band ?_) | (with_reducible refine i_bor ?_) | (with_reducible refine i_bnot ?_) | (with_reducible refine i_ife ?_) | (with_reducible refine i_ix ?_) | (with_reducible refine i_sl ?_) | (with_reducible refine i_onone ?_) | (with_reducible refine i_osome ?_) | (with_reducible refine i_fld ?_) | (with_reducible refine i_call ?_) | (with_reducible refine i_new ?_) | (with_reducible refine i_callk ?_) | (with_reducible refine i_isi ?_) | (with_reducible refine i_bi ?_) | (with_reducible refine i_anil ?_) | (with_reducible refine i_acons ?_) | (with_reducible refine i_bnil ?_) | (with_reducible refine i_bcons ?_) | (with_reducible refine i_ice ?_) | (with_reducible refine i_irange1 ?_) | (with_reducible refine i_ienum ?_) | (with_reducible refine i_lc0 ?_) | (with_reducible refine i_lc1 ?_) | (with_reducible refine i_item ?_) | (with_reducible refine i_itemT ?_) | (with_reducible refine i_tix ?_) | (with_reducible refine i_tname ?_) | (with_reducible refine i_tpair ?_) | (with_reducible refine i_ttrip ?_) | (with_reducible refine i_tfld ?_) | (with_reducible refine i_dnil ?_) | (with_reducible refine i_fstr ?_) | (with_reducible refine f_end ?_) | (with_reducible refine f_one ?_) | (with_reducible refine i_meth ?_) | (with_reducible refine i_prop ?_) | (with_reducible refine i_spc ?_) | (with_reducible refine i_mb ?_) | (with_reducible refine i_tups ?_) | (with_reducible refine i_augf ?_) | (with_reducible refine i_lam ?_) | (with_reducible refine i_stry ?_) | (with_reducible refine i_raise1 ?_) | (with_reducible refine i_raise0 ?_) | (with_reducible refine h_nil ?_) | (with_reducible refine i_var (by with_unfolding_all exact rfl) ?_) | (with_reducible refine i_own (by with_unfolding_all exact rfl) ?_) | (with_reducible refine and_isL (by with_unfolding_all exact rfl) ?_) | ((with_reducible change EvK _ _ _ _ _ _); first | (with_reducible refine e_is ?_) | (with_reducible refine e_isnot ?_) | (with_reducible refine e_cmp' (by decide) (by decide) ?_)) | ((with_reducible change BinK _ _ _ _ _); first | (with_reducible refine k_addI ?_) | (with_reducible refine k_subI ?_) | (with_reducible refine k_mulI (by first | exact Bool.or_eq_true_iff.mpr (.inr (by decide)) | exact Bool.or_eq_true_iff.mpr (.inl (by decide))) ?_) | (with_reducible refine k_fdivI (by first | decide | assumption | omega) (by first | decide | assumption | omega) ?_) | (with_reducible refine k_modI (by first | decide | assumption | omega) ?_)) | ((with_reducible change CmpK _ _ _ _ _); first | (with_reducible refine k_eqI ?_) | (with_reducible refine k_neI ?_) | (with_reducible refine k_ltI ?_) | (with_reducible refine k_leI ?_) | (with_reducible refine k_gtI ?_) | (with_reducible refine k_geI ?_)) | ((with_reducible change TruK _ _); first | (with_reducible refine k_trB ?_)) | ((with_reducible change SinkK _ _); first | (with_reducible refine k_sink ?_) | (with_reducible refine k_sinkO (by with_unfolding_all exact rfl) ?_)) | ((with_reducible change SlotK _ _); first | (with_reducible refine k_slot ?_) | (with_reducible refine k_slotF ?_)) | ((with_reducible change RetK _ _ _ _); first | (with_reducible refine k_retV ?_) | (with_reducible refine k_retF ?_)) | ((with_reducible change SlK _ _ _ _ _); first | (with_reducible refine k_slT ?_) | (with_reducible refine k_slL ?_)) | ((with_reducible change ChK _ _); first | (refine k_ch ?_) | (refine k_chR (by first | assumption | exact get_set (by assumption) | exact get_set (get_set (by assumption)) | exact get_set (get_set (get_set (by assumption)))) (by exact rfl) ?_)) | ((with_reducible change IxK _ _ _ _); first | (refine k_ixR (by first | assumption | exact get_set (by assumption) | exact get_set (get_set (by assumption)) | exact get_set (get_set (get_set (by assumption)))) (by exact rfl) ?_) | (refine k_ix (by exact rfl) ?_)) | ((with_reducible change BiK _ _ _ _); first | (with_reducible refine k_listT ?_) | (with_reducible refine k_bint ?_) | (with_reducible refine k_lenT ?_) | (with_reducible refine k_lenL ?_) | (with_reducible refine k_tupL ?_) | (with_reducible refine k_tupT ?_) | (with_reducible refine k_abs ?_) | (with_reducible refine k_min2 ?_) | (with_reducible refine k_max2 ?_) | (with_reducible refine k_lrange (by omega) ?_) | (with_reducible refine k_divmod (by first | decide | assumption | omega) (by first | decide | assumption | omega) ?_))))
def c_law_path_36 : FDef := ⟨3, 5, (.cons (.par 3 4 true false (.lst .nil) (.ix (.ix (.var 0) (.int 1)) (.var 2))) (.cons (.swhile (.band (.cmp .isnot (.var 4) (.non)) (.cmp .notin (.var 4) (.var 3))) (.cons (.append (.var 3) (.var 4)) (.cons (.sif (.cmp .lt (.ix (.var 1) (.var 4)) (.ix (.ix (.var 0) (.int 0)) (.var 4))) (.cons (.ret (.tup (.cons (.bi .tuple (.cons (.var 3) .nil)) (.cons (.var 4) .nil)))) .nil) .nil) (.cons (.set 4 false (.ix (.ix (.ix (.var 0) (.int 2)) (.var 2)) (.var 4))) .nil)))) (.cons (.ret (.tup (.cons (.bi .tuple (.cons (.var 3) .nil)) (.cons (.non) .nil)))) .nil)))⟩
theorem path_law {P : Prog} {k : Nat} [Has P 36 c_law_path_36] {S : Store} {r : Ra} {mh mk : Nat} (ok : r.Ok mh mk) (hm : mh < 900) {fl : List Nat} (fo : FiOk r fl) {kd : Nat} (hk : kd < r.homes.length) :
    Wp ((lev P (k + 1)).call 36 [r.told, nsT fl, nT kd] S) fun y S' => y = .val (.tup [nsT (r.path fl kd).1, goT (r.path fl kd).2]) ∧ S' = S := by
  have lb := lim_big
  refine wp_call Has.at_ rfl ?_
  change WS (exB (lev P k) _ [.val (.tup [.tup (r.sizes.map nT), .tup (r.homes.map nT), .tup (r.ways.map wayT)]), .val (nsT fl), .val (nT kd), .un, .un] S) _ _ _ _
  unfold c_law_path_36
  bv_omega
  refine k_ixT (at_nT hk) ?_
  bv_omega
  have hw : wayOk r.sizes.length (r.ways.getD kd []) := ok.w _ (getD_mem (by rw [ok.wl]; exact hk))
  refine i_swhile (fun m env S' => ∃ (row : List Nat) (here : Option Nat), env = [.val (.tup [.tup (r.sizes.map nT), .tup (r.homes.map nT), .tup (r.ways.map wayT)]), .val (nsT fl), .val (nT kd), .own (.lst (row.map nT)), .val (goT here)] ∧ S' = S ∧ row.Nodup ∧ (∀ x ∈ row, x < r.sizes.length) ∧ goOk r.sizes.length here ∧ pth (r.full fl) (r.nxt kd) m row here = r.path fl kd ∧ m + row.length = r.sizes.length + 1) (r.sizes.length + 1) (Nat.lt_of_le_of_lt (by have := ok.n2; omega) fuel_big)
    ⟨[], some (r.home kd), rfl, rfl, List.nodup_nil, (fun x h => nomatch h), (fun j h => by cases h; exact ok.h _ (getD_mem hk)), rfl, rfl⟩ ?_
  rintro m env S' ⟨row, here, rfl, rfl, nd, lt, go, pe, ml⟩
  have rl := row_le nd lt
  obtain ⟨m, rfl⟩ : ∃ m', m = m' + 1 := ⟨m - 1, by omega⟩
  cases here with
  | none =>
    have pe : (row, none) = r.path fl kd := pe
    change Wp (evE _ _ [_, _, _, _, .val .non] _) _
    bv_omega
    refine ⟨fun hb => (nomatch hb), fun hb => ?_⟩
    bv_omega
    refine ⟨fun hb => (nomatch hb), fun hb => ?_⟩
    bv_omega
    exact ⟨by rw [← pe]; rfl, rfl⟩
  | some h =>
    change Wp (evE _ _ [_, _, _, _, .val (nT h)] _) _
    bv_omega
    refine ⟨fun _ => ?_, fun hb => (nomatch hb)⟩
    bv_omega
    refine k_notin ?_
    bv_omega
    have hl : h < r.sizes.length := go h rfl
    refine ⟨fun hb => ?_, fun hb => ?_⟩
    · have nh : h ∉ row := by simpa using hb
      rw [show pth (r.full fl) (r.nxt kd) (m + 1) row (some h) = if r.full fl h then pth (r.full fl) (r.nxt kd) m (row ++ [h]) (r.nxt kd h) else (row ++ [h], some h) from if_neg nh] at pe
      bv_omega
      refine k_chO rfl (app_ok (by rw [List.length_map]; have := ok.n2; omega)) ?_
      bv_omega
      refine k_ixT (at_nT (by rw [fo.l]; exact hl)) ?_
      bv_omega
      refine k_ixT (at_nT hl) ?_
      bv_omega
      refine ⟨fun hb => ?_, fun hb => ?_⟩
      · have hb := of_decide_eq_true hb
        rw [if_neg (by unfold Ra.full; intro z; have := of_decide_eq_true z; omega)] at pe
        bv_omega
        exact ⟨by rw [← pe]; unfold nsT; rw [List.map_append]; rfl, rfl⟩
      · have hb := of_decide_eq_false hb
        rw [if_pos (by unfold Ra.full; have := fo.le h hl; exact decide_eq_true (by omega))] at pe
        bv_omega
        refine k_ixT (at_wayT (by rw [ok.wl]; exact hk)) ?_
        bv_omega
        refine k_ixT (at_goT (by rw [hw.1]; exact hl)) ?_
        bv_omega
        refine ⟨m, Nat.lt_succ_self m, row ++ [h], r.nxt kd h, by rw [List.map_append]; rfl, rfl, nod_app nd nh, ?_, hw.2 _ (getD_mem (by rw [hw.1]; exact hl)), pe, by rw [List.length_append, List.length_singleton]; omega⟩
        intro x hx
        rcases List.mem_append.mp hx with hx | hx
        · exact lt x hx
        · rw [List.mem_singleton.mp hx]; exact hl
    · have nh : h ∈ row := by simpa using hb
      rw [show pth (r.full fl) (r.nxt kd) (m + 1) row (some h) = (row, none) from if_pos nh] at pe
      bv_omega
      exact ⟨by rw [← pe]; rfl, rfl⟩
def bump (fl : List Nat) (h : Nat) : List Nat := fl.take h ++ [fl.getD h 0 + 1] ++ fl.drop (h + 1)
def Ra.after (r : Ra) (fl : List Nat) (k : Nat) : List Nat := match (r.path fl k).2 with
  | none => fl
  | some h => bump fl h
theorem pth_lt {full : Nat → Bool} {nxt : Nat → Option Nat} {n : Nat} (hn : ∀ h, h < n → goOk n (nxt h)) : ∀ (f : Nat) {row : List Nat} {here : Option Nat}, goOk n here → goOk n (pth full nxt f row here).2
  | 0, _, _, _ => (fun j h => nomatch h)
  | _ + 1, _, none, _ => (fun j h => nomatch h)
  | f + 1, row, some h, g => by
    unfold pth
    split
    · exact (fun j h => nomatch h)
    · split
      · exact pth_lt hn f (hn h (g h rfl))
      · exact (fun j z => by cases z; exact g h rfl)
theorem Ra.nxt_ok {r : Ra} {mh mk : Nat} (ok : r.Ok mh mk) {kd : Nat} (hk : kd < r.homes.length) : ∀ h, h < r.sizes.length → goOk r.sizes.length (r.nxt kd h) := fun h hl => by
  have hw : wayOk r.sizes.length (r.ways.getD kd []) := ok.w _ (getD_mem (by rw [ok.wl]; exact hk))
  exact hw.2 _ (getD_mem (by rw [hw.1]; exact hl))
theorem Ra.path_lt {r : Ra} {mh mk : Nat} (ok : r.Ok mh mk) {fl : List Nat} {kd : Nat} (hk : kd < r.homes.length) : goOk r.sizes.length (r.path fl kd).2 :=
  pth_lt (r.nxt_ok ok hk) _ (fun j h => by cases h; exact ok.h _ (getD_mem hk))
theorem cut_nT {l : List Nat} {i : Nat} : cutT (l.map nT) none (some (i : Int)) = (l.take i).map nT := by rw [cut_to, List.map_take]
theorem cut_nT' {l : List Nat} {i : Nat} : cutT (l.map nT) (some ((i : Int) + 1)) none = (l.drop (i + 1)).map nT := by rw [show ((i : Int) + 1) = ((i + 1 : Nat) : Int) by omega, cut_from, List.map_drop]
theorem bump_T {l : List Nat} {h : Nat} : cutT (l.map nT) none (some (h : Int)) ++ [T.int ((l.getD h 0 : Int) + 1)] ++ cutT (l.map nT) (some ((h : Int) + 1)) none = (bump l h).map nT := by
  rw [cut_nT, cut_nT']
  unfold bump
  rw [List.map_append, List.map_append]
  rfl
theorem cut_len {l : List Nat} {i : Nat} : (cutT (l.map nT) none (some (i : Int))).length ≤ l.length := by rw [cut_nT, List.length_map, List.length_take]; omega
theorem cut_len' {l : List Nat} {i : Nat} : (cutT (l.map nT) (some ((i : Int) + 1)) none).length ≤ l.length := by rw [cut_nT', List.length_map, List.length_drop]; omega
def c_law_next_37 : FDef := ⟨3, 4, (.cons (.set 3 false (.ix (.call 36 (.cons (.var 0) (.cons (.var 1) (.cons (.var 2) .nil)))) (.int 1))) (.cons (.ret (.ife (.cmp .is (.var 3) (.non)) (.var 1) (.bin .add (.bin .add (.sl (.var 1) .none (.some (.var 3))) (.tup (.cons (.bin .add (.ix (.var 1) (.var 3)) (.int 1)) .nil))) (.sl (.var 1) (.some (.bin .add (.var 3) (.int 1))) .none)))) .nil))⟩
theorem next_law {P : Prog} {k : Nat} [Has P 36 c_law_path_36] [Has P 37 c_law_next_37] {S : Store} {r : Ra} {mh mk : Nat} (ok : r.Ok mh mk) (hm : mh < 900) {fl : List Nat} (fo : FiOk r fl) {kd : Nat} (hk : kd < r.homes.length) :
    Wp ((lev P (k + 2)).call 37 [r.told, nsT fl, nT kd] S) fun y S' => y = .val (nsT (r.after fl kd)) ∧ S' = S := by
  have lb := lim_big
  have sl := ok.n2
  have fl2 := fo.l
  refine wp_call Has.at_ rfl ?_
  change WS (exB (lev P (k + 1)) _ [.val r.told, .val (.tup (fl.map nT)), .val (nT kd), .un] S) _ _ _ _
  unfold c_law_next_37
  bv_omega
  refine (path_law ok hm fo hk).mono ?_
  rintro y S' ⟨rfl, rfl⟩
  bv_omega
  have pl := r.path_lt ok (fl := fl) hk
  unfold Ra.after
  cases hp : (r.path fl kd).2 with
  | none =>
    refine ⟨fun hb => ?_, fun hb => (nomatch hb)⟩
    bv_omega
    exact ⟨rfl, rfl⟩
  | some h =>
    have hl := pl h hp
    rw [show goT (some h) = nT h from rfl]
    refine ⟨fun hb => (nomatch hb), fun hb => ?_⟩
    bv_omega
    refine ⟨(h : Int), rfl, ?_⟩
    bv_omega
    refine k_ixT (at_nT (i := h) (by omega)) ?_
    bv_omega
    refine k_addT (by have := cut_len (l := fl) (i := h); rw [List.length_singleton]; omega) ?_
    bv_omega
    refine ⟨_, rfl, ?_⟩
    bv_omega
    refine k_addT (by have := cut_len (l := fl) (i := h); have := cut_len' (l := fl) (i := h); rw [List.length_append, List.length_singleton]; omega) ?_
    bv_omega
    exact ⟨congrArg (fun l => R.val (T.tup l)) bump_T, rfl⟩
def c_law_empty_38 : FDef := ⟨1, 1, (.cons (.ret (.bin .mul (.tup (.cons (.int 0) .nil)) (.bi .len (.cons (.ix (.var 0) (.int 0)) .nil)))) .nil)⟩
theorem empty_law {P : Prog} {k : Nat} [Has P 38 c_law_empty_38] {S : Store} {r : Ra} {mh mk : Nat} (ok : r.Ok mh mk) (hm : mh < 900) :
    Wp ((lev P (k + 1)).call 38 [r.told] S) fun y S' => y = .val (nsT (List.replicate r.sizes.length 0)) ∧ S' = S := by
  have lb := lim_big
  have sl := ok.n2
  refine wp_call Has.at_ rfl ?_
  change WS (exB (lev P k) _ [.val (.tup [.tup (r.sizes.map nT), .tup (r.homes.map nT), .tup (r.ways.map wayT)])] S) _ _ _ _
  unfold c_law_empty_38
  bv_omega
  rw [List.length_map]
  refine k_mulT (by
    rw [Bool.and_eq_true, Bool.and_eq_true]
    exact ⟨⟨decide_eq_true (by omega), decide_eq_true (by omega)⟩, rfl⟩) ?_
  bv_omega
  exact ⟨by rw [Int.toNat_natCast, List.flatten_replicate_singleton]; unfold nsT; rw [List.map_replicate]; rfl, rfl⟩
def c_law_churn_31 : FDef := ⟨2, 5, (.cons (.set 2 false (.ife (.cmp .lt (.var 1) (.bi .len (.cons (.var 0) .nil))) (.bi .int (.cons (.ix (.var 0) (.var 1)) .nil)) (.bin .add (.bin .mul (.int 79) (.var 1)) (.int 43)))) (.cons (.set 3 false (.bin .add (.int 80021) (.bin .mul (.int 2003) (.var 1)))) (.cons (.sfor (.name 4) (.ce (.sl (.var 0) .none (.some (.int 16)))) (.cons (.set 3 false (.bin .mod (.bi .int (.cons (.bin .add (.bin .mul (.var 3) (.int 47051)) (.bin .mod (.bi .int (.cons (.var 4) .nil)) (.int 1999999487))) .nil)) (.int 1999999487))) .nil)) (.cons (.ret (.lst (.cons (.ife (.bor (.cmp .lt (.var 2) (.int 0)) (.cmp .ge (.var 2) (.bin .pow (.int 10) (.int 14)))) (.bi .abs (.cons (.var 2) .nil)) (.int 0)) (.cons (.int 11) (.cons (.bin .mod (.bi .int (.cons (.bin .add (.bin .mul (.var 3) (.int 47)) (.bin .mod (.var 2) (.int 1999999487))) .nil)) (.int 1999999487)) .nil))))) .nil))))⟩
theorem churn_law {P : Prog} {k : Nat} [Has P 31 c_law_churn_31] {S : Store} {ns : List Int} {i : Nat} (hi : i < 1000) (hn : ns.length ≤ 1000) :
    Wp ((lev P (k + 1)).call 31 [.lst (ns.map .int), .int (i : Int)] S) fun y S' => (∃ o c x : Int, y = .fresh (.lst [.int o, .int c, .int x])) ∧ S' = S := by
  have lb := lim_big
  refine wp_call Has.at_ rfl ?_
  change WS (exB (lev P k) _ [.val (.lst (ns.map .int)), .val (.int (i : Int)), .un, .un, .un] S) _ _ _ _
  unfold c_law_churn_31
  refine i_cons (i_set (Wp.mono (Q := fun x S1 => ∃ w : Int, x = .val (.int w) ∧ S1 = S) ?_ ?_))
  · bv_omega
    refine ⟨fun hb => ?_, fun hb => ?_⟩
    · have hb := of_decide_eq_true hb
      rw [List.length_map] at hb
      bv_omega
      refine k_ixL (getmap (i := i) (by omega)) ?_
      bv_omega
      exact ⟨_, rfl, rfl⟩
    · bv_omega
      exact ⟨_, rfl, rfl⟩
  rintro x S1 ⟨w, rfl, rfl⟩
  bv_omega
  refine ⟨_, rfl, ?_⟩
  bv_omega
  refine ⟨_, _, rfl, ?_⟩
  refine ws_for (fun _ env S' => ∃ (x y : Int) (z : Slot), env = [.val (.lst (ns.map .int)), .val (.int (i : Int)), .val (.int w), .val (.int x), z] ∧ S' = S1) _ 0 ⟨_, 0, _, rfl, rfl⟩ ?_ ?_
  · rintro n t env S' ht ⟨x, y, z, rfl, rfl⟩
    obtain ⟨u, rfl⟩ : ∃ u : Int, t = .int u := by
      have h2 := List.mem_of_getElem? ht
      rw [show (16 : Int) = ((16 : Nat) : Int) from rfl, cut_to] at h2
      obtain ⟨u, _, rfl⟩ := List.mem_map.mp (List.mem_of_mem_take h2)
      exact ⟨u, rfl⟩
    refine ⟨_, rfl, ?_⟩
    bv_omega
    exact ⟨_, 0, _, rfl, rfl⟩
  · rintro env S' ⟨x, y, z, rfl, rfl⟩
    refine i_cons (i_ret (i_lst (i_acons (Wp.mono (Q := fun x S1 => ∃ w : Int, x = .val (.int w) ∧ S1 = S') ?_ ?_))))
    · bv_omega
      refine ⟨fun hb => ?_, fun hb => ?_⟩
      · bv_omega
        refine ⟨fun hb => ?_, fun hb => ?_⟩
        · bv_omega
          exact ⟨_, rfl, rfl⟩
        · bv_omega
          exact ⟨_, rfl, rfl⟩
      · bv_omega
        refine k_powI rfl ?_
        bv_omega
        refine ⟨fun hb => ?_, fun hb => ?_⟩
        · bv_omega
          exact ⟨_, rfl, rfl⟩
        · bv_omega
          exact ⟨_, rfl, rfl⟩
    rintro x S1 ⟨w, rfl, rfl⟩
    bv_omega
    exact ⟨⟨_, _, _, rfl⟩, rfl⟩
end Z
set_option Elab.async false
set_option linter.all false
set_option maxRecDepth 100000
set_option maxHeartbeats 1000000
namespace Z
open PySem
theorem ex_int {a : Int} {p : Int → Prop} (h : p a) : ∃ i, R.val (.int a) = R.val (.int i) ∧ p i := ⟨a, rfl, h⟩
theorem f_ok {env : Env} {S : Store} {x : R} {f : Nat} {t : T} {V : T → Prop} (h : fldR env S x f = some t) (v : V t) : ∃ t, fldR env S x f = some t ∧ V t := ⟨t, h, v⟩
theorem at_enum : ∀ {ts : List T} {i : Int} {n : Nat} {t : T}, (enumT i ts)[n]? = some t → ∃ x, t = .tup [.int (i + n), x] ∧ ts[n]? = some x
  | [], _, _, _, h => nomatch h
  | x :: ts, i, 0, t, h => by
    cases h
    exact ⟨x, by simp, rfl⟩
  | x :: ts, i, n + 1, t, h => by
    obtain ⟨y, e, e2⟩ := at_enum (ts := ts) (i := i + 1) (n := n) h
    exact ⟨y, by rw [e, show i + 1 + (n : Int) = i + ((n + 1 : Nat) : Int) by omega], e2⟩
theorem tt_ok {p q : Prop} (h : p) : (true = true → p) ∧ (true = false → q) := ⟨fun _ => h, (fun z => nomatch z)⟩
theorem ff_ok {p q : Prop} (h : q) : (false = true → p) ∧ (false = false → q) := ⟨(fun z => nomatch z), fun _ => h⟩
theorem nt_ok {p q : Prop} (h : q) : ((!true) = true → p) ∧ ((!true) = false → q) := ⟨(fun z => nomatch z), fun _ => h⟩
theorem nf_ok {p q : Prop} (h : p) : ((!false) = true → p) ∧ ((!false) = false → q) := ⟨fun _ => h, (fun z => nomatch z)⟩
theorem nn_ok {p q : Prop} (h : q) : ((!isNon (R.val .non)) = true → p) ∧ ((!isNon (R.val .non)) = false → q) := ⟨(fun z => nomatch z), fun _ => h⟩
theorem yn_ok {p q : Prop} (h : p) : ((isNon (R.val .non)) = true → p) ∧ ((isNon (R.val .non)) = false → q) := ⟨fun _ => h, (fun z => nomatch z)⟩
def CodeAt (P : Prog) (l : List (Nat × FDef)) : Prop := ∀ x ∈ l, P.fn x.1 = some x.2
local macro_rules | `(tactic| bv_omega) => `(tactic| repeat (first | (with_reducible refine i_cons ?_) | (with_reducible refine i_nil ?_) | (with_reducible refine i_set ?_) | (with_reducible refine i_par ?_) | (with_reducible refine i_par3 ?_) | (with_reducible refine i_asg ?_) | (with_reducible refine i_append ?_) | (with_reducible refine i_expr ?_) | (with_reducible refine i_ret ?_) | (with_reducible refine i_retN ?_) | (with_reducible refine i_brk ?_) | (with_reducible refine i_cnt ?_) | (with_reducible refine i_pass ?_) | (with_reducible refine i_sif ?_) | (with_reducible refine i_sfor ?_) | (with_reducible refine i_int ?_) | (with_reducible refine i_bl ?_) | (with_reducible refine i_str ?_) | (with_reducible refine i_non ?_) | (with_reducible refine i_tup ?_) | (with_reducible refine i_lst ?_) | (with_reducible refine i_bin ?_) | (with_reducible refine i_neg ?_) | (with_reducible refine i_cmp ?_) | (with_reducible refine i_chain ?_) | (with_reducible refine i_band ?_) | (with_reducible refine i_bor ?_) | (with_reducible refine i_bnot ?_) | (with_reducible refine i_ife ?_) | (with_reducible refine i_ix ?_) | (with_reducible refine i_sl ?_) | (with_reducible refine i_onone ?_) | (with_reducible refine i_osome ?_) | (with_reducible refine i_fld ?_) | (with_reducible refine i_call ?_) | (with_reducible refine i_new ?_) | (with_reducible refine i_callk ?_) | (with_reducible refine i_isi ?_) | (with_reducible refine i_bi ?_) | (with_reducible refine i_anil ?_) | (with_reducible refine i_acons ?_) | (with_reducible refine i_bnil ?_) | (with_reducible refine i_bcons ?_) | (with_reducible refine i_ice ?_) | (with_reducible refine i_irange1 ?_) | (with_reducible refine i_ienum ?_) | (with_reducible refine i_lc0 ?_) | (with_reducible refine i_lc1 ?_) | (with_reducible refine i_item ?_) | (with_reducible refine i_itemT ?_) | (with_reducible refine i_tix ?_) | (with_reducible refine i_tname ?_) | (with_reducible refine i_tpair ?_) | (with_reducible refine i_ttrip ?_) | (with_reducible refine i_tfld ?_) | (with_reducible refine i_dnil ?_) | (with_reducible refine i_fstr ?_) | (with_reducible refine f_end ?_) | (with_reducible refine f_one ?_) | (with_reducible refine i_meth ?_) | (with_reducible refine i_prop ?_) | (with_reducible refine i_spc ?_) | (with_reducible refine i_mb ?_) | (with_reducible refine i_tups ?_) | (with_reducible refine i_augf ?_) | (with_reducible refine i_lam ?_) | (with_reducible refine i_stry ?_) | (with_reducible refine i_raise1 ?_) | (with_reducible refine i_raise0 ?_) | (with_reducible refine h_nil ?_) | (with_reducible refine i_var (by with_unfolding_all exact rfl) ?_) | (with_reducible refine i_own (by with_unfolding_all exact rfl) ?_) | (with_reducible refine and_isL (by with_unfolding_all exact rfl) ?_) | ((with_reducible change EvK _ _ _ _ _ _); first | (with_reducible refine e_is ?_) | (with_reducible refine e_isnot ?_) | (with_reducible refine e_cmp' (by decide) (by decide) ?_)) | ((with_reducible change BinK _ _ _ _ _); first | (with_reducible refine k_addI ?_) | (with_reducible refine k_subI ?_) | (with_reducible refine k_mulI (by first | exact Bool.or_eq_true_iff.mpr (.inr (by decide)) | exact Bool.or_eq_true_iff.mpr (.inl (by decide))) ?_) | (with_reducible refine k_fdivI (by first | decide | assumption | omega) (by first | decide | assumption | omega) ?_) | (with_reducible refine k_modI (by first | decide | assumption | omega) ?_)) | ((with_reducible change CmpK _ _ _ _ _); first | (with_reducible refine k_eqI ?_) | (with_reducible refine k_neI ?_) | (with_reducible refine k_ltI ?_) | (with_reducible refine k_leI ?_) | (with_reducible refine k_gtI ?_) | (with_reducible refine k_geI ?_)) | ((with_reducible change TruK _ _); first | (with_reducible refine k_trB ?_)) | ((with_reducible change SinkK _ _); first | (with_reducible refine k_sink ?_) | (with_reducible refine k_sinkO (by with_unfolding_all exact rfl) ?_)) | ((with_reducible change SlotK _ _); first | (with_reducible refine k_slot ?_) | (with_reducible refine k_slotF ?_)) | ((with_reducible change RetK _ _ _ _); first | (with_reducible refine k_retV ?_) | (with_reducible refine k_retF ?_)) | ((with_reducible change SlK _ _ _ _ _); first | (with_reducible refine k_slT ?_) | (with_reducible refine k_slL ?_)) | ((with_reducible change ChK _ _); first | (refine k_ch ?_) | (refine k_chR (by first | assumption | exact get_set (by assumption) | exact get_set (get_set (by assumption)) | exact get_set (get_set (get_set (by assumption)))) (by exact rfl) ?_)) | ((with_reducible change IxK _ _ _ _); first | (refine k_ixR (by first | assumption | exact get_set (by assumption) | exact get_set (get_set (by assumption)) | exact get_set (get_set (get_set (by assumption)))) (by exact rfl) ?_) | (refine k_ix (by exact rfl) ?_)) | ((with_reducible change BiK _ _ _ _); first | (with_reducible refine k_listT ?_) | (with_reducible refine k_bint ?_) | (with_reducible refine k_lenT ?_) | (with_reducible refine k_lenL ?_) | (with_reducible refine k_tupL ?_) | (with_reducible refine k_tupT ?_) | (with_reducible refine k_abs ?_) | (with_reducible refine k_min2 ?_) | (with_reducible refine k_max2 ?_) | (with_reducible refine k_lrange (by omega) ?_) | (with_reducible refine k_divmod (by first | decide | assumption | omega) (by first | decide | assumption | omega) ?_)) | (with_reducible refine tt_ok ?_) | (with_reducible refine ff_ok ?_) | (with_reducible refine nt_ok ?_) | (with_reducible refine nf_ok ?_) | (with_reducible refine nn_ok ?_) | (with_reducible refine yn_ok ?_) | (with_reducible refine ex_int ?_) | (with_reducible refine f_ok (by with_unfolding_all exact rfl) ?_) | (with_reducible refine i_conH ?_)))
def c_is_between_6 : FDef := ⟨3, 3, (.cons (.ret (.band (.isi (.var 0) [.int]) (.band (.bnot (.isi (.var 0) [.bool])) (.chain .le .le (.var 1) (.var 0) (.var 2))))) .nil)⟩
def c_wrong_integer_7 : FDef := ⟨3, 5, (.cons (.sfor (.tup (.cons (.name 3) (.cons (.name 4) .nil))) (.enum (.var 0)) (.cons (.sif (.bnot (.call 6 (.cons (.var 4) (.cons (.var 1) (.cons (.var 2) .nil))))) (.cons (.ret (.var 3)) .nil) .nil) .nil)) (.cons (.ret (.non)) .nil))⟩
def c_is_goal_8 : FDef := ⟨2, 2, (.cons (.ret (.bor (.cmp .is (.var 0) (.non)) (.call 6 (.cons (.var 0) (.cons (.int 0) (.cons (.bin .sub (.var 1) (.int 1)) .nil)))))) .nil)⟩
def c_are_goals_9 : FDef := ⟨2, 3, (.cons (.ret (.band (.isi (.var 0) [.tuple]) (.band (.cmp .eq (.bi .len (.cons (.var 0) .nil)) (.var 1)) (.bi .all (.cons (.lc (.name 2) (.ce (.var 0)) .none (.call 8 (.cons (.var 2) (.cons (.var 1) .nil)))) .nil))))) .nil)⟩
theorem between_ok {P : Prog} {k : Nat} [Has P 6 c_is_between_6] {S : Store} {v lo hi : Int} (h1 : lo ≤ v) (h2 : v ≤ hi) :
    Wp ((lev P (k + 1)).call 6 [.int v, .int lo, .int hi] S) fun y S' => y = .val (.bl true) ∧ S' = S := by
  refine wp_call Has.at_ rfl ?_
  change WS (exB (lev P k) _ [.val (.int v), .val (.int lo), .val (.int hi)] S) _ _ _ _
  unfold c_is_between_6
  bv_omega
  refine k_isi rfl ?_
  bv_omega
  refine k_isi rfl ?_
  bv_omega
  refine ⟨fun _ => ?_, fun hb => absurd (of_decide_eq_false hb) (fun z => z h1)⟩
  bv_omega
  rw [decide_eq_true h2]
  bv_omega
  exact ⟨rfl, rfl⟩
theorem wrong_int_ok {P : Prog} {k : Nat} [Has P 6 c_is_between_6] [Has P 7 c_wrong_integer_7] {S : Store} {l : List Nat} {lo hi : Int} (h : ∀ x ∈ l, lo ≤ (x : Int) ∧ (x : Int) ≤ hi) :
    Wp ((lev P (k + 2)).call 7 [nsT l, .int lo, .int hi] S) fun y S' => y = .val .non ∧ S' = S := by
  refine wp_call Has.at_ rfl ?_
  change WS (exB (lev P (k + 1)) _ [.val (nsT l), .val (.int lo), .val (.int hi), .un, .un] S) _ _ _ _
  unfold c_wrong_integer_7
  bv_omega
  refine ⟨_, _, rfl, ?_⟩
  refine ws_for (fun _ env S' => ∃ (a b : Slot), env = [.val (nsT l), .val (.int lo), .val (.int hi), a, b] ∧ S' = S) _ 0 ⟨_, _, rfl, rfl⟩ ?_ ?_
  · rintro n t env S' ht ⟨a, b, rfl, rfl⟩
    obtain ⟨y, rfl, hy⟩ := at_enum ht
    obtain ⟨u, hu, rfl⟩ := List.mem_map.mp (List.mem_of_getElem? hy)
    refine ⟨_, rfl, ?_⟩
    bv_omega
    refine (between_ok (h u hu).1 (h u hu).2).mono ?_
    rintro y S1 ⟨rfl, rfl⟩
    bv_omega
    exact ⟨_, _, rfl, rfl⟩
  · rintro env S' ⟨a, b, rfl, rfl⟩
    bv_omega
    exact ⟨rfl, rfl⟩
theorem is_goal_ok {P : Prog} {k : Nat} [Has P 6 c_is_between_6] [Has P 8 c_is_goal_8] {S : Store} {n : Nat} {g : Option Nat} (h : goOk n g) :
    Wp ((lev P (k + 2)).call 8 [goT g, nT n] S) fun y S' => y = .val (.bl true) ∧ S' = S := by
  refine wp_call Has.at_ rfl ?_
  change WS (exB (lev P (k + 1)) _ [.val (goT g), .val (nT n)] S) _ _ _ _
  unfold c_is_goal_8
  bv_omega
  cases g with
  | none =>
    refine ⟨fun _ => ?_, fun hb => (nomatch hb)⟩
    bv_omega
    exact ⟨rfl, rfl⟩
  | some j =>
    have := h j rfl
    refine ⟨fun hb => (nomatch hb), fun _ => ?_⟩
    bv_omega
    refine (between_ok (v := (j : Int)) (by omega) (by omega)).mono ?_
    rintro y S1 ⟨rfl, rfl⟩
    bv_omega
    exact ⟨rfl, rfl⟩
theorem all_true : ∀ n : Nat, biT .all [.lst (List.replicate n (.bl true))] = some (.val (.bl true)) := fun n => by
  have h : blsT (List.replicate n (T.bl true)) = some (List.replicate n true) := by
    induction n with
    | zero => rfl
    | succ n ih => rw [List.replicate_succ, List.replicate_succ]; unfold blsT; rw [ih]
  show (match blsT _ with | some l => some (R.val (.bl (l.all id))) | none => none) = _
  rw [h]
  simp
theorem are_goals_ok {P : Prog} {k : Nat} [Has P 6 c_is_between_6] [Has P 8 c_is_goal_8] [Has P 9 c_are_goals_9] {S : Store} {n : Nat} {w : List (Option Nat)} (h : wayOk n w) (hn : n < 1000) :
    Wp ((lev P (k + 3)).call 9 [.tup (w.map goT), nT n] S) fun y S' => y = .val (.bl true) ∧ S' = S := by
  have lb := lim_big
  refine wp_call Has.at_ rfl ?_
  change WS (exB (lev P (k + 2)) _ [.val (.tup (w.map goT)), .val (nT n), .un] S) _ _ _ _
  unfold c_are_goals_9
  bv_omega
  refine k_isi rfl ?_
  bv_omega
  rw [List.length_map, h.1, decide_eq_true rfl]
  bv_omega
  refine ⟨_, _, rfl, ?_⟩
  refine wp_comp (fun S' => S' = S) (fun _ x => x = .bl true) _ rfl ?_ ?_
  · rintro t ht S' rfl
    obtain ⟨g, hg, rfl⟩ := List.mem_map.mp ht
    refine ⟨_, rfl, ?_⟩
    refine i_item ?_
    bv_omega
    refine (is_goal_ok (h.2 g hg)).mono ?_
    rintro y S1 ⟨rfl, rfl⟩
    bv_omega
    exact ⟨_, rfl, rfl, rfl⟩
  · rintro l S' hl hp rfl
    obtain ⟨j, rfl⟩ : ∃ j, l = List.replicate j (.bl true) := ⟨l.length, List.eq_replicate_iff.mpr ⟨rfl, fun b hb => by
      obtain ⟨i, hi⟩ := List.mem_iff_getElem?.mp hb
      have hi2 : i < (w.map goT).length := by rw [← hl]; exact (List.getElem?_eq_some_iff.mp hi).1
      exact hp i _ b (List.getElem?_eq_getElem hi2) hi⟩⟩
    rw [List.length_map, List.length_replicate] at hl
    refine ⟨by rw [List.length_replicate, hl, h.1]; omega, ?_⟩
    bv_omega
    refine k_bi (all_true _) ?_
    bv_omega
    exact ⟨rfl, rfl⟩
def c_check_sizes_10 : FDef := ⟨1, 2, (.cons (.sif (.bor (.bnot (.isi (.var 0) [.tuple])) (.bnot (.chain .le .le (.int 1) (.bi .len (.cons (.var 0) .nil)) (.con 1)))) (.cons (.raise 0 (.cons (.non) .nil)) .nil) .nil) (.cons (.set 1 false (.call 7 (.cons (.var 0) (.cons (.int 1) (.cons (.con 0) .nil))))) (.cons (.sif (.cmp .isnot (.var 1) (.non)) (.cons (.raise 0 (.cons (.var 1) .nil)) .nil) .nil) .nil)))⟩
def c_check_homes_11 : FDef := ⟨2, 3, (.cons (.sif (.bor (.bnot (.isi (.var 0) [.tuple])) (.bnot (.chain .le .le (.int 1) (.bi .len (.cons (.var 0) .nil)) (.con 2)))) (.cons (.raise 1 (.cons (.non) .nil)) .nil) .nil) (.cons (.set 2 false (.call 7 (.cons (.var 0) (.cons (.int 0) (.cons (.bin .sub (.var 1) (.int 1)) .nil))))) (.cons (.sif (.cmp .isnot (.var 2) (.non)) (.cons (.raise 1 (.cons (.var 2) .nil)) .nil) .nil) .nil)))⟩
def c_check_ways_12 : FDef := ⟨3, 5, (.cons (.sif (.bor (.bnot (.isi (.var 0) [.tuple])) (.cmp .ne (.bi .len (.cons (.var 0) .nil)) (.var 1))) (.cons (.raise 2 (.cons (.non) .nil)) .nil) .nil) (.cons (.sfor (.tup (.cons (.name 3) (.cons (.name 4) .nil))) (.enum (.var 0)) (.cons (.sif (.bnot (.call 9 (.cons (.var 4) (.cons (.var 2) .nil)))) (.cons (.raise 2 (.cons (.var 3) .nil)) .nil) .nil) .nil)) .nil))⟩
theorem sizes_ok {P : Prog} {k : Nat} [Has P 6 c_is_between_6] [Has P 7 c_wrong_integer_7] [Has P 10 c_check_sizes_10] [HasK P 0 (.int 3)] [HasK P 1 (.int 8)] {S : Store} {r : Ra} {mk : Nat} (ok : r.Ok 8 mk) :
    Wp ((lev P (k + 3)).call 10 [nsT r.sizes] S) fun y S' => y = .val .non ∧ S' = S := by
  refine wp_call Has.at_ rfl ?_
  change WS (exB (lev P (k + 2)) _ [.val (nsT r.sizes), .un] S) _ _ _ _
  unfold c_check_sizes_10
  have n1 := ok.n1
  have n2 := ok.n2
  bv_omega
  refine k_isi rfl ?_
  bv_omega
  rw [List.length_map, show decide ((1 : Int) ≤ (r.sizes.length : Int)) = true from decide_eq_true (by omega)]
  bv_omega
  rw [show decide ((r.sizes.length : Int) ≤ 8) = true from decide_eq_true (by omega)]
  bv_omega
  refine (wrong_int_ok fun x hx => ?_).mono ?_
  · have := ok.s1 x hx
    omega
  rintro y S1 ⟨rfl, rfl⟩
  bv_omega
  exact ⟨rfl, rfl⟩
theorem homes_ok {P : Prog} {k : Nat} [Has P 6 c_is_between_6] [Has P 7 c_wrong_integer_7] [Has P 11 c_check_homes_11] [HasK P 2 (.int 8)] {S : Store} {r : Ra} {mh mk : Nat} (ok : r.Ok mh mk) (hk : mk ≤ 8) :
    Wp ((lev P (k + 3)).call 11 [nsT r.homes, nT r.sizes.length] S) fun y S' => y = .val .non ∧ S' = S := by
  refine wp_call Has.at_ rfl ?_
  change WS (exB (lev P (k + 2)) _ [.val (nsT r.homes), .val (nT r.sizes.length), .un] S) _ _ _ _
  unfold c_check_homes_11
  have n1 := ok.k1
  have n2 := ok.k2
  bv_omega
  refine k_isi rfl ?_
  bv_omega
  rw [List.length_map, show decide ((1 : Int) ≤ (r.homes.length : Int)) = true from decide_eq_true (by omega)]
  bv_omega
  rw [show decide ((r.homes.length : Int) ≤ 8) = true from decide_eq_true (by omega)]
  bv_omega
  refine (wrong_int_ok fun x hx => ?_).mono ?_
  · have := ok.h x hx
    omega
  rintro y S1 ⟨rfl, rfl⟩
  bv_omega
  exact ⟨rfl, rfl⟩
theorem ways_ok {P : Prog} {k : Nat} [Has P 6 c_is_between_6] [Has P 8 c_is_goal_8] [Has P 9 c_are_goals_9] [Has P 12 c_check_ways_12] {S : Store} {r : Ra} {mh mk : Nat} (ok : r.Ok mh mk) (hm : mh < 900) :
    Wp ((lev P (k + 4)).call 12 [.tup (r.ways.map wayT), nT r.homes.length, nT r.sizes.length] S) fun y S' => y = .val .non ∧ S' = S := by
  refine wp_call Has.at_ rfl ?_
  change WS (exB (lev P (k + 3)) _ [.val (.tup (r.ways.map wayT)), .val (nT r.homes.length), .val (nT r.sizes.length), .un, .un] S) _ _ _ _
  unfold c_check_ways_12
  have n1 := ok.n2
  bv_omega
  refine k_isi rfl ?_
  bv_omega
  rw [List.length_map, ok.wl, decide_eq_true rfl]
  bv_omega
  refine ⟨_, _, rfl, ?_⟩
  refine ws_for (fun _ env S' => ∃ (a b : Slot), env = [.val (.tup (r.ways.map wayT)), .val (nT r.homes.length), .val (nT r.sizes.length), a, b] ∧ S' = S) _ 0 ⟨_, _, rfl, rfl⟩ ?_ ?_
  · rintro n t env S' ht ⟨a, b, rfl, rfl⟩
    obtain ⟨y, rfl, hy⟩ := at_enum ht
    obtain ⟨u, hu, rfl⟩ := List.mem_map.mp (List.mem_of_getElem? hy)
    refine ⟨_, rfl, ?_⟩
    bv_omega
    refine (are_goals_ok (ok.w u hu) (by omega)).mono ?_
    rintro y S1 ⟨rfl, rfl⟩
    bv_omega
    exact ⟨_, _, rfl, rfl⟩
  · rintro env S' ⟨a, b, rfl, rfl⟩
    bv_omega
    exact ⟨rfl, rfl⟩
abbrev Ra.inst (r : Ra) : T := .ins 0 [nsT r.sizes, nsT r.homes, .tup (r.ways.map wayT), r.told]
def c_Rail___init_13 : FDef := ⟨4, 4, (.cons (.expr (.call 10 (.cons (.var 1) .nil))) (.cons (.expr (.call 11 (.cons (.var 2) (.cons (.bi .len (.cons (.var 1) .nil)) .nil)))) (.cons (.expr (.call 12 (.cons (.var 3) (.cons (.bi .len (.cons (.var 2) .nil)) (.cons (.bi .len (.cons (.var 1) .nil)) .nil))))) (.cons (.asg (.fld (.var 0) 0) (.var 1)) (.cons (.asg (.fld (.var 0) 1) (.var 2)) (.cons (.asg (.fld (.var 0) 2) (.var 3)) (.cons (.asg (.fld (.var 0) 3) (.tup (.cons (.var 1) (.cons (.var 2) (.cons (.var 3) .nil))))) .nil)))))))⟩
theorem wp_runI {C : EC} {c : Nat} {cd : CDef} {fd : FDef} {ts : List T} {S : Store} {V : R → Store → Prop} (h : ts.length + 1 = fd.np)
    (w : WS (exB C fd.body (slots fd.nl (.own (.ins c (List.replicate cd.nf none)) :: ts.map Slot.val)) S) (fun env S' => ∃ o, env[0]? = some (.own o) ∧ V (.fresh o) S') (fun _ _ => False) (fun _ _ => False) (fun _ _ => False)) : Wp (runI C c cd fd ts S) V := by
  unfold runI
  rw [show (ts.length + 1 == fd.np) = true by simpa using h]
  dsimp only
  cases q : exB C fd.body (slots fd.nl (.own (.ins c (List.replicate cd.nf none)) :: ts.map Slot.val)) S with
  | nx e s =>
    rw [q] at w
    obtain ⟨o, h1, h2⟩ := w
    dsimp only
    rw [h1]
    exact h2
  | bk e s => rw [q] at w; exact w.elim
  | ct e s => rw [q] at w; exact w.elim
  | rt x s => rw [q] at w; exact w.elim
  | _ => rw [q] at w; exact w.elim
theorem rail_new {P : Prog} {k : Nat} [Has P 6 c_is_between_6] [Has P 7 c_wrong_integer_7] [Has P 8 c_is_goal_8] [Has P 9 c_are_goals_9] [Has P 10 c_check_sizes_10] [Has P 11 c_check_homes_11] [Has P 12 c_check_ways_12] [Has P 13 c_Rail___init_13] [HasC P 0 ⟨13, 4⟩] [HasK P 0 (.int 3)] [HasK P 1 (.int 8)] [HasK P 2 (.int 8)] {S : Store} {r : Ra} {mk : Nat} (ok : r.Ok 8 mk) (hk : mk ≤ 8) :
    Wp ((lev P (k + 6)).new 0 [nsT r.sizes, nsT r.homes, .tup (r.ways.map wayT)] S) fun y S' => y = .fresh (.ins 0 [some (nsT r.sizes), some (nsT r.homes), some (.tup (r.ways.map wayT)), some r.told]) ∧ S' = S := by
  rw [lev_new (HasC.at_ (P := P) (i := 0)) (Has.at_ (P := P) (i := 13))]
  refine wp_runI rfl ?_
  change WS (exB (lev P (k + 4)) _ [.own (.ins 0 [none, none, none, none]), .val (nsT r.sizes), .val (nsT r.homes), .val (.tup (r.ways.map wayT))] S) _ _ _ _
  unfold c_Rail___init_13
  bv_omega
  refine (sizes_ok ok).mono ?_
  rintro y S1 ⟨rfl, rfl⟩
  bv_omega
  rw [List.length_map]
  refine (homes_ok ok hk).mono ?_
  rintro y S1 ⟨rfl, rfl⟩
  bv_omega
  rw [List.length_map, List.length_map]
  refine (ways_ok ok (by decide)).mono ?_
  rintro y S1 ⟨rfl, rfl⟩
  bv_omega
  exact ⟨_, rfl, rfl, rfl⟩
end Z
set_option Elab.async false
set_option linter.all false
set_option maxRecDepth 100000
set_option maxHeartbeats 1000000
namespace Z
open PySem
section
variable {S : Store} {V : R → Store → Prop}
theorem k_lastL {ts : List T} {t : T} (v : V (.val t) S) : IxK (some (.lst (ts ++ [t]))) (some (.int (-1))) S V := k_ix (show ixT (.lst (ts ++ [t])) (.int (-1)) = some t from atT_last) v
theorem k_lastT {ts : List T} {t : T} (v : V (.val t) S) : IxK (some (.tup (ts ++ [t]))) (some (.int (-1))) S V := k_ix (show ixT (.tup (ts ++ [t])) (.int (-1)) = some t from atT_last) v
end
theorem dec_nat {a b : Nat} : decide ((a : Int) = (b : Int)) = decide (a = b) := by
  by_cases h : a = b
  · rw [decide_eq_true h, decide_eq_true (by omega)]
  · rw [decide_eq_false h, decide_eq_false (by omega)]
local macro_rules | `(tactic| bv_omega) => `(tactic| repeat (first | (with_reducible refine i_cons ?_) | (with_reducible refine i_nil ?_) | (with_reducible refine i_set ?_) | (with_reducible refine i_par ?_) | (with_reducible refine i_par3 ?_) | (with_reducible refine i_asg ?_) | (with_reducible refine i_append ?_) | (with_reducible refine i_expr ?_) | (with_reducible refine i_ret ?_) | (with_reducible refine i_retN ?_) | (with_reducible refine i_brk ?_) | (with_reducible refine i_cnt ?_) | (with_reducible refine i_pass ?_) | (with_reducible refine i_sif ?_) | (with_reducible refine i_sfor ?_) | (with_reducible refine i_int ?_) | (with_reducible refine i_bl ?_) | (with_reducible refine i_str ?_) | (with_reducible refine i_non ?_) | (with_reducible refine i_tup ?_) | (with_reducible refine i_lst ?_) | (with_reducible refine i_bin ?_) | (with_reducible refine i_neg ?_) | (with_reducible refine i_cmp ?_) | (with_reducible refine i_chain ?_) | (with_reducible refine i_band ?_) | (with_reducible refine i_bor ?_) | (with_reducible refine i_bnot ?_) | (with_reducible refine i_ife ?_) | (with_reducible refine i_ix ?_) | (with_reducible refine i_sl ?_) | (with_reducible refine i_onone ?_) | (with_reducible refine i_osome ?_) | (with_reducible refine i_fld ?_) | (with_reducible refine i_call ?_) | (with_reducible refine i_new ?_) | (with_reducible refine i_callk ?_) | (with_reducible refine i_isi ?_) | (with_reducible refine i_bi ?_) | (with_reducible refine i_anil ?_) | (with_reducible refine i_acons ?_) | (with_reducible refine i_bnil ?_) | (with_reducible refine i_bcons ?_) | (with_reducible refine i_ice ?_) | (with_reducible refine i_irange1 ?_) | (with_reducible refine i_ienum ?_) | (with_reducible refine i_lc0 ?_) | (with_reducible refine i_lc1 ?_) | (with_reducible refine i_item ?_) | (with_reducible refine i_itemT ?_) | (with_reducible refine i_tix ?_) | (with_reducible refine i_tname ?_) | (with_reducible refine i_tpair ?_) | (with_reducible refine i_ttrip ?_) | (with_reducible refine i_tfld ?_) | (with_reducible refine i_dnil ?_) | (with_reducible refine i_fstr ?_) | (with_reducible refine f_end ?_) | (with_reducible refine f_one ?_) | (with_reducible refine i_meth ?_) | (with_reducible refine i_prop ?_) | (with_reducible refine i_spc ?_) | (with_reducible refine i_mb ?_) | (with_reducible refine i_tups ?_) | (with_reducible refine i_augf ?_) | (with_reducible refine i_lam ?_) | (with_reducible refine i_stry ?_) | (with_reducible refine i_raise1 ?_) | (with_reducible refine i_raise0 ?_) | (with_reducible refine h_nil ?_) | (with_reducible refine i_var (by with_unfolding_all exact rfl) ?_) | (with_reducible refine i_own (by with_unfolding_all exact rfl) ?_) | (with_reducible refine and_isL (by with_unfolding_all exact rfl) ?_) | ((with_reducible change EvK _ _ _ _ _ _); first | (with_reducible refine e_is ?_) | (with_reducible refine e_isnot ?_) | (with_reducible refine e_cmp' (by decide) (by decide) ?_)) | ((with_reducible change BinK _ _ _ _ _); first | (with_reducible refine k_addI ?_) | (with_reducible refine k_subI ?_) | (with_reducible refine k_mulI (by first | exact Bool.or_eq_true_iff.mpr (.inr (by decide)) | exact Bool.or_eq_true_iff.mpr (.inl (by decide))) ?_) | (with_reducible refine k_fdivI (by first | decide | assumption | omega) (by first | decide | assumption | omega) ?_) | (with_reducible refine k_modI (by first | decide | assumption | omega) ?_)) | ((with_reducible change CmpK _ _ _ _ _); first | (with_reducible refine k_eqI ?_) | (with_reducible refine k_neI ?_) | (with_reducible refine k_ltI ?_) | (with_reducible refine k_leI ?_) | (with_reducible refine k_gtI ?_) | (with_reducible refine k_geI ?_)) | ((with_reducible change TruK _ _); first | (with_reducible refine k_trB ?_)) | ((with_reducible change SinkK _ _); first | (with_reducible refine k_sink ?_) | (with_reducible refine k_sinkO (by with_unfolding_all exact rfl) ?_)) | ((with_reducible change SlotK _ _); first | (with_reducible refine k_slot ?_) | (with_reducible refine k_slotF ?_)) | ((with_reducible change RetK _ _ _ _); first | (with_reducible refine k_retV ?_) | (with_reducible refine k_retF ?_)) | ((with_reducible change SlK _ _ _ _ _); first | (with_reducible refine k_slT ?_) | (with_reducible refine k_slL ?_)) | ((with_reducible change ChK _ _); first | (refine k_ch ?_) | (refine k_chR (by first | assumption | exact get_set (by assumption) | exact get_set (get_set (by assumption)) | exact get_set (get_set (get_set (by assumption)))) (by exact rfl) ?_)) | ((with_reducible change IxK _ _ _ _); first | (refine k_ixR (by first | assumption | exact get_set (by assumption) | exact get_set (get_set (by assumption)) | exact get_set (get_set (get_set (by assumption)))) (by exact rfl) ?_) | (refine k_ix (by exact rfl) ?_)) | ((with_reducible change BiK _ _ _ _); first | (with_reducible refine k_listT ?_) | (with_reducible refine k_bint ?_) | (with_reducible refine k_lenT ?_) | (with_reducible refine k_lenL ?_) | (with_reducible refine k_tupL ?_) | (with_reducible refine k_tupT ?_) | (with_reducible refine k_abs ?_) | (with_reducible refine k_min2 ?_) | (with_reducible refine k_max2 ?_) | (with_reducible refine k_lrange (by omega) ?_) | (with_reducible refine k_divmod (by first | decide | assumption | omega) (by first | decide | assumption | omega) ?_)) | (with_reducible refine tt_ok ?_) | (with_reducible refine ff_ok ?_) | (with_reducible refine nt_ok ?_) | (with_reducible refine nf_ok ?_) | (with_reducible refine nn_ok ?_) | (with_reducible refine yn_ok ?_) | (with_reducible refine ex_int ?_) | (with_reducible refine f_ok (by with_unfolding_all exact rfl) ?_) | (with_reducible refine i_conH ?_)))
def c_check_rail_17 : FDef := ⟨1, 1, (.cons (.sif (.bnot (.isi (.var 0) [.own 0])) (.cons (.raise 5 (.cons (.var 0) .nil)) .nil) .nil) .nil)⟩
def c_wrong_count_18 : FDef := ⟨2, 4, (.cons (.sfor (.tup (.cons (.name 2) (.cons (.name 3) .nil))) (.enum (.var 1)) (.cons (.sif (.bnot (.call 6 (.cons (.var 3) (.cons (.int 0) (.cons (.ix (.fld (.var 0) 0) (.var 2)) .nil))))) (.cons (.ret (.var 2)) .nil) .nil) .nil)) (.cons (.ret (.non)) .nil))⟩
def c_check_fill_19 : FDef := ⟨2, 3, (.cons (.sif (.bor (.bnot (.isi (.var 1) [.tuple])) (.cmp .ne (.bi .len (.cons (.var 1) .nil)) (.bi .len (.cons (.fld (.var 0) 0) .nil)))) (.cons (.raise 18 (.cons (.non) .nil)) .nil) .nil) (.cons (.set 2 false (.call 18 (.cons (.var 0) (.cons (.var 1) .nil)))) (.cons (.sif (.cmp .isnot (.var 2) (.non)) (.cons (.raise 18 (.cons (.var 2) .nil)) .nil) .nil) .nil)))⟩
def c_is_kind_20 : FDef := ⟨2, 2, (.cons (.ret (.call 6 (.cons (.var 1) (.cons (.int 0) (.cons (.bin .sub (.bi .len (.cons (.fld (.var 0) 1) .nil)) (.int 1)) .nil))))) .nil)⟩
def c_check_kind_21 : FDef := ⟨2, 2, (.cons (.sif (.bnot (.call 20 (.cons (.var 0) (.cons (.var 1) .nil)))) (.cons (.raise 6 (.cons (.var 1) .nil)) .nil) .nil) .nil)⟩
def c_is_full_22 : FDef := ⟨3, 3, (.cons (.ret (.cmp .eq (.ix (.var 1) (.var 2)) (.ix (.fld (.var 0) 0) (.var 2)))) .nil)⟩
def c_looked_23 : FDef := ⟨3, 5, (.cons (.set 3 true (.lst (.cons (.ix (.fld (.var 0) 1) (.var 2)) .nil))) (.cons (.swhile (.call 22 (.cons (.var 0) (.cons (.var 1) (.cons (.ix (.var 3) (.neg (.int 1))) .nil)))) (.cons (.set 4 false (.ix (.ix (.fld (.var 0) 2) (.var 2)) (.ix (.var 3) (.neg (.int 1))))) (.cons (.sif (.bor (.cmp .is (.var 4) (.non)) (.cmp .isin (.var 4) (.var 3))) (.cons (.brk) .nil) .nil) (.cons (.append (.var 3) (.var 4)) .nil)))) (.cons (.ret (.bi .tuple (.cons (.var 3) .nil))) .nil)))⟩
def c_landed_24 : FDef := ⟨3, 4, (.cons (.set 3 false (.ix (.call 23 (.cons (.var 0) (.cons (.var 1) (.cons (.var 2) .nil)))) (.neg (.int 1)))) (.cons (.ret (.ife (.call 22 (.cons (.var 0) (.cons (.var 1) (.cons (.var 3) .nil)))) (.non) (.var 3))) .nil))⟩
def c_more_at_25 : FDef := ⟨3, 3, (.cons (.ret (.bin .add (.bin .add (.sl (.var 0) .none (.some (.var 1))) (.tup (.cons (.bin .add (.ix (.var 0) (.var 1)) (.var 2)) .nil))) (.sl (.var 0) (.some (.bin .add (.var 1) (.int 1))) .none))) .nil)⟩
def c_fill_after_26 : FDef := ⟨3, 4, (.cons (.set 3 false (.call 24 (.cons (.var 0) (.cons (.var 1) (.cons (.var 2) .nil))))) (.cons (.ret (.ife (.cmp .is (.var 3) (.non)) (.var 1) (.call 25 (.cons (.var 1) (.cons (.var 3) (.cons (.int 1) .nil)))))) .nil))⟩
def c_check_coat_27 : FDef := ⟨3, 3, (.cons (.expr (.call 17 (.cons (.var 0) .nil))) (.cons (.expr (.call 19 (.cons (.var 0) (.cons (.var 1) .nil)))) (.cons (.expr (.call 21 (.cons (.var 0) (.cons (.var 2) .nil)))) .nil)))⟩
section
variable {P : Prog} {k : Nat} {S : Store} {r : Ra} {mh mk : Nat} {fl : List Nat} {kd : Nat}
theorem check_rail_ok [Has P 17 c_check_rail_17] : Wp ((lev P (k + 1)).call 17 [r.inst] S) fun y S' => y = .val .non ∧ S' = S := by
  refine wp_call Has.at_ rfl ?_
  change WS (exB (lev P k) _ [.val r.inst] S) _ _ _ _
  unfold c_check_rail_17
  bv_omega
  refine k_isi rfl ?_
  bv_omega
  exact ⟨rfl, rfl⟩
theorem wrong_count_ok [Has P 6 c_is_between_6] [Has P 18 c_wrong_count_18] (fo : FiOk r fl) : Wp ((lev P (k + 2)).call 18 [r.inst, nsT fl] S) fun y S' => y = .val .non ∧ S' = S := by
  refine wp_call Has.at_ rfl ?_
  change WS (exB (lev P (k + 1)) _ [.val r.inst, .val (nsT fl), .un, .un] S) _ _ _ _
  unfold c_wrong_count_18
  bv_omega
  refine ⟨_, _, rfl, ?_⟩
  refine ws_for (fun _ env S' => ∃ (a b : Slot), env = [.val r.inst, .val (nsT fl), a, b] ∧ S' = S) _ 0 ⟨_, _, rfl, rfl⟩ ?_ ?_
  · rintro n t env S' ht ⟨a, b, rfl, rfl⟩
    obtain ⟨y, rfl, hy⟩ := at_enum ht
    have hn : n < fl.length := by
      have := (List.getElem?_eq_some_iff.mp hy).1
      rwa [List.length_map] at this
    rw [at_nT hn] at hy
    cases hy
    have hn2 : n < r.sizes.length := by rw [← fo.l]; exact hn
    refine ⟨_, rfl, ?_⟩
    rw [Int.zero_add]
    bv_omega
    refine k_ixT (at_nT hn2) ?_
    bv_omega
    refine (between_ok (by omega) (by have := fo.le n hn2; omega)).mono ?_
    rintro y S1 ⟨rfl, rfl⟩
    bv_omega
    exact ⟨_, _, rfl, rfl⟩
  · rintro env S' ⟨a, b, rfl, rfl⟩
    bv_omega
    exact ⟨rfl, rfl⟩
theorem check_fill_ok [Has P 6 c_is_between_6] [Has P 18 c_wrong_count_18] [Has P 19 c_check_fill_19] (fo : FiOk r fl) : Wp ((lev P (k + 3)).call 19 [r.inst, nsT fl] S) fun y S' => y = .val .non ∧ S' = S := by
  refine wp_call Has.at_ rfl ?_
  change WS (exB (lev P (k + 2)) _ [.val r.inst, .val (nsT fl), .un] S) _ _ _ _
  unfold c_check_fill_19
  bv_omega
  refine k_isi rfl ?_
  bv_omega
  rw [List.length_map, List.length_map, fo.l, decide_eq_true rfl]
  bv_omega
  refine (wrong_count_ok fo).mono ?_
  rintro y S1 ⟨rfl, rfl⟩
  bv_omega
  exact ⟨rfl, rfl⟩
theorem is_kind_ok [Has P 6 c_is_between_6] [Has P 20 c_is_kind_20] (hk : kd < r.homes.length) : Wp ((lev P (k + 2)).call 20 [r.inst, nT kd] S) fun y S' => y = .val (.bl true) ∧ S' = S := by
  refine wp_call Has.at_ rfl ?_
  change WS (exB (lev P (k + 1)) _ [.val r.inst, .val (nT kd)] S) _ _ _ _
  unfold c_is_kind_20
  bv_omega
  refine (between_ok (by omega) (by rw [List.length_map]; omega)).mono ?_
  rintro y S1 ⟨rfl, rfl⟩
  bv_omega
  exact ⟨rfl, rfl⟩
theorem check_kind_ok [Has P 6 c_is_between_6] [Has P 20 c_is_kind_20] [Has P 21 c_check_kind_21] (hk : kd < r.homes.length) : Wp ((lev P (k + 3)).call 21 [r.inst, nT kd] S) fun y S' => y = .val .non ∧ S' = S := by
  refine wp_call Has.at_ rfl ?_
  change WS (exB (lev P (k + 2)) _ [.val r.inst, .val (nT kd)] S) _ _ _ _
  unfold c_check_kind_21
  bv_omega
  refine (is_kind_ok hk).mono ?_
  rintro y S1 ⟨rfl, rfl⟩
  bv_omega
  exact ⟨rfl, rfl⟩
theorem check_coat_ok [Has P 6 c_is_between_6] [Has P 17 c_check_rail_17] [Has P 18 c_wrong_count_18] [Has P 19 c_check_fill_19] [Has P 20 c_is_kind_20] [Has P 21 c_check_kind_21] [Has P 27 c_check_coat_27] (fo : FiOk r fl) (hk : kd < r.homes.length) : Wp ((lev P (k + 4)).call 27 [r.inst, nsT fl, nT kd] S) fun y S' => y = .val .non ∧ S' = S := by
  refine wp_call Has.at_ rfl ?_
  change WS (exB (lev P (k + 3)) _ [.val r.inst, .val (nsT fl), .val (nT kd)] S) _ _ _ _
  unfold c_check_coat_27
  bv_omega
  refine (check_rail_ok).mono ?_
  rintro y S1 ⟨rfl, rfl⟩
  bv_omega
  refine (check_fill_ok fo).mono ?_
  rintro y S1 ⟨rfl, rfl⟩
  bv_omega
  refine (check_kind_ok hk).mono ?_
  rintro y S1 ⟨rfl, rfl⟩
  bv_omega
  exact ⟨rfl, rfl⟩
theorem is_full_ok [Has P 22 c_is_full_22] (fo : FiOk r fl) {hh : Nat} (hl : hh < r.sizes.length) : Wp ((lev P (k + 1)).call 22 [r.inst, nsT fl, nT hh] S) fun y S' => y = .val (.bl (r.full fl hh)) ∧ S' = S := by
  refine wp_call Has.at_ rfl ?_
  change WS (exB (lev P k) _ [.val r.inst, .val (nsT fl), .val (nT hh)] S) _ _ _ _
  unfold c_is_full_22
  bv_omega
  refine k_ixT (at_nT (by rw [fo.l]; exact hl)) ?_
  bv_omega
  refine k_ixT (at_nT hl) ?_
  bv_omega
  exact ⟨by rw [dec_nat]; rfl, rfl⟩
theorem pth_some {full : Nat → Bool} {nxt : Nat → Option Nat} {m : Nat} {row : List Nat} {g : Nat} (h : g ∉ row) : pth full nxt (m + 1) row (some g) = if full g then pth full nxt m (row ++ [g]) (nxt g) else (row ++ [g], some g) := by
  rw [pth, if_neg h]
theorem pth_in {full : Nat → Bool} {nxt : Nat → Option Nat} {m : Nat} {row : List Nat} {g : Nat} (h : g ∈ row) : pth full nxt m row (some g) = (row, none) := by
  cases m with
  | zero => rfl
  | succ m => rw [pth, if_pos h]
theorem pth_none {full : Nat → Bool} {nxt : Nat → Option Nat} {m : Nat} {row : List Nat} : pth full nxt m row none = (row, none) := by cases m <;> rfl
def Ended (r : Ra) (fl : List Nat) (kd : Nat) : Prop := ∃ row l, (r.path fl kd).1 = row ++ [l] ∧ l < r.sizes.length ∧ (r.path fl kd).2 = if r.full fl l then none else some l
theorem looked_ok [Has P 22 c_is_full_22] [Has P 23 c_looked_23] (ok : r.Ok mh mk) (hm : mh < 900) (fo : FiOk r fl) (hk : kd < r.homes.length) : Wp ((lev P (k + 2)).call 23 [r.inst, nsT fl, nT kd] S) fun y S' => y = .val (nsT (r.path fl kd).1) ∧ S' = S ∧ Ended r fl kd := by
  have lb := lim_big
  have n2 := ok.n2
  have hw : wayOk r.sizes.length (r.ways.getD kd []) := ok.w _ (getD_mem (by rw [ok.wl]; exact hk))
  refine wp_call Has.at_ rfl ?_
  change WS (exB (lev P (k + 1)) _ [.val r.inst, .val (nsT fl), .val (nT kd), .un, .un] S) _ _ _ _
  unfold c_looked_23
  bv_omega
  refine k_ixT (at_nT hk) ?_
  bv_omega
  refine i_swhile (fun m env S' => ∃ (row : List Nat) (g : Nat) (z : Slot), env = [.val r.inst, .val (nsT fl), .val (nT kd), .own (.lst (row.map nT ++ [nT g])), z] ∧ S' = S ∧ (row ++ [g]).Nodup ∧ (∀ x ∈ row ++ [g], x < r.sizes.length) ∧ (if r.full fl g then pth (r.full fl) (r.nxt kd) m (row ++ [g]) (r.nxt kd g) else (row ++ [g], some g)) = r.path fl kd ∧ m + row.length = r.sizes.length) r.sizes.length (Nat.lt_of_le_of_lt (by omega) fuel_big)
    ⟨[], r.home kd, _, rfl, rfl, by simp, (fun x h => by cases List.mem_singleton.mp h; exact ok.h _ (getD_mem hk)), (pth_some (List.not_mem_nil)).symm, rfl⟩ ?_
  rintro m env S' ⟨row, g, z, rfl, rfl, nd, lt, pe, ml⟩
  have hg : g < r.sizes.length := lt g (by simp)
  have rl := row_le nd lt
  rw [List.length_append, List.length_singleton] at rl
  obtain ⟨m, rfl⟩ : ∃ m', m = m' + 1 := ⟨m - 1, by omega⟩
  bv_omega
  refine k_lastL ?_
  bv_omega
  refine (is_full_ok fo hg).mono ?_
  rintro y S1 ⟨rfl, rfl⟩
  bv_omega
  have mp : List.map nT row ++ [nT g] = (row ++ [g]).map nT := by rw [List.map_append]; rfl
  refine ⟨fun hf => ?_, fun hf => ?_⟩
  · rw [if_pos hf] at pe
    bv_omega
    refine k_ixT (at_wayT (by rw [ok.wl]; exact hk)) ?_
    bv_omega
    refine k_lastL ?_
    bv_omega
    refine k_ixT (at_goT (by rw [hw.1]; exact hg)) ?_
    have hn : goOk r.sizes.length (r.nxt kd g) := r.nxt_ok ok hk g hg
    change SlotK (some (.val (goT (r.nxt kd g)))) _
    bv_omega
    cases q : r.nxt kd g with
    | none =>
      rw [q, pth_none] at pe
      bv_omega
      refine ⟨fun _ => ?_, fun hb => (nomatch hb)⟩
      bv_omega
      refine ⟨fun _ => ?_, fun hb => (nomatch hb)⟩
      bv_omega
      rw [mp]
      exact ⟨by rw [← pe], rfl, row, g, by rw [← pe], hg, by rw [← pe, if_pos hf]⟩
    | some g2 =>
      rw [q] at pe hn
      have hg2 := hn g2 rfl
      rw [show goT (some g2) = nT g2 from rfl]
      bv_omega
      refine ⟨fun hb => (nomatch hb), fun _ => ?_⟩
      bv_omega
      rw [mp]
      refine k_in ?_
      bv_omega
      refine ⟨fun hb => ?_, fun hb => ?_⟩
      · have hb := of_decide_eq_true hb
        rw [pth_in hb] at pe
        bv_omega
        exact ⟨by rw [← pe], rfl, row, g, by rw [← pe], hg, by rw [← pe, if_pos hf]⟩
      · have hb := of_decide_eq_false hb
        rw [pth_some hb] at pe
        bv_omega
        refine k_chO rfl (app_ok (by rw [List.length_map, List.length_append, List.length_singleton]; omega)) ?_
        bv_omega
        refine ⟨m, Nat.lt_succ_self m, row ++ [g], g2, _, rfl, rfl, nod_app nd hb, ?_, pe, by rw [List.length_append, List.length_singleton]; omega⟩
        intro x hx
        rcases List.mem_append.mp hx with hx | hx
        · exact lt x hx
        · rw [List.mem_singleton.mp hx]; exact hg2
  · rw [if_neg (by rw [hf]; exact Bool.false_ne_true)] at pe
    bv_omega
    rw [mp]
    exact ⟨by rw [← pe], rfl, row, g, by rw [← pe], hg, by rw [← pe, hf]; rfl⟩
theorem landed_ok [Has P 22 c_is_full_22] [Has P 23 c_looked_23] [Has P 24 c_landed_24] (ok : r.Ok mh mk) (hm : mh < 900) (fo : FiOk r fl) (hk : kd < r.homes.length) : Wp ((lev P (k + 3)).call 24 [r.inst, nsT fl, nT kd] S) fun y S' => y = .val (goT (r.path fl kd).2) ∧ S' = S := by
  refine wp_call Has.at_ rfl ?_
  change WS (exB (lev P (k + 2)) _ [.val r.inst, .val (nsT fl), .val (nT kd), .un] S) _ _ _ _
  unfold c_landed_24
  bv_omega
  refine (looked_ok ok hm fo hk).mono ?_
  rintro y S1 ⟨rfl, rfl, row, l, e1, hl, e2⟩
  rw [e1, e2, show nsT (row ++ [l]) = .tup (row.map nT ++ [nT l]) from by unfold nsT; rw [List.map_append]; rfl]
  bv_omega
  refine k_lastT ?_
  bv_omega
  refine (is_full_ok fo hl).mono ?_
  rintro y S1 ⟨rfl, rfl⟩
  bv_omega
  refine ⟨fun hb => ?_, fun hb => ?_⟩
  · bv_omega
    exact ⟨by rw [if_pos hb]; rfl, rfl⟩
  · bv_omega
    exact ⟨by rw [if_neg (by rw [hb]; exact Bool.false_ne_true)]; rfl, rfl⟩
theorem more_at_ok [Has P 25 c_more_at_25] {i : Nat} (hi : i < fl.length) (hl : fl.length < 1000) : Wp ((lev P (k + 1)).call 25 [nsT fl, nT i, .int 1] S) fun y S' => y = .val (nsT (bump fl i)) ∧ S' = S := by
  have lb := lim_big
  refine wp_call Has.at_ rfl ?_
  change WS (exB (lev P k) _ [.val (.tup (fl.map nT)), .val (nT i), .val (.int 1)] S) _ _ _ _
  unfold c_more_at_25
  bv_omega
  refine k_ixT (at_nT hi) ?_
  bv_omega
  refine k_addT (by have := cut_len (l := fl) (i := i); rw [List.length_singleton]; omega) ?_
  bv_omega
  refine k_addT (by have := cut_len (l := fl) (i := i); have := cut_len' (l := fl) (i := i); rw [List.length_append, List.length_singleton]; omega) ?_
  bv_omega
  exact ⟨congrArg (fun l => R.val (T.tup l)) bump_T, rfl⟩
theorem fill_after_ok [Has P 22 c_is_full_22] [Has P 23 c_looked_23] [Has P 24 c_landed_24] [Has P 25 c_more_at_25] [Has P 26 c_fill_after_26] (ok : r.Ok mh mk) (hm : mh < 900) (fo : FiOk r fl) (hk : kd < r.homes.length) : Wp ((lev P (k + 4)).call 26 [r.inst, nsT fl, nT kd] S) fun y S' => y = .val (nsT (r.after fl kd)) ∧ S' = S := by
  have n2 := ok.n2
  have pl := r.path_lt ok (fl := fl) hk
  have fl2 := fo.l
  refine wp_call Has.at_ rfl ?_
  change WS (exB (lev P (k + 3)) _ [.val r.inst, .val (nsT fl), .val (nT kd), .un] S) _ _ _ _
  unfold c_fill_after_26
  bv_omega
  refine (landed_ok ok hm fo hk).mono ?_
  rintro y S1 ⟨rfl, rfl⟩
  unfold Ra.after
  bv_omega
  cases hp : (r.path fl kd).2 with
  | none =>
    refine ⟨fun _ => ?_, fun hb => (nomatch hb)⟩
    bv_omega
    exact ⟨rfl, rfl⟩
  | some i =>
    have hl := pl i hp
    rw [show goT (some i) = nT i from rfl]
    refine ⟨fun hb => (nomatch hb), fun _ => ?_⟩
    bv_omega
    refine (more_at_ok (by omega) (by omega)).mono ?_
    rintro y S1 ⟨rfl, rfl⟩
    bv_omega
    exact ⟨rfl, rfl⟩
def c_looks_28 : FDef := ⟨3, 3, (.cons (.expr (.call 27 (.cons (.var 0) (.cons (.var 1) (.cons (.var 2) .nil))))) (.cons (.ret (.call 23 (.cons (.var 0) (.cons (.var 1) (.cons (.var 2) .nil))))) .nil))⟩
def c_lands_29 : FDef := ⟨3, 3, (.cons (.expr (.call 27 (.cons (.var 0) (.cons (.var 1) (.cons (.var 2) .nil))))) (.cons (.ret (.call 24 (.cons (.var 0) (.cons (.var 1) (.cons (.var 2) .nil))))) .nil))⟩
def c_after_30 : FDef := ⟨3, 3, (.cons (.expr (.call 27 (.cons (.var 0) (.cons (.var 1) (.cons (.var 2) .nil))))) (.cons (.ret (.call 26 (.cons (.var 0) (.cons (.var 1) (.cons (.var 2) .nil))))) .nil))⟩
theorem looks_ok [Has P 6 c_is_between_6] [Has P 17 c_check_rail_17] [Has P 18 c_wrong_count_18] [Has P 19 c_check_fill_19] [Has P 20 c_is_kind_20] [Has P 21 c_check_kind_21] [Has P 22 c_is_full_22] [Has P 23 c_looked_23] [Has P 27 c_check_coat_27] [Has P 28 c_looks_28] (ok : r.Ok mh mk) (hm : mh < 900) (fo : FiOk r fl) (hk : kd < r.homes.length) : Wp ((lev P (k + 5)).call 28 [r.inst, nsT fl, nT kd] S) fun y S' => y = .val (nsT (r.path fl kd).1) ∧ S' = S := by
  refine wp_call Has.at_ rfl ?_
  change WS (exB (lev P (k + 4)) _ [.val r.inst, .val (nsT fl), .val (nT kd)] S) _ _ _ _
  unfold c_looks_28
  bv_omega
  refine (check_coat_ok fo hk).mono ?_
  rintro y S1 ⟨rfl, rfl⟩
  bv_omega
  refine (looked_ok ok hm fo hk).mono ?_
  rintro y S1 ⟨rfl, rfl, _⟩
  bv_omega
  exact ⟨rfl, rfl⟩
theorem lands_ok [Has P 6 c_is_between_6] [Has P 17 c_check_rail_17] [Has P 18 c_wrong_count_18] [Has P 19 c_check_fill_19] [Has P 20 c_is_kind_20] [Has P 21 c_check_kind_21] [Has P 22 c_is_full_22] [Has P 23 c_looked_23] [Has P 24 c_landed_24] [Has P 27 c_check_coat_27] [Has P 29 c_lands_29] (ok : r.Ok mh mk) (hm : mh < 900) (fo : FiOk r fl) (hk : kd < r.homes.length) : Wp ((lev P (k + 5)).call 29 [r.inst, nsT fl, nT kd] S) fun y S' => y = .val (goT (r.path fl kd).2) ∧ S' = S := by
  refine wp_call Has.at_ rfl ?_
  change WS (exB (lev P (k + 4)) _ [.val r.inst, .val (nsT fl), .val (nT kd)] S) _ _ _ _
  unfold c_lands_29
  bv_omega
  refine (check_coat_ok fo hk).mono ?_
  rintro y S1 ⟨rfl, rfl⟩
  bv_omega
  refine (landed_ok ok hm fo hk).mono ?_
  rintro y S1 ⟨rfl, rfl⟩
  bv_omega
  exact ⟨rfl, rfl⟩
theorem after_ok [Has P 6 c_is_between_6] [Has P 17 c_check_rail_17] [Has P 18 c_wrong_count_18] [Has P 19 c_check_fill_19] [Has P 20 c_is_kind_20] [Has P 21 c_check_kind_21] [Has P 22 c_is_full_22] [Has P 23 c_looked_23] [Has P 24 c_landed_24] [Has P 25 c_more_at_25] [Has P 26 c_fill_after_26] [Has P 27 c_check_coat_27] [Has P 30 c_after_30] (ok : r.Ok mh mk) (hm : mh < 900) (fo : FiOk r fl) (hk : kd < r.homes.length) : Wp ((lev P (k + 5)).call 30 [r.inst, nsT fl, nT kd] S) fun y S' => y = .val (nsT (r.after fl kd)) ∧ S' = S := by
  refine wp_call Has.at_ rfl ?_
  change WS (exB (lev P (k + 4)) _ [.val r.inst, .val (nsT fl), .val (nT kd)] S) _ _ _ _
  unfold c_after_30
  bv_omega
  refine (check_coat_ok fo hk).mono ?_
  rintro y S1 ⟨rfl, rfl⟩
  bv_omega
  refine (fill_after_ok ok hm fo hk).mono ?_
  rintro y S1 ⟨rfl, rfl⟩
  bv_omega
  exact ⟨rfl, rfl⟩
end
end Z
set_option Elab.async false
set_option linter.all false
set_option maxRecDepth 100000
set_option maxHeartbeats 1000000
namespace Z
open PySem
def smT : Nat → T → Bool
  | _, .non => true
  | _, .bl _ => true
  | _, .int i => decide (i.natAbs < 1000000000)
  | n + 1, .tup ts => ts.all (smT n)
  | n + 1, .lst ts => ts.all (smT n)
  | _, _ => false
theorem toDs_row : ∀ ts : List T, toDs ts = ts.map toD
  | [] => rfl
  | t :: ts => by unfold toDs; rw [toDs_row ts]; rfl
theorem sm_ok : ∀ (n : Nat) (t : T), smT n t = true → n ≤ DEEP → okD DEEP t = true := by
  have key : ∀ (n m : Nat) (t : T), smT n t = true → n ≤ m → okD m t = true := by
    intro n
    induction n with
    | zero =>
      intro m t h _
      cases t <;> first | rfl | (unfold smT at h; exact absurd h Bool.false_ne_true) | (cases m <;> rfl)
    | succ n ih =>
      intro m t h hm
      obtain ⟨m, rfl⟩ : ∃ m', m = m' + 1 := ⟨m - 1, by omega⟩
      cases t with
      | tup ts =>
        show ts.all (okD m) = true
        have h : ts.all (smT n) = true := h
        exact List.all_eq_true.mpr fun x hx => ih m x (List.all_eq_true.mp h x hx) (by omega)
      | lst ts =>
        show ts.all (okD m) = true
        have h : ts.all (smT n) = true := h
        exact List.all_eq_true.mpr fun x hx => ih m x (List.all_eq_true.mp h x hx) (by omega)
      | _ => first | rfl | (unfold smT at h; exact absurd h Bool.false_ne_true)
  exact fun n t h hm => key n DEEP t h hm
theorem log_small {i : Int} (h : decide (i.natAbs < 1000000000) = true) : PyData.showable (.int i) = true := by
  have h := of_decide_eq_true h
  unfold PyData.showable
  refine decide_eq_true ?_
  by_cases z : i.natAbs = 0
  · rw [z]; decide
  · exact (Nat.log2_lt z).mpr (Nat.lt_trans h (Nat.lt_of_lt_of_le (show 1000000000 < 2 ^ 30 by decide) (Nat.pow_le_pow_right (by decide) (by decide))))
theorem sm_show : ∀ (n : Nat) (t : T), smT n t = true → (toD t).showable = true := by
  intro n
  induction n with
  | zero =>
    intro t h
    cases t with
    | int i =>
      exact log_small h
    | _ => first | rfl | (unfold smT at h; exact absurd h Bool.false_ne_true)
  | succ n ih =>
    intro t h
    have al : ∀ ts : List T, ts.all (smT n) = true → PyData.showableAll (ts.map toD) = true := fun ts => by
      induction ts with
      | nil => intro _; rfl
      | cons x ts ih2 =>
        intro h
        rw [List.all_cons, Bool.and_eq_true] at h
        rw [List.map_cons]
        unfold PyData.showableAll
        rw [ih x h.1, ih2 h.2]; rfl
    cases t with
    | int i =>
      exact log_small h
    | tup ts =>
      have h : ts.all (smT n) = true := h
      unfold toD
      rw [toDs_row]
      unfold PyData.showable
      exact al ts h
    | lst ts =>
      have h : ts.all (smT n) = true := h
      unfold toD
      rw [toDs_row]
      unfold PyData.showable
      exact al ts h
    | _ => first | rfl | (unfold smT at h; exact absurd h Bool.false_ne_true)
theorem int_short {i : Int} (h : decide (i.natAbs < 1000000000) = true) : PyData.leavesShort 13 (.int i) = true := by
  have h := of_decide_eq_true h
  unfold PyData.leavesShort
  exact decide_eq_true (PyData.shown_int_le2 (by omega) (by omega))
theorem sm_short : ∀ (n : Nat) (t : T), smT n t = true → (toD t).leavesShort 13 = true := by
  intro n
  induction n with
  | zero =>
    intro t h
    cases t with
    | int i => exact int_short h
    | _ => first | rfl | (unfold smT at h; exact absurd h Bool.false_ne_true)
  | succ n ih =>
    intro t h
    have al : ∀ ts : List T, ts.all (smT n) = true → PyData.leavesShortAll 13 (ts.map toD) = true := fun ts => by
      induction ts with
      | nil => intro _; rfl
      | cons x ts ih2 =>
        intro h
        rw [List.all_cons, Bool.and_eq_true] at h
        rw [List.map_cons]
        unfold PyData.leavesShortAll
        rw [ih x h.1, ih2 h.2]; rfl
    cases t with
    | int i => exact int_short h
    | tup ts =>
      have h : ts.all (smT n) = true := h
      unfold toD
      rw [toDs_row]
      unfold PyData.leavesShort
      exact al ts h
    | lst ts =>
      have h : ts.all (smT n) = true := h
      unfold toD
      rw [toDs_row]
      unfold PyData.leavesShort
      exact al ts h
    | _ => first | rfl | (unfold smT at h; exact absurd h Bool.false_ne_true)
theorem none_free {k : Nat} (hk : 200 ≤ k) : k ∉ (PyData.none).shown.cps.toList := by
  rw [PyProof.Rows.mem_shown_none]
  intro hm
  simp only [List.mem_cons, List.not_mem_nil, or_false] at hm
  omega
theorem bool_free {k : Nat} (hk : 200 ≤ k) (b : Bool) : k ∉ (PyData.bool b).shown.cps.toList := by
  rw [PyProof.Rows.mem_shown_bool]
  cases b <;> (intro hm; simp at hm; omega)
theorem sm_free {k : Nat} (hk : 200 ≤ k) : ∀ (n : Nat) (t : T), smT n t = true → k ∉ (toD t).shown.cps.toList := by
  intro n
  induction n with
  | zero =>
    intro t h
    cases t with
    | int i => exact PyProof.Rows.shown_int_free' (by omega) i
    | non => exact none_free hk
    | bl b => exact bool_free hk b
    | _ => (unfold smT at h; exact absurd h Bool.false_ne_true)
  | succ n ih =>
    intro t h
    have al : ∀ ts : List T, ts.all (smT n) = true → ∀ x ∈ PyData.shownAll (ts.map toD), k ∉ x.cps.toList := fun ts h =>
      PyProof.Rows.shownAll_free fun x hx => by
        obtain ⟨t, ht, rfl⟩ := List.mem_map.mp hx
        exact ih t (List.all_eq_true.mp h t ht)
    cases t with
    | int i => exact PyProof.Rows.shown_int_free' (by omega) i
    | non => exact none_free hk
    | bl b => exact bool_free hk b
    | tup ts =>
      have h : ts.all (smT n) = true := h
      unfold toD
      rw [toDs_row, PyData.shown_tuple, PyProof.Rows.mem_cps_append, PyProof.Rows.mem_cps_append, PyProof.Rows.signs_lparen, PyProof.Rows.mem_join, PyProof.Rows.signs_sep, PyProof.Rows.signs_tuple_end]
      rintro ((hm | (⟨t, ht, hc⟩ | ⟨hl, hm⟩)) | hm)
      · simp at hm; omega
      · exact al ts h t ht hc
      · simp at hm; omega
      · split at hm <;> simp at hm <;> omega
    | lst ts =>
      have h : ts.all (smT n) = true := h
      unfold toD
      rw [toDs_row, PyData.shown_list, PyProof.Rows.mem_cps_append, PyProof.Rows.mem_cps_append, PyProof.Rows.signs_lbrack, PyProof.Rows.signs_rbrack, PyProof.Rows.mem_join, PyProof.Rows.signs_sep]
      rintro ((hm | (⟨t, ht, hc⟩ | ⟨hl, hm⟩)) | hm)
      · simp at hm; omega
      · exact al ts h t ht hc
      · simp at hm; omega
      · simp at hm; omega
    | _ => (unfold smT at h; exact absurd h Bool.false_ne_true)
theorem shown_strOk {n : Nat} {t : T} (h : smT n t = true) : PyData.strOk (toD t).shown = true := by
  unfold PyData.strOk
  rw [← Array.all_toList, List.all_eq_true]
  intro c hc
  refine decide_eq_true (Nat.lt_of_not_le fun z => sm_free (k := c) (Nat.le_trans (by decide) z) n t h hc)
theorem k_repr {t : T} {S : Store} {V : R → Store → Prop} (n : Nat) (hn : n ≤ DEEP) (h : smT n t = true) (b : (toD t).bulk ≤ 2 ^ 20) (v : V (.val (.str (toD t).shown)) S) : BiK .repr [t] S V := by
  refine ⟨.val (.str (toD t).shown), ?_, v⟩
  show guardT _ _ = _
  refine guard_true ?_
  rw [Bool.and_eq_true, Bool.and_eq_true]
  exact ⟨⟨sm_ok n t h hn, sm_show n t h⟩, decide_eq_true (PyData.shown_fits_bulk (B := 13) (by decide) (by decide) (sm_short n t h) b)⟩
theorem k_neS {x y : Str} {S : Store} {W : Bool → Store → Prop} (hx : PyData.strOk x = true) (hy : PyData.strOk y = true) (w : W (!eqvT (.str x) (.str y)) S) : CmpK .ne (some (.str x)) (some (.str y)) S W := k_ne hx hy w
theorem eqv_str {x : Str} : eqvT (.str x) (.str x) = true := by
  unfold eqvT toD
  simp [PyData.eqv]
theorem bulk_nT : ∀ l : List Nat, (toD (nsT l)).bulk = l.length := by
  have key : ∀ l : List Nat, PyData.bulkAll ((l.map nT).map toD) = l.length := fun l => by
    induction l with
    | nil => rfl
    | cons x l ih =>
      rw [List.map_cons, List.map_cons]
      unfold PyData.bulkAll
      rw [ih]
      show 0 + 1 + l.length = l.length + 1
      omega
  intro l
  unfold nsT toD
  rw [toDs_row]
  unfold PyData.bulk
  exact key l
end Z
set_option Elab.async false
set_option linter.all false
set_option maxRecDepth 100000
set_option maxHeartbeats 1000000
namespace Z
open PySem
def smS (x : Str) : Bool := PyData.strOk x && (PyData.str x).shown.cps.toList.all fun c => decide (c < 200)
theorem smS_free {x : Str} {k : Nat} (hk : 200 ≤ k) (h : smS x = true) : k ∉ (PyData.str x).shown.cps.toList := fun hm => by
  unfold smS at h
  rw [Bool.and_eq_true] at h
  have := of_decide_eq_true (List.all_eq_true.mp h.2 k hm)
  omega
theorem smS_ok {x : Str} (h : smS x = true) : PyData.strOk x = true := by
  unfold smS at h
  rw [Bool.and_eq_true] at h
  exact h.1
theorem smS_short {x : Str} (h : smS x = true) : PyData.leavesShort 13 (.str x) = true := by
  have z := smS_ok h
  unfold PyData.strOk at z
  unfold PyData.leavesShort
  rw [← Array.all_toList, List.all_eq_true] at z
  rw [List.all_eq_true]
  intro c hc
  have := of_decide_eq_true (z c hc)
  exact decide_eq_true (by omega)
def smTU : Nat → T → Bool
  | _, .non => true
  | _, .bl _ => true
  | _, .int i => decide (i.natAbs < 1000000000)
  | _, .str x => smS x
  | n + 1, .tup ts => ts.all (smTU n)
  | n + 1, .lst ts => ts.all (smTU n)
  | _, _ => false
theorem sm_okU : ∀ (n : Nat) (t : T), smTU n t = true → n ≤ DEEP → okD DEEP t = true := by
  have key : ∀ (n m : Nat) (t : T), smTU n t = true → n ≤ m → okD m t = true := by
    intro n
    induction n with
    | zero =>
      intro m t h _
      cases t <;> first | rfl | (unfold smTU at h; exact absurd h Bool.false_ne_true) | (cases m <;> rfl) | (cases m <;> exact smS_ok h)
    | succ n ih =>
      intro m t h hm
      obtain ⟨m, rfl⟩ : ∃ m', m = m' + 1 := ⟨m - 1, by omega⟩
      cases t with
      | tup ts =>
        show ts.all (okD m) = true
        have h : ts.all (smTU n) = true := h
        exact List.all_eq_true.mpr fun x hx => ih m x (List.all_eq_true.mp h x hx) (by omega)
      | lst ts =>
        show ts.all (okD m) = true
        have h : ts.all (smTU n) = true := h
        exact List.all_eq_true.mpr fun x hx => ih m x (List.all_eq_true.mp h x hx) (by omega)
      | str x => exact smS_ok h
      | _ => first | rfl | (unfold smTU at h; exact absurd h Bool.false_ne_true)
  exact fun n t h hm => key n DEEP t h hm
theorem log_smallU {i : Int} (h : decide (i.natAbs < 1000000000) = true) : PyData.showable (.int i) = true := by
  have h := of_decide_eq_true h
  unfold PyData.showable
  refine decide_eq_true ?_
  by_cases z : i.natAbs = 0
  · rw [z]; decide
  · exact (Nat.log2_lt z).mpr (Nat.lt_trans h (Nat.lt_of_lt_of_le (show 1000000000 < 2 ^ 30 by decide) (Nat.pow_le_pow_right (by decide) (by decide))))
theorem sm_showU : ∀ (n : Nat) (t : T), smTU n t = true → (toD t).showable = true := by
  intro n
  induction n with
  | zero =>
    intro t h
    cases t with
    | int i =>
      exact log_smallU h
    | _ => first | rfl | (unfold smTU at h; exact absurd h Bool.false_ne_true)
  | succ n ih =>
    intro t h
    have al : ∀ ts : List T, ts.all (smTU n) = true → PyData.showableAll (ts.map toD) = true := fun ts => by
      induction ts with
      | nil => intro _; rfl
      | cons x ts ih2 =>
        intro h
        rw [List.all_cons, Bool.and_eq_true] at h
        rw [List.map_cons]
        unfold PyData.showableAll
        rw [ih x h.1, ih2 h.2]; rfl
    cases t with
    | int i =>
      exact log_smallU h
    | tup ts =>
      have h : ts.all (smTU n) = true := h
      unfold toD
      rw [toDs_row]
      unfold PyData.showable
      exact al ts h
    | lst ts =>
      have h : ts.all (smTU n) = true := h
      unfold toD
      rw [toDs_row]
      unfold PyData.showable
      exact al ts h
    | _ => first | rfl | (unfold smTU at h; exact absurd h Bool.false_ne_true)
theorem int_shortU {i : Int} (h : decide (i.natAbs < 1000000000) = true) : PyData.leavesShort 13 (.int i) = true := by
  have h := of_decide_eq_true h
  unfold PyData.leavesShort
  exact decide_eq_true (PyData.shown_int_le2 (by omega) (by omega))
theorem sm_shortU : ∀ (n : Nat) (t : T), smTU n t = true → (toD t).leavesShort 13 = true := by
  intro n
  induction n with
  | zero =>
    intro t h
    cases t with
    | int i => exact int_shortU h
    | str x => exact smS_short h
    | _ => first | rfl | (unfold smTU at h; exact absurd h Bool.false_ne_true)
  | succ n ih =>
    intro t h
    have al : ∀ ts : List T, ts.all (smTU n) = true → PyData.leavesShortAll 13 (ts.map toD) = true := fun ts => by
      induction ts with
      | nil => intro _; rfl
      | cons x ts ih2 =>
        intro h
        rw [List.all_cons, Bool.and_eq_true] at h
        rw [List.map_cons]
        unfold PyData.leavesShortAll
        rw [ih x h.1, ih2 h.2]; rfl
    cases t with
    | int i => exact int_shortU h
    | tup ts =>
      have h : ts.all (smTU n) = true := h
      unfold toD
      rw [toDs_row]
      unfold PyData.leavesShort
      exact al ts h
    | lst ts =>
      have h : ts.all (smTU n) = true := h
      unfold toD
      rw [toDs_row]
      unfold PyData.leavesShort
      exact al ts h
    | str x => exact smS_short h
    | _ => first | rfl | (unfold smTU at h; exact absurd h Bool.false_ne_true)
theorem none_freeU {k : Nat} (hk : 200 ≤ k) : k ∉ (PyData.none).shown.cps.toList := by
  rw [PyProof.Rows.mem_shown_none]
  intro hm
  simp only [List.mem_cons, List.not_mem_nil, or_false] at hm
  omega
theorem bool_freeU {k : Nat} (hk : 200 ≤ k) (b : Bool) : k ∉ (PyData.bool b).shown.cps.toList := by
  rw [PyProof.Rows.mem_shown_bool]
  cases b <;> (intro hm; simp at hm; omega)
theorem sm_freeU {k : Nat} (hk : 200 ≤ k) : ∀ (n : Nat) (t : T), smTU n t = true → k ∉ (toD t).shown.cps.toList := by
  intro n
  induction n with
  | zero =>
    intro t h
    cases t with
    | int i => exact PyProof.Rows.shown_int_free' (by omega) i
    | non => exact none_freeU hk
    | bl b => exact bool_freeU hk b
    | str x => exact smS_free hk h
    | _ => (unfold smTU at h; exact absurd h Bool.false_ne_true)
  | succ n ih =>
    intro t h
    have al : ∀ ts : List T, ts.all (smTU n) = true → ∀ x ∈ PyData.shownAll (ts.map toD), k ∉ x.cps.toList := fun ts h =>
      PyProof.Rows.shownAll_free fun x hx => by
        obtain ⟨t, ht, rfl⟩ := List.mem_map.mp hx
        exact ih t (List.all_eq_true.mp h t ht)
    cases t with
    | int i => exact PyProof.Rows.shown_int_free' (by omega) i
    | non => exact none_freeU hk
    | bl b => exact bool_freeU hk b
    | str x => exact smS_free hk h
    | tup ts =>
      have h : ts.all (smTU n) = true := h
      unfold toD
      rw [toDs_row, PyData.shown_tuple, PyProof.Rows.mem_cps_append, PyProof.Rows.mem_cps_append, PyProof.Rows.signs_lparen, PyProof.Rows.mem_join, PyProof.Rows.signs_sep, PyProof.Rows.signs_tuple_end]
      rintro ((hm | (⟨t, ht, hc⟩ | ⟨hl, hm⟩)) | hm)
      · simp at hm; omega
      · exact al ts h t ht hc
      · simp at hm; omega
      · split at hm <;> simp at hm <;> omega
    | lst ts =>
      have h : ts.all (smTU n) = true := h
      unfold toD
      rw [toDs_row, PyData.shown_list, PyProof.Rows.mem_cps_append, PyProof.Rows.mem_cps_append, PyProof.Rows.signs_lbrack, PyProof.Rows.signs_rbrack, PyProof.Rows.mem_join, PyProof.Rows.signs_sep]
      rintro ((hm | (⟨t, ht, hc⟩ | ⟨hl, hm⟩)) | hm)
      · simp at hm; omega
      · exact al ts h t ht hc
      · simp at hm; omega
      · simp at hm; omega
    | _ => (unfold smTU at h; exact absurd h Bool.false_ne_true)
theorem shown_strOkU {n : Nat} {t : T} (h : smTU n t = true) : PyData.strOk (toD t).shown = true := by
  unfold PyData.strOk
  rw [← Array.all_toList, List.all_eq_true]
  intro c hc
  refine decide_eq_true (Nat.lt_of_not_le fun z => sm_freeU (k := c) (Nat.le_trans (by decide) z) n t h hc)
theorem k_reprU {t : T} {S : Store} {V : R → Store → Prop} (n : Nat) (hn : n ≤ DEEP) (h : smTU n t = true) (b : (toD t).bulk ≤ 2 ^ 20) (v : V (.val (.str (toD t).shown)) S) : BiK .repr [t] S V := by
  refine ⟨.val (.str (toD t).shown), ?_, v⟩
  show guardT _ _ = _
  refine guard_true ?_
  rw [Bool.and_eq_true, Bool.and_eq_true]
  exact ⟨⟨sm_okU n t h hn, sm_showU n t h⟩, decide_eq_true (PyData.shown_fits_bulk (B := 13) (by decide) (by decide) (sm_shortU n t h) b)⟩
theorem rep_one (n : Nat) (t : T) : (List.replicate n [t]).flatten = List.replicate n t := by
  induction n with
  | zero => rfl
  | succ n ih => rw [List.replicate_succ, List.flatten_cons, ih, List.replicate_succ]; rfl
theorem k_listT {ts : List T} {S : Store} {V : R → Store → Prop} (v : V (.fresh (.lst ts)) S) : BiK .list [.tup ts] S V := k_bi rfl v
theorem k_mulL {a : List T} {k : Int} {S : Store} {V : R → Store → Prop} (h : (decide (-(2 ^ 63) ≤ k) && decide (k < 2 ^ 63) && decide (a.length * k.toNat ≤ LIM)) = true) (v : V (.fresh (.lst (List.replicate k.toNat a).flatten)) S) : BinK .mul (some (.lst a)) (some (.int k)) S V := k_bin (by show guardT _ _ = _; rw [h]; rfl) v
end Z
set_option Elab.async false
set_option linter.all false
set_option maxRecDepth 100000
set_option maxHeartbeats 4000000
namespace Z
open PySem
local macro_rules | `(tactic| bv_omega) => `(tactic| repeat (first | (with_reducible refine i_cons ?_) | (with_reducible refine i_nil ?_) | (with_reducible refine i_set ?_) | (with_reducible refine i_par ?_) | (with_reducible refine i_par3 ?_) | (with_reducible refine i_asg ?_) | (with_reducible refine i_append ?_) | (with_reducible refine i_expr ?_) | (with_reducible refine i_ret ?_) | (with_reducible refine i_retN ?_) | (with_reducible refine i_brk ?_) | (with_reducible refine i_cnt ?_) | (with_reducible refine i_pass ?_) | (with_reducible refine i_sif ?_) | (with_reducible refine i_sfor ?_) | (with_reducible refine i_int ?_) | (with_reducible refine i_bl ?_) | (with_reducible refine i_str ?_) | (with_reducible refine i_non ?_) | (with_reducible refine i_tup ?_) | (with_reducible refine i_lst ?_) | (with_reducible refine i_bin ?_) | (with_reducible refine i_neg ?_) | (with_reducible refine i_cmp ?_) | (with_reducible refine i_chain ?_) | (with_reducible refine i_band ?_) | (with_reducible refine i_bor ?_) | (with_reducible refine i_bnot ?_) | (with_reducible refine i_ife ?_) | (with_reducible refine i_ix ?_) | (with_reducible refine i_sl ?_) | (with_reducible refine i_onone ?_) | (with_reducible refine i_osome ?_) | (with_reducible refine i_fld ?_) | (with_reducible refine i_call ?_) | (with_reducible refine i_new ?_) | (with_reducible refine i_callk ?_) | (with_reducible refine i_isi ?_) | (with_reducible refine i_bi ?_) | (with_reducible refine i_anil ?_) | (with_reducible refine i_acons ?_) | (with_reducible refine i_bnil ?_) | (with_reducible refine i_bcons ?_) | (with_reducible refine i_ice ?_) | (with_reducible refine i_irange1 ?_) | (with_reducible refine i_ienum ?_) | (with_reducible refine i_lc0 ?_) | (with_reducible refine i_lc1 ?_) | (with_reducible refine i_item ?_) | (with_reducible refine i_itemT ?_) | (with_reducible refine i_tix ?_) | (with_reducible refine i_tname ?_) | (with_reducible refine i_tpair ?_) | (with_reducible refine i_ttrip ?_) | (with_reducible refine i_tfld ?_) | (with_reducible refine i_dnil ?_) | (with_reducible refine i_fstr ?_) | (with_reducible refine f_end ?_) | (with_reducible refine f_one ?_) | (with_reducible refine i_meth ?_) | (with_reducible refine i_prop ?_) | (with_reducible refine i_spc ?_) | (with_reducible refine i_mb ?_) | (with_reducible refine i_tups ?_) | (with_reducible refine i_augf ?_) | (with_reducible refine i_lam ?_) | (with_reducible refine i_stry ?_) | (with_reducible refine i_raise1 ?_) | (with_reducible refine i_raise0 ?_) | (with_reducible refine h_nil ?_) | (with_reducible refine i_var (by with_unfolding_all exact rfl) ?_) | (with_reducible refine i_own (by with_unfolding_all exact rfl) ?_) | (with_reducible refine and_isL (by with_unfolding_all exact rfl) ?_) | ((with_reducible change EvK _ _ _ _ _ _); first | (with_reducible refine e_is ?_) | (with_reducible refine e_isnot ?_) | (with_reducible refine e_cmp' (by decide) (by decide) ?_)) | ((with_reducible change BinK _ _ _ _ _); first | (with_reducible refine k_addI ?_) | (with_reducible refine k_subI ?_) | (with_reducible refine k_mulI (by first | exact Bool.or_eq_true_iff.mpr (.inr (by decide)) | exact Bool.or_eq_true_iff.mpr (.inl (by decide))) ?_) | (with_reducible refine k_fdivI (by first | decide | assumption | omega) (by first | decide | assumption | omega) ?_) | (with_reducible refine k_modI (by first | decide | assumption | omega) ?_)) | ((with_reducible change CmpK _ _ _ _ _); first | (with_reducible refine k_eqI ?_) | (with_reducible refine k_neI ?_) | (with_reducible refine k_ltI ?_) | (with_reducible refine k_leI ?_) | (with_reducible refine k_gtI ?_) | (with_reducible refine k_geI ?_)) | ((with_reducible change TruK _ _); first | (with_reducible refine k_trB ?_)) | ((with_reducible change SinkK _ _); first | (with_reducible refine k_sink ?_) | (with_reducible refine k_sinkO (by with_unfolding_all exact rfl) ?_)) | ((with_reducible change SlotK _ _); first | (with_reducible refine k_slot ?_) | (with_reducible refine k_slotF ?_)) | ((with_reducible change RetK _ _ _ _); first | (with_reducible refine k_retV ?_) | (with_reducible refine k_retF ?_)) | ((with_reducible change SlK _ _ _ _ _); first | (with_reducible refine k_slT ?_) | (with_reducible refine k_slL ?_)) | ((with_reducible change ChK _ _); first | (refine k_ch ?_) | (refine k_chR (by first | assumption | exact get_set (by assumption) | exact get_set (get_set (by assumption)) | exact get_set (get_set (get_set (by assumption)))) (by exact rfl) ?_)) | ((with_reducible change IxK _ _ _ _); first | (refine k_ixR (by first | assumption | exact get_set (by assumption) | exact get_set (get_set (by assumption)) | exact get_set (get_set (get_set (by assumption)))) (by exact rfl) ?_) | (refine k_ix (by exact rfl) ?_)) | ((with_reducible change BiK _ _ _ _); first | (with_reducible refine k_listT ?_) | (with_reducible refine k_bint ?_) | (with_reducible refine k_lenT ?_) | (with_reducible refine k_lenL ?_) | (with_reducible refine k_tupL ?_) | (with_reducible refine k_tupT ?_) | (with_reducible refine k_abs ?_) | (with_reducible refine k_min2 ?_) | (with_reducible refine k_max2 ?_) | (with_reducible refine k_lrange (by omega) ?_) | (with_reducible refine k_divmod (by first | decide | assumption | omega) (by first | decide | assumption | omega) ?_)) | (with_reducible refine tt_ok ?_) | (with_reducible refine ff_ok ?_) | (with_reducible refine nt_ok ?_) | (with_reducible refine nf_ok ?_) | (with_reducible refine nn_ok ?_) | (with_reducible refine yn_ok ?_) | (with_reducible refine ex_int ?_) | (with_reducible refine f_ok (by with_unfolding_all exact rfl) ?_) | (with_reducible refine i_conH ?_)))
def c_Rail___len_14 : FDef := ⟨1, 1, (.cons (.ret (.bi .len (.cons (.fld (.var 0) 0) .nil))) .nil)⟩
def c_law_outcome_42 : FDef := ⟨1, 3, (.cons (.stry (.cons (.set 2 false (.act 0)) .nil) (.cons [1] (some 1) (.cons (.ret (.lst (.cons (.str (Str.ofString "InvalidHomes")) (.cons (.fld (.var 1) 17) (.cons (.band (.isi (.var 1) [.exc 4]) (.isi (.var 1) [.exc 3])) .nil))))) .nil) (.cons [0] (some 1) (.cons (.ret (.lst (.cons (.str (Str.ofString "InvalidSizes")) (.cons (.fld (.var 1) 17) (.cons (.band (.isi (.var 1) [.exc 4]) (.isi (.var 1) [.exc 3])) .nil))))) .nil) (.cons [2] (some 1) (.cons (.ret (.lst (.cons (.str (Str.ofString "InvalidWays")) (.cons (.fld (.var 1) 17) (.cons (.band (.isi (.var 1) [.exc 4]) (.isi (.var 1) [.exc 3])) .nil))))) .nil) .nil)))) (.cons (.ret (.lst (.cons (.str (Str.ofString "given")) (.cons (.var 2) .nil)))) .nil))⟩
def c_law_bad_43 : FDef := ⟨4, 7, (.cons (.par 5 6 false false (.call 33 (.cons (.var 0) (.cons (.var 2) .nil))) (.call 32 (.cons (.var 0) (.cons (.bi .len (.cons (.var 1) .nil)) .nil)))) (.cons (.set 4 false (.lst (.cons (.tup (.cons (.non) (.cons (.non) .nil))) (.cons (.tup (.cons (.bi .list (.cons (.var 1) .nil)) (.cons (.non) .nil))) (.cons (.tup (.cons (.tup .nil) (.cons (.non) .nil))) (.cons (.tup (.cons (.bin .mul (.tup (.cons (.ix (.var 1) (.int 0)) .nil)) (.bin .add (.var 3) (.int 1))) (.cons (.non) .nil))) (.cons (.tup (.cons (.int 5) (.cons (.non) .nil))) (.cons (.tup (.cons (.dnil) (.cons (.non) .nil))) .nil)))))))) (.cons (.ret (.call 33 (.cons (.var 0) (.cons (.bin .add (.var 4) (.bin .mul (.lst (.cons (.tup (.cons (.bin .add (.sl (.var 1) .none (.some (.var 6))) (.bin .mul (.tup (.cons (.var 5) .nil)) (.bin .sub (.bi .len (.cons (.var 1) .nil)) (.var 6)))) (.cons (.var 6) .nil))) .nil)) (.int 6))) .nil)))) .nil)))⟩
def c_law_right_44 : FDef := ⟨1, 11, (.cons (.asg (.pair (.name 5) (.name 6)) (.call 43 (.cons (.var 0) (.cons (.tup (.cons (.int 1) (.cons (.int 3) (.cons (.int 2) .nil)))) (.cons (.lst (.cons (.int 0) (.cons (.int 4) (.cons (.neg (.int 1)) (.cons (.non) (.cons (.bl true) (.cons (.str (Str.ofString "1")) (.cons (.tup (.cons (.int 1) .nil)) (.cons (.lst .nil) (.cons (.bin .pow (.int 10) (.int 19)) .nil)))))))))) (.cons (.int 8) .nil)))))) (.cons (.asg (.pair (.name 7) (.name 8)) (.call 43 (.cons (.var 0) (.cons (.tup (.cons (.int 0) (.cons (.int 2) .nil))) (.cons (.lst (.cons (.int 3) (.cons (.neg (.int 1)) (.cons (.non) (.cons (.bl false) (.cons (.str (Str.ofString "0")) (.cons (.tup (.cons (.int 0) .nil)) (.cons (.bin .pow (.int 10) (.int 19)) .nil)))))))) (.cons (.int 8) .nil)))))) (.cons (.set 1 false (.tup (.cons (.int 1) (.cons (.non) (.cons (.int 0) .nil))))) (.cons (.set 2 false (.lst (.cons (.non) (.cons (.lst (.cons (.int 1) (.cons (.non) (.cons (.int 0) .nil)))) (.cons (.tup (.cons (.int 1) (.cons (.non) .nil))) (.cons (.tup (.cons (.int 1) (.cons (.non) (.cons (.int 3) .nil)))) (.cons (.tup (.cons (.int 1) (.cons (.non) (.cons (.neg (.int 1)) .nil)))) (.cons (.tup (.cons (.bl true) (.cons (.non) (.cons (.int 0) .nil)))) (.cons (.tup (.cons (.int 1) (.cons (.str (Str.ofString "0")) (.cons (.int 0) .nil)))) (.cons (.tup (.cons (.int 1) (.cons (.non) (.cons (.int 0) (.cons (.int 0) .nil))))) (.cons (.int 5) .nil))))))))))) (.cons (.asg (.pair (.name 9) (.name 10)) (.call 43 (.cons (.var 0) (.cons (.tup (.cons (.var 1) (.cons (.var 1) .nil))) (.cons (.var 2) (.cons (.int 2) .nil)))))) (.cons (.set 3 true (.lst (.cons (.lam 42 (.new 0 (.cons (.var 5) (.cons (.var 7) (.cons (.var 9) .nil))))) .nil))) (.cons (.append (.var 3) (.lam 42 (.new 0 (.cons (.tup (.cons (.int 1) (.cons (.int 3) (.cons (.int 2) .nil)))) (.cons (.var 7) (.cons (.var 9) .nil)))))) (.cons (.append (.var 3) (.lam 42 (.new 0 (.cons (.tup (.cons (.int 1) (.cons (.int 3) (.cons (.int 2) .nil)))) (.cons (.tup (.cons (.int 0) (.cons (.int 2) .nil))) (.cons (.var 9) .nil)))))) (.cons (.append (.var 3) (.lam 42 (.newk 0 ["ways", "homes", "sizes"] [2, 1, 0] (.cons (.var 9) (.cons (.tup (.cons (.int 0) (.cons (.int 2) .nil))) (.cons (.tup (.cons (.int 1) (.cons (.int 3) (.cons (.int 2) .nil)))) .nil)))))) (.cons (.append (.var 3) (.lam 42 (.new 0 (.cons (.tup (.cons (.int 1) (.cons (.int 3) (.cons (.int 2) .nil)))) (.cons (.tup (.cons (.int 0) (.cons (.int 2) .nil))) (.cons (.tup (.cons (.var 1) .nil)) .nil)))))) (.cons (.set 4 false (.lst (.cons (.lst (.cons (.str (Str.ofString "InvalidSizes")) (.cons (.var 6) (.cons (.bl true) .nil)))) (.cons (.lst (.cons (.str (Str.ofString "InvalidHomes")) (.cons (.var 8) (.cons (.bl true) .nil)))) (.cons (.lst (.cons (.str (Str.ofString "InvalidWays")) (.cons (.var 10) (.cons (.bl true) .nil)))) .nil))))) (.cons (.sif (.cmp .ne (.bi .repr (.cons (.var 3) .nil)) (.bi .repr (.cons (.bin .add (.var 4) (.lst (.cons (.lst (.cons (.str (Str.ofString "InvalidWays")) (.cons (.var 10) (.cons (.bl true) .nil)))) (.cons (.lst (.cons (.str (Str.ofString "InvalidWays")) (.cons (.non) (.cons (.bl true) .nil)))) .nil)))) .nil))) (.cons (.ret (.bl false)) .nil) .nil) (.cons (.ret (.band (.cmp .eq (.spc .len 0 14 (.new 0 (.cons (.bin .mul (.tup (.cons (.int 3) .nil)) (.int 8)) (.cons (.bin .mul (.tup (.cons (.int 7) .nil)) (.int 8)) (.cons (.bin .mul (.tup (.cons (.bin .mul (.tup (.cons (.non) .nil)) (.int 8)) .nil)) (.int 8)) .nil))))) (.int 8)) (.cmp .eq (.spc .len 0 14 (.new 0 (.cons (.tup (.cons (.int 1) .nil)) (.cons (.tup (.cons (.int 0) .nil)) (.cons (.tup (.cons (.tup (.cons (.int 0) .nil)) .nil)) .nil))))) (.int 1)))) .nil)))))))))))))⟩
def c_law_550 : FDef := ⟨1, 2, (.cons (.ret (.bi .all (.cons (.lc (.name 1) (.range1 (.bi .max2 (.cons (.int 2) (.cons (.bi .min2 (.cons (.bi .len (.cons (.var 0) .nil)) (.cons (.int 5) .nil))) .nil)))) .none (.call 44 (.cons (.keep (.call 31 (.cons (.var 0) (.cons (.var 1) .nil)))) .nil))) .nil))) .nil)⟩
def badL (g0 : T) (gs odd : List T) (most : Nat) : List (T × T) := [(.non, .non), (.lst (g0 :: gs), .non), (.tup [], .non), (.tup (List.replicate (most + 1) g0), .non), (.int 5, .non), (.dct [] [], .non)] ++
  odd.flatMap fun w => (List.range (g0 :: gs).length).map fun a => (.tup ((g0 :: gs).take a ++ List.replicate ((g0 :: gs).length - a) w), nT a)
theorem bad_ok {P : Prog} {k : Nat} [Has P 32 c_law_dip_32] [Has P 33 c_law_one_33] [Has P 43 c_law_bad_43] {S : Store} {n : Nat} {g0 : T} {gs odd : List T} {most : Nat} (hc : Ch n S) (hl : gs.length < 100) (ho : 0 < odd.length) (ho2 : odd.length < 1000) (hm : most < 900) :
    Wp ((lev P (k + 4)).call 43 [.ref n, .tup (g0 :: gs), .lst odd, nT most] S) fun y S' => (∃ z, y = .val (.tup [z.1, z.2]) ∧ z ∈ badL g0 gs odd most) ∧ Ch n S' := by
  have lb := lim_big
  have hlen : ((g0 :: gs).length : Int) = (gs.length : Int) + 1 := by simp
  have hlen2 : (g0 :: gs).length = gs.length + 1 := rfl
  refine wp_call Has.at_ rfl ?_
  change WS (exB (lev P (k + 3)) _ [.val (.ref n), .val (.tup (g0 :: gs)), .val (.lst odd), .val (nT most), .un, .un, .un] S) _ _ _ _
  unfold c_law_bad_43
  bv_omega
  refine (one_ch (k := k + 1) hc ho (by omega)).mono ?_
  rintro y S1 ⟨w, rfl, hw, hc⟩
  bv_omega
  refine (dip_ch (k := k + 2) (m := (g0 :: gs).length) hc (by simp) (by simp only [List.length_cons]; omega)).mono ?_
  rintro y S2 ⟨a, rfl, ha, hc⟩
  bv_omega
  refine k_ixT (ts := g0 :: gs) (i := 0) (t := g0) rfl ?_
  bv_omega
  refine k_mulT (by simp; omega) ?_
  bv_omega
  rw [cut_to]
  refine k_mulT (by rw [Bool.and_eq_true, Bool.and_eq_true]; exact ⟨⟨decide_eq_true (by omega), decide_eq_true (by omega)⟩, by simp⟩) ?_
  rw [rep_one, rep_one]
  bv_omega
  refine k_addT (by simp only [List.length_append, List.length_take, List.length_replicate, List.length_cons]; omega) ?_
  bv_omega
  refine k_mulL (by rw [Bool.and_eq_true]; exact ⟨by decide, decide_eq_true (show 1 * 6 ≤ LIM by omega)⟩) ?_
  bv_omega
  refine k_addL (by simp; omega) ?_
  bv_omega
  refine (one_ch (k := k + 1) hc (by simp) (by simp)).mono ?_
  rintro y S3 ⟨t, rfl, ht, hc⟩
  bv_omega
  refine ⟨?_, hc⟩
  rw [rep_one] at ht
  rcases List.mem_append.mp ht with ht | ht
  · have e : (most + 1 : Int).toNat = most + 1 := by omega
    simp only [List.mem_cons, List.not_mem_nil, or_false] at ht
    rcases ht with rfl | rfl | rfl | rfl | rfl | rfl
    · exact ⟨(.non, .non), rfl, by simp [badL]⟩
    · exact ⟨(.lst (g0 :: gs), .non), rfl, by simp [badL]⟩
    · exact ⟨(.tup [], .non), rfl, by simp [badL]⟩
    · refine ⟨(.tup (List.replicate (most + 1) g0), .non), ?_, by simp [badL]⟩
      rw [e]
    · exact ⟨(.int 5, .non), rfl, by simp [badL]⟩
    · exact ⟨(.dct [] [], .non), rfl, by simp [badL]⟩
  · have ht := List.eq_of_mem_replicate ht
    subst ht
    refine ⟨(_, _), rfl, List.mem_append_right _ (List.mem_flatMap.mpr ⟨w, hw, List.mem_map.mpr ⟨a, List.mem_range.mpr ha, ?_⟩⟩)⟩
    have e : (((g0 :: gs).length : Int) - (a : Int)).toNat = (g0 :: gs).length - a := by omega
    rw [e]
end Z
set_option Elab.async false
set_option linter.all false
set_option maxRecDepth 100000
set_option maxHeartbeats 0
namespace LK
open PySem PySem.Spec PyProof.Rows L2 Z
def top (i : Nat) : Stmt := PySem.Challenge.pw_spillhooks_k02_rails_refused.main.body.getD i (.Pass ⟨0, 0, 0, 0⟩)
def d_is_between_6 : Def where
  id := 6
  cls := none
  name := "is_between"
  qual := "is_between"
  stm := top 9
  ps := ["value", "low", "high"]
  N := ["value", "low", "high"]
  code := c_is_between_6
  bind := fun _ _ _ _ _ _ us h => match us, h with | [_, _, _], _ => rfl
  kws := []
  kbind := trivial
def d_wrong_integer_7 : Def where
  id := 7
  cls := none
  name := "wrong_integer"
  qual := "wrong_integer"
  stm := top 10
  ps := ["numbers", "low", "high"]
  N := ["numbers", "low", "high", "index", "number"]
  code := c_wrong_integer_7
  bind := fun _ _ _ _ _ _ us h => match us, h with | [_, _, _], _ => rfl
  kws := []
  kbind := trivial
def d_is_goal_8 : Def where
  id := 8
  cls := none
  name := "is_goal"
  qual := "is_goal"
  stm := top 11
  ps := ["value", "hooks"]
  N := ["value", "hooks"]
  code := c_is_goal_8
  bind := fun _ _ _ _ _ _ us h => match us, h with | [_, _], _ => rfl
  kws := []
  kbind := trivial
def d_are_goals_9 : Def where
  id := 9
  cls := none
  name := "are_goals"
  qual := "are_goals"
  stm := top 12
  ps := ["value", "hooks"]
  N := ["value", "hooks", "goal"]
  code := c_are_goals_9
  bind := fun _ _ _ _ _ _ us h => match us, h with | [_, _], _ => rfl
  kws := []
  kbind := trivial
def d_check_sizes_10 : Def where
  id := 10
  cls := none
  name := "check_sizes"
  qual := "check_sizes"
  stm := top 13
  ps := ["value"]
  N := ["value", "index"]
  code := c_check_sizes_10
  bind := fun _ _ _ _ _ _ us h => match us, h with | [_], _ => rfl
  kws := []
  kbind := trivial
def d_check_homes_11 : Def where
  id := 11
  cls := none
  name := "check_homes"
  qual := "check_homes"
  stm := top 14
  ps := ["value", "hooks"]
  N := ["value", "hooks", "index"]
  code := c_check_homes_11
  bind := fun _ _ _ _ _ _ us h => match us, h with | [_, _], _ => rfl
  kws := []
  kbind := trivial
def d_check_ways_12 : Def where
  id := 12
  cls := none
  name := "check_ways"
  qual := "check_ways"
  stm := top 15
  ps := ["value", "kinds", "hooks"]
  N := ["value", "kinds", "hooks", "index", "goals"]
  code := c_check_ways_12
  bind := fun _ _ _ _ _ _ us h => match us, h with | [_, _, _], _ => rfl
  kws := []
  kbind := trivial
def d_Rail___init_13 : Def where
  id := 13
  cls := some "Rail"
  name := "__init__"
  qual := "Rail.__init__"
  stm := inClass (top 16) 0
  ps := ["self", "sizes", "homes", "ways"]
  N := ["self", "sizes", "homes", "ways"]
  code := c_Rail___init_13
  bind := fun _ _ _ _ _ _ us h => match us, h with | [_, _, _, _], _ => rfl
  kws := [(1, ["ways", "homes", "sizes"], [0, 3, 2, 1])]
  kbind := ⟨fun _ _ _ _ _ _ us ws h1 h2 => match us, h1, ws, h2 with | [_], _, [_, _, _], _ => rfl, trivial⟩
def d_Rail___len_14 : Def where
  id := 14
  cls := some "Rail"
  name := "__len__"
  qual := "Rail.__len__"
  stm := inClass (top 16) 1
  ps := ["self"]
  N := ["self"]
  code := c_Rail___len_14
  bind := fun _ _ _ _ _ _ us h => match us, h with | [_], _ => rfl
  kws := []
  kbind := trivial
  kind := 4
  cid := 0
def d_law_churn_31 : Def where
  id := 31
  cls := none
  name := "_law_churn"
  qual := "_law_churn"
  stm := top 18
  ps := ["_law_script", "_law_k"]
  N := ["_law_script", "_law_k", "_law_own", "_law_mixed", "_law_entry"]
  code := c_law_churn_31
  bind := fun _ _ _ _ _ _ us h => match us, h with | [_, _], _ => rfl
  kws := []
  kbind := trivial
def d_law_dip_32 : Def where
  id := 32
  cls := none
  name := "_law_dip"
  qual := "_law_dip"
  stm := top 19
  ps := ["_law_churn_here", "_law_many"]
  N := ["_law_churn_here", "_law_many", "_law_digit"]
  code := c_law_dip_32
  bind := fun _ _ _ _ _ _ us h => match us, h with | [_, _], _ => rfl
  kws := []
  kbind := trivial
def d_law_one_33 : Def where
  id := 33
  cls := none
  name := "_law_one"
  qual := "_law_one"
  stm := top 20
  ps := ["_law_churn_here", "_law_things"]
  N := ["_law_churn_here", "_law_things"]
  code := c_law_one_33
  bind := fun _ _ _ _ _ _ us h => match us, h with | [_, _], _ => rfl
  kws := []
  kbind := trivial
def d_law_outcome_42 : Def where
  id := 42
  cls := none
  name := "_law_outcome"
  qual := "_law_outcome"
  stm := top 21
  ps := ["_law_call"]
  N := ["_law_call", "e", "_law_given"]
  code := c_law_outcome_42
  bind := fun _ _ _ _ _ _ us h => match us, h with | [_], _ => rfl
  kws := []
  kbind := trivial
  kind := 1
def d_law_bad_43 : Def where
  id := 43
  cls := none
  name := "_law_bad"
  qual := "_law_bad"
  stm := top 22
  ps := ["_law_churn_here", "_law_good", "_law_odd", "_law_most"]
  N := ["_law_churn_here", "_law_good", "_law_odd", "_law_most", "_law_some", "_law_wrong", "_law_at"]
  code := c_law_bad_43
  bind := fun _ _ _ _ _ _ us h => match us, h with | [_, _, _, _], _ => rfl
  kws := []
  kbind := trivial
def d_law_right_44 : Def where
  id := 44
  cls := none
  name := "_law_right"
  qual := "_law_right"
  stm := top 23
  ps := ["_law_churn_here"]
  N := ["_law_churn_here", "_law_goals", "_law_odd", "_law_seen_here", "_law_due", "_law_sizes_here", "_law_spot", "_law_homes_here", "_law_late", "_law_ways_here", "_law_place"]
  code := c_law_right_44
  bind := fun _ _ _ _ _ _ us h => match us, h with | [_], _ => rfl
  kws := []
  kbind := trivial
  lam := true
def d_law_550 : Def where
  id := 550
  cls := none
  name := "law"
  qual := "law"
  stm := top 24
  ps := ["_law_script"]
  N := ["_law_script", "_law_k"]
  code := c_law_550
  bind := fun _ _ _ _ _ _ us h => match us, h with | [_], _ => rfl
  kws := []
  kbind := trivial
def d_InvalidSizes___init_2 : Def where
  id := 2
  cls := some "InvalidSizes"
  name := "__init__"
  qual := "InvalidSizes.__init__"
  stm := inClass (top 2) 0
  ps := ["self", "index"]
  N := ["self", "index"]
  code := ⟨2, 2, .nil⟩
  bind := fun _ _ _ _ _ _ us h => match us, h with | [_, _], _ => rfl
  kws := []
  kbind := trivial
  kind := 3
def d_InvalidHomes___init_3 : Def where
  id := 3
  cls := some "InvalidHomes"
  name := "__init__"
  qual := "InvalidHomes.__init__"
  stm := inClass (top 3) 0
  ps := ["self", "index"]
  N := ["self", "index"]
  code := ⟨2, 2, .nil⟩
  bind := fun _ _ _ _ _ _ us h => match us, h with | [_, _], _ => rfl
  kws := []
  kbind := trivial
  kind := 3
def d_InvalidWays___init_4 : Def where
  id := 4
  cls := some "InvalidWays"
  name := "__init__"
  qual := "InvalidWays.__init__"
  stm := inClass (top 4) 0
  ps := ["self", "index"]
  N := ["self", "index"]
  code := ⟨2, 2, .nil⟩
  bind := fun _ _ _ _ _ _ us h => match us, h with | [_, _], _ => rfl
  kws := []
  kbind := trivial
  kind := 3
def Q : Src where
  defs := [d_is_between_6, d_wrong_integer_7, d_is_goal_8, d_are_goals_9, d_check_sizes_10, d_check_homes_11, d_check_ways_12, d_Rail___init_13, d_Rail___len_14, d_law_churn_31, d_law_dip_32, d_law_one_33, d_law_outcome_42, d_law_bad_43, d_law_right_44, d_law_550, d_InvalidSizes___init_2, d_InvalidHomes___init_3, d_InvalidWays___init_4]
  cls := [⟨0, "Rail", 13, 4⟩]
  nums := [(1, "MOST_HOOKS", 8), (2, "MOST_KINDS", 8), (0, "MOST_SIZE", 3)]
  frees := ["ValueError", "abs", "all", "bool", "divmod", "enumerate", "int", "isinstance", "len", "list", "max", "min", "range", "repr", "tuple"]
  attrs := ["sizes", "homes", "ways", "told", "rail", "fill", "fallen", "past", "busy", "earlier", "rack", "kept", "known", "tried", "hung", "hooks", "value", "index", "limit"]
  errs := [⟨0, "InvalidSizes", true, "", some (some (17, 2)), .ve, [0, 4, 3]⟩, ⟨1, "InvalidHomes", true, "", some (some (17, 3)), .ve, [1, 4, 3]⟩, ⟨2, "InvalidWays", true, "", some (some (17, 4)), .ve, [2, 4, 3]⟩, ⟨3, "ValueError", false, "ValueError", none, .ve, [3]⟩, ⟨4, "InputError", true, "", none, .ve, [4, 3]⟩]
-- XAT [(0, (some 17)), (1, (some 17)), (2, (some 17))]
-- XIS [(0, 0, true), (0, 1, false), (0, 2, false), (0, 3, true), (0, 4, true), (1, 0, false), (1, 1, true), (1, 2, false), (1, 3, true), (1, 4, true), (2, 0, false), (2, 1, false), (2, 2, true), (2, 3, true), (2, 4, true)]
theorem Q_ok : Q.ok = true := by kernel_rfl
def loose0 : List PySem.Str := ["InputError", "InvalidSizes", "InvalidHomes", "InvalidWays", "MOST_HOOKS", "MOST_KINDS", "MOST_SIZE", "is_between", "wrong_integer", "is_goal", "are_goals", "check_sizes", "check_homes", "check_ways", "Rail", "_law_churn", "_law_dip", "_law_one", "_law_outcome", "_law_bad", "_law_right"]
def loose : List PySem.Str := loose0
-- LAW 24 STEPS
end LK
set_option Elab.async false
set_option linter.all false
set_option maxRecDepth 100000
set_option maxHeartbeats 0
namespace LK
open PySem PySem.Spec PyProof.Rows L2 Z
abbrev R : PySem.W.OpenRow := PySem.W.OpenLaw.row PySem.Challenge.rw_spillhooks_k02_rails_refused
abbrev hkx : PySem.W.Hook := hookP 4 Q.fa Q.fn Q.tf Q.ex Q.pr
def ob (s : PySem.W.SharedT) : He.AlX × List He.FnW := obsP 4 Q.fa Q.fn Q.tf Q.ex Q.pr (HandSHeadRun.getT s)
theorem ob_eq (s : PySem.W.SharedT) : ob s = hkx.obs s.abs := obsP_eq (HandSHeadRun.getT_eq s)
theorem run (w : World) : HandSHeadRun.RunEq R (PySem.W.view R.prog [24]) hkx ob 4000 loose w := by
  intro os
  kernel_rfl
end LK
set_option Elab.async false
set_option linter.all false
set_option maxRecDepth 100000
set_option maxHeartbeats 0
namespace LK
open Z
instance : Has Q.prog 6 c_is_between_6 := ⟨by kernel_rfl⟩
instance : Has Q.prog 7 c_wrong_integer_7 := ⟨by kernel_rfl⟩
instance : Has Q.prog 8 c_is_goal_8 := ⟨by kernel_rfl⟩
instance : Has Q.prog 9 c_are_goals_9 := ⟨by kernel_rfl⟩
instance : Has Q.prog 10 c_check_sizes_10 := ⟨by kernel_rfl⟩
instance : Has Q.prog 11 c_check_homes_11 := ⟨by kernel_rfl⟩
instance : Has Q.prog 12 c_check_ways_12 := ⟨by kernel_rfl⟩
instance : Has Q.prog 13 c_Rail___init_13 := ⟨by kernel_rfl⟩
instance : Has Q.prog 14 c_Rail___len_14 := ⟨by kernel_rfl⟩
instance : Has Q.prog 31 c_law_churn_31 := ⟨by kernel_rfl⟩
instance : Has Q.prog 32 c_law_dip_32 := ⟨by kernel_rfl⟩
instance : Has Q.prog 33 c_law_one_33 := ⟨by kernel_rfl⟩
instance : Has Q.prog 42 c_law_outcome_42 := ⟨by kernel_rfl⟩
instance : Has Q.prog 43 c_law_bad_43 := ⟨by kernel_rfl⟩
instance : Has Q.prog 44 c_law_right_44 := ⟨by kernel_rfl⟩
instance : Has Q.prog 550 c_law_550 := ⟨by kernel_rfl⟩
instance : HasC Q.prog 0 ⟨13, 4⟩ := ⟨by kernel_rfl⟩
instance : HasK Q.prog 0 (.int 3) := ⟨by kernel_rfl⟩
instance : HasK Q.prog 1 (.int 8) := ⟨by kernel_rfl⟩
instance : HasK Q.prog 2 (.int 8) := ⟨by kernel_rfl⟩
instance : HasX Q.prog 0 (some 17) := ⟨by kernel_rfl⟩
instance : HasX Q.prog 1 (some 17) := ⟨by kernel_rfl⟩
instance : HasX Q.prog 2 (some 17) := ⟨by kernel_rfl⟩
abbrev XIS : List (Nat × Nat × Bool) := [(0, 0, true), (0, 1, false), (0, 2, false), (0, 3, true), (0, 4, true), (1, 0, false), (1, 1, true), (1, 2, false), (1, 3, true), (1, 4, true), (2, 0, false), (2, 1, false), (2, 2, true), (2, 3, true), (2, 4, true)]
theorem xis_all : (XIS.all fun x => decide (Q.prog.xis x.1 x.2.1 = some x.2.2)) = true := by kernel_rfl
instance : HasI Q.prog XIS := ⟨fun x hx => of_decide_eq_true (List.all_eq_true.mp xis_all x hx)⟩
end LK
set_option Elab.async false
set_option linter.all false
set_option maxRecDepth 100000
set_option maxHeartbeats 0
namespace LK
open Z PySem
theorem wp_eq {A : Type} {o : Out A} {a : A} {S : Store} {X : Nat → List T → Store → Prop} {V : A → Store → Prop} (e : o = .ok a S) (v : V a S) : WpX X o V := by rw [e]; exact v
theorem ws_eq {f : Fl} {x : Z.R} {S : Store} {XS : Nat → List T → Z.Env → Store → Prop} {N B K : Z.Env → Store → Prop} {Y : Z.R → Store → Prop} (e : f = .rt x S) (v : Y x S) : WSX XS f N B K Y := by rw [e]; exact v
abbrev L1 : List (T × T) := badL (.int 1) [.int 3, .int 2] [.int 0, .int 4, .int (-1), .non, .bl true, .str (Str.ofString "1"), .tup [.int 1], .lst [], .int (10 ^ (19 : Int).toNat)] 8
abbrev L2 : List (T × T) := badL (.int 0) [.int 2] [.int 3, .int (-1), .non, .bl false, .str (Str.ofString "0"), .tup [.int 0], .int (10 ^ (19 : Int).toNat)] 8
abbrev G0 : T := .tup [.int 1, .non, .int 0]
abbrev L3 : List (T × T) := badL G0 [G0] [.non, .lst [.int 1, .non, .int 0], .tup [.int 1, .non], .tup [.int 1, .non, .int 3], .tup [.int 1, .non, .int (-1)], .tup [.bl true, .non, .int 0], .tup [.int 1, .str (Str.ofString "0"), .int 0], .tup [.int 1, .non, .int 0, .int 0], .int 5] 2
abbrev nm (x : Str) (p : T) : T := .lst [.str x, p, .bl true]
abbrev xS : Str := Str.ofString "InvalidSizes"
abbrev xH : Str := Str.ofString "InvalidHomes"
abbrev xW : Str := Str.ofString "InvalidWays"
abbrev cS : CE := .tup (.cons (.int 1) (.cons (.int 3) (.cons (.int 2) .nil)))
abbrev cH : CE := .tup (.cons (.int 0) (.cons (.int 2) .nil))
abbrev E1 : CE := .new 0 (.cons (.var 5) (.cons (.var 7) (.cons (.var 9) .nil)))
abbrev E2 : CE := .new 0 (.cons cS (.cons (.var 7) (.cons (.var 9) .nil)))
abbrev E3 : CE := .new 0 (.cons cS (.cons cH (.cons (.var 9) .nil)))
abbrev E4 : CE := .newk 0 ["ways", "homes", "sizes"] [2, 1, 0] (.cons (.var 9) (.cons cH (.cons cS .nil)))
abbrev E5 : CE := .new 0 (.cons cS (.cons cH (.cons (.tup (.cons (.var 1) .nil)) .nil)))
section
variable (k : Nat) (S : Store) (s0 s1 s2 s3 s4 s5 s6 s7 s8 s10 : Slot) (h w : T)
theorem f1 : L1.map (fun z => (lev Q.prog (k + 18)).callL 42 E1 [s0, s1, s2, s3, s4, .val z.1, s6, .val h, s8, .val w, s10] S) = L1.map fun z => .ok (.fresh (.lst [.str xS, z.2, .bl true])) S := by kernel_rfl
theorem f2 : L2.map (fun z => (lev Q.prog (k + 18)).callL 42 E2 [s0, s1, s2, s3, s4, s5, s6, .val z.1, s8, .val w, s10] S) = L2.map fun z => .ok (.fresh (.lst [.str xH, z.2, .bl true])) S := by kernel_rfl
theorem f3 : L3.map (fun z => (lev Q.prog (k + 18)).callL 42 E3 [s0, s1, s2, s3, s4, s5, s6, s7, s8, .val z.1, s10] S) = L3.map fun z => .ok (.fresh (.lst [.str xW, z.2, .bl true])) S := by kernel_rfl
theorem f4 : L3.map (fun z => (lev Q.prog (k + 18)).callL 42 E4 [s0, s1, s2, s3, s4, s5, s6, s7, s8, .val z.1, s10] S) = L3.map fun z => .ok (.fresh (.lst [.str xW, z.2, .bl true])) S := by kernel_rfl
theorem f5 (s9 : Slot) : (lev Q.prog (k + 18)).callL 42 E5 [s0, .val G0, s2, s3, s4, s5, s6, s7, s8, s9, s10] S = .ok (.fresh (.lst [.str xW, .non, .bl true])) S := by kernel_rfl
end
def PlOk (p : T) : Prop := p = .non ∨ ∃ a : Nat, a < 100 ∧ p = nT a
theorem bad_pl {g0 : T} {gs odd : List T} {most : Nat} (hl : gs.length < 90) {z : T × T} (h : z ∈ badL g0 gs odd most) : PlOk z.2 := by
  rcases List.mem_append.mp h with h | h
  · left
    simp only [List.mem_cons, List.not_mem_nil, or_false] at h
    rcases h with rfl | rfl | rfl | rfl | rfl | rfl <;> rfl
  · obtain ⟨w, _, h⟩ := List.mem_flatMap.mp h
    obtain ⟨a, ha, rfl⟩ := List.mem_map.mp h
    have := List.mem_range.mp ha
    simp only [List.length_cons] at this
    exact .inr ⟨a, by omega, rfl⟩
abbrev DUE (p1 p2 p3 : T) : T := .lst [nm xS p1, nm xH p2, nm xW p3, nm xW p3, nm xW .non]
theorem smx : smS xS = true ∧ smS xH = true ∧ smS xW = true := ⟨by kernel_rfl, by kernel_rfl, by kernel_rfl⟩
theorem pl_sm {p : T} (h : PlOk p) (n : Nat) : smTU n p = true := by
  rcases h with rfl | ⟨a, ha, rfl⟩
  · cases n <;> rfl
  · have e : smTU n (nT a) = decide (((a : Int)).natAbs < 1000000000) := by cases n <;> rfl
    rw [e]
    exact decide_eq_true (by omega)
theorem due_sm {p1 p2 p3 : T} (h1 : PlOk p1) (h2 : PlOk p2) (h3 : PlOk p3) : smTU 2 (DUE p1 p2 p3) = true ∧ (toD (DUE p1 p2 p3)).bulk ≤ 2 ^ 20 := by
  obtain ⟨x1, x2, x3⟩ := smx
  have row : ∀ (x : Str) (p : T), smS x = true → PlOk p → smTU 1 (nm x p) = true := fun x p hx hp => by
    show ([T.str x, p, .bl true].all (smTU 0)) = true
    have e : smTU 0 (T.str x) = smS x := rfl
    simp only [List.all_cons, List.all_nil, e, hx, pl_sm hp 0, Bool.true_and, Bool.and_true]
    rfl
  constructor
  · show ([nm xS p1, nm xH p2, nm xW p3, nm xW p3, nm xW .non].all (smTU 1)) = true
    simp only [List.all_cons, List.all_nil, row xS p1 x1 h1, row xH p2 x2 h2, row xW p3 x3 h3, row xW .non x3 (.inl rfl), Bool.and_self]
  · rcases h1 with rfl | ⟨a, _, rfl⟩ <;> rcases h2 with rfl | ⟨b, _, rfl⟩ <;> rcases h3 with rfl | ⟨c, _, rfl⟩ <;> exact Nat.le_of_ble_eq_true (by kernel_rfl)
local macro_rules | `(tactic| bv_omega) => `(tactic| repeat (first | (with_reducible refine i_cons ?_) | (with_reducible refine i_nil ?_) | (with_reducible refine i_set ?_) | (with_reducible refine i_par ?_) | (with_reducible refine i_par3 ?_) | (with_reducible refine i_asg ?_) | (with_reducible refine i_append ?_) | (with_reducible refine i_expr ?_) | (with_reducible refine i_ret ?_) | (with_reducible refine i_retN ?_) | (with_reducible refine i_brk ?_) | (with_reducible refine i_cnt ?_) | (with_reducible refine i_pass ?_) | (with_reducible refine i_sif ?_) | (with_reducible refine i_sfor ?_) | (with_reducible refine i_int ?_) | (with_reducible refine i_bl ?_) | (with_reducible refine i_str ?_) | (with_reducible refine i_non ?_) | (with_reducible refine i_tup ?_) | (with_reducible refine i_lst ?_) | (with_reducible refine i_bin ?_) | (with_reducible refine i_neg ?_) | (with_reducible refine i_cmp ?_) | (with_reducible refine i_chain ?_) | (with_reducible refine i_band ?_) | (with_reducible refine i_bor ?_) | (with_reducible refine i_bnot ?_) | (with_reducible refine i_ife ?_) | (with_reducible refine i_ix ?_) | (with_reducible refine i_sl ?_) | (with_reducible refine i_onone ?_) | (with_reducible refine i_osome ?_) | (with_reducible refine i_fld ?_) | (with_reducible refine i_call ?_) | (with_reducible refine i_new ?_) | (with_reducible refine i_callk ?_) | (with_reducible refine i_isi ?_) | (with_reducible refine i_bi ?_) | (with_reducible refine i_anil ?_) | (with_reducible refine i_acons ?_) | (with_reducible refine i_bnil ?_) | (with_reducible refine i_bcons ?_) | (with_reducible refine i_ice ?_) | (with_reducible refine i_irange1 ?_) | (with_reducible refine i_ienum ?_) | (with_reducible refine i_lc0 ?_) | (with_reducible refine i_lc1 ?_) | (with_reducible refine i_item ?_) | (with_reducible refine i_itemT ?_) | (with_reducible refine i_tix ?_) | (with_reducible refine i_tname ?_) | (with_reducible refine i_tpair ?_) | (with_reducible refine i_ttrip ?_) | (with_reducible refine i_tfld ?_) | (with_reducible refine i_dnil ?_) | (with_reducible refine i_fstr ?_) | (with_reducible refine f_end ?_) | (with_reducible refine f_one ?_) | (with_reducible refine i_meth ?_) | (with_reducible refine i_prop ?_) | (with_reducible refine i_spc ?_) | (with_reducible refine i_mb ?_) | (with_reducible refine i_tups ?_) | (with_reducible refine i_augf ?_) | (with_reducible refine i_lam ?_) | (with_reducible refine i_stry ?_) | (with_reducible refine i_raise1 ?_) | (with_reducible refine i_raise0 ?_) | (with_reducible refine h_nil ?_) | (with_reducible refine i_var (by with_unfolding_all exact rfl) ?_) | (with_reducible refine i_own (by with_unfolding_all exact rfl) ?_) | (with_reducible refine and_isL (by with_unfolding_all exact rfl) ?_) | ((with_reducible change EvK _ _ _ _ _ _); first | (with_reducible refine e_is ?_) | (with_reducible refine e_isnot ?_) | (with_reducible refine e_cmp' (by decide) (by decide) ?_)) | ((with_reducible change BinK _ _ _ _ _); first | (with_reducible refine k_addI ?_) | (with_reducible refine k_subI ?_) | (with_reducible refine k_mulI (by first | exact Bool.or_eq_true_iff.mpr (.inr (by decide)) | exact Bool.or_eq_true_iff.mpr (.inl (by decide))) ?_) | (with_reducible refine k_fdivI (by first | decide | assumption | omega) (by first | decide | assumption | omega) ?_) | (with_reducible refine k_modI (by first | decide | assumption | omega) ?_)) | ((with_reducible change CmpK _ _ _ _ _); first | (with_reducible refine k_eqI ?_) | (with_reducible refine k_neI ?_) | (with_reducible refine k_ltI ?_) | (with_reducible refine k_leI ?_) | (with_reducible refine k_gtI ?_) | (with_reducible refine k_geI ?_)) | ((with_reducible change TruK _ _); first | (with_reducible refine k_trB ?_)) | ((with_reducible change SinkK _ _); first | (with_reducible refine k_sink ?_) | (with_reducible refine k_sinkO (by with_unfolding_all exact rfl) ?_)) | ((with_reducible change SlotK _ _); first | (with_reducible refine k_slot ?_) | (with_reducible refine k_slotF ?_)) | ((with_reducible change RetK _ _ _ _); first | (with_reducible refine k_retV ?_) | (with_reducible refine k_retF ?_)) | ((with_reducible change SlK _ _ _ _ _); first | (with_reducible refine k_slT ?_) | (with_reducible refine k_slL ?_)) | ((with_reducible change ChK _ _); first | (refine k_ch ?_) | (refine k_chR (by first | assumption | exact get_set (by assumption) | exact get_set (get_set (by assumption)) | exact get_set (get_set (get_set (by assumption)))) (by exact rfl) ?_)) | ((with_reducible change IxK _ _ _ _); first | (refine k_ixR (by first | assumption | exact get_set (by assumption) | exact get_set (get_set (by assumption)) | exact get_set (get_set (get_set (by assumption)))) (by exact rfl) ?_) | (refine k_ix (by exact rfl) ?_)) | ((with_reducible change BiK _ _ _ _); first | (with_reducible refine k_listT ?_) | (with_reducible refine k_bint ?_) | (with_reducible refine k_lenT ?_) | (with_reducible refine k_lenL ?_) | (with_reducible refine k_tupL ?_) | (with_reducible refine k_tupT ?_) | (with_reducible refine k_abs ?_) | (with_reducible refine k_min2 ?_) | (with_reducible refine k_max2 ?_) | (with_reducible refine k_lrange (by omega) ?_) | (with_reducible refine k_divmod (by first | decide | assumption | omega) (by first | decide | assumption | omega) ?_)) | (with_reducible refine tt_ok ?_) | (with_reducible refine ff_ok ?_) | (with_reducible refine nt_ok ?_) | (with_reducible refine nf_ok ?_) | (with_reducible refine nn_ok ?_) | (with_reducible refine yn_ok ?_) | (with_reducible refine ex_int ?_) | (with_reducible refine f_ok (by with_unfolding_all exact rfl) ?_) | (with_reducible refine i_conH ?_)))
theorem right2_ok {k : Nat} {S : Store} {n : Nat} (hc : Ch n S) : Wp ((lev Q.prog (k + 19)).call 44 [.ref n] S) fun y S' => y = .val (.bl true) ∧ Ch n S' := by
  have lb := lim_big
  refine wp_call (Has.at_ (P := Q.prog) (i := 44)) rfl ?_
  change WS (exB (lev Q.prog (k + 18)) _ [.val (.ref n), .un, .un, .un, .un, .un, .un, .un, .un, .un, .un] S) _ _ _ _
  unfold c_law_right_44
  bv_omega
  refine k_powI (by decide) ?_
  bv_omega
  refine (bad_ok (P := Q.prog) (k := k + 14) (most := 8) hc (by decide) (by decide) (by decide) (by decide)).mono ?_
  rintro y S1 ⟨⟨z1, rfl, h1⟩, hc⟩
  bv_omega
  refine k_powI (by decide) ?_
  bv_omega
  refine (bad_ok (P := Q.prog) (k := k + 14) (most := 8) hc (by decide) (by decide) (by decide) (by decide)).mono ?_
  rintro y S2 ⟨⟨z2, rfl, h2⟩, hc⟩
  bv_omega
  refine (bad_ok (P := Q.prog) (k := k + 14) (most := 2) hc (by decide) (by decide) (by decide) (by decide)).mono ?_
  rintro y S3 ⟨⟨z3, rfl, h3⟩, hc⟩
  bv_omega
  refine wp_eq (List.map_inj_left.mp (f1 k S3 _ _ _ _ _ _ _ _ _ _) z1 h1) ?_
  bv_omega
  refine wp_eq (List.map_inj_left.mp (f2 k S3 _ _ _ _ _ _ _ _ _ _) z2 h2) ?_
  bv_omega
  refine wp_eq (List.map_inj_left.mp (f3 k S3 _ _ _ _ _ _ _ _ _ _) z3 h3) ?_
  bv_omega
  refine wp_eq (List.map_inj_left.mp (f4 k S3 _ _ _ _ _ _ _ _ _ _) z3 h3) ?_
  bv_omega
  refine wp_eq (f5 k S3 _ _ _ _ _ _ _ _ _ _) ?_
  bv_omega
  have ds := due_sm (bad_pl (by decide) h1) (bad_pl (by decide) h2) (bad_pl (by decide) h3)
  change BiK .repr [DUE z1.2 z2.2 z3.2] _ _
  refine k_reprU 2 (by decide) ds.1 ds.2 ?_
  bv_omega
  refine k_addL (by simp; omega) ?_
  bv_omega
  change BiK .repr [DUE z1.2 z2.2 z3.2] _ _
  refine k_reprU 2 (by decide) ds.1 ds.2 ?_
  bv_omega
  refine k_neS (shown_strOkU ds.1) (shown_strOkU ds.1) ?_
  rw [eqv_str]
  refine k_trB (nt_ok (i_nil ?_))
  exact ws_eq (x := .val (.bl true)) (S := S3) (by kernel_rfl) ⟨rfl, hc⟩
theorem law_ok {k : Nat} {ns : List Int} (hn : ns.length ≤ 1000) :
    Wp ((lev Q.prog (k + 20)).call 550 [.lst (ns.map .int)] []) fun y _ => y = .val (.bl true) := by
  have lb := lim_big
  refine wp_call Has.at_ rfl ?_
  change WS (exB (lev Q.prog (k + 19)) _ [.val (.lst (ns.map .int)), .un] []) _ _ _ _
  unfold c_law_550
  bv_omega
  obtain ⟨m, hm, hm2⟩ : ∃ m : Nat, (if (if (5 : Int) < ((ns.map T.int).length : Int) then (5 : Int) else ((ns.map T.int).length : Int)) > 2 then (if (5 : Int) < ((ns.map T.int).length : Int) then (5 : Int) else ((ns.map T.int).length : Int)) else 2) = (m : Int) ∧ m ≤ 5 := by
    exact ⟨max 2 (min (ns.map T.int).length 5), by (repeat' split) <;> omega, by omega⟩
  rw [hm]
  refine ⟨in62_nat (by omega), ?_⟩
  refine comp_range (fun _ => True) (fun b => b = true) (fun b => .bl b) m trivial (fun j hj S2 h2 => ⟨_, rfl, ?_⟩) fun as S2 hl hp h2 => ⟨by rw [List.length_map]; omega, ?_⟩
  · refine i_item ?_
    bv_omega
    refine i_keep ?_
    bv_omega
    refine (churn_law (k := k + 18) (by omega) hn).mono ?_
    rintro y S3 ⟨⟨o, c, x, rfl⟩, rfl⟩
    refine ⟨_, rfl, ?_⟩
    bv_omega
    refine (right2_ok (k := k) ⟨o, c, x, by rw [List.getElem?_append_right (Nat.le_refl _), Nat.sub_self]; rfl⟩).mono ?_
    rintro y S4 ⟨rfl, hc⟩
    bv_omega
    exact ⟨true, rfl, rfl, trivial⟩
  · obtain rfl : as = List.replicate m true := List.eq_replicate_iff.mpr ⟨hl, hp⟩
    rw [List.map_replicate]
    bv_omega
    refine k_bi (all_true _) ?_
    bv_omega
    rfl
end LK
set_option Elab.async false
set_option linter.all false
set_option maxRecDepth 100000
set_option maxHeartbeats 0
namespace LK
open Z
theorem ev (ns : List Int) (h : ns.length ≤ 63) : ∃ S', (lev Q.prog 200).call 550 [.lst (ns.map .int)] [] = .ok (.val (.bl true)) S' := by
  have w := law_ok (k := 180) (ns := ns) (by omega)
  cases q : (lev Q.prog 200).call 550 [.lst (ns.map .int)] [] with
  | ok y S' =>
    rw [q] at w
    exact ⟨S', by rw [show y = _ from w]⟩
  | _ => rw [q] at w; exact w.elim
end LK
open PySem PySem.W PySem.Calls PyProof.Rows
theorem PySem.Challenge.cw_spillhooks_k02_rails_refused_holds : PySem.Challenge.rw_spillhooks_k02_rails_refused.Holds := by
  w_on; o_law
  refine HandSHeadRun.head_any (H := LK.hkx) (ob := LK.ob) (M := 4000) (r := OpenLaw.row PySem.Challenge.rw_spillhooks_k02_rails_refused) (q := view LK.R.prog [24]) (loose := LK.loose) (kwd := []) (d := HandSHeadRun.topDef LK.R.prog 24)
    LK.ob_eq (by kernel_rfl) (fun s => by kernel_rfl) LK.run (by kernel_rfl) (by kernel_rfl) (by kernel_rfl) (by rfl) (by decide +kernel) (by decide +kernel) ⟨rfl, rfl, rfl, rfl, rfl, by decide +kernel⟩ ?hw ?hc
  case hw => w_witness2
  case hc => exact Z.law_walk (Q := LK.Q) LK.Q_ok (n := 63) (g := 550) (k := 199) (d := LK.d_law_550) (x := "_law_script") rfl (by decide) (by kernel_rfl) ⟨rfl, by decide, by decide⟩ (by kernel_rfl) rfl rfl (by kernel_rfl) LK.ev
