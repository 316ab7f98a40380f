import PyProof.Rows.All
import Wide.All
import OpenK.AllK
import Wide.FinOn
import HandS.ForMost
import HandS.IsInst
import HandS.Zip
import HandS.TupAny
import HandS.Deep
import HandS.SetFor
import HandS.Style
import HandS.TupSets
import HandS.TupLe
import HandS.Lambda
import KE.GoesMore
import HandS.ForExc
import HandS.ExcIs
import HandS.EndTab
import HandS.Nested
import PySem.Challenge.RW_nothrees_k14_whole_handed
set_option Elab.async false
set_option linter.all false
set_option maxRecDepth 100000
set_option maxHeartbeats 4000000
/-! A pure interpreter over plain data: data, IR, evaluation. -/
namespace Nt
open PySem PySem.Spec PyProof.Rows L2

/-- a lambda of one parameter, nothing captured: the number of its body, its words -/
structure LmD where
  k : Nat
  qual : Str
  params : Arguments
  body : Expr
  scope : Scope
/-- data: frl is the law's script (a list known to the object); ins c ds an instance of the class of number c with its fields; fn k the def of number k; emp an empty dict -/
inductive D where
  | non | bl (b : Bool) | int (i : Int) | str (s : Str) | tup (ds : List D) | lst (ds : List D) | frl (ns : List Int) | ins (c : Nat) (ds : List D) | fn (k : Nat) | emp | lam (l : LmD)
  deriving Inhabited

inductive Ty where
  | int | bool | str | tup | lst | cls (c : Nat)
inductive O1 where
  | neg | not | len | all | any | sum | max | sort | ssort | lst | tup | ist (t : Ty) | abs
inductive O2 where
  | add | sub | mul | fdiv | mod | pow | shr | eq | ne | lt | le | gt | ge | mem | nmem | is | isn | max | min | cnt | rep | adi
/-- a target: one name or a tuple of names -/
inductive Tg where
  | one (i : Nat) | many (is : List Nat)

mutual
inductive E where
  | var (i : Nat) | lit (d : D) | tup (es : Es) | lst (es : Es)
  | o1 (o : O1) (a : E) | o2 (o : O2) (a b : E)
  | ite (c a b : E) | and (a b : E) | or (a b : E) | ch (o o' : O2) (a b c : E)
  | call (k : Nat) (es : Es) | mk (c : Nat) (es : Es) | shows (o : E) (es : Es) | fld (a : E) (f : Str)
  | slL (a lo : E) | slH (a hi : E) | slB (a lo hi : E) | rev (a : E) | ix (a i : E)
  | comp (s : Sr) (t : Tg) (e : E) | compI (s : Sr) (t : Tg) (c e : E)
  /-- a local's lambda, called -/
  | ask (i : Nat) (e : E)
  /-- the one field of a new instance -/
  | fldN (a : E) (f : Str)
inductive Es where
  | nil | cons (e : E) (es : Es)
inductive Sr where
  | sq (e : E) | r1 (a : E) | r2 (a b : E) | r3 (a b c : E) | zp (a b : E) | zp3 (a b c : E) | en (a : E)
end

mutual
inductive S where
  | asg (i : Nat) (e : E) | mov (j i : Nat) | par (i j : Nat) (a b : E) | unp (is : List Nat) (e : E)
  | app (i : Nat) (e : E) | ext (i : Nat) (e : E) | seti (i : Nat) (k e : E) | popd (i : Nat) (k : E) | fapp (i : Nat) (f : Str) (e : E)
  | ifs (c : E) (a b : Ss) | for (t : Tg) (s : Sr) (b : Ss) | whl (c : E) (b : Ss)
  | ret (e : E) | retn | ex (e : E) | fail
  /-- as asg, the value without lists -/
  | asgF (i : Nat) (e : E)
  /-- x[k], x[l] = a pair -/
  | seti2 (i : Nat) (k l e : E)
  /-- x.insert(k, e) -/
  | inst (i : Nat) (k e : E)
  /-- x = l.pop() -/
  | popa (i j : Nat)
  /-- three names = three values -/
  | par3 (i j l : Nat) (a b c : E)
  /-- as asg, the value a new instance -/
  | asgN (i : Nat) (e : E)
inductive Ss where
  | nil | cons (s : S) (ss : Ss)
end

/-- a def: how many parameters, how many slots, whether what it hands back is a new list (or object), its body -/
structure Fn where
  np : Nat
  ns : Nat
  fr : Bool
  body : Ss
structure Tb where
  fns : List Fn
  /-- class c stands under class c' -/
  sub : Nat → Nat → Option Bool
  /-- the def that `shows` of class c is -/
  sh : Nat → Option Nat
  /-- the class's fields: true where it is list(..) of the argument -/
  cf : Nat → Option (List Bool)
  /-- their names -/
  cn : Nat → List Str
  /-- how many calls are allowed here, one in another -/
  lv : Nat

abbrev Env := List (Option D)
def gt (env : Env) (i : Nat) : Option D := match env[i]? with
  | some o => o
  | none => none

def LIM : Nat := 1000000

/-! ### operations -/
mutual
def toP : D → PyData
  | .non => .none | .bl b => .bool b | .int i => .int i | .str s => .str s | .tup ds => .tuple (toPs ds) | .lst ds => .list (toPs ds) | .frl _ => .none | .ins _ _ => .none | .fn _ => .none | .emp => .none | .lam _ => .none
def toPs : List D → List PyData
  | [] => [] | d :: ds => toP d :: toPs ds
end
mutual
/-- plain data of depth at most n -/
def shp (n : Nat) : D → Bool
  | .non => true | .bl _ => true | .int _ => true | .str s => PyData.strOk s | .tup ds => shps n ds | .lst ds => shps n ds | .frl _ => false | .ins _ _ => false | .fn _ => false | .emp => false | .lam _ => false
def shps (n : Nat) : List D → Bool
  | [] => true | d :: ds => shp n d && shps n ds
end
mutual
def dep : D → Nat
  | .tup ds => deps ds + 1 | .lst ds => deps ds + 1 | .non => 0 | .bl _ => 0 | .int _ => 0 | .str _ => 0 | .frl _ => 0 | .ins _ _ => 0 | .fn _ => 0 | .emp => 0 | .lam _ => 0
def deps : List D → Nat
  | [] => 0 | d :: ds => max (dep d) (deps ds)
end
def ok (d : D) : Bool := shp 0 d && decide (dep d ≤ 60)
def deq (a b : D) : Bool := PyData.eqv (toP a) (toP b)
def eqD (a b : D) : Option Bool := if ok a && ok b then some (deq a b) else none

def intsOf : List D → Option (List Int)
  | [] => some []
  | .int i :: ds => (intsOf ds).map (i :: ·)
  | _ :: _ => none
def strsOf : List D → Option (List Str)
  | [] => some []
  | .str i :: ds => (strsOf ds).map (i :: ·)
  | _ :: _ => none
def blsOf : List D → Option (List Bool)
  | [] => some []
  | .bl b :: ds => (blsOf ds).map (b :: ·)
  | _ :: _ => none
/-- each a tuple of ints -/
def tupsOf : List D → Option (List (List Int))
  | [] => some []
  | .tup xs :: ds => match intsOf xs, tupsOf ds with
    | some ns, some r => some (ns :: r)
    | _, _ => none
  | _ :: _ => none
def tupD (ns : List Int) : D := .tup (ns.map .int)

/-- insertion into an ascending list of lists of ints -/
def insL (x : List Int) : List (List Int) → List (List Int)
  | [] => [x]
  | y :: ys => if HT.lexLt y x then y :: insL x ys else x :: y :: ys
def sortL : List (List Int) → List (List Int)
  | [] => []
  | x :: xs => insL x (sortL xs)
/-- the same, none twice -/
def insU (x : List Int) : List (List Int) → List (List Int)
  | [] => [x]
  | y :: ys => if x = y then y :: ys else if HT.lexLt y x then y :: insU x ys else x :: y :: ys
def sortU : List (List Int) → List (List Int)
  | [] => []
  | x :: xs => insU x (sortU xs)
/-- all of one length (1 at least), ints from 0 to 999 -/
def evenL : List (List Int) → Bool
  | [] => true
  | x :: xs => !x.isEmpty && (x :: xs).all fun y => (y.length == x.length) && y.all fun i => decide (0 ≤ i) && decide (i < 1000)
def sortD (f : List (List Int) → List (List Int)) (ds : List D) : Option D :=
  match tupsOf ds with
  | some ns => if evenL ns && decide (ns.length < 64) then some (.lst ((f ns).map tupD)) else none
  | none => none

def addD : D → D → Option D
  | .int i, .int j => some (.int (i + j))
  | .tup xs, .tup ys => if xs.length + ys.length ≤ LIM then some (.tup (xs ++ ys)) else none
  | .lst xs, .lst ys => if xs.length + ys.length ≤ LIM then some (.lst (xs ++ ys)) else none
  | _, _ => none
def int2 (f : Int → Int → Option D) : D → D → Option D
  | .int i, .int j => f i j
  | _, _ => none
def mulD : D → D → Option D
  | .int i, .int j => if (-(2 ^ 64) < i ∧ i < 2 ^ 64) ∨ (-(2 ^ 64) < j ∧ j < 2 ^ 64) then some (.int (i * j)) else none
  | _, _ => none
def repD : D → D → Option D
  | .lst xs, .int k => if k ≤ 1000 ∧ -1000 ≤ k ∧ xs.length ≤ 1000 then some (.lst (List.replicate k.toNat xs).flatten) else none
  | _, _ => none
def ltD : D → D → Option D
  | .int i, .int j => some (.bl (decide (i < j)))
  | .tup xs, .tup ys => match intsOf xs, intsOf ys with
    | some ns, some ms => some (.bl (HT.lexLt ns ms))
    | _, _ => none
  | _, _ => none
def memD (neg : Bool) : D → D → Option D
  | a, .lst xs => if ok a && ok (.lst xs) then some (.bl (neg ^^ xs.any fun z => deq z a)) else none
  | a, .tup xs => match a with
    | .int i => match intsOf xs with
      | some ns => some (.bl (neg ^^ ns.any fun z => z == i))
      | none => none
    | .str x => match strsOf xs with
      | some ns => some (.bl (neg ^^ ns.any fun z => z == x))
      | none => none
    | _ => none
  | _, _ => none
def isD (neg : Bool) : D → D → Option D
  | .bl a, .bl b => some (.bl (neg ^^ decide (a = b)))
  | .non, .non => some (.bl (neg ^^ true))
  | .ins _ _, .non => some (.bl (neg ^^ false))
  | .lst _, .non => some (.bl (neg ^^ false))
  | .tup _, .non => some (.bl (neg ^^ false))
  | .int _, .non => some (.bl (neg ^^ false))
  | .str _, .non => some (.bl (neg ^^ false))
  | _, _ => none
def op2 : O2 → D → D → Option D
  | .add => addD
  | .sub => int2 fun i j => some (.int (i - j))
  | .mul => mulD
  | .fdiv => int2 fun i j => if j ≠ 0 ∧ j.natAbs < 1073741824 then some (.int (i.fdiv j)) else none
  | .mod => int2 fun i j => if j ≠ 0 then some (.int (i.fmod j)) else none
  | .pow => int2 fun i j => if 0 ≤ j ∧ j ≤ 1000000 ∧ i.natAbs < 2 ^ 64 then some (.int (i ^ j.toNat)) else none
  | .shr => int2 fun i j => if 0 ≤ j then some (.int (i / 2 ^ j.toNat)) else none
  | .eq => fun a b => (eqD a b).map .bl
  | .ne => fun a b => (eqD a b).map fun c => .bl (!c)
  | .lt => ltD
  | .le => int2 fun i j => some (.bl (decide (i ≤ j)))
  | .gt => int2 fun i j => some (.bl (decide (j < i)))
  | .ge => int2 fun i j => some (.bl (decide (j ≤ i)))
  | .mem => memD false
  | .nmem => memD true
  | .is => isD false
  | .isn => isD true
  | .rep => repD
  | .adi => int2 fun i j => some (.int (i + j))
  | .max => int2 fun i j => some (.int (if j > i then j else i))
  | .min => int2 fun i j => some (.int (if j < i then j else i))
  | .cnt => fun a b => match a, b with
    | .lst xs, .int k => match intsOf xs with
      | some ns => some (.int (ns.count k))
      | none => none
    | _, _ => none
def isT (sub : Nat → Nat → Option Bool) : Ty → D → Option Bool
  | .int, .int _ => some true
  | .int, .bl _ => some true
  | .bool, .bl _ => some true
  | .str, .str _ => some true
  | .tup, .tup _ => some true
  | .lst, .lst _ => some true
  | .cls c, .ins c' _ => sub c' c
  | .cls _, _ => none
  | _, .frl _ => none
  | _, .ins _ _ => none
  | _, .fn _ => none
  | _, .lam _ => none
  | _, _ => some false
def maxOf : List Int → Option Int
  | [] => none
  | x :: xs => some (xs.foldl (fun a b => if b > a then b else a) x)
def negD : D → Option D
  | .int i => some (.int (-i))
  | _ => none
def absD : D → Option D
  | .int i => some (.int (if i < 0 then -i else i))
  | _ => none
def notD : D → Option D
  | .bl b => some (.bl (!b))
  | _ => none
def lenD : D → Option D
  | .tup xs => some (.int xs.length)
  | .lst xs => some (.int xs.length)
  | .frl xs => some (.int xs.length)
  | _ => none
def allD : D → Option D
  | .lst xs => (blsOf xs).map fun bs => .bl (bs.all id)
  | _ => none
def anyD : D → Option D
  | .lst xs => (blsOf xs).map fun bs => .bl (bs.any id)
  | _ => none
def sumD : D → Option D
  | .tup xs => (intsOf xs).map fun ns => .int ns.sum
  | _ => none
def maxD : D → Option D
  | .lst xs => match intsOf xs with
    | some ns => (maxOf ns).map .int
    | none => none
  | _ => none
def srtD : D → Option D
  | .lst xs => sortD sortL xs
  | .tup xs => sortD sortL xs
  | _ => none
def ssrtD : D → Option D
  | .lst xs => sortD sortU xs
  | .tup xs => sortD sortU xs
  | _ => none
def lstD : D → Option D
  | .lst xs => some (.lst xs)
  | .tup xs => some (.lst xs)
  | _ => none
def tplD : D → Option D
  | .lst xs => some (.tup xs)
  | .tup xs => some (.tup xs)
  | _ => none
def op1 (sub : Nat → Nat → Option Bool) : O1 → D → Option D
  | .neg => negD | .not => notD | .len => lenD | .all => allD | .any => anyD | .sum => sumD | .max => maxD | .sort => srtD | .ssort => ssrtD | .lst => lstD | .tup => tplD | .abs => absD
  | .ist t => fun d => (isT sub t d).map .bl
/-- the items of a slice -/
def cutD (xs : List D) (lo hi : Option Int) : List D := (xs.drop (HT.sIx xs.length 0 lo)).take (HT.sIx xs.length xs.length hi - HT.sIx xs.length 0 lo)
def slD (lo hi : Option Int) : D → Option D
  | .lst xs => some (.lst (cutD xs lo hi))
  | .tup xs => some (.tup (cutD xs lo hi))
  | .frl ns => some (.lst (cutD (ns.map .int) lo hi))
  | _ => none
def ixD : D → D → Option D
  | .lst xs, .int i => atI xs i
  | .tup xs, .int i => atI xs i
  | .frl ns, .int i => (atI ns i).map .int
  | _, _ => none
def intD : D → Option Int
  | .int i => some i
  | _ => none
def blD : D → Option Bool
  | .bl b => some b
  | _ => none

def setsD (env : Env) : List Nat → List D → Option Env
  | [], [] => some env
  | i :: is, d :: ds => setsD (env.set i (some d)) is ds
  | _, _ => none
def bindD (t : Tg) (d : D) (env : Env) : Option Env := match t with
  | .one i => some (env.set i (some d))
  | .many is => match d with
    | .tup ds => setsD env is ds
    | _ => none

def smallI (i : Int) : Bool := decide (-(2 ^ 62) ≤ i) && decide (i < 2 ^ 62)
def rangeD (lo hi : Int) : List D := (List.range (hi - lo).toNat).map fun (i : Nat) => .int (lo + (i : Int))
/-- how many turns range(lo, hi, st) has, st positive -/
def rg3 (lo hi st : Int) : Int := if lo < hi then (hi - lo - 1) / st + 1 else 0
def range3D (lo hi st : Int) : List D := (List.range (rg3 lo hi st).toNat).map fun (i : Nat) => .int (lo + (i : Int) * st)
def enumD : Nat → List D → List D
  | _, [] => []
  | i, d :: ds => .tup [.int i, d] :: enumD (i + 1) ds
def zipD : List D → List D → List D
  | x :: xs, y :: ys => .tup [x, y] :: zipD xs ys
  | _, _ => []
def zip3D : List D → List D → List D → List D
  | x :: xs, y :: ys, z :: zs => .tup [x, y, z] :: zip3D xs ys zs
  | _, _, _ => []
/-- what is walked -/
def seqD : D → Option (List D)
  | .lst xs => some xs
  | .tup xs => some xs
  | _ => none
def compD (b : D → Env → Option Env) (c : Env → Option Bool) (e : Env → Option D) : List D → Env → Option (List D)
  | [], _ => some []
  | d :: ds, env => match b d env with
    | some env1 => match c env1 with
      | some true => match e env1, compD b c e ds env with
        | some x, some r => some (x :: r)
        | _, _ => none
      | some false => compD b c e ds env
      | none => none
    | none => none

/-- not a list, not an instance -/
def notL : D → Bool
  | .lst _ => false
  | .ins _ _ => false
  | _ => true
def ownL : D → Bool
  | .lst _ => true
  | _ => false
mutual
/-- no list, no instance within -/
def flat : D → Bool
  | .non => true | .bl _ => true | .int _ => true | .str _ => true | .tup ds => flats ds | .lst _ => false | .frl _ => false | .ins _ _ => false | .fn _ => true | .emp => true | .lam _ => false
def flats : List D → Bool
  | [] => true | d :: ds => flat d && flats ds
end
/-- an instance of things without lists, or of one list of such -/
def flatN : D → Bool
  | .ins _ [.lst ds] => flats ds
  | .ins _ fs => flats fs
  | d => flat d
section
variable (T : Tb) (cl : Nat → List D → Option D)
mutual
def ev : E → Env → Option D
  | .var i, env => gt env i
  | .lit d, _ => some d
  | .tup es, env => match evs es env with
    | some ds => some (.tup ds)
    | none => none
  | .lst es, env => match evs es env with
    | some ds => some (.lst ds)
    | none => none
  | .o1 o a, env => match ev a env with
    | some x => op1 T.sub o x
    | none => none
  | .o2 o a b, env => match ev a env with
    | some x => match ev b env with
      | some y => op2 o x y
      | none => none
    | none => none
  | .ite c a b, env => match ev c env with
    | some (.bl true) => ev a env
    | some (.bl false) => ev b env
    | _ => none
  | .and a b, env => match ev a env with
    | some (.bl true) => ev b env
    | some (.bl false) => some (.bl false)
    | _ => none
  | .or a b, env => match ev a env with
    | some (.bl true) => some (.bl true)
    | some (.bl false) => ev b env
    | _ => none
  | .ch o o' a b c, env => match ev a env with
    | some x => match ev b env with
      | some y => match op2 o x y with
        | some (.bl true) => match ev c env with
          | some z => op2 o' y z
          | none => none
        | some (.bl false) => some (.bl false)
        | _ => none
      | none => none
    | none => none
  | .call k es, env => match evs es env with
    | some ds => cl k ds
    | none => none
  | .mk c es, env => match evs es env with
    | some ds => match T.cf c with
      | some cf => if 2 ≤ T.lv ∧ ds.length = cf.length ∧ (ds.zip cf).all (fun p => if p.2 then (seqD p.1).isSome else notL p.1) then some (.ins c ((ds.zip cf).map fun p => if p.2 then .lst ((seqD p.1).getD []) else p.1)) else none
      | none => none
    | none => none
  | .shows o es, env => match ev o env with
    | some (.ins c fs) => match evs es env with
      | some ds => match T.sh c with
        | some k => cl k (.ins c fs :: ds)
        | none => none
      | none => none
    | _ => none
  | .fld a f, env => match ev a env with
    | some (.ins c fs) => ((T.cn c).zip fs).lookup f
    | _ => none
  | .slL a lo, env => match ev a env with
    | some x => match ev lo env with
      | some (.int i) => slD (some i) none x
      | _ => none
    | none => none
  | .slH a hi, env => match ev a env with
    | some x => match ev hi env with
      | some (.int j) => slD none (some j) x
      | _ => none
    | none => none
  | .slB a lo hi, env => match ev a env with
    | some x => match ev lo env with
      | some (.int i) => match ev hi env with
        | some (.int j) => slD (some i) (some j) x
        | _ => none
      | _ => none
    | none => none
  | .rev a, env => match ev a env with
    | some (.lst xs) => some (.lst xs.reverse)
    | _ => none
  | .ix a i, env => match ev a env with
    | some x => match ev i env with
      | some y => ixD x y
      | none => none
    | none => none
  | .comp s t e, env => match evr s env with
    | some ds => if ds.length ≤ LIM then (compD (bindD t) (fun _ => some true) (fun env => ev e env) ds env).map .lst else none
    | none => none
  | .compI s t c e, env => match evr s env with
    | some ds => if ds.length ≤ LIM then (compD (bindD t) (fun env => (ev c env).bind blD) (fun env => ev e env) ds env).map .lst else none
    | none => none
  | .ask i e, env => match gt env i with
    | some (.lam l) => match ev e env with
      | some d => match T.fns[l.k]? with
        | some f => match cl l.k [d] with
          | some r => if f.fr || notL r then some r else none
          | none => none
        | none => none
      | none => none
    | _ => none
  | .fldN a f, env => match ev a env with
    | some (.ins c [x]) => if T.cn c = [f] ∧ (notL x || ownL x) then some x else none
    | _ => none
def evs : Es → Env → Option (List D)
  | .nil, _ => some []
  | .cons e es, env => match ev e env with
    | some x => match evs es env with
      | some r => some (x :: r)
      | none => none
    | none => none
def evr : Sr → Env → Option (List D)
  | .sq e, env => (ev e env).bind seqD
  | .r1 a, env => match ev a env with
    | some (.int j) => if smallI j then some (rangeD 0 j) else none
    | _ => none
  | .r2 a b, env => match ev a env with
    | some (.int i) => match ev b env with
      | some (.int j) => if smallI i && smallI j then some (rangeD i j) else none
      | _ => none
    | _ => none
  | .r3 a b c, env => match ev a env with
    | some (.int i) => match ev b env with
      | some (.int j) => match ev c env with
        | some (.int k) => if decide (0 ≤ i) && decide (i ≤ 1000000) && decide (0 ≤ j) && decide (j ≤ 1000000) && decide (0 < k) && decide (k < 1000000) then some (range3D i j k) else none
        | _ => none
      | _ => none
    | _ => none
  | .zp a b, env => match ev a env with
    | some (.lst xs) => match ev b env with
      | some (.lst ys) => some (zipD xs ys)
      | _ => none
    | some (.tup xs) => match ev b env with
      | some (.tup ys) => some (zipD xs ys)
      | _ => none
    | _ => none
  | .zp3 a b c, env => match ev a env with
    | some (.tup xs) => match ev b env with
      | some (.tup ys) => match ev c env with
        | some (.tup zs) => if xs.length = ys.length ∧ xs.length = zs.length then some (zip3D xs ys zs) else none
        | _ => none
      | _ => none
    | _ => none
  | .en a, env => match ev a env with
    | some (.lst xs) => some (enumD 0 xs)
    | _ => none
end

inductive Fl where
  | nx (env : Env) | rt (d : D)

def loopD (b : D → Env → Option Env) (body : Env → Option Fl) : List D → Env → Option Fl
  | [], env => some (.nx env)
  | d :: ds, env => match b d env with
    | some env1 => match body env1 with
      | some (.nx env2) => loopD b body ds env2
      | r => r
    | none => none
def whileD (c : Env → Option D) (body : Env → Option Fl) : Nat → Env → Option Fl
  | 0, _ => none
  | n + 1, env => match c env with
    | some (.bl true) => match body env with
      | some (.nx env2) => whileD c body n env2
      | r => r
    | some (.bl false) => some (.nx env)
    | _ => none
def WF : Nat := 500

mutual
def ex : S → Env → Option Fl
  | .asg i e, env => match ev T cl e env with
    | some d => some (.nx (env.set i (some d)))
    | none => none
  | .mov j i, env => match gt env i with
    | some d => some (.nx ((env.set i none).set j (some d)))
    | none => none
  | .par i j a b, env => match ev T cl a env with
    | some x => match ev T cl b env with
      | some y => some (.nx ((env.set i (some x)).set j (some y)))
      | none => none
    | none => none
  | .unp is e, env => match ev T cl e env with
    | some (.tup ds) => (setsD env is ds).map .nx
    | _ => none
  | .app i e, env => match gt env i with
    | some (.lst xs) => match ev T cl e env with
      | some d => if xs.length < LIM then some (.nx (env.set i (some (.lst (xs ++ [d]))))) else none
      | none => none
    | _ => none
  | .ext i e, env => match gt env i with
    | some (.lst xs) => match ev T cl e env with
      | some (.lst ys) => if xs.length + ys.length ≤ LIM then some (.nx (env.set i (some (.lst (xs ++ ys))))) else none
      | _ => none
    | _ => none
  | .seti i k e, env => match ev T cl e env with
    | some d => match gt env i with
      | some (.lst xs) => match ev T cl k env with
        | some (.int z) => match ixN xs.length z with
          | some j => some (.nx (env.set i (some (.lst (xs.set j d)))))
          | none => none
        | _ => none
      | _ => none
    | none => none
  | .popd i k, env => match gt env i with
    | some (.lst xs) => match ev T cl k env with
      | some (.int z) => match ixN xs.length z with
        | some j => if xs.length ≤ LIM then some (.nx (env.set i (some (.lst (xs.eraseIdx j))))) else none
        | none => none
      | _ => none
    | _ => none
  | .fapp i f e, env => match gt env i with
    | some (.ins c [.lst xs]) => match ev T cl e env with
      | some d => if T.cn c = [f] ∧ xs.length < LIM then some (.nx (env.set i (some (.ins c [.lst (xs ++ [d])])))) else none
      | none => none
    | _ => none
  | .ifs c a b, env => match ev T cl c env with
    | some (.bl true) => exs a env
    | some (.bl false) => exs b env
    | _ => none
  | .for t s b, env => match evr T cl s env with
    | some ds => loopD (bindD t) (fun env => exs b env) ds env
    | none => none
  | .whl c b, env => whileD (fun env => ev T cl c env) (fun env => exs b env) WF env
  | .ret e, env => match ev T cl e env with
    | some d => some (.rt d)
    | none => none
  | .retn, _ => some (.rt .non)
  | .ex e, env => match ev T cl e env with
    | some _ => some (.nx env)
    | none => none
  | .fail, _ => none
  | .seti2 i k l e, env => match ev T cl e env with
    | some (.tup [a, b]) => match gt env i with
      | some (.lst xs) => match ev T cl k env with
        | some (.int z) => match ixN xs.length z with
          | some j => match ev T cl l (env.set i (some (.lst (xs.set j a)))) with
            | some (.int y) => match ixN (xs.set j a).length y with
              | some m => some (.nx ((env.set i (some (.lst (xs.set j a)))).set i (some (.lst ((xs.set j a).set m b)))))
              | none => none
            | _ => none
          | none => none
        | _ => none
      | _ => none
    | _ => none
  | .asgF i e, env => match ev T cl e env with
    | some d => if flat d then some (.nx (env.set i (some d))) else none
    | none => none
  | .inst i k e, env => match gt env i with
    | some (.lst xs) => match ev T cl k env with
      | some (.int z) => match ev T cl e env with
        | some d => if xs.length < LIM ∧ 0 ≤ z ∧ z < 1000000 then some (.nx (env.set i (some (.lst (xs.take z.toNat ++ [d] ++ xs.drop z.toNat))))) else none
        | none => none
      | _ => none
    | _ => none
  | .popa i j, env => match gt env j with
    | some (.lst xs) => match xs[xs.length - 1]? with
      | some d => some (.nx ((env.set j (some (.lst xs.dropLast))).set i (some d)))
      | none => none
    | _ => none
  | .par3 i j l a b c, env => match ev T cl a env with
    | some x => match ev T cl b env with
      | some y => match ev T cl c env with
        | some z => some (.nx (((env.set i (some x)).set j (some y)).set l (some z)))
        | none => none
      | none => none
    | none => none
  | .asgN i e, env => match ev T cl e env with
    | some d => if flatN d then some (.nx (env.set i (some d))) else none
    | none => none
def exs : Ss → Env → Option Fl
  | .nil, env => some (.nx env)
  | .cons s ss, env => match ex s env with
    | some (.nx env2) => exs ss env2
    | r => r
end
end

/-- a def called with n calls allowed, one in another -/
def run (T : Tb) : Nat → Nat → List D → Option D
  | 0, _, _ => none
  | n + 1, k, ds => match T.fns[k]? with
    | some f => if ds.length = f.np then
        match exs { T with lv := n } (run T n) f.body (ds.map some ++ List.replicate (f.ns - f.np) none) with
        | some (.rt d) => some d
        | some (.nx _) => some .non
        | none => none
      else none
    | none => none
theorem run_lv (T : Tb) (a : Nat) : ∀ n k ds, run { T with lv := a } n k ds = run T n k ds
  | 0, _, _ => rfl
  | n + 1, k, ds => by
    have e : run { T with lv := a } n = run T n := by
      funext k ds
      exact run_lv T a n k ds
    unfold run
    rw [e]
end Nt

set_option Elab.async false
set_option linter.all false
set_option maxRecDepth 100000
set_option maxHeartbeats 4000000
/-! How data stands in the abstract heap. -/
namespace Nt
open PySem PySem.Spec PyProof.Rows L2

/-- the lambda at f, its code object at c -/
def LmO (f c : Addr) (l : LmD) : HO := .ext fun h => ∃ pm ctv : Value, h.get? f = some (PySem.W.kla_obj "<lambda>" l.qual l.params l.body l.scope [] pm c ctv)
/-- the classes: where they stand, their fields' names -/
structure Sm where
  K : PySem.W.Frag
  ca : Nat → Addr
  cn : Nat → List Str

mutual
def RV (M : Sm) (F : Hp) : D → V → Prop
  | .non, v => v = .non
  | .bl b, v => v = .bl b
  | .int i, v => v = .int i
  | .str s, v => v = .str s
  | .tup ds, v => ∃ a vs, v = .ref a ∧ SqT M.K F a vs ∧ RVs M F ds vs
  | .lst ds, v => ∃ a vs, v = .ref a ∧ F a = some (.lst vs) ∧ RVs M F ds vs
  | .frl ns, v => ∃ a, v = .ref a ∧ SqL M.K F a (ns.map V.int)
  | .ins c ds, v => ∃ a dx fs, v = .ref a ∧ F a = some (.ins (M.ca c) dx fs) ∧ fs.map (·.1) = M.cn c ∧ RVs M F ds (fs.map (·.2))
  | .fn k, v => v = .ref (M.ca (100 + k))
  | .emp, v => ∃ a, v = .ref a ∧ F a = some (.dK [])
  | .lam l, v => ∃ f c, v = .ref f ∧ F f = some (LmO f c l) ∧ F c = some (LamX.CodeO c l.qual)
def RVs (M : Sm) (F : Hp) : List D → List V → Prop
  | [], vs => vs = []
  | d :: ds, vs => ∃ v r, vs = v :: r ∧ RV M F d v ∧ RVs M F ds r
end

theorem Same.sqt {K : PySem.W.Frag} {H H' : Hp} {a : Addr} {xs : List V} (e : Same H H') (h : SqT K H a xs) : SqT K H' a xs := by
  rcases h with (h | ⟨o, h⟩) | h
  · exact .inl (.inl (e _ _ h))
  · exact .inl (.inr ⟨o, e _ _ h⟩)
  · exact .inr h
theorem same_new {H : Hp} {p : Addr} {o : HO} (h : H p = none) : Same H (upd H p o) := fun b x e => by
  rw [upd_ne (ne_of_none e h)]
  exact e

variable {M : Sm} {F F' H H' : Hp}
mutual
theorem RV.mono (e : Same F F') : ∀ {d : D} {v : V}, RV M F d v → RV M F' d v
  | .non, _, h => h
  | .bl _, _, h => h
  | .int _, _, h => h
  | .str _, _, h => h
  | .tup ds, _, ⟨a, vs, e1, h1, h2⟩ => ⟨a, vs, e1, Same.sqt e h1, RVs.mono e h2⟩
  | .lst ds, _, ⟨a, vs, e1, h1, h2⟩ => ⟨a, vs, e1, e _ _ h1, RVs.mono e h2⟩
  | .frl ns, _, ⟨a, e1, h⟩ => ⟨a, e1, L2.Same.seq e h⟩
  | .ins c ds, _, ⟨a, dx, fs, e1, h1, h2, h3⟩ => ⟨a, dx, fs, e1, e _ _ h1, h2, RVs.mono e h3⟩
  | .fn _, _, h => h
  | .emp, _, ⟨a, e1, h1⟩ => ⟨a, e1, e _ _ h1⟩
  | .lam _, _, ⟨f, c, e1, h1, h2⟩ => ⟨f, c, e1, e _ _ h1, e _ _ h2⟩
theorem RVs.mono (e : Same F F') : ∀ {ds : List D} {vs : List V}, RVs M F ds vs → RVs M F' ds vs
  | [], _, h => h
  | d :: ds, _, ⟨v, r, e1, h1, h2⟩ => ⟨v, r, e1, RV.mono e h1, RVs.mono e h2⟩
end

theorem RVs.nil : RVs M F [] [] := rfl
theorem RVs.cons {d : D} {v : V} {ds : List D} {vs : List V} (h : RV M F d v) (hs : RVs M F ds vs) : RVs M F (d :: ds) (v :: vs) := ⟨v, vs, rfl, h, hs⟩
theorem RVs.len : ∀ {ds : List D} {vs : List V}, RVs M F ds vs → vs.length = ds.length
  | [], _, h => by rw [show _ = [] from h]; rfl
  | d :: ds, _, ⟨v, r, e1, h1, h2⟩ => by rw [e1, List.length_cons, List.length_cons, RVs.len h2]
theorem RVs.get : ∀ {ds : List D} {vs : List V} {i : Nat} {d : D}, RVs M F ds vs → ds[i]? = some d → ∃ v, vs[i]? = some v ∧ RV M F d v
  | [], _, _, _, _, h => by simp at h
  | d :: ds, _, 0, d', ⟨v, r, e1, h1, h2⟩, h => by
    have e : d = d' := by simpa using h
    subst e
    exact ⟨v, by rw [e1]; rfl, h1⟩
  | d :: ds, _, i + 1, d', ⟨v, r, e1, h1, h2⟩, h => by
    obtain ⟨u, q1, q2⟩ := RVs.get (i := i) (d := d') h2 (by simpa using h)
    exact ⟨u, by rw [e1]; simpa using q1, q2⟩
theorem RVs.append : ∀ {ds es : List D} {vs us : List V}, RVs M F ds vs → RVs M F es us → RVs M F (ds ++ es) (vs ++ us)
  | [], _, _, _, h, h' => by rw [show _ = [] from h]; exact h'
  | d :: ds, _, _, _, ⟨v, r, e1, h1, h2⟩, h' => by rw [e1]; exact ⟨v, r ++ _, rfl, h1, RVs.append h2 h'⟩
theorem RVs.drop : ∀ {ds : List D} {vs : List V} (n : Nat), RVs M F ds vs → RVs M F (ds.drop n) (vs.drop n)
  | _, _, 0, h => h
  | [], _, n + 1, h => by rw [show _ = [] from h]; exact RVs.nil
  | d :: ds, _, n + 1, ⟨v, r, e1, h1, h2⟩ => by rw [e1]; exact RVs.drop n h2
theorem RVs.take : ∀ {ds : List D} {vs : List V} (n : Nat), RVs M F ds vs → RVs M F (ds.take n) (vs.take n)
  | _, _, 0, h => RVs.nil
  | [], _, n + 1, h => by rw [show _ = [] from h]; exact RVs.nil
  | d :: ds, _, n + 1, ⟨v, r, e1, h1, h2⟩ => by rw [e1]; exact ⟨v, r.take n, rfl, h1, RVs.take n h2⟩
theorem RVs.reverse : ∀ {ds : List D} {vs : List V}, RVs M F ds vs → RVs M F ds.reverse vs.reverse
  | [], _, h => by rw [show _ = [] from h]; exact RVs.nil
  | d :: ds, _, ⟨v, r, e1, h1, h2⟩ => by
    rw [e1, List.reverse_cons, List.reverse_cons]
    exact RVs.append (RVs.reverse h2) (RVs.cons h1 RVs.nil)
theorem RVs.set : ∀ {ds : List D} {vs : List V} (i : Nat) {d : D} {v : V}, RVs M F ds vs → RV M F d v → RVs M F (ds.set i d) (vs.set i v)
  | [], _, _, _, _, h, _ => by rw [show _ = [] from h]; exact RVs.nil
  | d :: ds, _, 0, _, _, ⟨v, r, e1, h1, h2⟩, h => by rw [e1]; exact ⟨_, r, rfl, h, h2⟩
  | d :: ds, _, i + 1, _, _, ⟨v, r, e1, h1, h2⟩, h => by rw [e1]; exact ⟨v, r.set i _, rfl, h1, RVs.set i h2 h⟩
theorem RVs.erase : ∀ {ds : List D} {vs : List V} (i : Nat), RVs M F ds vs → RVs M F (ds.eraseIdx i) (vs.eraseIdx i)
  | [], _, _, h => by rw [show _ = [] from h]; exact RVs.nil
  | d :: ds, _, 0, ⟨v, r, e1, h1, h2⟩ => by rw [e1]; exact h2
  | d :: ds, _, i + 1, ⟨v, r, e1, h1, h2⟩ => by rw [e1]; exact ⟨v, r.eraseIdx i, rfl, h1, RVs.erase i h2⟩
theorem RVs.ints : ∀ {ns : List Int}, RVs M F (ns.map .int) (ns.map V.int)
  | [] => RVs.nil
  | n :: ns => RVs.cons rfl RVs.ints
theorem RVs.of_ints : ∀ {ds : List D} {vs : List V} {ns : List Int}, RVs M F ds vs → intsOf ds = some ns → vs = ns.map V.int ∧ ds = ns.map .int
  | [], _, _, h, e => by
    rw [show _ = [] from h]
    have e : [] = _ := Option.some.inj e
    subst e
    exact ⟨rfl, rfl⟩
  | .int i :: ds, _, _, ⟨v, r, e1, h1, h2⟩, e => by
    unfold intsOf at e
    cases q : intsOf ds with
    | none => rw [q] at e; cases e
    | some ms =>
      rw [q] at e
      have e : i :: ms = _ := Option.some.inj e
      subst e
      obtain ⟨a, b⟩ := RVs.of_ints h2 q
      rw [e1, show v = .int i from h1, a, b]
      exact ⟨rfl, rfl⟩
  | .non :: _, _, _, _, e => by cases e
  | .bl _ :: _, _, _, _, e => by cases e
  | .str _ :: _, _, _, _, e => by cases e
  | .tup _ :: _, _, _, _, e => by cases e
  | .lst _ :: _, _, _, _, e => by cases e
  | .frl _ :: _, _, _, _, e => by cases e
  | .ins _ _ :: _, _, _, _, e => by cases e
  | .fn _ :: _, _, _, _, e => by cases e
  | .emp :: _, _, _, _, e => by cases e
  | .lam _ :: _, _, _, _, e => by cases e
theorem RVs.of_strs : ∀ {ds : List D} {vs : List V} {bs : List Str}, RVs M F ds vs → strsOf ds = some bs → vs = bs.map V.str
  | [], _, _, h, e => by
    rw [show _ = [] from h]
    have e : [] = _ := Option.some.inj e
    subst e
    rfl
  | .str i :: ds, _, _, ⟨v, r, e1, h1, h2⟩, e => by
    unfold strsOf at e
    cases q : strsOf ds with
    | none => rw [q] at e; cases e
    | some ms =>
      rw [q] at e
      have e : i :: ms = _ := Option.some.inj e
      subst e
      rw [e1, show v = .str i from h1, RVs.of_strs h2 q]
      rfl
  | .non :: _, _, _, _, e => by cases e
  | .int _ :: _, _, _, _, e => by cases e
  | .bl _ :: _, _, _, _, e => by cases e
  | .tup _ :: _, _, _, _, e => by cases e
  | .lst _ :: _, _, _, _, e => by cases e
  | .frl _ :: _, _, _, _, e => by cases e
  | .ins _ _ :: _, _, _, _, e => by cases e
  | .fn _ :: _, _, _, _, e => by cases e
  | .emp :: _, _, _, _, e => by cases e
  | .lam _ :: _, _, _, _, e => by cases e

theorem RVs.of_bls : ∀ {ds : List D} {vs : List V} {bs : List Bool}, RVs M F ds vs → blsOf ds = some bs → vs = bs.map V.bl
  | [], _, _, h, e => by
    rw [show _ = [] from h]
    have e : [] = _ := Option.some.inj e
    subst e
    rfl
  | .bl i :: ds, _, _, ⟨v, r, e1, h1, h2⟩, e => by
    unfold blsOf at e
    cases q : blsOf ds with
    | none => rw [q] at e; cases e
    | some ms =>
      rw [q] at e
      have e : i :: ms = _ := Option.some.inj e
      subst e
      rw [e1, show v = .bl i from h1, RVs.of_bls h2 q]
      rfl
  | .non :: _, _, _, _, e => by cases e
  | .int _ :: _, _, _, _, e => by cases e
  | .str _ :: _, _, _, _, e => by cases e
  | .tup _ :: _, _, _, _, e => by cases e
  | .lst _ :: _, _, _, _, e => by cases e
  | .frl _ :: _, _, _, _, e => by cases e
  | .ins _ _ :: _, _, _, _, e => by cases e
  | .fn _ :: _, _, _, _, e => by cases e
  | .emp :: _, _, _, _, e => by cases e
  | .lam _ :: _, _, _, _, e => by cases e

/-- as RV, but the list itself (or a field that is a list) need only be read in H -/
def RI (M : Sm) (F H : Hp) : D → V → Prop
  | .lst ds, v => ∃ a vs, v = .ref a ∧ H a = some (.lst vs) ∧ RVs M F ds vs
  | d, v => RV M F d v
def RIs (M : Sm) (F H : Hp) : List D → List V → Prop
  | [], vs => vs = []
  | d :: ds, vs => ∃ v r, vs = v :: r ∧ RI M F H d v ∧ RIs M F H ds r
def RS (M : Sm) (F H : Hp) : D → V → Prop
  | .ins c ds, v => ∃ a dx fs, v = .ref a ∧ F a = some (.ins (M.ca c) dx fs) ∧ fs.map (·.1) = M.cn c ∧ RIs M F H ds (fs.map (·.2))
  | d, v => RI M F H d v
theorem RV.ri (s : Same F H) {d : D} {v : V} (h : RV M F d v) : RI M F H d v := by
  cases d with
  | lst ds => obtain ⟨a, vs, e, q, r⟩ := h; exact ⟨a, vs, e, s _ _ q, r⟩
  | _ => exact h
theorem RVs.ris (s : Same F H) : ∀ {ds : List D} {vs : List V}, RVs M F ds vs → RIs M F H ds vs
  | [], _, h => h
  | d :: ds, _, ⟨v, r, e1, h1, h2⟩ => ⟨v, r, e1, h1.ri s, RVs.ris s h2⟩
theorem RV.rs (s : Same F H) {d : D} {v : V} (h : RV M F d v) : RS M F H d v := by
  cases d with
  | lst ds => obtain ⟨a, vs, e, q, r⟩ := h; exact ⟨a, vs, e, s _ _ q, r⟩
  | ins c ds => obtain ⟨a, dx, fs, e, q, n, r⟩ := h; exact ⟨a, dx, fs, e, q, n, r.ris s⟩
  | _ => exact h
theorem RI.rs {d : D} {v : V} (s : Same F H) (h : RI M F H d v) : RS M F H d v := by
  cases d with
  | ins c ds => exact RV.rs s h
  | _ => exact h
theorem RI.full {d : D} {v : V} (s : Same F H) (h : RI M F H d v) : RV M H d v := by
  cases d with
  | lst ds => obtain ⟨a, vs, e, q, r⟩ := h; exact ⟨a, vs, e, q, r.mono s⟩
  | _ => exact RV.mono s h
theorem RIs.full (s : Same F H) : ∀ {ds : List D} {vs : List V}, RIs M F H ds vs → RVs M H ds vs
  | [], _, h => h
  | d :: ds, _, ⟨v, r, e1, h1, h2⟩ => ⟨v, r, e1, h1.full s, RIs.full s h2⟩
/-- in the whole heap it is just data -/
theorem RS.full {d : D} {v : V} (s : Same F H) (h : RS M F H d v) : RV M H d v := by
  cases d with
  | lst ds => obtain ⟨a, vs, e, q, r⟩ := h; exact ⟨a, vs, e, q, r.mono s⟩
  | ins c ds => obtain ⟨a, dx, fs, e, q, n, r⟩ := h; exact ⟨a, dx, fs, e, s _ _ q, n, r.full s⟩
  | _ => exact RV.mono s h
theorem RI.mono (s : Same F F') (t : Same H H') {d : D} {v : V} (h : RI M F H d v) : RI M F' H' d v := by
  cases d with
  | lst ds => obtain ⟨a, vs, e, q, r⟩ := h; exact ⟨a, vs, e, t _ _ q, r.mono s⟩
  | _ => exact RV.mono s h
theorem RIs.mono (s : Same F F') (t : Same H H') : ∀ {ds : List D} {vs : List V}, RIs M F H ds vs → RIs M F' H' ds vs
  | [], _, h => h
  | d :: ds, _, ⟨v, r, e1, h1, h2⟩ => ⟨v, r, e1, h1.mono s t, RIs.mono s t h2⟩
theorem RS.mono (s : Same F F') (t : Same H H') {d : D} {v : V} (h : RS M F H d v) : RS M F' H' d v := by
  cases d with
  | lst ds => obtain ⟨a, vs, e, q, r⟩ := h; exact ⟨a, vs, e, t _ _ q, r.mono s⟩
  | ins c ds => obtain ⟨a, dx, fs, e, q, n, r⟩ := h; exact ⟨a, dx, fs, e, s _ _ q, n, r.mono s t⟩
  | _ => exact RV.mono s h

def RSs (M : Sm) (F H : Hp) : List D → List V → Prop
  | [], vs => vs = []
  | d :: ds, vs => ∃ v r, vs = v :: r ∧ RS M F H d v ∧ RSs M F H ds r
theorem RSs.full (s : Same F H) : ∀ {ds : List D} {vs : List V}, RSs M F H ds vs → RVs M H ds vs
  | [], _, h => h
  | d :: ds, _, ⟨v, r, e1, h1, h2⟩ => ⟨v, r, e1, h1.full s, RSs.full s h2⟩
/-- the heaps have grown by new addresses alone -/
structure Ext (F H F' H' : Hp) : Prop where
  f : Same F F'
  h : Same H H'
  s : Same F' H'
  n : ∀ a o, F' a = some o → F a = some o ∨ H a = none
theorem Ext.refl (s : Same F H) : Ext F H F H := ⟨Same.refl _, Same.refl _, s, fun _ _ e => .inl e⟩
theorem Ext.trans {F1 H1 F2 H2 : Hp} (a : Ext F H F1 H1) (b : Ext F1 H1 F2 H2) : Ext F H F2 H2 :=
  ⟨a.f.trans b.f, a.h.trans b.h, b.s, fun x o e => by
    rcases b.n x o e with q | q
    · exact a.n x o q
    · exact .inr (a.h.free q)⟩
/-- one new object, seen in both -/
theorem Ext.new {p : Addr} {o : HO} (s : Same F H) (h : H p = none) : Ext F H (upd F p o) (upd H p o) := by
  have hf : F p = none := s.free h
  refine ⟨Nt.same_new hf, Nt.same_new h, fun b x e => ?_, fun b x e => ?_⟩
  · by_cases q : b = p
    · subst q; rw [upd_same] at e ⊢; exact e
    · rw [upd_ne q] at e ⊢; exact s _ _ e
  · by_cases q : b = p
    · subst q; exact .inr h
    · rw [upd_ne q] at e; exact .inl e
/-- one new object, not seen in F -/
theorem Ext.hid {p : Addr} {o : HO} (s : Same F H) (h : H p = none) : Ext F H F (upd H p o) :=
  ⟨Same.refl _, Nt.same_new h, fun b x e => by rw [upd_ne (ne_of_none (s _ _ e) h)]; exact s _ _ e, fun _ _ e => .inl e⟩
theorem Ext.grow {H1 : Hp} (s : Same F H) (t : Same H H1) : Ext F H F H1 := ⟨Same.refl _, t, s.trans t, fun _ _ e => .inl e⟩

/-- the slots' values -/
def EnvS (M : Sm) (F H : Hp) (env : Env) (σ : L2.St) : Prop := env.length ≤ σ.length ∧ ∀ i d, gt env i = some d → ∃ v, σ[i]? = some (some v) ∧ RS M F H d v
def EnvF (M : Sm) (F : Hp) (l : List Nat) (env : Env) (σ : L2.St) : Prop := ∀ i ∈ l, ∀ d, gt env i = some d → ∃ v, σ[i]? = some (some v) ∧ RV M F d v
theorem EnvS.mono {env : Env} {σ : L2.St} (h : EnvS M F H env σ) (s : Same F F') (t : Same H H') : EnvS M F' H' env σ := ⟨h.1, fun i d e =>
  let ⟨v, a, b⟩ := h.2 i d e; ⟨v, a, b.mono s t⟩⟩
theorem EnvF.mono {l : List Nat} {env : Env} {σ : L2.St} (h : EnvF M F l env σ) (s : Same F F') : EnvF M F' l env σ := fun i m d e =>
  let ⟨v, a, b⟩ := h i m d e; ⟨v, a, b.mono s⟩
theorem EnvF.sub {l l' : List Nat} {env : Env} {σ : L2.St} (h : EnvF M F l env σ) (s : ∀ i ∈ l', i ∈ l) : EnvF M F l' env σ := fun i m => h i (s i m)
theorem EnvF.left {l l' : List Nat} {env : Env} {σ : L2.St} (h : EnvF M F (l ++ l') env σ) : EnvF M F l env σ := h.sub fun _ m => List.mem_append_left _ m
theorem EnvF.right {l l' : List Nat} {env : Env} {σ : L2.St} (h : EnvF M F (l ++ l') env σ) : EnvF M F l' env σ := h.sub fun _ m => List.mem_append_right _ m
/-- in the whole heap every slot is plain data -/
theorem EnvS.full {env : Env} {σ : L2.St} (s : Same F H) (h : EnvS M F H env σ) : EnvS M H H env σ := ⟨h.1, fun i d e =>
  let ⟨v, a, b⟩ := h.2 i d e; ⟨v, a, (b.full s).rs (Same.refl _)⟩⟩
theorem EnvS.fullF {env : Env} {σ : L2.St} (s : Same F H) (h : EnvS M F H env σ) (l : List Nat) : EnvF M H l env σ := fun i _ d e =>
  let ⟨v, a, b⟩ := h.2 i d e; ⟨v, a, b.full s⟩

/-- at p, not seen in F: the list itself, or the one field's list -/
def RO (M : Sm) (F H : Hp) (p : Addr) : D → V → Prop
  | .lst ds, v => v = .ref p ∧ ∃ vs, H p = some (.lst vs) ∧ RVs M F ds vs
  | .ins c [.lst ds], v => ∃ a dx f, v = .ref a ∧ F a = some (.ins (M.ca c) dx [(f, .ref p)]) ∧ [f] = M.cn c ∧ ∃ vs, H p = some (.lst vs) ∧ RVs M F ds vs
  | d, v => RV M F d v
theorem RO.of {p : Addr} {d : D} {v : V} (h : RV M F d v) (hl : ∀ ds, d ≠ .lst ds) (hi : ∀ c ds, d ≠ .ins c [.lst ds]) : RO M F H p d v := by
  unfold RO
  split
  · exact absurd rfl (hl _)
  · exact absurd rfl (hi _ _)
  · exact h
theorem RO.rs {p : Addr} {d : D} {v : V} (s : Same F H) (h : RO M F H p d v) : RS M F H d v := by
  unfold RO at h
  split at h
  · obtain ⟨e, vs, q, r⟩ := h
    exact ⟨p, vs, e, q, r⟩
  · obtain ⟨a, dx, f, e, q, n, vs, z, r⟩ := h
    exact ⟨a, dx, _, e, q, n, _, _, rfl, ⟨p, vs, rfl, z, r⟩, rfl⟩
  · exact h.rs s
theorem RO.mono {p : Addr} {d : D} {v : V} (s : Same F F') (t : Same H H') (h : RO M F H p d v) : RO M F' H' p d v := by
  unfold RO at h
  split at h
  · obtain ⟨e, vs, q, r⟩ := h
    exact ⟨e, vs, t _ _ q, r.mono s⟩
  · obtain ⟨a, dx, f, e, q, n, vs, z, r⟩ := h
    exact ⟨a, dx, f, e, s _ _ q, n, vs, t _ _ z, r.mono s⟩
  · rename_i h1 h2
    exact RO.of (RV.mono s h) (fun ds e => h1 ds e) (fun c ds e => h2 c ds e)
/-- where p is seen it is just data -/
theorem RO.seen {p : Addr} {d : D} {v : V} (s : Same F F') (t : ∀ o, H p = some o → F' p = some o) (h : RO M F H p d v) : RV M F' d v := by
  unfold RO at h
  split at h
  · obtain ⟨e, vs, q, r⟩ := h
    exact ⟨p, vs, e, t _ q, r.mono s⟩
  · obtain ⟨a, dx, f, e, q, n, vs, z, r⟩ := h
    exact ⟨a, dx, _, e, s _ _ q, n, _, _, rfl, ⟨p, vs, rfl, t _ z, r.mono s⟩, rfl⟩
  · exact h.mono s

/-- what an expression hands back: new at the top (tp), or plain data of F' -/
def Res (M : Sm) (tp : Bool) (H F' H' : Hp) (d : D) (v : V) : Prop :=
  match tp with
  | true => ∃ p, H p = none ∧ F' p = none ∧ RO M F' H' p d v
  | false => RV M F' d v
/-- p shown -/
def show1 (F H : Hp) (p : Addr) : Hp := fun a => if a = p then H p else F a
theorem show1_ext {F1 H1 : Hp} {p : Addr} (x : Ext F H F1 H1) (hp : H p = none) (hf : F1 p = none) : Ext F H (show1 F1 H1 p) H1 ∧ Same F1 (show1 F1 H1 p) := by
  have q : Same F1 (show1 F1 H1 p) := fun b o e => by
    unfold show1
    rw [if_neg (ne_of_none e hf)]
    exact e
  refine ⟨⟨x.f.trans q, x.h, fun b o e => ?_, fun b o e => ?_⟩, q⟩
  · unfold show1 at e
    by_cases z : b = p
    · rw [if_pos z] at e; rw [z]; exact e
    · rw [if_neg z] at e; exact x.s _ _ e
  · unfold show1 at e
    by_cases z : b = p
    · rw [z]; exact .inr hp
    · rw [if_neg z] at e; exact x.n _ _ e
theorem Res.plain {tp : Bool} {F1 H1 : Hp} {d : D} {v : V} (x : Ext F H F1 H1) (h : Res M tp H F1 H1 d v) : ∃ F2, Ext F H F2 H1 ∧ Same F1 F2 ∧ RV M F2 d v := by
  cases tp with
  | false => exact ⟨F1, x, Same.refl _, h⟩
  | true =>
    obtain ⟨p, hp, hf, r⟩ := h
    obtain ⟨x2, q⟩ := show1_ext x hp hf
    refine ⟨_, x2, q, r.seen q fun o e => ?_⟩
    unfold show1
    rw [if_pos rfl]
    exact e
end Nt

set_option Elab.async false
set_option linter.all false
set_option maxRecDepth 100000
set_option maxHeartbeats 4000000
/-! Expressions: the judgement and the rules. -/
namespace Nt
open PySem PySem.Spec PyProof.Rows L2

structure Wd where
  ca : Nat → Addr
  T : Tb
abbrev Wd.n (W : Wd) : Nat := W.T.lv
abbrev sm (X : Cx) (W : Wd) : Sm := ⟨X.K, W.ca, W.T.cn⟩
abbrev Wd.ev (W : Wd) (p : E) (env : Env) : Option D := Nt.ev W.T (run W.T W.n) p env
abbrev Wd.evs (W : Wd) (p : Es) (env : Env) : Option (List D) := Nt.evs W.T (run W.T W.n) p env
abbrev Wd.evr (W : Wd) (p : Sr) (env : Env) : Option (List D) := Nt.evr W.T (run W.T W.n) p env

/-- a name alone: its items are read, the list itself is not handed on -/
def itm (p : E) (l : List Nat) : List Nat := match p with
  | .var _ => []
  | _ => l
def tgs : Tg → List Nat
  | .one i => [i]
  | .many is => is
mutual
/-- the slots whose values the expression's value may hold -/
def al : E → List Nat
  | .var i => [i]
  | .lit _ => []
  | .tup es => als es
  | .lst es => als es
  | .o1 o a => match o with
    | .sort => itm a (al a) | .ssort => itm a (al a) | .lst => itm a (al a) | .tup => itm a (al a)
    | _ => []
  | .o2 o a b => match o with
    | .add => itm a (al a) ++ itm b (al b)
    | .rep => itm a (al a)
    | _ => []
  | .ite _ a b => al a ++ al b
  | .and _ b => al b
  | .or _ b => al b
  | .ch _ _ _ _ _ => []
  | .call _ es => als es
  | .mk _ es => ali es
  | .shows o es => al o ++ als es
  | .fld a _ => al a
  | .slL a _ => itm a (al a)
  | .slH a _ => itm a (al a)
  | .slB a _ _ => itm a (al a)
  | .rev a => itm a (al a)
  | .ix a _ => itm a (al a)
  | .comp s t e => alr s ++ (al e).filter fun i => !(tgs t).contains i
  | .compI s t _ e => alr s ++ (al e).filter fun i => !(tgs t).contains i
  | .ask _ e => al e
  | .fldN a _ => al a
def als : Es → List Nat
  | .nil => []
  | .cons e es => al e ++ als es
def ali : Es → List Nat
  | .nil => []
  | .cons e es => itm e (al e) ++ ali es
def alr : Sr → List Nat
  | .sq e => itm e (al e)
  | .r1 _ => [] | .r2 _ _ => [] | .r3 _ _ _ => []
  | .zp a b => itm a (al a) ++ itm b (al b)
  | .zp3 a b c => itm a (al a) ++ (itm b (al b) ++ itm c (al c))
  | .en a => itm a (al a)
end
/-- its value is new at the top -/
def top (T : Tb) : E → Bool
  | .lst _ => true
  | .lit _ => true
  | .o1 o _ => match o with
    | .sort => true | .ssort => true | .lst => true | _ => false
  | .o2 o _ _ => match o with
    | .add => true | .rep => true | _ => false
  | .ite _ a b => top T a && top T b
  | .call k _ => match T.fns[k]? with
    | some f => f.fr
    | none => false
  | .mk _ _ => true
  | .slL _ _ => true | .slH _ _ => true | .slB _ _ _ => true | .rev _ => true
  | .comp _ _ _ => true | .compI _ _ _ _ => true
  | .ask _ _ => true
  | .fldN _ _ => true
  | _ => false

/-- a list, or an instance of one field that is a list -/
def ownb : D → Bool
  | .lst _ => true
  | .ins _ [.lst _] => true
  | _ => false
theorem notL_ownb {d : D} (h : notL d = true) : ownb d = false := by
  cases d with
  | lst _ => cases h
  | ins _ _ => cases h
  | _ => rfl
/-- new at the top, or no list and no instance of a list -/
def Rtop (M : Sm) (tp : Bool) (H F' H' : Hp) (d : D) (v : V) : Prop := Res M tp H F' H' d v ∨ (tp = true ∧ ownb d = false ∧ RV M F' d v)
theorem Rtop.plain {M : Sm} {tp : Bool} {F H F1 H1 : Hp} {d : D} {v : V} (x : Ext F H F1 H1) (h : Rtop M tp H F1 H1 d v) : ∃ F2, Ext F H F2 H1 ∧ Same F1 F2 ∧ RV M F2 d v := by
  rcases h with h | ⟨_, _, h⟩
  · exact h.plain x
  · exact ⟨F1, x, Same.refl _, h⟩
theorem Rtop.of {M : Sm} {tp : Bool} {H F' H' : Hp} {d : D} {v : V} (h : RV M F' d v) (n : notL d = true) : Rtop M tp H F' H' d v := by
  cases tp with
  | true => exact .inr ⟨rfl, notL_ownb n, h⟩
  | false => exact .inl h
/-- a new list -/
theorem Rtop.newL {M : Sm} {H F' : Hp} {ds : List D} {p : Addr} {vs : List V} {H1 : Hp} (hp : H p = none) (hf : F' p = none) (hh : H1 p = some (.lst vs)) (r : RVs M F' ds vs) : Rtop M true H F' H1 (.lst ds) (.ref p) :=
  .inl ⟨p, hp, hf, rfl, vs, hh, r⟩

section
variable (M : Sm) (W : Wd) (p : E)
def tD : TE := fun σ H Q => ∃ F env d, Same F H ∧ EnvS M F H env σ ∧ EnvF M F (al p) env σ ∧ W.ev p env = some d ∧ ∀ v F' H', Ext F H F' H' → Rtop M (top W.T p) H F' H' d v → Q v H'
def tP : TE := fun σ H Q => ∃ F env d, Same F H ∧ EnvS M F H env σ ∧ EnvF M F (al p) env σ ∧ W.ev p env = some d ∧ ∀ v F' H', Ext F H F' H' → RV M F' d v → Q v H'
def tB : TE := fun σ H Q => ∃ F env d, Same F H ∧ EnvS M F H env σ ∧ W.ev p env = some d ∧ ∀ v H', Same H H' → RV M H' d v → Q v H'
def tI : TE := fun σ H Q => ∃ F env d, Same F H ∧ EnvS M F H env σ ∧ EnvF M F (itm p (al p)) env σ ∧ W.ev p env = some d ∧ ∀ v F' H', Ext F H F' H' → RS M F' H' d v → Q v H'
def tT : TT := fun σ H Q => ∃ F env b, Same F H ∧ EnvS M F H env σ ∧ W.ev p env = some (.bl b) ∧ ∀ H', Same H H' → Q b H'
end
section
variable (M : Sm) (W : Wd) (ps : Es)
def tAs : TA := fun σ H Q => ∃ F env ds, Same F H ∧ EnvS M F H env σ ∧ EnvF M F (als ps) env σ ∧ W.evs ps env = some ds ∧ ∀ vs F' H', Ext F H F' H' → RVs M F' ds vs → Q vs H'
def tAi : TA := fun σ H Q => ∃ F env ds, Same F H ∧ EnvS M F H env σ ∧ EnvF M F (ali ps) env σ ∧ W.evs ps env = some ds ∧ ∀ vs F' H', Ext F H F' H' → RSs M F' H' ds vs → Q vs H'
end

/-- what holds where a body runs: nothing is handled, nothing leaves, room for n calls -/
structure Gd (W : Wd) (X : Cx) : Prop where
  calm : X.calm = true
  room : Room W.n X.A
  nox : X.xe = fun _ _ => False
abbrev DE (W : Wd) (X : Cx) (e : Expr) (p : E) : Prop := PE X e (tD (sm X W) W p)
abbrev DI (W : Wd) (X : Cx) (e : Expr) (p : E) : Prop := PE X e (tI (sm X W) W p)
abbrev DB (W : Wd) (X : Cx) (e : Expr) (p : E) : Prop := PE X e (tB (sm X W) W p)
abbrev DP (W : Wd) (X : Cx) (e : Expr) (p : E) : Prop := PE X e (tP (sm X W) W p)
abbrev DT (W : Wd) (X : Cx) (e : Expr) (p : E) : Prop := PT X e (tT (sm X W) W p)
abbrev DA (W : Wd) (X : Cx) (es : List Expr) (ps : Es) : Prop := PA X es (tAs (sm X W) W ps)
abbrev DAi (W : Wd) (X : Cx) (es : List Expr) (ps : Es) : Prop := PA X es (tAi (sm X W) W ps)

theorem PE.imp {X : Cx} {e : Expr} {t t' : TE} (h : PE X e t) (i : ∀ σ H Q, t' σ H Q → t σ H Q) : PE X e t' := ⟨fun pins s σ H Q I q => h.run pins s σ H Q I (i σ H Q q)⟩
theorem PT.imp {X : Cx} {e : Expr} {t t' : TT} (h : PT X e t) (i : ∀ σ H Q, t' σ H Q → t σ H Q) : PT X e t' := ⟨fun pins s σ H Q I q => h.run pins s σ H Q I (i σ H Q q)⟩
theorem PW.imp {X : Cx} {e : Expr} {t t' : TT} (h : PW X e t) (i : ∀ σ H Q, t' σ H Q → t σ H Q) : PW X e t' := ⟨fun wh pins s σ H Q I q => h.run wh pins s σ H Q I (i σ H Q q)⟩
theorem PA.imp {X : Cx} {es : List Expr} {t t' : TA} (h : PA X es t) (i : ∀ σ H Q, t' σ H Q → t σ H Q) : PA X es t' := ⟨fun pos pins s σ H Q I q => h.run pos pins s σ H Q I (i σ H Q q)⟩
theorem PS.imp {X : Cx} {e : Stmt} {t t' : TS} (h : PS X e t) (i : ∀ D σ H, t' D σ H → t D σ H) : PS X e t' := ⟨fun pins s σ H D I q => h.run pins s σ H D I (i D σ H q)⟩
theorem PSs.imp {X : Cx} {e : List Stmt} {t t' : TS} (h : PSs X e t) (i : ∀ D σ H, t' D σ H → t D σ H) : PSs X e t' := ⟨fun pins s σ H D I q => h.run pins s σ H D I (i D σ H q)⟩

section
variable {W : Wd} {X : Cx} {e : Expr} {p : E}
theorem deP (h : DE W X e p) : DP W X e p := PE.imp h fun σ H Q ⟨F, env, d, s, hs, hf, ev, q⟩ => ⟨F, env, d, s, hs, hf, ev, fun v F' H' x r => by
  obtain ⟨F2, x2, _, r2⟩ := r.plain x
  exact q v F2 H' x2 r2⟩
theorem dpB (h : DP W X e p) : DB W X e p := PE.imp h fun σ H Q ⟨F, env, d, s, hs, ev, q⟩ => ⟨H, env, d, Same.refl _, hs.full s, hs.fullF s _, ev, fun v F' H' x r => q v H' x.h (r.mono x.s)⟩
theorem deB (h : DE W X e p) : DB W X e p := dpB (deP h)
theorem diB (h : DI W X e p) : DB W X e p := PE.imp h fun σ H Q ⟨F, env, d, s, hs, ev, q⟩ => ⟨H, env, d, Same.refl _, hs.full s, hs.fullF s _, ev, fun v F' H' x r => q v H' x.h (r.full x.s)⟩
/-- any expression but a name: its items -/
theorem deI (h : DE W X e p) (hv : itm p (al p) = al p := by rfl) : DI W X e p := PE.imp (deP h) fun σ H Q ⟨F, env, d, s, hs, hf, ev, q⟩ => ⟨F, env, d, s, hs, by rw [← hv]; exact hf, ev, fun v F' H' x r => q v F' H' x (r.rs x.s)⟩
/-- a value that is a bool -/
theorem dbT (h : DB W X e p) (he : ∀ whole, isTrue e X.env whole = (do let v ← whole; standAt e.pos; holding [v] (truthy v)) := by intro _; rfl) : DT W X e p := PT.imp (pt_val h he) fun σ H Q ⟨F, env, b, s, hs, ev, q⟩ =>
  ⟨F, env, .bl b, s, hs, ev, fun v H' x r => ⟨b, r, q H' x⟩⟩

/-! ### names, constants -/
theorem de_var {i : Nat} {x : Str} {pos : Pos} (hN : X.N[i]? = some x := by rfl) (hv : Vis X.env.scope x := by first | exact Or.inl rfl | exact Or.inr (Or.inl rfl) | exact Or.inr (Or.inr rfl)) (hd : (x == ("__debug__" : Str)) = false := by decide)
    (hcd : (x == ("__classdict__" : Str)) = false := by decide) : DE W X (.Name x pos) (.var i) := PE.imp (pe_var hN hv hd hcd) fun σ H Q ⟨F, env, d, s, hs, hf, ev, q⟩ => by
  obtain ⟨v, e, r⟩ := hf i (List.mem_cons_self ..) d ev
  exact ⟨v, e, q v F H (Ext.refl s) (.inl r)⟩
theorem di_var {i : Nat} {x : Str} {pos : Pos} (hN : X.N[i]? = some x := by rfl) (hv : Vis X.env.scope x := by first | exact Or.inl rfl | exact Or.inr (Or.inl rfl) | exact Or.inr (Or.inr rfl)) (hd : (x == ("__debug__" : Str)) = false := by decide)
    (hcd : (x == ("__classdict__" : Str)) = false := by decide) : DI W X (.Name x pos) (.var i) := PE.imp (pe_var hN hv hd hcd) fun σ H Q ⟨F, env, d, s, hs, _, ev, q⟩ => by
  obtain ⟨v, e, r⟩ := hs.2 i d ev
  exact ⟨v, e, q v F H (Ext.refl s) r⟩
def scl : D → Option V
  | .non => some .non
  | .bl b => some (.bl b)
  | .int i => some (.int i)
  | .str z => some (.str z)
  | _ => none
theorem scl_rv {M : Sm} {F : Hp} {d : D} {v : V} (h : scl d = some v) : RV M F d v := by
  cases d with
  | non => cases h; rfl
  | bl b => cases h; rfl
  | int i => cases h; rfl
  | str z => cases h; rfl
  | _ => cases h
theorem scl_notL {d : D} {v : V} (h : scl d = some v) : notL d = true := by
  cases d with
  | lst _ => cases h
  | ins _ _ => cases h
  | _ => rfl
theorem scl_top {M : Sm} {tp : Bool} {H F H' : Hp} {d : D} {v : V} (h : scl d = some v) : Rtop M tp H F H' d v := Rtop.of (scl_rv h) (scl_notL h)
theorem de_lit {d : D} {v : V} (h : PE X e (tC v)) (hs : scl d = some v := by rfl) : DE W X e (.lit d) := PE.imp h fun σ H Q ⟨F, env, d', s, _, _, ev, q⟩ => by
  obtain rfl : d = d' := Option.some.inj ev
  exact q v F H (Ext.refl s) (scl_top hs)
theorem de_int {i : Int} {k : Nat} {pos : Pos} : DE W X (.Constant (.int i) k pos) (.lit (.int i)) := de_lit pe_int
theorem de_bl {i : Bool} {k : Nat} {pos : Pos} : DE W X (.Constant (.bool i) k pos) (.lit (.bl i)) := de_lit pe_bl
theorem de_non {k : Nat} {pos : Pos} : DE W X (.Constant .none k pos) (.lit .non) := de_lit pe_non
theorem de_str {x : Str} {k : Nat} {pos : Pos} : DE W X (.Constant (.str x) k pos) (.lit (.str x)) := de_lit pe_str
/-- a constant of the module -/
theorem de_glob {x : Str} {v : V} {u : Value} {d : D} {pos : Pos} (hg : Gl X x) (hm : X.mg x = some u) (r : RelV v u) (h : ∀ F, RV (sm X W) F d v) (hn : notL d = true := by rfl) (hd : (x == ("__debug__" : Str)) = false := by decide) : DE W X (.Name x pos) (.lit d) :=
  PE.imp (pe_glob hg hm r hd) fun σ H Q ⟨F, env, d', s, _, _, ev, q⟩ => by
    obtain rfl : d = d' := Option.some.inj ev
    exact q v F H (Ext.refl s) (Rtop.of (h F) hn)

/-! ### argument lists, displays -/
variable {es : List Expr} {ps : Es}
theorem da_nil : DA W X [] .nil := PA.imp pa_nil fun σ H Q ⟨F, env, ds, s, _, _, ev, q⟩ => by
  obtain rfl : [] = ds := Option.some.inj ev
  exact q [] F H (Ext.refl s) RVs.nil
theorem evs_cons {T : Tb} {cl : Nat → List D → Option D} {p : E} {ps : Es} {env : Env} {ds : List D} (h : evs T cl (.cons p ps) env = some ds) : ∃ d r, ds = d :: r ∧ ev T cl p env = some d ∧ evs T cl ps env = some r := by
  unfold evs at h
  cases e1 : ev T cl p env with
  | none => rw [e1] at h; cases h
  | some d =>
    rw [e1] at h
    cases e2 : evs T cl ps env with
    | none => rw [e2] at h; cases h
    | some r =>
      rw [e2] at h
      exact ⟨d, r, (Option.some.inj h).symm, rfl, rfl⟩
theorem da_cons (h : DE W X e p) (hs : DA W X es ps) (hst : starEach (e :: es) X.env = (false, eval e X.env) :: starEach es X.env := by rfl) : DA W X (e :: es) (.cons p ps) := PA.imp (pa_cons (deP h) hs hst) fun σ H Q ⟨F, env, ds, s, hs, hf, ev, q⟩ => by
  obtain ⟨d, r, rfl, e1, e2⟩ := evs_cons ev
  refine ⟨F, env, d, s, hs, hf.left, e1, fun v F1 H1 x1 r1 => ⟨F1, env, r, x1.s, hs.mono x1.f x1.h, (hf.right).mono x1.f, e2, fun vs F2 H2 x2 r2 => ?_⟩⟩
  exact q (v :: vs) F2 H2 (x1.trans x2) (RVs.cons (r1.mono x2.f) r2)
theorem dai_nil : DAi W X [] .nil := PA.imp pa_nil fun σ H Q ⟨F, env, ds, s, _, _, ev, q⟩ => by
  obtain rfl : [] = ds := Option.some.inj ev
  exact q [] F H (Ext.refl s) rfl
theorem dai_cons (h : DI W X e p) (hs : DAi W X es ps) (hst : starEach (e :: es) X.env = (false, eval e X.env) :: starEach es X.env := by rfl) : DAi W X (e :: es) (.cons p ps) := PA.imp (pa_cons h hs hst) fun σ H Q ⟨F, env, ds, s, hs, hf, ev, q⟩ => by
  obtain ⟨d, r, rfl, e1, e2⟩ := evs_cons ev
  refine ⟨F, env, d, s, hs, hf.left, e1, fun v F1 H1 x1 r1 => ⟨F1, env, r, x1.s, hs.mono x1.f x1.h, (hf.right).mono x1.f, e2, fun vs F2 H2 x2 r2 => ?_⟩⟩
  exact q (v :: vs) F2 H2 (x1.trans x2) ⟨v, vs, rfl, r1.mono x2.f x2.h, r2⟩
end
end Nt

set_option Elab.async false
set_option linter.all false
set_option maxRecDepth 100000
set_option maxHeartbeats 4000000
/-! Operators, comparisons, tests, built-ins of one value. -/
namespace Nt
open PySem PySem.Spec PyProof.Rows L2

/-! ### equality -/
mutual
theorem lay_toP : ∀ {d : D}, shp 0 d = true → (toP d).canLay0 = true
  | .non, _ => rfl | .bl _, _ => rfl | .int _, _ => rfl | .str _, h => h | .frl _, _ => rfl | .ins _ _, _ => rfl | .fn _, _ => rfl | .emp, _ => rfl | .lam _, _ => rfl
  | .tup ds, h => by unfold toP; unfold PyData.canLay0; exact lay_toPs h
  | .lst ds, h => by unfold toP; unfold PyData.canLay0; exact lay_toPs h
theorem lay_toPs : ∀ {ds : List D}, shps 0 ds = true → PyData.canLayAll0 (toPs ds) = true
  | [], _ => rfl
  | d :: ds, h => by
    unfold shps at h
    rw [Bool.and_eq_true] at h
    unfold toPs; unfold PyData.canLayAll0; rw [lay_toP h.1, lay_toPs h.2]; rfl
end
mutual
theorem dep_toP : ∀ d : D, (toP d).depth = dep d
  | .non => rfl | .bl _ => rfl | .int _ => rfl | .str _ => rfl | .frl _ => rfl | .ins _ _ => rfl | .fn _ => rfl | .emp => rfl | .lam _ => rfl
  | .tup ds => by unfold toP dep; unfold PyData.depth; rw [dep_toPs ds]
  | .lst ds => by unfold toP dep; unfold PyData.depth; rw [dep_toPs ds]
theorem dep_toPs : ∀ ds : List D, PyData.depthAll (toPs ds) = deps ds
  | [] => rfl
  | d :: ds => by unfold toPs deps; unfold PyData.depthAll; rw [dep_toP d, dep_toPs ds]
end
mutual
theorem dp_of {M : Sm} {H : Hp} : ∀ {d : D} {v : V}, RV M H d v → shp 0 d = true → Dp M.K H v (toP d)
  | .non, _, h, _ => by rw [show _ = V.non from h]; exact .non
  | .bl b, _, h, _ => by rw [show _ = V.bl b from h]; exact .bl b
  | .int b, _, h, _ => by rw [show _ = V.int b from h]; exact .int b
  | .str b, _, h, _ => by rw [show _ = V.str b from h]; exact .str b
  | .tup ds, _, ⟨a, vs, e, h1, h2⟩, z => by
    rw [e]
    unfold toP
    unfold shp at z
    exact .tup h1 (dps_of h2 z)
  | .lst ds, _, ⟨a, vs, e, h1, h2⟩, z => by
    rw [e]
    unfold toP
    unfold shp at z
    exact .lst (SqL.of h1) (dps_of h2 z)
  | .frl _, _, _, z => by unfold shp at z; cases z
  | .ins _ _, _, _, z => by unfold shp at z; cases z
  | .fn _, _, _, z => by unfold shp at z; cases z
  | .emp, _, _, z => by unfold shp at z; cases z
  | .lam _, _, _, z => by unfold shp at z; cases z
theorem dps_of {M : Sm} {H : Hp} : ∀ {ds : List D} {vs : List V}, RVs M H ds vs → shps 0 ds = true → DpAll M.K H vs (toPs ds)
  | [], _, h, _ => by rw [show _ = [] from h]; exact .nil
  | d :: ds, _, ⟨v, r, e, h1, h2⟩, z => by
    rw [e]
    unfold toPs
    unfold shps at z
    rw [Bool.and_eq_true] at z
    exact .cons (dp_of h1 z.1) (dps_of h2 z.2)
end
theorem ok_shaped {d : D} (h : ok d = true) : SeqAt.shaped (toP d) = true := by
  unfold ok at h
  rw [Bool.and_eq_true] at h
  have := of_decide_eq_true h.2
  unfold SeqAt.shaped
  rw [lay_toP h.1, dep_toP, Bool.true_and]
  exact decide_eq_true (by omega)
theorem ok_shp {d : D} (h : ok d = true) : shp 0 d = true := by
  unfold ok at h
  rw [Bool.and_eq_true] at h
  exact h.1
theorem toPs_any (a : D) : ∀ xs : List D, (toPs xs).any (fun z => PyData.eqv z (toP a)) = xs.any fun z => deq z a
  | [] => rfl
  | x :: xs => by unfold toPs; rw [List.any_cons, List.any_cons, toPs_any a xs]; rfl
theorem intsOf_eq : ∀ {ds : List D} {ns : List Int}, intsOf ds = some ns → ds = ns.map .int
  | [], _, e => by
    have e : [] = _ := Option.some.inj e
    subst e
    rfl
  | .int i :: ds, _, e => by
    unfold intsOf at e
    cases q : intsOf ds with
    | none => rw [q] at e; cases e
    | some ms =>
      rw [q] at e
      have e : i :: ms = _ := Option.some.inj e
      subst e
      rw [intsOf_eq q]
      rfl
  | .non :: _, _, e => by cases e
  | .bl _ :: _, _, e => by cases e
  | .str _ :: _, _, e => by cases e
  | .tup _ :: _, _, e => by cases e
  | .lst _ :: _, _, e => by cases e
  | .frl _ :: _, _, e => by cases e
  | .ins _ _ :: _, _, e => by cases e
  | .fn _ :: _, _, e => by cases e
  | .emp :: _, _, e => by cases e
  | .lam _ :: _, _, e => by cases e

/-! ### operators that give a scalar -/
def OpS (M : Sm) (o : O2) (r : R2) : Prop := ∀ (H : Hp) (x y : V) (d1 d2 z : D), RV M H d1 x → RV M H d2 y → op2 o d1 d2 = some z → ∃ u, scl z = some u ∧ ∀ Q : VK, Q u H → r x y H Q
theorem int2_some {f : Int → Int → Option D} {a b z : D} (h : int2 f a b = some z) : ∃ i j, a = .int i ∧ b = .int j ∧ f i j = some z := by
  unfold int2 at h
  split at h
  · exact ⟨_, _, rfl, rfl, h⟩
  · cases h
theorem ops_int {M : Sm} {o : O2} {f : Int → Int → Option D} {C : Int → Int → Prop} {g : Int → Int → V} (ho : op2 o = int2 f) (hf : ∀ i j z, f i j = some z → C i j ∧ scl z = some (g i j)) : OpS M o (rI C g) := by
  intro H x y d1 d2 z h1 h2 e
  rw [ho] at e
  obtain ⟨i, j, rfl, rfl, q⟩ := int2_some e
  obtain ⟨c, s⟩ := hf i j z q
  exact ⟨_, s, fun Q k => ⟨i, j, h1, h2, c, k⟩⟩
theorem ops_int0 {M : Sm} {o : O2} {f : Int → Int → Option D} {g : Int → Int → V} (ho : op2 o = int2 f) (hf : ∀ i j z, f i j = some z → scl z = some (g i j)) : OpS M o (rI0 g) := by
  intro H x y d1 d2 z h1 h2 e
  rw [ho] at e
  obtain ⟨i, j, rfl, rfl, q⟩ := int2_some e
  exact ⟨_, hf i j z q, fun Q k => ⟨i, j, h1, h2, k⟩⟩
theorem ite_some {c : Prop} [Decidable c] {α : Type} {x z : α} (h : (if c then some x else none) = some z) : c ∧ x = z := by
  by_cases q : c
  · rw [if_pos q] at h; exact ⟨q, Option.some.inj h⟩
  · rw [if_neg q] at h; cases h
section
variable {M : Sm}
theorem os_sub : OpS M .sub (rI0 fun i j => .int (i - j)) := ops_int0 rfl fun i j z h => by cases h; rfl
theorem os_mul : OpS M .mul (rI CMul fun i j => .int (i * j)) := by
  intro H x y d1 d2 z h1 h2 e
  have e : mulD d1 d2 = some z := e
  unfold mulD at e
  split at e
  · obtain ⟨c, rfl⟩ := ite_some e
    exact ⟨_, rfl, fun Q k => ⟨_, _, h1, h2, c, k⟩⟩
  · cases e
theorem os_fdiv : OpS M .fdiv (rI CDivN fun i j => .int (i.fdiv j)) := ops_int rfl fun i j z h => by
  obtain ⟨c, rfl⟩ := ite_some h
  exact ⟨c, rfl⟩
theorem os_mod : OpS M .mod (rI (fun _ j => j ≠ 0) fun i j => .int (i.fmod j)) := ops_int rfl fun i j z h => by
  obtain ⟨c, rfl⟩ := ite_some h
  exact ⟨c, rfl⟩
theorem os_pow : OpS M .pow (rI CPow fun i j => .int (i ^ j.toNat)) := ops_int rfl fun i j z h => by
  obtain ⟨c, rfl⟩ := ite_some h
  exact ⟨c, rfl⟩
theorem os_shr : OpS M .shr (rI (fun _ j => 0 ≤ j) fun i j => .int (i / 2 ^ j.toNat)) := ops_int rfl fun i j z h => by
  obtain ⟨c, rfl⟩ := ite_some h
  exact ⟨c, rfl⟩
theorem os_le : OpS M .le (rI0 fun i j => .bl (decide (i ≤ j))) := ops_int0 rfl fun i j z h => by cases h; rfl
theorem os_gt : OpS M .gt (rI0 fun i j => .bl (decide (j < i))) := ops_int0 rfl fun i j z h => by cases h; rfl
theorem os_ge : OpS M .ge (rI0 fun i j => .bl (decide (j ≤ i))) := ops_int0 rfl fun i j z h => by cases h; rfl
abbrev rLt (K : PySem.W.Frag) : R2 := fun x y H Q => (rI0 fun i j => .bl (decide (i < j))) x y H Q ∨ rLtT K x y H Q
theorem or_lt {X : Cx} (hu : X.A.units < cLine) : OpR X (compareOp .Lt) (rLt X.K) := op_lt.or (op_ltT hu)
theorem os_lt : OpS M .lt (rLt M.K) := by
  intro H x y d1 d2 z h1 h2 e
  have e : ltD d1 d2 = some z := e
  unfold ltD at e
  split at e
  · cases e
    exact ⟨_, rfl, fun Q k => .inl ⟨_, _, h1, h2, k⟩⟩
  · split at e
    · rename_i e1 e2
      cases e
      obtain ⟨a, vs, ea, ha, ra⟩ := h1
      obtain ⟨b, us, eb, hb, rb⟩ := h2
      obtain ⟨q1, _⟩ := RVs.of_ints ra e1
      obtain ⟨q2, _⟩ := RVs.of_ints rb e2
      rw [q1] at ha
      rw [q2] at hb
      exact ⟨_, rfl, fun Q k => .inr ⟨a, b, _, _, ea, eb, ha, hb, k⟩⟩
    · cases e
  · cases e
theorem os_eq : OpS M .eq (rEqD M.K) := by
  intro H x y d1 d2 z h1 h2 e
  have e : (eqD d1 d2).map .bl = some z := e
  unfold eqD at e
  split at e
  · rename_i c
    rw [Bool.and_eq_true] at c
    cases e
    exact ⟨_, rfl, fun Q k => ⟨_, _, dp_of h1 (ok_shp c.1), dp_of h2 (ok_shp c.2), ok_shaped c.1, ok_shaped c.2, k⟩⟩
  · cases e
theorem os_ne : OpS M .ne (rNeD M.K) := by
  intro H x y d1 d2 z h1 h2 e
  have e : (eqD d1 d2).map (fun c => D.bl (!c)) = some z := e
  unfold eqD at e
  split at e
  · rename_i c
    rw [Bool.and_eq_true] at c
    cases e
    exact ⟨_, rfl, fun Q k => ⟨_, _, dp_of h1 (ok_shp c.1), dp_of h2 (ok_shp c.2), ok_shaped c.1, ok_shaped c.2, k⟩⟩
  · cases e
abbrev rMem (K : PySem.W.Frag) : R2 := fun x y H Q => rInD K x y H Q ∨ rIn K false x y H Q
abbrev rNmem (K : PySem.W.Frag) : R2 := fun x y H Q => rNotInD K x y H Q ∨ rIn K true x y H Q
theorem or_mem {X : Cx} (hu : X.A.units + 65 < cLine) : OpR X (compareOp .In) (rMem X.K) := (op_inD hu).or op_in_seq
theorem or_nmem {X : Cx} (hu : X.A.units + 65 < cLine) : OpR X (compareOp .NotIn) (rNmem X.K) := (op_notInD hu).or op_notIn_seq
theorem flat_ints : ∀ ns : List Int, (ns.map V.int).all flatV = true
  | [] => rfl
  | n :: ns => by rw [List.map_cons, List.all_cons, flat_ints ns]; rfl
theorem inV_ints (i : Int) : ∀ ns : List Int, inV (.int i) (ns.map V.int) = ns.any fun z => z == i
  | [] => rfl
  | n :: ns => by
    have h := inV_ints i ns
    unfold inV at h ⊢
    rw [List.map_cons, List.any_cons, List.any_cons, h]
    rfl
theorem flat_strs : ∀ ns : List Str, (ns.map V.str).all flatV = true
  | [] => rfl
  | n :: ns => by rw [List.map_cons, List.all_cons, flat_strs ns]; rfl
theorem inV_strs (i : Str) : ∀ ns : List Str, inV (.str i) (ns.map V.str) = ns.any fun z => z == i
  | [] => rfl
  | n :: ns => by
    have h := inV_strs i ns
    unfold inV at h ⊢
    rw [List.map_cons, List.any_cons, List.any_cons, h]
    rfl
theorem mem_core {neg : Bool} {d1 d2 z : D} (e : memD neg d1 d2 = some z) : (∃ xs, d2 = .lst xs ∧ ok d1 = true ∧ ok (.lst xs) = true ∧ z = .bl (neg ^^ xs.any fun w => deq w d1)) ∨
    (∃ i xs ns, d1 = .int i ∧ d2 = .tup xs ∧ intsOf xs = some ns ∧ z = .bl (neg ^^ ns.any fun w => w == i)) ∨ ∃ i xs ns, d1 = .str i ∧ d2 = .tup xs ∧ strsOf xs = some ns ∧ z = .bl (neg ^^ ns.any fun w => w == i) := by
  unfold memD at e
  split at e
  · split at e
    · rename_i c
      rw [Bool.and_eq_true] at c
      cases e
      exact .inl ⟨_, rfl, c.1, c.2, rfl⟩
    · cases e
  · split at e
    · split at e
      · rename_i q
        cases e
        exact .inr (.inl ⟨_, _, _, rfl, rfl, q, rfl⟩)
      · cases e
    · split at e
      · rename_i q
        cases e
        exact .inr (.inr ⟨_, _, _, rfl, rfl, q, rfl⟩)
      · cases e
    · cases e
  · cases e
theorem os_mem : OpS M .mem (rMem M.K) := by
  intro H x y d1 d2 z h1 h2 e
  have e : memD false d1 d2 = some z := e
  rcases mem_core e with ⟨xs, rfl, c1, c2, rfl⟩ | ⟨i, xs, ns, rfl, rfl, q, rfl⟩ | ⟨i, xs, ns, rfl, rfl, q, rfl⟩
  · refine ⟨_, rfl, fun Q k => .inl ⟨toP d1, toPs xs, dp_of h1 (ok_shp c1), dp_of h2 (ok_shp c2), ok_shaped c1, ok_shaped c2, ?_⟩⟩
    rw [toPs_any]
    simpa using k
  · obtain ⟨a, vs, ea, ha, ra⟩ := h2
    obtain ⟨q1, _⟩ := RVs.of_ints ra q
    rw [q1] at ha
    refine ⟨_, rfl, fun Q k => .inr ⟨a, _, ea, .inr ha, by rw [show x = .int i from h1]; rfl, flat_ints ns, ?_⟩⟩
    rw [show x = .int i from h1, inV_ints]
    simpa using k
  · obtain ⟨a, vs, ea, ha, ra⟩ := h2
    have q1 := RVs.of_strs ra q
    rw [q1] at ha
    refine ⟨_, rfl, fun Q k => .inr ⟨a, _, ea, .inr ha, by rw [show x = .str i from h1]; rfl, flat_strs ns, ?_⟩⟩
    rw [show x = .str i from h1, inV_strs]
    simpa using k
theorem os_nmem : OpS M .nmem (rNmem M.K) := by
  intro H x y d1 d2 z h1 h2 e
  have e : memD true d1 d2 = some z := e
  rcases mem_core e with ⟨xs, rfl, c1, c2, rfl⟩ | ⟨i, xs, ns, rfl, rfl, q, rfl⟩ | ⟨i, xs, ns, rfl, rfl, q, rfl⟩
  · refine ⟨_, rfl, fun Q k => .inl ⟨toP d1, toPs xs, dp_of h1 (ok_shp c1), dp_of h2 (ok_shp c2), ok_shaped c1, ok_shaped c2, ?_⟩⟩
    rw [toPs_any]
    simpa using k
  · obtain ⟨a, vs, ea, ha, ra⟩ := h2
    obtain ⟨q1, _⟩ := RVs.of_ints ra q
    rw [q1] at ha
    refine ⟨_, rfl, fun Q k => .inr ⟨a, _, ea, .inr ha, by rw [show x = .int i from h1]; rfl, flat_ints ns, ?_⟩⟩
    rw [show x = .int i from h1, inV_ints]
    simpa using k
  · obtain ⟨a, vs, ea, ha, ra⟩ := h2
    have q1 := RVs.of_strs ra q
    rw [q1] at ha
    refine ⟨_, rfl, fun Q k => .inr ⟨a, _, ea, .inr ha, by rw [show x = .str i from h1]; rfl, flat_strs ns, ?_⟩⟩
    rw [show x = .str i from h1, inV_strs]
    simpa using k
abbrev rIs : R2 := fun x y H Q => rIsB x y H Q ∨ (fun x y H Q => y = .non ∧ Q (.bl (decide (x = .non))) H : R2) x y H Q
abbrev rIsn : R2 := fun x y H Q => rNotB x y H Q ∨ (fun x y H Q => y = .non ∧ Q (.bl (!decide (x = .non))) H : R2) x y H Q
theorem or_is {X : Cx} : OpR X (compareOp .Is) rIs := op_isBl.or op_isN
theorem or_isn {X : Cx} : OpR X (compareOp .IsNot) rIsn := op_notBl.or op_notN
theorem is_core {neg : Bool} {H : Hp} {x y : V} {d1 d2 z : D} (h1 : RV M H d1 x) (h2 : RV M H d2 y) (e : isD neg d1 d2 = some z) : (∃ a b, x = .bl a ∧ y = .bl b ∧ z = .bl (neg ^^ decide (a = b))) ∨ (y = .non ∧ z = .bl (neg ^^ decide (x = .non))) := by
  unfold isD at e
  split at e
  · cases e; exact .inl ⟨_, _, h1, h2, rfl⟩
  · cases e; rw [show x = .non from h1]; exact .inr ⟨h2, rfl⟩
  · cases e; obtain ⟨a, _, _, e1, _⟩ := h1; rw [e1]; exact .inr ⟨h2, by rw [decide_eq_false (fun q => by cases q)]⟩
  · cases e; obtain ⟨a, _, e1, _⟩ := h1; rw [e1]; exact .inr ⟨h2, by rw [decide_eq_false (fun q => by cases q)]⟩
  · cases e; obtain ⟨a, _, e1, _⟩ := h1; rw [e1]; exact .inr ⟨h2, by rw [decide_eq_false (fun q => by cases q)]⟩
  · cases e; rw [show x = .int _ from h1]; exact .inr ⟨h2, by rw [decide_eq_false (fun q => by cases q)]⟩
  · cases e; rw [show x = .str _ from h1]; exact .inr ⟨h2, by rw [decide_eq_false (fun q => by cases q)]⟩
  · cases e
theorem os_is : OpS M .is rIs := by
  intro H x y d1 d2 z h1 h2 e
  have e : isD false d1 d2 = some z := e
  rcases is_core h1 h2 e with ⟨a, b, rfl, rfl, rfl⟩ | ⟨rfl, rfl⟩
  · exact ⟨_, rfl, fun Q k => .inl ⟨_, _, rfl, rfl, by simpa using k⟩⟩
  · exact ⟨_, rfl, fun Q k => .inr ⟨rfl, by simpa using k⟩⟩
theorem os_isn : OpS M .isn rIsn := by
  intro H x y d1 d2 z h1 h2 e
  have e : isD true d1 d2 = some z := e
  rcases is_core h1 h2 e with ⟨a, b, rfl, rfl, rfl⟩ | ⟨rfl, rfl⟩
  · exact ⟨_, rfl, fun Q k => .inl ⟨_, _, rfl, rfl, by simpa using k⟩⟩
  · exact ⟨_, rfl, fun Q k => .inr ⟨rfl, by simpa using k⟩⟩
end

theorem ev_o2 {T : Tb} {cl : Nat → List D → Option D} {o : O2} {p q : E} {env : Env} {z : D} (h : ev T cl (.o2 o p q) env = some z) : ∃ x y, ev T cl p env = some x ∧ ev T cl q env = some y ∧ op2 o x y = some z := by
  unfold ev at h
  split at h
  · rename_i x e1
    split at h
    · rename_i y e2
      exact ⟨x, y, e1, e2, h⟩
    · cases h
  · cases h
theorem ev_o1 {T : Tb} {cl : Nat → List D → Option D} {o : O1} {p : E} {env : Env} {z : D} (h : ev T cl (.o1 o p) env = some z) : ∃ x, ev T cl p env = some x ∧ op1 T.sub o x = some z := by
  unfold ev at h
  split at h
  · rename_i x e1
    exact ⟨x, e1, h⟩
  · cases h
section
variable {W : Wd} {X : Cx} {a b c : Expr} {p q r : E} {pos : Pos}
theorem op_core {o : O2} {rr : R2} (hr : OpS (sm X W) o rr) : ∀ σ H Q, tD (sm X W) W (.o2 o p q) σ H Q → tOp rr (tB (sm X W) W p) (tB (sm X W) W q) σ H Q := fun σ H Q ⟨F, env, d, s, hs, _, ev, k⟩ => by
  obtain ⟨d1, d2, e1, e2, e⟩ := ev_o2 ev
  refine ⟨F, env, d1, s, hs, e1, fun v H1 t1 r1 => ⟨F, env, d2, s.trans t1, hs.mono (Same.refl _) t1, e2, fun y H2 t2 r2 => ?_⟩⟩
  obtain ⟨u, su, hq⟩ := hr H2 v y d1 d2 d (r1.mono t2) r2 e
  exact hq Q (k u F H2 (Ext.grow s (t1.trans t2)) (scl_top su))
theorem de_o2 {op : Operator} {o : O2} {rr : R2} (ho : OpR X (binaryOp op) rr) (hr : OpS (sm X W) o rr) (ha : DB W X a p) (hb : DB W X b q) : DE W X (.BinOp a op b pos) (.o2 o p q) := PE.imp (pe_op ho ha hb) (op_core hr)
theorem de_cmp {op : CmpOp} {o : O2} {rr : R2} (ho : OpR X (compareOp op) rr) (hr : OpS (sm X W) o rr) (ha : DB W X a p) (hb : DB W X b q) (hm : behindInMarks op b = false := by first | exact nomark _ | rfl) : DE W X (.Compare a [op] [b] pos) (.o2 o p q) :=
  PE.imp (pe_cmpR ho ha hb hm) (op_core hr)
theorem dt_cmp {op : CmpOp} {o : O2} {rr : R2} (ho : OpR X (compareOp op) rr) (hr : OpS (sm X W) o rr) (ha : DB W X a p) (hb : DB W X b q) (hm : behindInMarks op b = false := by first | exact nomark _ | rfl) : DT W X (.Compare a [op] [b] pos) (.o2 o p q) :=
  PT.imp (pt_cmpR ho ha hb hm) fun σ H Q ⟨F, env, d, s, hs, ev, k⟩ => by
    obtain ⟨d1, d2, e1, e2, e⟩ := ev_o2 ev
    refine ⟨F, env, d1, s, hs, e1, fun v H1 t1 r1 => ⟨F, env, d2, s.trans t1, hs.mono (Same.refl _) t1, e2, fun y H2 t2 r2 => ?_⟩⟩
    obtain ⟨u, su, hq⟩ := hr H2 v y d1 d2 _ (r1.mono t2) r2 e
    obtain rfl : V.bl d = u := Option.some.inj su
    exact hq (fun x H' => ∃ k, x = .bl k ∧ Q k H') ⟨d, rfl, k H2 (t1.trans t2)⟩
/-- a < b < c -/
theorem ev_ch {T : Tb} {cl : Nat → List D → Option D} {o o' : O2} {p q r : E} {env : Env} {z : D} (h : ev T cl (.ch o o' p q r) env = some z) : ∃ x y, ev T cl p env = some x ∧ ev T cl q env = some y ∧
    ((op2 o x y = some (.bl true) ∧ ∃ w, ev T cl r env = some w ∧ op2 o' y w = some z) ∨ (op2 o x y = some (.bl false) ∧ z = .bl false)) := by
  unfold ev at h
  split at h
  · rename_i x e1
    split at h
    · rename_i y e2
      refine ⟨x, y, e1, e2, ?_⟩
      split at h
      · rename_i e3
        split at h
        · rename_i w e4
          exact .inl ⟨e3, w, e4, h⟩
        · cases h
      · rename_i e3
        cases h
        exact .inr ⟨e3, rfl⟩
      · cases h
    · cases h
  · cases h
theorem de_ch {op op' : CmpOp} {o o' : O2} {r1 r2 : R2} (ho : OpR X (compareOp op) r1) (hr : OpS (sm X W) o r1) (ho' : OpR X (compareOp op') r2) (hr' : OpS (sm X W) o' r2) (ha : DB W X a p) (hb : DB W X b q) (hc : DB W X c r)
    (hch : PE X (.Compare a [op, op'] [b, c] pos) (tChain r1 r2 (tB (sm X W) W p) (tB (sm X W) W q) (tB (sm X W) W r))) : DE W X (.Compare a [op, op'] [b, c] pos) (.ch o o' p q r) :=
  PE.imp hch fun σ H Q ⟨F, env, d, s, hs, _, ev, k⟩ => by
    obtain ⟨d1, d2, e1, e2, e⟩ := ev_ch ev
    refine ⟨F, env, d1, s, hs, e1, fun v H1 t1 w1 => ⟨F, env, d2, s.trans t1, hs.mono (Same.refl _) t1, e2, fun y H2 t2 w2 => ?_⟩⟩
    rcases e with ⟨e3, w, e4, e5⟩ | ⟨e3, rfl⟩
    · obtain ⟨u, su, hq⟩ := hr H2 v y d1 d2 _ (w1.mono t2) w2 e3
      obtain rfl : V.bl true = u := Option.some.inj su
      refine hq _ ⟨true, rfl, ?_⟩
      rw [if_pos rfl]
      refine ⟨F, env, w, (s.trans t1).trans t2, (hs.mono (Same.refl _) t1).mono (Same.refl _) t2, e4, fun x H3 t3 w3 => ?_⟩
      obtain ⟨u, su, hq⟩ := hr' H3 y x d2 w _ (w2.mono t3) w3 e5
      exact hq Q (k u F H3 (Ext.grow s ((t1.trans t2).trans t3)) (scl_top su))
    · obtain ⟨u, su, hq⟩ := hr H2 v y d1 d2 _ (w1.mono t2) w2 e3
      obtain rfl : V.bl false = u := Option.some.inj su
      refine hq _ ⟨false, rfl, ?_⟩
      rw [if_neg Bool.false_ne_true]
      exact k _ F H2 (Ext.grow s (t1.trans t2)) (scl_top rfl)
end
end Nt

set_option Elab.async false
set_option linter.all false
set_option maxRecDepth 100000
set_option maxHeartbeats 4000000
/-! Tests, displays, built-ins, +, slices, items. -/
namespace Nt
open PySem PySem.Spec PyProof.Rows L2

section
variable {W : Wd} {X : Cx} {a b c e : Expr} {p q r : E} {pos : Pos} {rest : List Expr}
/-! ### tests -/
theorem ev_not {T : Tb} {cl : Nat → List D → Option D} {p : E} {env : Env} {z : D} (h : ev T cl (.o1 .not p) env = some z) : ∃ b, ev T cl p env = some (.bl b) ∧ z = .bl (!b) := by
  obtain ⟨x, e1, e2⟩ := ev_o1 h
  have e2 : notD x = some z := e2
  unfold notD at e2
  split at e2
  · cases e2; exact ⟨_, e1, rfl⟩
  · cases e2
theorem dt_not (h : DT W X a p) : DT W X (.UnaryOp .Not a pos) (.o1 .not p) := PT.imp (pt_not h) fun σ H Q ⟨F, env, b, s, hs, ev, k⟩ => by
  obtain ⟨c, e1, e2⟩ := ev_not ev
  have e2 : b = !c := by cases e2; rfl
  exact ⟨F, env, c, s, hs, e1, fun H' t => by show Q (!c) H'; rw [← e2]; exact k H' t⟩
theorem ev_and {T : Tb} {cl : Nat → List D → Option D} {p q : E} {env : Env} {z : D} (h : ev T cl (.and p q) env = some z) : (ev T cl p env = some (.bl true) ∧ ev T cl q env = some z) ∨ (ev T cl p env = some (.bl false) ∧ z = .bl false) := by
  unfold ev at h
  split at h
  · rename_i e1; exact .inl ⟨e1, h⟩
  · rename_i e1; cases h; exact .inr ⟨e1, rfl⟩
  · cases h
theorem ev_or {T : Tb} {cl : Nat → List D → Option D} {p q : E} {env : Env} {z : D} (h : ev T cl (.or p q) env = some z) : (ev T cl p env = some (.bl false) ∧ ev T cl q env = some z) ∨ (ev T cl p env = some (.bl true) ∧ z = .bl true) := by
  unfold ev at h
  split at h
  · rename_i e1; cases h; exact .inr ⟨e1, rfl⟩
  · rename_i e1; exact .inl ⟨e1, h⟩
  · cases h
theorem ev_ite {T : Tb} {cl : Nat → List D → Option D} {c p q : E} {env : Env} {z : D} (h : ev T cl (.ite c p q) env = some z) : (ev T cl c env = some (.bl true) ∧ ev T cl p env = some z) ∨ (ev T cl c env = some (.bl false) ∧ ev T cl q env = some z) := by
  unfold ev at h
  split at h
  · rename_i e1; exact .inl ⟨e1, h⟩
  · rename_i e1; exact .inr ⟨e1, h⟩
  · cases h
/-- chains of and, or: the tail's test -/
abbrev DW (W : Wd) (X : Cx) (e : Expr) (p : E) : Prop := PW X e (tT (sm X W) W p)
theorem dw_and1 (h : DT W X a p) : DW W X (.BoolOp .And [a] pos) p := pw_and1 h
theorem dw_or1 (h : DT W X a p) : DW W X (.BoolOp .Or [a] pos) p := pw_or1 h
theorem dw_and (h : DT W X a p) (hb : DW W X (.BoolOp .And (b :: rest) pos) q) : DW W X (.BoolOp .And (a :: b :: rest) pos) (.and p q) := PW.imp (pw_and h hb) fun σ H Q ⟨F, env, b, s, hs, ev, k⟩ => by
  rcases ev_and ev with ⟨e1, e2⟩ | ⟨e1, e2⟩
  · refine ⟨F, env, true, s, hs, e1, fun H' t => ?_⟩
    refine iteT ?_
    exact ⟨F, env, b, s.trans t, hs.mono (Same.refl _) t, e2, fun H2 t2 => k H2 (t.trans t2)⟩
  · cases e2
    refine ⟨F, env, false, s, hs, e1, fun H' t => ?_⟩
    refine iteF ?_
    exact k H' t
theorem dw_or (h : DT W X a p) (hb : DW W X (.BoolOp .Or (b :: rest) pos) q) : DW W X (.BoolOp .Or (a :: b :: rest) pos) (.or p q) := PW.imp (pw_or h hb) fun σ H Q ⟨F, env, b, s, hs, ev, k⟩ => by
  rcases ev_or ev with ⟨e1, e2⟩ | ⟨e1, e2⟩
  · refine ⟨F, env, false, s, hs, e1, fun H' t => ?_⟩
    refine iteF ?_
    exact ⟨F, env, b, s.trans t, hs.mono (Same.refl _) t, e2, fun H2 t2 => k H2 (t.trans t2)⟩
  · cases e2
    refine ⟨F, env, true, s, hs, e1, fun H' t => ?_⟩
    refine iteT ?_
    exact k H' t
theorem dwT {e : Expr} (h : DW W X e p) : DT W X e p := h.pt
/-! ### as values -/
theorem de_not (h : DB W X a p) : DE W X (.UnaryOp .Not a pos) (.o1 .not p) := PE.imp (pe_not h) fun σ H Q ⟨F, env, d, s, hs, _, ev, k⟩ => by
  obtain ⟨c, e1, rfl⟩ := ev_not ev
  exact ⟨F, env, _, s, hs, e1, fun v H' t r => ⟨c, r, k _ F H' (Ext.grow s t) (scl_top rfl)⟩⟩
theorem de_one {o : BoolOp} (h : DE W X a p) : DE W X (.BoolOp o [a] pos) p := pe_one h
theorem Rtop.and {M : Sm} {H F H' : Hp} {d : D} {v : V} {tp : Bool} (h : RV M F d v) : Rtop M false H F H' d v := .inl h
theorem de_and (h : DB W X a p) (hb : DE W X (.BoolOp .And (b :: rest) pos) q) : DE W X (.BoolOp .And (a :: b :: rest) pos) (.and p q) := PE.imp (pe_and h (deP hb)) fun σ H Q ⟨F, env, d, s, hs, hf, ev, k⟩ => by
  rcases ev_and ev with ⟨e1, e2⟩ | ⟨e1, e2⟩
  · refine ⟨F, env, _, s, hs, e1, fun v H' t r => ⟨true, r, ?_⟩⟩
    refine iteT ?_
    exact ⟨F, env, d, s.trans t, hs.mono (Same.refl _) t, hf, e2, fun v F2 H2 x r => k v F2 H2 ((Ext.grow s t).trans x) (.inl r)⟩
  · cases e2
    refine ⟨F, env, _, s, hs, e1, fun v H' t r => ⟨false, r, ?_⟩⟩
    refine iteF ?_
    exact k _ F H' (Ext.grow s t) (scl_top rfl)
theorem de_or (h : DB W X a p) (hb : DE W X (.BoolOp .Or (b :: rest) pos) q) : DE W X (.BoolOp .Or (a :: b :: rest) pos) (.or p q) := PE.imp (pe_or h (deP hb)) fun σ H Q ⟨F, env, d, s, hs, hf, ev, k⟩ => by
  rcases ev_or ev with ⟨e1, e2⟩ | ⟨e1, e2⟩
  · refine ⟨F, env, _, s, hs, e1, fun v H' t r => ⟨false, r, ?_⟩⟩
    refine iteF ?_
    exact ⟨F, env, d, s.trans t, hs.mono (Same.refl _) t, hf, e2, fun v F2 H2 x r => k v F2 H2 ((Ext.grow s t).trans x) (.inl r)⟩
  · cases e2
    refine ⟨F, env, _, s, hs, e1, fun v H' t r => ⟨true, r, ?_⟩⟩
    refine iteT ?_
    exact k _ F H' (Ext.grow s t) (scl_top rfl)
theorem Rtop.down {M : Sm} {F H F' H' : Hp} {d : D} {v : V} {t1 t2 : Bool} (x : Ext F H F' H') (h : Rtop M t1 H F' H' d v) (i : t2 = true → t1 = true) : ∃ F2, Ext F H F2 H' ∧ Rtop M t2 H F2 H' d v := by
  cases t2 with
  | true =>
    have e := i rfl
    subst e
    exact ⟨F', x, h⟩
  | false =>
    obtain ⟨F2, x2, _, r⟩ := h.plain x
    exact ⟨F2, x2, .inl r⟩
theorem Rtop.before {M : Sm} {H H1 F' H' : Hp} {d : D} {v : V} {t : Bool} (s : Same H H1) (h : Rtop M t H1 F' H' d v) : Rtop M t H F' H' d v := by
  rcases h with h | ⟨a, b, c⟩
  · left
    cases t with
    | false => exact h
    | true => obtain ⟨p, h1, h2, h3⟩ := h; exact ⟨p, s.free h1, h2, h3⟩
  · exact .inr ⟨a, b, c⟩
theorem de_ite (hc : DT W X c r) (ha : DE W X a p) (hb : DE W X b q) : DE W X (.IfExp c a b pos) (.ite r p q) := PE.imp (pe_ifExp hc ha hb) fun σ H Q ⟨F, env, d, s, hs, hf, ev, k⟩ => by
  rcases ev_ite ev with ⟨e1, e2⟩ | ⟨e1, e2⟩
  · refine ⟨F, env, true, s, hs, e1, fun H' t => ?_⟩
    refine iteT ?_
    refine ⟨F, env, d, s.trans t, hs.mono (Same.refl _) t, EnvF.left hf, e2, fun v F2 H2 x h => ?_⟩
    obtain ⟨F3, x3, h3⟩ := h.down x (t2 := top W.T (.ite r p q)) (fun z => by unfold top at z; exact (Bool.and_eq_true_iff.mp z).1)
    exact k v F3 H2 ((Ext.grow s t).trans x3) (h3.before t)
  · refine ⟨F, env, false, s, hs, e1, fun H' t => ?_⟩
    refine iteF ?_
    refine ⟨F, env, d, s.trans t, hs.mono (Same.refl _) t, EnvF.right hf, e2, fun v F2 H2 x h => ?_⟩
    obtain ⟨F3, x3, h3⟩ := h.down x (t2 := top W.T (.ite r p q)) (fun z => by unfold top at z; exact (Bool.and_eq_true_iff.mp z).2)
    exact k v F3 H2 ((Ext.grow s t).trans x3) (h3.before t)
/-! ### displays -/
theorem ev_tup {T : Tb} {cl : Nat → List D → Option D} {ps : Es} {env : Env} {z : D} (h : ev T cl (.tup ps) env = some z) : ∃ ds, evs T cl ps env = some ds ∧ z = .tup ds := by
  unfold ev at h
  split at h
  · rename_i ds e; exact ⟨ds, e, (Option.some.inj h).symm⟩
  · cases h
theorem ev_lst {T : Tb} {cl : Nat → List D → Option D} {ps : Es} {env : Env} {z : D} (h : ev T cl (.lst ps) env = some z) : ∃ ds, evs T cl ps env = some ds ∧ z = .lst ds := by
  unfold ev at h
  split at h
  · rename_i ds e; exact ⟨ds, e, (Option.some.inj h).symm⟩
  · cases h
def Es.len : Es → Nat
  | .nil => 0
  | .cons _ es => es.len + 1
theorem evs_len {T : Tb} {cl : Nat → List D → Option D} : ∀ {ps : Es} {env : Env} {ds : List D}, evs T cl ps env = some ds → ds.length = ps.len
  | .nil, _, _, h => by
    obtain rfl : [] = _ := Option.some.inj h
    rfl
  | .cons p ps, _, _, h => by
    obtain ⟨d, r, rfl, _, e2⟩ := evs_cons h
    rw [List.length_cons, evs_len e2]
    rfl
theorem de_tup {es : List Expr} {ps : Es} {k : Nat} (h : DA W X es ps) (hl : decide (ps.len ≤ sizeLine) = true := by decide) : DE W X (.Tuple es k pos) (.tup ps) := PE.imp (pe_tup h) fun σ H Q ⟨F, env, d, s, hs, hf, ev, k⟩ => by
  obtain ⟨ds, e1, rfl⟩ := ev_tup ev
  refine ⟨F, env, ds, s, hs, hf, e1, fun vs F1 H1 x r => ⟨by rw [r.len, evs_len e1]; exact of_decide_eq_true hl, fun t ht => ?_⟩⟩
  have y := Ext.new (o := .tup vs) x.s ht
  exact k _ _ _ (x.trans y) (Rtop.of ⟨t, vs, rfl, .inl (.inl upd_same), r.mono y.f⟩ rfl)
theorem de_lst {es : List Expr} {ps : Es} (h : DA W X es ps) (hl : decide (ps.len ≤ sizeLine) = true := by decide) : DE W X (.List es pos) (.lst ps) := PE.imp (pe_lst h) fun σ H Q ⟨F, env, d, s, hs, hf, ev, k⟩ => by
  obtain ⟨ds, e1, rfl⟩ := ev_lst ev
  refine ⟨F, env, ds, s, hs, hf, e1, fun vs F1 H1 x r => ⟨by rw [r.len, evs_len e1]; exact of_decide_eq_true hl, fun t ht => ?_⟩⟩
  exact k _ F1 _ (x.trans (Ext.hid x.s ht)) (Rtop.newL (x.h.free ht) (x.s.free ht) upd_same r)
/-! ### built-ins of one value, a scalar -/
def CallS (sub : Nat → Nat → Option Bool) (M : Sm) (o : O1) (r : List V → Hp → VK → Prop) : Prop := ∀ (H : Hp) (x : V) (d z : D), RV M H d x → op1 sub o d = some z → ∃ u, scl z = some u ∧ ∀ Q : VK, Q u H → r [x] H Q
theorem de_b1 {o : O1} {x : Str} {id : String} {rr : List V → Hp → VK → Prop} {pp : Pos} (hc : CallR X (.builtin id) rr) (hg : Gl X x) (hm : X.mg x = none) (hv : bootBuiltins x = some (.builtin id)) (hr : CallS W.T.sub (sm X W) o rr) (h : DB W X a p)
    (hn : x ≠ "__name__" := by decide) (hdb : (x == ("__debug__" : Str)) = false := by decide) (hst : starEach [a] X.env = [(false, eval a X.env)] := by rfl) : DE W X (.Call (.Name x pp) [a] [] pos) (.o1 o p) :=
  PE.imp (pe_callB hc hg hm hv (pa_cons h pa_nil hst) hn hdb hst rfl) fun σ H Q ⟨F, env, d, s, hs, _, ev, k⟩ => by
    obtain ⟨d1, e1, e2⟩ := ev_o1 ev
    refine ⟨F, env, d1, s, hs, e1, fun v H1 t r1 => ?_⟩
    obtain ⟨u, su, hq⟩ := hr H1 v d1 d r1 e2
    exact hq Q (k u F H1 (Ext.grow s t) (scl_top su))
theorem cs_len {sub : Nat → Nat → Option Bool} {M : Sm} : CallS sub M .len (fun xs H Q => ∃ p ys, xs = [.ref p] ∧ (SqL M.K H p ys ∨ SqT M.K H p ys) ∧ Q (.int ys.length) H) := by
  intro H x d z h e
  have e : lenD d = some z := e
  unfold lenD at e
  split at e
  all_goals cases e
  · obtain ⟨a, vs, e1, h1, h2⟩ := h
    exact ⟨_, rfl, fun Q k => ⟨a, vs, by rw [e1], .inr h1, by rw [h2.len]; exact k⟩⟩
  · obtain ⟨a, vs, e1, h1, h2⟩ := h
    exact ⟨_, rfl, fun Q k => ⟨a, vs, by rw [e1], .inl (SqL.of h1), by rw [h2.len]; exact k⟩⟩
  · obtain ⟨a, e1, h1⟩ := h
    exact ⟨_, rfl, fun Q k => ⟨a, _, by rw [e1], .inl h1, by rw [List.length_map]; exact k⟩⟩
theorem cs_all {sub : Nat → Nat → Option Bool} {M : Sm} : CallS sub M .all (rAll M.K) := by
  intro H x d z h e
  have e : allD d = some z := e
  unfold allD at e
  split at e
  all_goals first | (cases e; done) | skip
  obtain ⟨a, vs, e1, h1, h2⟩ := h
  obtain ⟨bs, eb, rfl⟩ := Option.map_eq_some_iff.mp e
  rw [RVs.of_bls h2 eb] at h1
  exact ⟨_, rfl, fun Q k => ⟨a, bs, by rw [e1], SqL.of h1, k⟩⟩
theorem cs_any {sub : Nat → Nat → Option Bool} {M : Sm} : CallS sub M .any (rAny M.K) := by
  intro H x d z h e
  have e : anyD d = some z := e
  unfold anyD at e
  split at e
  all_goals first | (cases e; done) | skip
  obtain ⟨a, vs, e1, h1, h2⟩ := h
  obtain ⟨bs, eb, rfl⟩ := Option.map_eq_some_iff.mp e
  rw [RVs.of_bls h2 eb] at h1
  exact ⟨_, rfl, fun Q k => ⟨a, bs, by rw [e1], SqL.of h1, k⟩⟩
theorem foldl_max : ∀ (xs : List Int) (x m : Int), m ∈ x :: xs → (∀ y ∈ x :: xs, y ≤ m) → xs.foldl (fun a b => if b > a then b else a) x = m
  | [], x, m, h, _ => by
    have e : m = x := by simpa using h
    exact e.symm
  | y :: ys, x, m, h, hle => by
    rw [List.foldl_cons]
    have h1 := hle x (by simp)
    have h2 := hle y (by simp)
    refine foldl_max ys _ m ?_ fun z hz => ?_
    · by_cases c : y > x
      · rw [if_pos c]
        rcases List.mem_cons.mp h with rfl | h
        · omega
        · exact h
      · rw [if_neg c]
        rcases List.mem_cons.mp h with rfl | h
        · exact List.mem_cons_self ..
        · rcases List.mem_cons.mp h with rfl | h
          · rw [show x = m by omega]; exact List.mem_cons_self ..
          · exact List.mem_cons_of_mem _ h
    · rcases List.mem_cons.mp hz with rfl | hz
      · split <;> assumption
      · exact hle z (List.mem_cons_of_mem _ (List.mem_cons_of_mem _ hz))
theorem cs_max {sub : Nat → Nat → Option Bool} {M : Sm} : CallS sub M .max (rMax M.K) := by
  intro H x d z h e
  have e : maxD d = some z := e
  unfold maxD at e
  split at e
  all_goals first | (cases e; done) | skip
  obtain ⟨a, vs, e1, h1, h2⟩ := h
  split at e
  · rename_i ns en
    obtain ⟨m, em, rfl⟩ := Option.map_eq_some_iff.mp e
    obtain ⟨q1, _⟩ := RVs.of_ints h2 en
    rw [q1] at h1
    cases ns with
    | nil => cases em
    | cons y ys =>
      have em : ys.foldl (fun a b => if b > a then b else a) y = m := Option.some.inj em
      refine ⟨_, rfl, fun Q k => ⟨a, _, by rw [e1], SqL.of h1, Nat.succ_pos _, fun m' hm hle => ?_⟩⟩
      rw [foldl_max ys y m' hm hle] at em
      rw [em]
      exact k
  · cases e
theorem de_len {pp : Pos} (h : DB W X a p) (hg : Gl X "len" := by rfl) (hm : X.mg "len" = none) (hst : starEach [a] X.env = [(false, eval a X.env)] := by rfl) : DE W X (.Call (.Name "len" pp) [a] [] pos) (.o1 .len p) :=
  de_b1 call_len_seq hg hm PySem.boot_len cs_len h (by decide) (by decide) hst
theorem de_all {pp : Pos} (hc : X.calm = true) (h : DB W X a p) (hg : Gl X "all" := by rfl) (hm : X.mg "all" = none) (hst : starEach [a] X.env = [(false, eval a X.env)] := by rfl) : DE W X (.Call (.Name "all" pp) [a] [] pos) (.o1 .all p) :=
  de_b1 (cr_all hc) hg hm (by decide +kernel) cs_all h (by decide) (by decide) hst
theorem de_any {pp : Pos} (hc : X.calm = true) (h : DB W X a p) (hg : Gl X "any" := by rfl) (hm : X.mg "any" = none) (hst : starEach [a] X.env = [(false, eval a X.env)] := by rfl) : DE W X (.Call (.Name "any" pp) [a] [] pos) (.o1 .any p) :=
  de_b1 (cr_any hc) hg hm (by decide +kernel) cs_any h (by decide) (by decide) hst
theorem de_max {pp : Pos} (hc : X.calm = true) (h : DB W X a p) (hg : Gl X "max" := by rfl) (hm : X.mg "max" = none) (hst : starEach [a] X.env = [(false, eval a X.env)] := by rfl) : DE W X (.Call (.Name "max" pp) [a] [] pos) (.o1 .max p) :=
  de_b1 (cr_max hc) hg hm (by decide +kernel) cs_max h (by decide) (by decide) hst
/-- max(a, b), min(a, b) -/
theorem de_b2 {o : O2} {x : Str} {id : String} {rr : List V → Hp → VK → Prop} {pp : Pos} (hc : CallR X (.builtin id) rr) (hg : Gl X x) (hm : X.mg x = none) (hv : bootBuiltins x = some (.builtin id)) (hr : OpS (sm X W) o fun x y H Q => rr [x, y] H Q) (ha : DB W X a p) (hb : DB W X b q)
    (hn : x ≠ "__name__" := by decide) (hdb : (x == ("__debug__" : Str)) = false := by decide) (hst : starEach [a, b] X.env = (false, eval a X.env) :: starEach [b] X.env := by rfl) (hs2 : starEach [b] X.env = [(false, eval b X.env)] := by rfl) : DE W X (.Call (.Name x pp) [a, b] [] pos) (.o2 o p q) :=
  PE.imp (pe_callB hc hg hm hv (pa_cons ha (pa_cons hb pa_nil hs2) hst) hn hdb hst (by rw [hs2]; rfl)) fun σ H Q h => op_core hr σ H Q h
theorem os_max {M : Sm} : OpS M .max (fun x y H Q => ∃ i j, [x, y] = [.int i, .int j] ∧ Q (.int (if j > i then j else i)) H) := by
  intro H x y d1 d2 z h1 h2 e
  obtain ⟨i, j, rfl, rfl, q⟩ := int2_some (f := fun i j => some (.int (if j > i then j else i))) e
  cases q
  exact ⟨_, rfl, fun Q k => ⟨i, j, by rw [show x = .int i from h1, show y = .int j from h2], k⟩⟩
theorem os_min {M : Sm} : OpS M .min (fun x y H Q => ∃ i j, [x, y] = [.int i, .int j] ∧ Q (.int (if j < i then j else i)) H) := by
  intro H x y d1 d2 z h1 h2 e
  obtain ⟨i, j, rfl, rfl, q⟩ := int2_some (f := fun i j => some (.int (if j < i then j else i))) e
  cases q
  exact ⟨_, rfl, fun Q k => ⟨i, j, by rw [show x = .int i from h1, show y = .int j from h2], k⟩⟩
theorem de_max2 {pp : Pos} (hc : X.calm = true) (ha : DB W X a p) (hb : DB W X b q) (hg : Gl X "max" := by rfl) (hm : X.mg "max" = none) (hst : starEach [a, b] X.env = (false, eval a X.env) :: starEach [b] X.env := by rfl) (hs2 : starEach [b] X.env = [(false, eval b X.env)] := by rfl) : DE W X (.Call (.Name "max" pp) [a, b] [] pos) (.o2 .max p q) :=
  de_b2 (call_max2 hc) hg hm (by decide +kernel) os_max ha hb (by decide) (by decide) hst hs2
theorem de_min2 {pp : Pos} (hc : X.calm = true) (ha : DB W X a p) (hb : DB W X b q) (hg : Gl X "min" := by rfl) (hm : X.mg "min" = none) (hst : starEach [a, b] X.env = (false, eval a X.env) :: starEach [b] X.env := by rfl) (hs2 : starEach [b] X.env = [(false, eval b X.env)] := by rfl) : DE W X (.Call (.Name "min" pp) [a, b] [] pos) (.o2 .min p q) :=
  de_b2 (call_min2 hc) hg hm (by decide +kernel) os_min ha hb (by decide) (by decide) hst hs2
theorem de_neg (h : DB W X a p) : DE W X (.UnaryOp .USub a pos) (.o1 .neg p) := PE.imp (pe_un un_neg h) fun σ H Q ⟨F, env, d, s, hs, _, ev, k⟩ => by
  obtain ⟨d1, e1, e2⟩ := ev_o1 ev
  refine ⟨F, env, d1, s, hs, e1, fun v H1 t r1 => ?_⟩
  have e2 : negD d1 = some d := e2
  unfold negD at e2
  split at e2
  · cases e2
    exact ⟨_, r1, k _ F H1 (Ext.grow s t) (scl_top rfl)⟩
  · cases e2
end
end Nt

set_option Elab.async false
set_option linter.all false
set_option maxRecDepth 100000
set_option maxHeartbeats 4000000
/-! Sorting of lists of lists of ints. -/
namespace Nt
open PySem PySem.Spec PyProof.Rows L2

theorem lex_code {B : Int} : ∀ {a b : List Int}, a.length = b.length → TS.Bd B a → TS.Bd B b → HT.lexLt a b = decide (TS.code B a < TS.code B b)
  | [], [], _, _, _ => (decide_eq_false (Int.lt_irrefl _)).symm
  | [], _ :: _, h, _, _ => by simp at h
  | _ :: _, [], h, _, _ => by simp at h
  | x :: xs, y :: ys, h, ha, hb => by
    have h' : xs.length = ys.length := by simpa using h
    rw [HT.lexLt_cons]
    by_cases e : x = y
    · subst e
      rw [if_pos rfl, lex_code h' ha.tail hb.tail]
      exact decide_eq_decide.mpr (TS.code_same h').symm
    · rw [if_neg e]
      refine decide_eq_decide.mpr ⟨fun z => TS.code_lt h' ha.tail hb.tail z, fun z => ?_⟩
      rcases Int.lt_trichotomy x y with q | q | q
      · exact q
      · exact absurd q e
      · have := TS.code_lt h'.symm hb.tail ha.tail q
        omega
theorem code_inj {B : Int} : ∀ {a b : List Int}, a.length = b.length → TS.Bd B a → TS.Bd B b → TS.code B a = TS.code B b → a = b
  | [], [], _, _, _, _ => rfl
  | [], _ :: _, h, _, _, _ => by simp at h
  | _ :: _, [], h, _, _, _ => by simp at h
  | x :: xs, y :: ys, h, ha, hb, e => by
    have h' : xs.length = ys.length := by simpa using h
    rcases Int.lt_trichotomy x y with q | q | q
    · have := TS.code_lt h' ha.tail hb.tail q
      omega
    · subst q
      have e2 : x * B ^ xs.length + TS.code B xs = x * B ^ ys.length + TS.code B ys := e
      rw [h'] at e2
      rw [code_inj h' ha.tail hb.tail (by omega)]
    · have := TS.code_lt h'.symm hb.tail ha.tail q
      omega
/-- all of length d, ints in [0, 1000) -/
def Evn (d : Nat) (xs : List (List Int)) : Prop := ∀ x ∈ xs, x.length = d ∧ TS.Bd 1000 x
theorem evn_of {xs : List (List Int)} (h : evenL xs = true) : ∃ d, 1 ≤ d ∧ Evn d xs := by
  cases xs with
  | nil => exact ⟨1, Nat.le_refl _, fun x hx => by cases hx⟩
  | cons x xs =>
    unfold evenL at h
    rw [Bool.and_eq_true, List.all_eq_true] at h
    refine ⟨x.length, ?_, fun y hy => ?_⟩
    · cases x with
      | nil => simp at h
      | cons _ _ => rw [List.length_cons]; omega
    · have q := h.2 y hy
      rw [Bool.and_eq_true, List.all_eq_true] at q
      refine ⟨by simpa using q.1, fun m hm => ?_⟩
      have z := q.2 m hm
      rw [Bool.and_eq_true] at z
      exact ⟨of_decide_eq_true z.1, of_decide_eq_true z.2⟩
abbrev Le (x y : List Int) : Prop := TS.code 1000 x ≤ TS.code 1000 y
theorem insL_perm (x : List Int) : ∀ ys, (insL x ys).Perm (x :: ys)
  | [] => .refl _
  | y :: ys => by
    unfold insL
    split
    · exact ((insL_perm x ys).cons y).trans (List.Perm.swap x y ys)
    · exact .refl _
theorem sortL_perm : ∀ xs, (sortL xs).Perm xs
  | [] => .refl _
  | x :: xs => (insL_perm x (sortL xs)).trans ((sortL_perm xs).cons x)
theorem insL_sorted {d : Nat} (x : List Int) : ∀ ys : List (List Int), Evn d (x :: ys) → ys.Pairwise Le → (insL x ys).Pairwise Le
  | [], _, _ => by unfold insL; exact List.pairwise_singleton ..
  | y :: ys, he, h => by
    have hx := he x (List.mem_cons_self ..)
    have hy := he y (List.mem_cons_of_mem _ (List.mem_cons_self ..))
    have hr : Evn d (x :: ys) := fun z hz => he z (by
      rcases List.mem_cons.mp hz with e | e
      · rw [e]; exact List.mem_cons_self ..
      · exact List.mem_cons_of_mem _ (List.mem_cons_of_mem _ e))
    rw [List.pairwise_cons] at h
    unfold insL
    split
    · rename_i c
      rw [lex_code (hy.1.trans hx.1.symm) hy.2 hx.2] at c
      have c := of_decide_eq_true c
      refine List.pairwise_cons.mpr ⟨fun z hz => ?_, insL_sorted x ys hr h.2⟩
      rcases List.mem_cons.mp ((insL_perm x ys).mem_iff.mp hz) with e | e
      · rw [e]; exact Int.le_of_lt c
      · exact h.1 z e
    · rename_i c
      rw [lex_code (hy.1.trans hx.1.symm) hy.2 hx.2] at c
      have c : ¬ _ := of_decide_eq_false (Bool.eq_false_iff.mpr c)
      refine List.pairwise_cons.mpr ⟨fun z hz => ?_, List.pairwise_cons.mpr h⟩
      rcases List.mem_cons.mp hz with e | e
      · rw [e]; show TS.code 1000 x ≤ TS.code 1000 y; omega
      · have := h.1 z e
        show TS.code 1000 x ≤ TS.code 1000 z
        have : TS.code 1000 y ≤ TS.code 1000 z := this
        omega
theorem Evn.perm {d : Nat} {xs ys : List (List Int)} (h : Evn d xs) (p : ys.Perm xs) : Evn d ys := fun x hx => h x (p.mem_iff.mp hx)
theorem Evn.tail {d : Nat} {x : List Int} {xs : List (List Int)} (h : Evn d (x :: xs)) : Evn d xs := fun y hy => h y (List.mem_cons_of_mem _ hy)
theorem sortL_sorted {d : Nat} : ∀ xs : List (List Int), Evn d xs → (sortL xs).Pairwise Le
  | [], _ => .nil
  | x :: xs, h => insL_sorted x (sortL xs) (h.perm ((sortL_perm xs).cons x)) (sortL_sorted xs h.tail)
theorem le_eq {d : Nat} {xs ys : List (List Int)} (h1 : Evn d xs) (hp : xs.Perm ys) (a : xs.Pairwise Le) (b : ys.Pairwise Le) : xs = ys :=
  List.Perm.eq_of_pairwise (fun x y hx hy e1 e2 => by
    have q1 := h1 x hx
    have q2 := h1 y (hp.mem_iff.mpr hy)
    exact code_inj (q1.1.trans q2.1.symm) q1.2 q2.2 (Int.le_antisymm e1 e2)) a b hp
theorem insU_mem (x z : List Int) : ∀ ys, z ∈ insU x ys ↔ z = x ∨ z ∈ ys
  | [] => by unfold insU; simp
  | y :: ys => by
    unfold insU
    split
    · rename_i e
      rw [e, List.mem_cons]
      constructor
      · intro h; exact .inr h
      · rintro (h | h)
        · exact .inl h
        · exact h
    · split
      · rw [List.mem_cons, insU_mem x z ys, List.mem_cons]
        constructor
        · rintro (h | h | h)
          · exact .inr (.inl h)
          · exact .inl h
          · exact .inr (.inr h)
        · rintro (h | h | h)
          · exact .inr (.inl h)
          · exact .inl h
          · exact .inr (.inr h)
      · rw [List.mem_cons]
theorem sortU_mem (z : List Int) : ∀ xs, z ∈ sortU xs ↔ z ∈ xs
  | [] => by unfold sortU; exact Iff.rfl
  | x :: xs => by unfold sortU; rw [insU_mem, sortU_mem z xs, List.mem_cons]
abbrev Lt (x y : List Int) : Prop := TS.code 1000 x < TS.code 1000 y
theorem insU_sorted {d : Nat} (x : List Int) : ∀ ys : List (List Int), Evn d (x :: ys) → ys.Pairwise Lt → (insU x ys).Pairwise Lt
  | [], _, _ => by unfold insU; exact List.pairwise_singleton ..
  | y :: ys, he, h => by
    have hx := he x (List.mem_cons_self ..)
    have hy := he y (List.mem_cons_of_mem _ (List.mem_cons_self ..))
    have hr : Evn d (x :: ys) := fun z hz => he z (by
      rcases List.mem_cons.mp hz with e | e
      · rw [e]; exact List.mem_cons_self ..
      · exact List.mem_cons_of_mem _ (List.mem_cons_of_mem _ e))
    have h0 := h
    rw [List.pairwise_cons] at h
    unfold insU
    split
    · exact h0
    · rename_i ne
      split
      · rename_i c
        rw [lex_code (hy.1.trans hx.1.symm) hy.2 hx.2] at c
        have c := of_decide_eq_true c
        refine List.pairwise_cons.mpr ⟨fun z hz => ?_, insU_sorted x ys hr h.2⟩
        rcases (insU_mem x z ys).mp hz with e | e
        · rw [e]; exact c
        · exact h.1 z e
      · rename_i c
        rw [lex_code (hy.1.trans hx.1.symm) hy.2 hx.2] at c
        have c : ¬ _ := of_decide_eq_false (Bool.eq_false_iff.mpr c)
        have c2 : TS.code 1000 x ≠ TS.code 1000 y := fun q => ne (code_inj (hx.1.trans hy.1.symm) hx.2 hy.2 q)
        refine List.pairwise_cons.mpr ⟨fun z hz => ?_, h0⟩
        rcases List.mem_cons.mp hz with e | e
        · rw [e]; show TS.code 1000 x < TS.code 1000 y; omega
        · have : TS.code 1000 y < TS.code 1000 z := h.1 z e
          show TS.code 1000 x < TS.code 1000 z
          omega
theorem Evn.mem {d : Nat} {xs ys : List (List Int)} (h : Evn d xs) (p : ∀ z ∈ ys, z ∈ xs) : Evn d ys := fun x hx => h x (p x hx)
theorem sortU_sorted {d : Nat} : ∀ xs : List (List Int), Evn d xs → (sortU xs).Pairwise Lt
  | [], _ => .nil
  | x :: xs, h => by
    unfold sortU
    refine insU_sorted x (sortU xs) (h.mem fun z hz => ?_) (sortU_sorted xs h.tail)
    rcases List.mem_cons.mp hz with e | e
    · rw [e]; exact List.mem_cons_self ..
    · exact List.mem_cons_of_mem _ ((sortU_mem z xs).mp e)
theorem lt_nodup {xs : List (List Int)} (h : xs.Pairwise Lt) : xs.Nodup := h.imp fun {a b} q e => by rw [e] at q; exact absurd q (Int.lt_irrefl _)
theorem perm_of_nodup : ∀ {xs ys : List (List Int)}, xs.Nodup → ys.Nodup → (∀ z, z ∈ xs ↔ z ∈ ys) → xs.Perm ys := fun {xs ys} h1 h2 h => (List.perm_ext_iff_of_nodup h1 h2).mpr fun a => h a
theorem uniq_eq {d : Nat} {xs ys : List (List Int)} (h1 : Evn d ys) (hn : xs.Nodup) (hm : ∀ z, z ∈ xs ↔ z ∈ ys) (a : xs.Pairwise Le) : xs = sortU ys := by
  have s := sortU_sorted ys h1
  refine le_eq (d := d) (h1.mem fun z hz => (hm z).mp hz) (perm_of_nodup hn (lt_nodup s) fun z => ?_) a (s.imp fun q => Int.le_of_lt q)
  rw [hm, sortU_mem]
theorem insU_len (x : List Int) : ∀ ys, (insU x ys).length ≤ ys.length + 1
  | [] => Nat.le_refl _
  | y :: ys => by
    unfold insU
    split
    · exact Nat.le_succ _
    · split
      · rw [List.length_cons, List.length_cons]; have := insU_len x ys; omega
      · exact Nat.le_refl _
theorem tupsOf_cons {d : D} {ds : List D} {r : List (List Int)} (h : tupsOf (d :: ds) = some r) : ∃ xs ns r', d = .tup xs ∧ intsOf xs = some ns ∧ tupsOf ds = some r' ∧ r = ns :: r' := by
  cases d with
  | tup xs =>
    unfold tupsOf at h
    split at h
    · rename_i e1 e2
      cases h
      exact ⟨_, _, _, rfl, e1, e2, rfl⟩
    · cases h
  | _ => cases h
theorem tups_ks {M : Sm} {F : Hp} : ∀ {ds : List D} {vs : List V} {nss : List (List Int)}, RVs M F ds vs → tupsOf ds = some nss → ∃ ks : List (Addr × List Int), vs = ks.map (fun p => V.ref p.1) ∧ ks.map (·.2) = nss ∧ ∀ p ∈ ks, SqT M.K F p.1 (p.2.map V.int)
  | [], _, _, h, e => by
    rw [show _ = [] from h]
    have e : [] = _ := Option.some.inj e
    subst e
    exact ⟨[], rfl, rfl, fun p hp => by cases hp⟩
  | d :: ds, _, _, ⟨v, r, e1, h1, h2⟩, e => by
    obtain ⟨xs, ns, r', rfl, q1, q2, rfl⟩ := tupsOf_cons e
    obtain ⟨ks, k1, k2, k3⟩ := tups_ks h2 q2
    obtain ⟨a, us, ea, ha, hu⟩ := h1
    obtain ⟨z, _⟩ := RVs.of_ints hu q1
    refine ⟨(a, ns) :: ks, by rw [e1, ea, k1]; rfl, by rw [List.map_cons, k2], fun p hp => ?_⟩
    rcases List.mem_cons.mp hp with rfl | hp
    · rw [← z]; exact ha
    · exact k3 p hp
theorem ks_rvs {M : Sm} {F : Hp} : ∀ ks : List (Addr × List Int), (∀ p ∈ ks, SqT M.K F p.1 (p.2.map V.int)) → RVs M F ((ks.map (·.2)).map tupD) (ks.map fun p => V.ref p.1)
  | [], _ => RVs.nil
  | p :: ks, h => RVs.cons ⟨p.1, _, rfl, h p (List.mem_cons_self ..), RVs.ints⟩ (ks_rvs ks fun q hq => h q (List.mem_cons_of_mem _ hq))
theorem sortD_some {f : List (List Int) → List (List Int)} {ds : List D} {z : D} (h : sortD f ds = some z) : ∃ nss, tupsOf ds = some nss ∧ evenL nss = true ∧ nss.length < 64 ∧ z = .lst ((f nss).map tupD) := by
  unfold sortD at h
  split at h
  · rename_i nss e
    split at h
    · rename_i c
      rw [Bool.and_eq_true] at c
      exact ⟨nss, e, c.1, of_decide_eq_true c.2, (Option.some.inj h).symm⟩
    · cases h
  · cases h
/-- a list of refs by a perm of the same -/
theorem ks_perm : ∀ {ks : List (Addr × List Int)} {ys : List V}, ys.Perm (ks.map fun p => V.ref p.1) → ∃ ks' : List (Addr × List Int), ks'.Perm ks ∧ ys = ks'.map fun p => V.ref p.1 := by
  intro ks ys h
  generalize hx : ks.map (fun p => V.ref p.1) = xs at h
  induction h generalizing ks with
  | nil =>
    cases ks with
    | nil => exact ⟨[], .refl _, rfl⟩
    | cons _ _ => cases hx
  | @cons x l1 l2 h ih =>
    cases ks with
    | nil => cases hx
    | cons p r =>
      rw [List.map_cons] at hx
      injection hx with e1 e2
      obtain ⟨k', q1, q2⟩ := ih e2
      exact ⟨p :: k', q1.cons p, by rw [List.map_cons, ← q2, e1]⟩
  | @swap x y l =>
    cases ks with
    | nil => cases hx
    | cons p r =>
      cases r with
      | nil => cases hx
      | cons q r =>
        rw [List.map_cons, List.map_cons] at hx
        injection hx with e1 e2
        injection e2 with e2 e3
        exact ⟨q :: p :: r, List.Perm.swap p q r, by rw [List.map_cons, List.map_cons, e1, e2, e3]⟩
  | @trans l1 l2 l3 h1 h2 ih1 ih2 =>
    obtain ⟨k2, q1, q2⟩ := ih2 hx
    obtain ⟨k1, z1, z2⟩ := ih1 q2.symm
    exact ⟨k1, z1.trans q1, z2⟩
end Nt

set_option Elab.async false
set_option linter.all false
set_option maxRecDepth 100000
set_option maxHeartbeats 8000000
/-! sorted and set of a tuple of tuples of ints. -/
namespace Nt
open PySem PySem.Spec PySem.Calls PyProof.Rows L2
section
variable {P : Program} {w : World} {A : Around} {E : Value → Shared → Prop} {z : Shared}
/-- the items of a tuple, gathered -/
theorem gather_tup {l : Addr} {xs : List Value} {Q : List Value → Shared → Prop} (ht : z.heap.IsTuple l xs.toArray) (hq : Q xs { z with heap := (z.heap.push (seqObj "list" #[] 0)).update z.heap.objs.size (Obj.mapSeq (· ++ xs.toArray)) }) (hb : xs.length ≤ sizeLine) : wpAny (model P w) A (collect (.ref l)) Q E z := by
  obtain ⟨o, ho, kc, n, kd⟩ := id ht
  unfold collect; refine wpAny_bind (wpAny_runValue (codeAny_builtin entry_proto_collect' ?_))
  show wpAny _ _ (do again (.builtin "list.__iadd__" ⟨[← newList [], .ref l], []⟩)) _ _ z
  refine wpAny_bind (wpAny_newList (wpAny_pure ⟨Code.quiet_builtin _ (by decide +kernel), codeAny_builtin entry_list_iadd' ?_⟩))
  show wpAny _ _ (Builtin.List.listExtendWith (.ref z.heap.objs.size) (.ref l) (.ref z.heap.objs.size)) _ _ { z with heap := z.heap.push (seqObj "list" #[] 0) }
  unfold Builtin.List.listExtendWith
  have h2 : (z.heap.push (seqObj "list" #[] 0)).get? l = some o := Heap.get?_push_of_some _ ho
  refine wpAny_bind (wpAny_typeOf (T := "tuple") ⟨o, h2, kc⟩ ?_)
  rw [if_pos (by rw [show (Value.type "tuple" == Value.type "tuple") = true from rfl]; simp)]
  refine wpAny_bind (listItems_at h2 kd (wpAny_bind (listItems_at (xs := #[]) (n := 0) (Heap.get?_push_size _ rfl) rfl ?_)))
  rw [if_neg (by simp)]
  refine wpAny_bind (listUpdate_at (xs := #[]) (n := 0) (Heap.get?_push_size _ rfl) rfl (wpAny_pure ?_) (Nat.zero_le _) (by simp only [Array.size_append, List.size_toArray]; show 0 + _ ≤ _; omega))
  show wpAny (model P w) A (do let o ← load z.heap.objs.size; match o.data with | .seq ys _ => pure ys.toList | _ => unsupported "internal:collect") Q E { z with heap := (z.heap.push (seqObj "list" #[] 0)).update z.heap.objs.size (Obj.mapSeq (· ++ xs.toArray)) }
  refine wpAny_bind (wpAny_load (get?_update_seq (Heap.get?_push_size _ rfl) _) ?_)
  show wpAny _ _ (pure ((#[] : Array Value) ++ xs.toArray).toList) Q E _
  rw [show ((#[] : Array Value) ++ xs.toArray).toList = xs by simp]; exact wpAny_pure hq
/-- sorted(t), t a tuple -/
theorem sorted_ofT {l : Addr} {xs : List Value} {d : Nat} {B : Int} {Q : Value → Shared → Prop} (ht : z.heap.IsTuple l xs.toArray) (few : xs.length < 64) (hd : 1 ≤ d) (x : TS.TupsOk z.heap d B xs)
    (k : ∀ out : Array Value, out.toList.Perm xs → out.toList.Pairwise (fun u v => TS.code B (TS.intsOf z.heap u) ≤ TS.code B (TS.intsOf z.heap v)) → Q (.ref (z.heap.objs.size + 1)) { z with heap := sortedAll z.heap xs out }) :
    wpAny (model P w) A (call (.builtin "sorted") [.ref l]) Q E z := by
  refine Calls.call_function_entry kind_sorted plain_sorted entry_sorted (args_sorted1 _) ?_
  unfold Builtin.«sorted»; refine wpAny_bind (m := checkCount "sorted" 1 1 _) (wpAny_pure (wpAny_bind (gather_tup ht ?_ (by rw [sizeLine_eq]; omega))))
  refine wpAny_bind (wpAny_newList ?_ (by rw [sizeLine_eq]; omega))
  have e1 : ((z.heap.push (seqObj "list" #[] 0)).update z.heap.objs.size (Obj.mapSeq (· ++ xs.toArray))).objs.size = z.heap.objs.size + 1 := by rw [Heap.size_update, size_push']
  have e2 : (((z.heap.push (seqObj "list" #[] 0)).update z.heap.objs.size (Obj.mapSeq (· ++ xs.toArray))).push (seqObj "list" xs.toArray 0)).get? (z.heap.objs.size + 1) = some (seqObj "list" xs.toArray 0) := by rw [← e1]; exact Heap.get?_push_size _ rfl
  have stay : ∀ b o, z.heap.get? b = some o → o.cls = .type "tuple" → (((z.heap.push (seqObj "list" #[] 0)).update z.heap.objs.size (Obj.mapSeq (· ++ xs.toArray))).push (seqObj "list" xs.toArray 0)).get? b = some o := fun b o q _ => by
    have lt : b < z.heap.objs.size := Heap.lt_size q
    rw [Heap.get?_push_ne _ _ _ (by rw [e1]; exact Nat.ne_of_lt (Nat.lt_succ_of_lt lt)), Heap.get?_update_ne _ _ _ _ (Nat.ne_of_lt lt), Heap.get?_push_ne _ _ _ (Nat.ne_of_lt lt)]; exact q
  show wpAny _ _ _ _ _ { z with heap := ((z.heap.push (seqObj "list" #[] 0)).update z.heap.objs.size (Obj.mapSeq (· ++ xs.toArray))).push (seqObj "list" xs.toArray 0) }
  rw [e1]
  refine wpAny_bind (wpAny_holding (wpAny_call_entry slot_list_sort ⟨_, e2, rfl⟩ entry_list_sort (TS.sort_tups e2 few hd (x.keeps stay) (fun v => TS.code B (TS.intsOf z.heap v)) (fun v hv ns t => ?_) fun out a1 a2 => ⟨_, rfl, wpAny_pure ⟨_, rfl, k out a1 a2⟩⟩) (args_list_sort _)))
  obtain ⟨m, tm, _⟩ := x v hv
  rw [show ns = m from t.ints.symm.trans (tm.keeps stay).ints]
  exact congrArg (TS.code B) tm.ints
/-- an empty set, just made -/
abbrev freshS (w : World) : Obj := { cls := .type "set", dict := none, data := .set #[] 0 (.fresh 0 0 (!w.params.followText "set-order")) }
/-- set(t), t a tuple -/
theorem set_ofT {l : Addr} {xs : Array Value} (ks : List (Addr × List Int)) {Q : Value → Shared → Prop} (calm : A.handled = none) (ht : z.heap.IsTuple l xs) (hx : xs.toList = ks.map fun p => Value.ref p.1)
    (hk : ∀ p ∈ ks, IsT P w z.heap p.2 p.1) (few : ks.length < 64) (room : A.units + 3 < cLine)
    (k : ∀ (g : Heap) (tk : Nat) L es ep t, SetTR P w g z.heap.objs.size L es ep t → Got ks ks.length L → (∀ b o, z.heap.get? b = some o → g.get? b = some o) → Q (.ref z.heap.objs.size) { z with heap := g, toks := tk }) :
    wpAny (model P w) A (call (.type "set") [.ref l]) Q E z := by
  have len : xs.size = ks.length := by have q := congrArg List.length hx; rwa [Array.length_toList, List.length_map] at q
  obtain ⟨c, tl, r1⟩ := F.called_set.mro
  have r2 := F.called_set.made; have r3 := F.called_set.sub; have r4 := F.called_set.notType; have r5 := F.called_set.canCreate; have r6 := F.typeCall_set_1 (.ref l)
  refine wpAny_call (codeAny_of_tree ?_); show wpAny _ _ (callAny (.type "set") _) _ _ _
  refine wpAny_pure ⟨Code.quiet_builtin _ (by decide +kernel), codeAny_builtin F.entry_type_call ?_⟩; rw [Around.under_plain (weight_type_call_type "set" [.ref l] []) rfl]
  repeat (any_goals (first | assumption | (wp_step)))
  refine codeAny_mono (code_set_led1 (.ref l) (E := E) (Q₁ := fun obj s₁ => obj = .ref z.heap.objs.size ∧ s₁ = { z with heap := z.heap.push (freshS w) }) ⟨rfl, rfl⟩) fun r s₁ hr => ?_
  cases r with
  | error e => exact hr
  | ok fl =>
    cases fl with
    | ret obj =>
      obtain ⟨rfl, rfl⟩ := hr
      have n1 : (z.heap.push (freshS w)).get? z.heap.objs.size = some (freshS w) := Heap.get?_push_size _ rfl
      have n2 : Shared.TypeIs { z with heap := z.heap.push (freshS w) } (.ref z.heap.objs.size) "set" := ⟨_, n1, rfl⟩
      have r7 := F.called_set.init.lookup; have r8 := F.called_set.init.bind (.ref z.heap.objs.size)
      repeat (any_goals (first | assumption | (wp_step)))
      refine codeAny_mono (codeAny_call_builtin (R := wants (fun r s₂ => r = .none ∧ ∃ g tk L es ep t, s₂ = { z with heap := g, toks := tk } ∧ SetTR P w g z.heap.objs.size L es ep t ∧ Got ks ks.length L ∧ (∀ b o, z.heap.get? b = some o → g.get? b = some o)) E) F.called_set.init.plain F.entry_set_init (check_set_init_1 n2 ?_)) fun r₂ s₂ hr₂ => ?_
      · obtain ⟨⟨ocls, odict, odata, oslots⟩, hol, hcl, nl, hdl⟩ := ht
        simp only at hcl hdl; subst hcl; subst hdl
        have t1 : (z.heap.push (freshS w)).get? l = some { cls := .type "tuple", dict := odict, data := .seq xs nl, slots := oslots } := Heap.get?_push_of_some _ hol
        have u1 := F.sub_tuple_set; have u2 := F.sub_tuple_frozenset; have u3 : (Value.type "tuple" == Value.type "dict") = false := by decide
        have t2 : (z.heap.push (freshS w)).IsTuple l xs := ⟨_, t1, rfl, nl, rfl⟩
        unfold Builtin.«set.__init__» noKeywords Builtin.Frozenset.updateFrom
        generalize hPI : pyIter = PI; wp_walk; subst hPI
        refine wpAny_pyIter_tuple t2 (wpAny_bind (wpAny_runValue ?_))
        have lt : l < z.heap.objs.size := Heap.lt_size hol
        have calm3 : A.in1.in1.in1.handled = none := by simp [calm]
        have ne1 : l ≠ (z.heap.push (freshS w)).objs.size := by rw [Heap.size_push]; exact Nat.ne_of_lt (Nat.lt_succ_of_lt lt)
        have ni : z.heap.objs.size ∉ [(z.heap.push (freshS w)).objs.size, l] := by
          rw [Heap.size_push]; simp only [List.mem_cons, List.mem_singleton, List.not_mem_nil, or_false, not_or]; exact ⟨(Nat.ne_of_lt (Nat.lt_succ_self _)), (Nat.ne_of_gt lt)⟩
        have vals : ∀ (i : Nat) (v : Value), xs[i]? = some v → ∃ p, ks[i]? = some p ∧ v = .ref p.1 := fun i v hv => by
          have q : xs.toList[i]? = some v := by rw [Array.getElem?_toList]; exact hv
          rw [hx, List.getElem?_map] at q
          cases hq : ks[i]? with
          | none => rw [hq] at q; cases q
          | some p => rw [hq] at q; exact ⟨p, rfl, (Option.some.inj q).symm⟩
        have away : ∀ b, z.heap.objs.size ≤ b → z.heap.get? b = none := fun b hb => by
          cases q : z.heap.get? b with
          | none => rfl
          | some o => exact absurd (Nat.lt_of_lt_of_le (Heap.lt_size q) hb) (Nat.lt_irrefl _)
        refine set_update_tups ((Walks.tuple calm3 _ l ne1 xs).toS) z.heap.objs.size ni ks len few vals z.heap hk (away _ (Nat.le_refl _)) (fun b hb => away b (by rw [List.mem_singleton.mp hb, Heap.size_push]; exact Nat.le_succ _)) room (xs.size - 0) 0 _ (by omega) (Nat.zero_le _)
          ⟨⟨_, Heap.get?_push_size _ rfl, rfl, rfl⟩, (t2.push _)⟩ (fun b o e => Heap.get?_push_of_some _ (Heap.get?_push_of_some _ e)) ⟨[], #[], 0, _, setTR_fresh (Heap.get?_push_of_some _ n1), Got.zero ks⟩ ?hR
        intro s' L es ep t hm hS' g' hkp
        obtain ⟨g1, g2, d', tk', os'⟩ := s'
        have eg : g2 = z.gens := hm.gens; have ed : d' = z.drawn := hm.drawn; have eo : os' = z.os := hm.os
        subst eg; subst ed; subst eo; show wpAny _ _ _ _ _ _
        refine wpAny_pure ?_; show wpAny _ _ (ret Value.none) _ _ _
        rw [len] at g'; exact wpAny_pure ⟨rfl, g1, tk', L, es, ep, t, rfl, hS', g', hkp⟩
      · cases r₂ with
        | error e => exact hr₂
        | ok fl₂ =>
          cases fl₂ with
          | ret r =>
            obtain ⟨rfl, g, tk, L, es, ep, t, rfl, hS', g', hk'⟩ := hr₂
            repeat (any_goals (first | assumption | (wp_step)))
            exact k _ _ _ _ _ _ hS' g' hk'
          | _ => exact hr₂.elim
    | _ => exact hr.elim
end
section
variable {X : Cx}
/-- set(x), x a list or a tuple of tuples of ints -/
def rSetLT (K : PySem.W.Frag) (P : Program) (w : World) : List V → Hp → VK → Prop := fun vs H Q => rSetOfT K P w vs H Q ∨ ∃ (l : Addr) (ks : List (Addr × List Int)), vs = [V.ref l] ∧ SqT K H l (ks.map fun p => V.ref p.1) ∧ (∀ p ∈ ks, SqT K H p.1 (p.2.map V.int)) ∧ ks.length < 64 ∧
  ∀ a L, H a = none → (∀ p ∈ L, p ∈ ks) → (∀ p ∈ ks, p.2 ∈ L.map (·.2)) → Q (.ref a) (upd H a (SetTO P w a L))
theorem cr_setLT (hc : X.calm = true) (hu : X.A.units + 64 < cLine) : CallR X (.type "set") (rSetLT X.K X.prog X.w) := by
  intro pins s σ H vs us Q I r h
  rcases h with h | ⟨l, ks, rfl, hl, hk, hf, q⟩
  · exact cr_setOfT hc hu pins s σ H vs us Q I r h
  · rw [Vals.ref1 r]
    obtain ⟨its, rv, pl, _⟩ := I.tuple hl
    have hn : H s.heap.objs.size = none := I.hok.fresh (Nat.le_refl _)
    refine set_ofT (P := X.prog) (w := X.w) ks (I.ok.hd hc) pl (by simpa using refs_of_vals rv) (fun p hp => I.isT (hk p hp)) hf (by omega) fun h' tk L es ep t R g k => ?_
    exact ⟨.ref s.heap.objs.size, upd H s.heap.objs.size (SetTO X.prog X.w s.heap.objs.size L), I.laid (t' := tk) k (Nat.le_refl _) (setTO_new R.t0), rfl, q _ L hn (fun p hp => List.mem_of_mem_take (g.sub p hp)) fun p hp => g.all p (by rw [List.take_length]; exact hp)⟩
/-- sorted(x), x a list or a tuple of tuples of ints -/
def rSrtLT (K : PySem.W.Frag) : List V → Hp → VK → Prop := fun vs H Q => ∃ d, 1 ≤ d ∧ (rSortU K d 1000 vs H Q ∨ ∃ (a : Addr) (xs : List V), vs = [V.ref a] ∧ SqT K H a xs ∧ xs.length < 64 ∧ (∀ x ∈ xs, ∃ ns, TupI K H x ns ∧ ns.length = d ∧ TS.Bd 1000 ns) ∧
  ∀ (ys : List V) (p : Addr), ys.Perm xs → ys.Pairwise (fun x y => ∀ n m, TupI K H x n → TupI K H y m → TS.code 1000 n ≤ TS.code 1000 m) → H p = none → Q (.ref p) (upd H p (.lst ys)))
theorem cr_srtLT : CallR X (.builtin "sorted") (rSrtLT X.K) := by
  intro pins s σ H vs us Q I r h
  obtain ⟨d, hd, h⟩ := h
  rcases h with h | ⟨a, xs, rfl, hs, h64, hx, q⟩
  · exact cr_sortT hd pins s σ H vs us Q I r h
  · obtain ⟨its, rv, hl, hz⟩ := I.tuple hs
    rw [Vals.ref1 r]
    obtain ⟨e1, e2⟩ := bkV_refs rv fun x m => by obtain ⟨ns, ⟨t, e, _⟩, _⟩ := hx x m; exact ⟨t, e⟩
    refine sorted_ofT (d := d) (B := 1000) hl (by rw [← rv.length]; exact h64) hd (fun v hv => ?_) fun out h1 h2 => ?_
    · obtain ⟨t, rfl⟩ := e2 v hv
      obtain ⟨ns, ⟨t', e, ht⟩, hn, hb⟩ := hx (V.ref t) (by rw [e1]; exact List.mem_map.mpr ⟨_, hv, rfl⟩)
      cases e; exact ⟨ns, tupI_raw I ht, hn, hb⟩
    · obtain ⟨ep, he'⟩ := PyProof.Rows.sortedAll_at s.heap its out
      have h3 : ∀ u ∈ out.toList, ∃ a, u = Value.ref a := fun u hu => e2 u (h1.mem_iff.mp hu)
      have hp : (out.toList.map bkV).Perm xs := by rw [e1]; exact h1.map bkV
      refine ⟨.ref _, upd H (s.heap.objs.size + 1) (.lst (out.toList.map bkV)), I.laid (t' := s.toks) (fun _ _ => PyProof.Rows.sortedAll_old) (Nat.le_succ _) ⟨by rw [hp.length_eq]; exact hz, out.toList, ep, bkV_vals h3, he'⟩, rfl, q _ _ hp ?_ (I.hok.fresh (Nat.le_succ _))⟩
      rw [List.pairwise_map]
      refine List.Pairwise.imp (fun {u v} huv n m hn hm => ?_) h2
      obtain ⟨t, et, ht⟩ := hn; obtain ⟨t', et', ht'⟩ := hm
      have i1 : TS.intsOf s.heap u = n := by rw [bkV_ref et]; exact (tupI_raw I ht).ints
      have i2 : TS.intsOf s.heap v = m := by rw [bkV_ref et']; exact (tupI_raw I ht').ints
      rw [← i1, ← i2]; exact huv
end
end Nt

set_option Elab.async false
set_option linter.all false
set_option maxRecDepth 100000
set_option maxHeartbeats 4000000
/-! +, copies, sorted, slices, items, isinstance, fields. -/
namespace Nt
open PySem PySem.Spec PyProof.Rows L2

theorem lim_line {n : Nat} (h : n ≤ LIM) : n ≤ sizeLine := by
  have : sizeLine = 16777216 := sizeLine_eq
  have e : LIM = 1000000 := rfl
  omega
theorem lim_lt {n : Nat} (h : n < LIM) : n < sizeLine := by
  have : sizeLine = 16777216 := sizeLine_eq
  have e : LIM = 1000000 := rfl
  omega
section
variable {W : Wd} {X : Cx} {a b c e : Expr} {p q r : E} {pos : Pos}
abbrev rAdd3 (K : PySem.W.Frag) : R2 := fun x y H Q => (rI0 fun i j => .int (i + j)) x y H Q ∨ (rCatA K x y H Q ∨ rCat x y H Q)
theorem or_add : OpR X (binaryOp .Add) (rAdd3 X.K) := op_add.or (op_catA.or op_cat)
theorem de_add (ha : DI W X a p) (hb : DI W X b q) : DE W X (.BinOp a .Add b pos) (.o2 .add p q) := PE.imp (pe_op or_add ha hb) fun σ H Q ⟨F, env, d, s, hs, hf, ev, k⟩ => by
  obtain ⟨d1, d2, e1, e2, e⟩ := ev_o2 ev
  refine ⟨F, env, d1, s, hs, EnvF.left hf, e1, fun v F1 H1 x1 r1 => ⟨F1, env, d2, x1.s, hs.mono x1.f x1.h, (EnvF.right hf).mono x1.f, e2, fun y F2 H2 x2 r2 => ?_⟩⟩
  replace r1 := r1.mono x2.f x2.h
  have x := x1.trans x2
  replace e : addD d1 d2 = some d := e
  unfold addD at e
  split at e
  · cases e
    exact .inl ⟨_, _, r1, r2, k _ F2 H2 x (scl_top rfl)⟩
  · rename_i xs ys
    obtain ⟨c, rfl⟩ := ite_some e
    obtain ⟨a1, vs, ea, ha, hv⟩ := (show RV (sm X W) F2 (.tup xs) v from r1)
    obtain ⟨b1, us, eb, hb, hu⟩ := (show RV (sm X W) F2 (.tup ys) y from r2)
    refine .inr (.inl ⟨a1, b1, vs, us, ea, eb, Same.sqt x2.s ha, Same.sqt x2.s hb, by rw [hv.len, hu.len]; exact lim_line c, fun z => ?_, fun _ z => ?_, fun _ _ t ht => ?_⟩)
    · subst z
      cases xs with
      | cons _ _ => obtain ⟨_, _, w, _⟩ := hv; cases w
      | nil => rw [← eb]; exact k _ F2 H2 x (Rtop.of r2 rfl)
    · subst z
      cases ys with
      | cons _ _ => obtain ⟨_, _, w, _⟩ := hu; cases w
      | nil => rw [← ea]; rw [List.append_nil] at k; exact k _ F2 H2 x (Rtop.of r1 rfl)
    · have y := Ext.new (o := .tup (vs ++ us)) x2.s ht
      exact k _ _ _ (x.trans y) (Rtop.of ⟨t, _, rfl, .inl (.inl upd_same), (hv.append hu).mono y.f⟩ rfl)
  · rename_i xs ys
    obtain ⟨c, rfl⟩ := ite_some e
    obtain ⟨a1, vs, ea, ha, hv⟩ := r1
    obtain ⟨b1, us, eb, hb, hu⟩ := r2
    refine .inr (.inr ⟨a1, b1, vs, us, ea, eb, ha, hb, by rw [hv.len, hu.len]; exact lim_line c, fun t ht => ?_⟩)
    exact k _ F2 _ (x.trans (Ext.hid x2.s ht)) (Rtop.newL (x.h.free ht) (x2.s.free ht) upd_same (hv.append hu))
  · cases e
theorem RVs.rep {M : Sm} {F : Hp} {ds : List D} {vs : List V} (h : RVs M F ds vs) : ∀ n : Nat, RVs M F (List.replicate n ds).flatten (List.replicate n vs).flatten
  | 0 => RVs.nil
  | n + 1 => by
    rw [List.replicate_succ, List.replicate_succ, List.flatten_cons, List.flatten_cons]
    exact h.append (RVs.rep h n)
theorem de_rep (ha : DI W X a p) (hb : DB W X b q) : DE W X (.BinOp a .Mult b pos) (.o2 .rep p q) := PE.imp (pe_op op_rep ha hb) fun σ H Q ⟨F, env, d, s, hs, hf, ev, k⟩ => by
  obtain ⟨d1, d2, e1, e2, e⟩ := ev_o2 ev
  refine ⟨F, env, d1, s, hs, hf, e1, fun v F1 H1 x1 r1 => ⟨F1, env, d2, x1.s, hs.mono x1.f x1.h, e2, fun y H2 t r2 => ?_⟩⟩
  replace e : repD d1 d2 = some d := e
  unfold repD at e
  split at e
  · rename_i xs z
    obtain ⟨c, rfl⟩ := ite_some e
    obtain ⟨a1, vs, ea, ha, hv⟩ := r1
    have hz : (xs.length : Nat) * z.toNat ≤ 1000 * 1000 := Nat.mul_le_mul c.2.2 (by omega)
    refine ⟨a1, z, vs, ea, r2, t _ _ ha, by omega, by omega, by rw [hv.len]; exact lim_line hz, fun w hw => ?_⟩
    have x := x1.trans (Ext.grow x1.s t)
    exact k _ F1 _ (x.trans (Ext.hid (x1.s.trans t) hw)) (Rtop.newL (x.h.free hw) (x.s.free hw) upd_same (hv.rep _))
  · cases e
/-! ### list(x), tuple(x) -/
theorem de_list {pp : Pos} (h : DI W X a p) (hg : Gl X "list" := by rfl) (hm : X.mg "list" = none) (hst : starEach [a] X.env = [(false, eval a X.env)] := by rfl) : DE W X (.Call (.Name "list" pp) [a] [] pos) (.o1 .lst p) :=
  PE.imp (pe_callTy call_list_of hg hm PyProof.Rows.boot_list (pa_cons h pa_nil hst) (by decide) (by decide) hst rfl) fun σ H Q ⟨F, env, d, s, hs, hf, ev, k⟩ => by
    obtain ⟨d1, e1, e2⟩ := ev_o1 ev
    refine ⟨F, env, d1, s, hs, hf, e1, fun v F1 H1 x r => ?_⟩
    replace e2 : lstD d1 = some d := e2
    unfold lstD at e2
    split at e2
    · cases e2
      obtain ⟨a1, vs, ea, ha, hv⟩ := r
      exact ⟨a1, vs, by rw [ea], .inl (SqL.of ha), fun t ht => k _ F1 _ (x.trans (Ext.hid x.s ht)) (Rtop.newL (x.h.free ht) (x.s.free ht) upd_same hv)⟩
    · cases e2
      obtain ⟨a1, vs, ea, ha, hv⟩ := (show RV (sm X W) F1 (.tup _) v from r)
      exact ⟨a1, vs, by rw [ea], .inr (Same.sqt x.s ha), fun t ht => k _ F1 _ (x.trans (Ext.hid x.s ht)) (Rtop.newL (x.h.free ht) (x.s.free ht) upd_same hv)⟩
    · cases e2
theorem de_tuple {pp : Pos} (h : DI W X a p) (hg : Gl X "tuple" := by rfl) (hm : X.mg "tuple" = none) (hst : starEach [a] X.env = [(false, eval a X.env)] := by rfl) : DE W X (.Call (.Name "tuple" pp) [a] [] pos) (.o1 .tup p) :=
  PE.imp (pe_callTy call_tuple_of hg hm PyProof.Rows.boot_tuple (pa_cons h pa_nil hst) (by decide) (by decide) hst rfl) fun σ H Q ⟨F, env, d, s, hs, hf, ev, k⟩ => by
    obtain ⟨d1, e1, e2⟩ := ev_o1 ev
    refine ⟨F, env, d1, s, hs, hf, e1, fun v F1 H1 x r => ?_⟩
    replace e2 : tplD d1 = some d := e2
    unfold tplD at e2
    split at e2
    · cases e2
      obtain ⟨a1, vs, ea, ha, hv⟩ := r
      refine ⟨a1, vs, by rw [ea], .inl ⟨SqL.of ha, fun t ht => ?_⟩⟩
      have y := Ext.new (o := .tup vs) x.s ht
      exact k _ _ _ (x.trans y) (Rtop.of ⟨t, vs, rfl, .inl (.inl upd_same), hv.mono y.f⟩ rfl)
    · cases e2
      have r : RV (sm X W) F1 (.tup _) v := r
      have r0 := r
      obtain ⟨a1, vs, ea, ha, hv⟩ := r
      exact ⟨a1, vs, by rw [ea], .inr ⟨Same.sqt x.s ha, by rw [← ea]; exact k _ F1 _ x (Rtop.of r0 rfl)⟩⟩
    · cases e2
/-! ### sorted -/
abbrev rSortX (K : PySem.W.Frag) : List V → Hp → VK → Prop := fun xs H Q => ∃ d, 1 ≤ d ∧ rSortU K d 1000 xs H Q
theorem cr_sortX : CallR X (.builtin "sorted") (rSortX X.K) := by
  intro pins s σ H xs us Q I r h
  obtain ⟨d, hd, h⟩ := h
  exact cr_sortT hd pins s σ H xs us Q I r h
theorem tupI_of {K : PySem.W.Frag} {H : Hp} {t : Addr} {ns : List Int} (h : SqT K H t (ns.map V.int)) : TupI K H (.ref t) ns := ⟨t, rfl, h⟩
/-- a list or a tuple -/
theorem seq_rv {M : Sm} {F H : Hp} {d : D} {v : V} {xs : List D} (s : Same F H) (r : RS M F H d v) (e : seqD d = some xs) : ∃ a vs, v = .ref a ∧ (SqL M.K H a vs ∨ SqT M.K H a vs) ∧ RVs M F xs vs := by
  unfold seqD at e
  split at e
  · cases e
    obtain ⟨a, vs, ea, ha, hv⟩ := r
    exact ⟨a, vs, ea, .inl (SqL.of ha), hv⟩
  · cases e
    obtain ⟨a, vs, ea, ha, hv⟩ := (show RV M F (.tup _) v from r)
    exact ⟨a, vs, ea, .inr (Same.sqt s ha), hv⟩
  · cases e
theorem srt_seq {d z : D} (e : srtD d = some z) : ∃ xs, seqD d = some xs ∧ sortD sortL xs = some z := by
  cases d <;> first | exact ⟨_, rfl, e⟩ | cases e
theorem ssrt_seq {d z : D} (e : ssrtD d = some z) : ∃ xs, seqD d = some xs ∧ sortD sortU xs = some z := by
  cases d <;> first | exact ⟨_, rfl, e⟩ | cases e
theorem de_sort {pp : Pos} (h : DI W X a p) (hg : Gl X "sorted" := by rfl) (hm : X.mg "sorted" = none) (hst : starEach [a] X.env = [(false, eval a X.env)] := by rfl) : DE W X (.Call (.Name "sorted" pp) [a] [] pos) (.o1 .sort p) :=
  PE.imp (pe_callB cr_srtLT hg hm PyProof.Rows.boot_sorted (pa_cons h pa_nil hst) (by decide) (by decide) hst rfl) fun σ H Q ⟨F, env, d, s, hs, hf, ev, k⟩ => by
    obtain ⟨d1, e1, e2⟩ := ev_o1 ev
    refine ⟨F, env, d1, s, hs, hf, e1, fun v F1 H1 x r => ?_⟩
    obtain ⟨xs, e4, e3⟩ := srt_seq e2
    obtain ⟨a1, vs, ea, ha, hv⟩ := seq_rv x.s r e4
    obtain ⟨nss, z1, z2, z3, rfl⟩ := sortD_some e3
    obtain ⟨dd, hd, he⟩ := evn_of z2
    obtain ⟨ks, k1, k2, k3⟩ := tups_ks hv z1
    have k3h : ∀ p ∈ ks, SqT X.K H1 p.1 (p.2.map V.int) := fun p hp => Same.sqt x.s (k3 p hp)
    have kl : ks.length = nss.length := by rw [← k2, List.length_map]
    have c1 : vs.length < 64 := by rw [k1, List.length_map]; omega
    have c2 : ∀ x ∈ vs, ∃ ns, TupI X.K H1 x ns ∧ ns.length = dd ∧ TS.Bd 1000 ns := fun w hw => by
      rw [k1] at hw
      obtain ⟨p, hp, rfl⟩ := List.mem_map.mp hw
      have hm : p.2 ∈ nss := by rw [← k2]; exact List.mem_map_of_mem hp
      exact ⟨p.2, tupI_of (k3h p hp), he _ hm⟩
    have c3 : ∀ (ys : List V) (t : Addr), ys.Perm vs → ys.Pairwise (fun x y => ∀ n m, TupI X.K H1 x n → TupI X.K H1 y m → TS.code 1000 n ≤ TS.code 1000 m) → H1 t = none → Q (.ref t) (upd H1 t (.lst ys)) := fun ys t hp hs2 ht => by
      rw [k1] at hp
      obtain ⟨ks', g1, rfl⟩ := ks_perm hp
      have g2 : (ks'.map (·.2)).Perm nss := by rw [← k2]; exact g1.map _
      have g3 : (ks'.map (·.2)).Pairwise Le := by
        rw [List.pairwise_map] at hs2 ⊢
        refine List.Pairwise.imp_of_mem (fun {p q} hp hq z => ?_) hs2
        exact z p.2 q.2 (tupI_of (k3h p (g1.mem_iff.mp hp))) (tupI_of (k3h q (g1.mem_iff.mp hq)))
      have g4 : ks'.map (·.2) = sortL nss := le_eq (he.perm g2) (g2.trans (sortL_perm nss).symm) g3 (sortL_sorted nss he)
      have g5 := ks_rvs (M := sm X W) (F := F1) ks' fun p hp => k3 p (g1.mem_iff.mp hp)
      rw [g4] at g5
      exact k _ F1 _ (x.trans (Ext.hid x.s ht)) (Rtop.newL (x.h.free ht) (x.s.free ht) upd_same g5)
    rcases ha with ha | ha
    · exact ⟨dd, hd, .inl ⟨a1, vs, by rw [ea], ha, c1, c2, c3⟩⟩
    · exact ⟨dd, hd, .inr ⟨a1, vs, by rw [ea], ha, c1, c2, c3⟩⟩
/-- sorted(set(x)) -/
theorem de_ssort {pp p2 pos2 : Pos} (hc : X.calm = true) (hu : X.A.units + 64 < cLine) (h : DI W X a p) (hg : Gl X "sorted" := by rfl) (hm : X.mg "sorted" = none) (hg2 : Gl X "set" := by rfl) (hm2 : X.mg "set" = none)
    (hst : starEach [a] X.env = [(false, eval a X.env)] := by rfl) (hst2 : starEach [.Call (.Name "set" p2) [a] [] pos2] X.env = [(false, eval (.Call (.Name "set" p2) [a] [] pos2) X.env)] := by rfl) : DE W X (.Call (.Name "sorted" pp) [.Call (.Name "set" p2) [a] [] pos2] [] pos) (.o1 .ssort p) :=
  PE.imp (pe_callB (cr_sortedT hc) hg hm PyProof.Rows.boot_sorted (pa_cons (pe_callTy (cr_setLT hc hu) hg2 hm2 PyProof.Rows.boot_set (pa_cons h pa_nil hst) (by decide) (by decide) hst rfl) pa_nil hst2) (by decide) (by decide) hst2 rfl) fun σ H Q ⟨F, env, d, s, hs, hf, ev, k⟩ => by
    obtain ⟨d1, e1, e2⟩ := ev_o1 ev
    refine ⟨F, env, d1, s, hs, hf, e1, fun v F1 H1 x r => ?_⟩
    obtain ⟨xs, e4, e3⟩ := ssrt_seq e2
    obtain ⟨a1, vs, ea, ha, hv⟩ := seq_rv x.s r e4
    obtain ⟨nss, z1, z2, z3, rfl⟩ := sortD_some e3
    obtain ⟨dd, hd, he⟩ := evn_of z2
    obtain ⟨ks, k1, k2, k3⟩ := tups_ks hv z1
    have kl : ks.length = nss.length := by rw [← k2, List.length_map]
    rw [k1] at ha
    have c3 : ∀ st L, H1 st = none → (∀ p ∈ L, p ∈ ks) → (∀ p ∈ ks, p.2 ∈ L.map (·.2)) → (rSortedT X.K X.prog X.w) [.ref st] (upd H1 st (SetTO X.prog X.w st L)) Q := fun st L hst hL1 hL2 => by
      have y := Ext.hid (o := SetTO X.prog X.w st L) x.s hst
      have kL : ∀ p ∈ L, SqT X.K F1 p.1 (p.2.map V.int) := fun p hp => k3 p (hL1 p hp)
      have nL : ∀ p ∈ L, p.2 ∈ nss := fun p hp => by rw [← k2]; exact List.mem_map_of_mem (hL1 p hp)
      refine ⟨st, L, dd, 1000, rfl, upd_same, fun p hp => Same.sqt y.s (kL p hp), hd, fun p hp => he _ (nL p hp), fun L' t g1 g2 g3 g4 ht => ?_⟩
      have g5 : ∀ z, z ∈ L'.map (·.2) ↔ z ∈ nss := fun z => by
        constructor
        · intro hz
          obtain ⟨p, hp, rfl⟩ := List.mem_map.mp hz
          exact nL p (g1.mem_iff.mp hp)
        · intro hz
          rw [← k2] at hz
          obtain ⟨p, hp, rfl⟩ := List.mem_map.mp hz
          exact (g1.map (·.2)).mem_iff.mpr (hL2 p hp)
      have g6 : L'.map (·.2) = sortU nss := uniq_eq he g2 g5 (by rw [List.pairwise_map]; exact g4)
      have g7 := ks_rvs (M := sm X W) (F := F1) L' fun p hp => kL p (g1.mem_iff.mp hp)
      rw [g6] at g7
      exact k _ F1 _ ((x.trans y).trans (Ext.hid y.s ht)) (Rtop.newL (x.h.free (y.h.free ht)) (y.s.free ht) upd_same g7)
    rcases ha with ha | ha
    · exact .inl ⟨a1, ks, by rw [ea], ha, fun p hp => Same.sqt x.s (k3 p hp), by omega, c3⟩
    · exact .inr ⟨a1, ks, by rw [ea], ha, fun p hp => Same.sqt x.s (k3 p hp), by omega, c3⟩
/-! ### items -/
theorem atI_get2 {α : Type} {xs : List α} {i : Int} {v : α} (h : atI xs i = some v) : ∃ j : Nat, ixN xs.length i = some j ∧ xs[j]? = some v := by
  unfold atI at h
  cases e : ixN xs.length i with
  | none => rw [e] at h; cases h
  | some j => rw [e] at h; exact ⟨j, rfl, h⟩
theorem atI_of {α : Type} {xs : List α} {i : Int} {j : Nat} {v : α} (h : ixN xs.length i = some j) (hv : xs[j]? = some v) : atI xs i = some v := by
  unfold atI
  rw [h]
  exact hv
abbrev rIx2 (K : PySem.W.Frag) : R2 := fun x y H Q => rIxL K x y H Q ∨ rIxT K x y H Q
theorem ix_two : IxR X (rIx2 X.K) := ix_list.or ix_tup
theorem ev_ix {T : Tb} {cl : Nat → List D → Option D} {p q : E} {env : Env} {z : D} (h : ev T cl (.ix p q) env = some z) : ∃ x y, ev T cl p env = some x ∧ ev T cl q env = some y ∧ ixD x y = some z := by
  unfold ev at h
  split at h
  · rename_i x e1
    split at h
    · rename_i y e2
      exact ⟨x, y, e1, e2, h⟩
    · cases h
  · cases h
theorem de_ix (ha : DI W X a p) (hb : DB W X b q) (hi : PlainIx b := by exact fun _ _ => rfl) : DE W X (.Subscript a b pos) (.ix p q) := PE.imp (pe_ix ix_two ha hb hi) fun σ H Q ⟨F, env, d, s, hs, hf, ev, k⟩ => by
  obtain ⟨d1, d2, e1, e2, e⟩ := ev_ix ev
  refine ⟨F, env, d1, s, hs, hf, e1, fun v F1 H1 x1 r1 => ⟨F1, env, d2, x1.s, hs.mono x1.f x1.h, e2, fun y H2 t r2 => ?_⟩⟩
  have x := x1.trans (Ext.grow x1.s t)
  unfold ixD at e
  split at e
  · rename_i xs i
    obtain ⟨j, j1, j2⟩ := atI_get2 e
    obtain ⟨a1, vs, ea, ha, hv⟩ := r1
    obtain ⟨u, u1, u2⟩ := hv.get j2
    exact .inl ⟨a1, vs, i, u, ea, r2, SqL.of (t _ _ ha), atI_of (by rw [hv.len]; exact j1) u1, k u F1 H2 x (.inl u2)⟩
  · rename_i xs i
    obtain ⟨j, j1, j2⟩ := atI_get2 e
    obtain ⟨a1, vs, ea, ha, hv⟩ := (show RV (sm X W) F1 (.tup xs) v from r1)
    obtain ⟨u, u1, u2⟩ := hv.get j2
    exact .inr ⟨a1, vs, i, u, ea, r2, Same.sqt (x1.s.trans t) ha, atI_of (by rw [hv.len]; exact j1) u1, k u F1 H2 x (.inl u2)⟩
  · rename_i ns i
    obtain ⟨m, e3, rfl⟩ := Option.map_eq_some_iff.mp e
    obtain ⟨j, j1, j2⟩ := atI_get2 e3
    obtain ⟨a1, ea, ho⟩ := (show RV (sm X W) F1 (.frl ns) v from r1)
    refine .inl ⟨a1, ns.map V.int, i, .int m, ea, r2, L2.Same.seq (x1.s.trans t) ho, atI_of (by rw [List.length_map]; exact j1) ?_, k _ F1 H2 x (scl_top rfl)⟩
    rw [List.getElem?_map, j2]
    rfl
  · cases e
/-! ### slices -/
theorem cut_rv {M : Sm} {F : Hp} {ds : List D} {vs : List V} (h : RVs M F ds vs) (lo hi : Option Int) : RVs M F (cutD ds lo hi) (cutV vs lo hi) := by
  unfold cutD cutV
  rw [h.len]
  exact (h.drop _).take _
abbrev rSl2 (K : PySem.W.Frag) : V → Option Int → Option Int → Hp → VK → Prop := fun x lo hi H Q => rSlL K x lo hi H Q ∨ rSlA K x lo hi H Q
theorem sl_two : SlR X (rSl2 X.K) := sl_list.or sl_tupA
theorem sl_core {lo hi : Option Int} {d1 d : D} {v : V} {F H F1 H1 H2 : Hp} {Q : VK} {tp : Bool} (x1 : Ext F H F1 H1) (t : Same H1 H2) (r1 : RS (sm X W) F1 H1 d1 v) (e : slD lo hi d1 = some d)
    (k : ∀ v F' H', Ext F H F' H' → Rtop (sm X W) true H F' H' d v → Q v H') : rSl2 X.K v lo hi H2 Q := by
  have x := x1.trans (Ext.grow x1.s t)
  unfold slD at e
  split at e
  · cases e
    obtain ⟨a1, vs, ea, ha, hv⟩ := r1
    exact .inl ⟨a1, vs, ea, SqL.of (t _ _ ha), fun w hw => k _ F1 _ (x.trans (Ext.hid x.s hw)) (Rtop.newL (x.h.free hw) (x.s.free hw) upd_same (cut_rv hv lo hi))⟩
  · rename_i xs
    cases e
    have r1 : RV (sm X W) F1 (.tup xs) v := r1
    have r0 := r1
    obtain ⟨a1, vs, ea, ha, hv⟩ := r1
    refine .inr ⟨a1, vs, ea, Same.sqt x.s ha, fun z => ?_, fun _ w hw => ?_⟩
    · have e : cutD xs lo hi = xs := by
        unfold cutD
        rw [← hv.len, z.1, z.2, List.drop_zero, Nat.sub_zero, hv.len]
        exact List.take_length
      rw [← ea]
      rw [e] at k
      exact k _ F1 _ x (Rtop.of r0 rfl)
    · have y := Ext.new (o := .tup (cutV vs lo hi)) x.s hw
      exact k _ _ _ (x.trans y) (Rtop.of ⟨w, _, rfl, .inl (.inl upd_same), (cut_rv hv lo hi).mono y.f⟩ rfl)
  · rename_i ns
    cases e
    obtain ⟨a1, ea, ho⟩ := (show RV (sm X W) F1 (.frl ns) v from r1)
    exact .inl ⟨a1, ns.map V.int, ea, L2.Same.seq x.s ho, fun w hw => k _ F1 _ (x.trans (Ext.hid x.s hw)) (Rtop.newL (x.h.free hw) (x.s.free hw) upd_same (cut_rv RVs.ints lo hi))⟩
  · cases e
theorem ev_slL {T : Tb} {cl : Nat → List D → Option D} {p q : E} {env : Env} {z : D} (h : ev T cl (.slL p q) env = some z) : ∃ x i, ev T cl p env = some x ∧ ev T cl q env = some (.int i) ∧ slD (some i) none x = some z := by
  unfold ev at h
  split at h
  · rename_i x e1
    split at h
    · rename_i y e2
      exact ⟨x, y, e1, e2, h⟩
    · cases h
  · cases h
theorem ev_slH {T : Tb} {cl : Nat → List D → Option D} {p q : E} {env : Env} {z : D} (h : ev T cl (.slH p q) env = some z) : ∃ x i, ev T cl p env = some x ∧ ev T cl q env = some (.int i) ∧ slD none (some i) x = some z := by
  unfold ev at h
  split at h
  · rename_i x e1
    split at h
    · rename_i y e2
      exact ⟨x, y, e1, e2, h⟩
    · cases h
  · cases h
theorem ev_slB {T : Tb} {cl : Nat → List D → Option D} {p q r : E} {env : Env} {z : D} (h : ev T cl (.slB p q r) env = some z) : ∃ x i j, ev T cl p env = some x ∧ ev T cl q env = some (.int i) ∧ ev T cl r env = some (.int j) ∧ slD (some i) (some j) x = some z := by
  unfold ev at h
  split at h
  · rename_i x e1
    split at h
    · rename_i y e2
      split at h
      · rename_i w e3
        exact ⟨x, y, w, e1, e2, e3, h⟩
      · cases h
    · cases h
  · cases h
theorem de_slL {p2 : Pos} (ha : DI W X a p) (hb : DB W X b q) : DE W X (.Subscript a (.Slice (some b) none none p2) pos) (.slL p q) := PE.imp (pe_slice sl_two ha (po_some hb) po_none) fun σ H Q ⟨F, env, d, s, hs, hf, ev, k⟩ => by
  obtain ⟨d1, i, e1, e2, e⟩ := ev_slL ev
  refine ⟨F, env, d1, s, hs, hf, e1, fun v F1 H1 x1 r1 => ⟨F1, env, .int i, x1.s, hs.mono x1.f x1.h, e2, fun y H2 t r2 => ⟨i, r2, ?_⟩⟩⟩
  exact sl_core (tp := true) x1 t r1 e k
theorem de_slH {p2 : Pos} (ha : DI W X a p) (hb : DB W X b q) : DE W X (.Subscript a (.Slice none (some b) none p2) pos) (.slH p q) := PE.imp (pe_slice sl_two ha po_none (po_some hb)) fun σ H Q ⟨F, env, d, s, hs, hf, ev, k⟩ => by
  obtain ⟨d1, i, e1, e2, e⟩ := ev_slH ev
  refine ⟨F, env, d1, s, hs, hf, e1, fun v F1 H1 x1 r1 => ⟨F1, env, .int i, x1.s, hs.mono x1.f x1.h, e2, fun y H2 t r2 => ⟨i, r2, ?_⟩⟩⟩
  exact sl_core (tp := true) x1 t r1 e k
theorem de_slB {p2 : Pos} (ha : DI W X a p) (hb : DB W X b q) (hc : DB W X c r) : DE W X (.Subscript a (.Slice (some b) (some c) none p2) pos) (.slB p q r) := PE.imp (pe_slice sl_two ha (po_some hb) (po_some hc)) fun σ H Q ⟨F, env, d, s, hs, hf, ev, k⟩ => by
  obtain ⟨d1, i, j, e1, e2, e3, e⟩ := ev_slB ev
  refine ⟨F, env, d1, s, hs, hf, e1, fun v F1 H1 x1 r1 => ⟨F1, env, .int i, x1.s, hs.mono x1.f x1.h, e2, fun y H2 t r2 => ⟨i, r2, ⟨F1, env, .int j, x1.s.trans t, (hs.mono x1.f x1.h).mono (Same.refl _) t, e3, fun y H3 t3 r3 => ⟨j, r3, ?_⟩⟩⟩⟩⟩
  exact sl_core (tp := true) x1 (t.trans t3) r1 e k
theorem ev_rev {T : Tb} {cl : Nat → List D → Option D} {p : E} {env : Env} {z : D} (h : ev T cl (.rev p) env = some z) : ∃ xs, ev T cl p env = some (.lst xs) ∧ z = .lst xs.reverse := by
  unfold ev at h
  split at h
  · rename_i xs e1
    exact ⟨xs, e1, (Option.some.inj h).symm⟩
  · cases h
theorem de_rev {k : Nat} {p1 p2 p3 : Pos} (ha : DI W X a p) : DE W X (.Subscript a (.Slice none none (some (.UnaryOp .USub (.Constant (.int 1) k p1) p2)) p3) pos) (.rev p) := PE.imp (pe_revL ha) fun σ H Q ⟨F, env, d, s, hs, hf, ev, kk⟩ => by
  obtain ⟨xs, e1, rfl⟩ := ev_rev ev
  refine ⟨F, env, _, s, hs, hf, e1, fun v F1 H1 x r => ?_⟩
  obtain ⟨a1, vs, ea, ha, hv⟩ := r
  exact ⟨a1, vs, ea, SqL.of ha, fun w hw => kk _ F1 _ (x.trans (Ext.hid x.s hw)) (Rtop.newL (x.h.free hw) (x.s.free hw) upd_same hv.reverse)⟩
end
end Nt

set_option Elab.async false
set_option linter.all false
set_option maxRecDepth 100000
set_option maxHeartbeats 4000000
/-! Targets, what is walked, comprehensions. -/
namespace Nt
open PySem PySem.Spec PyProof.Rows L2

/-! ### targets -/
def setsV (σ : L2.St) : List Nat → List V → L2.St
  | i :: is, x :: xs => setsV (σ.set i (some x)) is xs
  | _, _ => σ
def gT (K : PySem.W.Frag) (t : Tg) : TG := fun v σ H Q => match t with
  | .one i => Q (σ.set i (some v)) H
  | .many is => ∃ a xs, v = .ref a ∧ SqT K H a xs ∧ xs.length = is.length ∧ Q (setsV σ is xs) H
def gNs : List Nat → TGs
  | [] => gNil
  | i :: is => gCons (gName i) (gNs is)
theorem gNs_of : ∀ {is : List Nat} {xs : List V} {σ : L2.St} {H : Hp} {Q : L2.St → Hp → Prop}, xs.length = is.length → Q (setsV σ is xs) H → gNs is xs σ H Q
  | [], [], _, _, _, _, q => ⟨rfl, q⟩
  | [], _ :: _, _, _, _, h, _ => by simp at h
  | i :: is, [], _, _, _, h, _ => by simp at h
  | i :: is, x :: xs, σ, H, Q, h, q => ⟨x, xs, rfl, gNs_of (is := is) (by simpa using h) q⟩
theorem PG.imp {X : Cx} {e : Expr} {t t' : TG} (h : PG X e t) (i : ∀ v σ H Q, t' v σ H Q → t v σ H Q) : PG X e t' := ⟨fun pins s σ H v u Q I r q => h.run pins s σ H v u Q I r (i v σ H Q q)⟩
theorem dg_many {X : Cx} {e : Expr} {is : List Nat} (h : PG X e (gTup X.K is.length (gNs is))) : PG X e (gT X.K (.many is)) := PG.imp h fun v σ H Q ⟨a, xs, e1, h1, hl, q⟩ => ⟨a, xs, e1, h1, hl, gNs_of hl q⟩
theorem dg_one {X : Cx} {e : Expr} {i : Nat} (h : PG X e (gName i)) : PG X e (gT X.K (.one i)) := h

variable {M : Sm} {F F' H H' : Hp}
theorem gt_set {env : Env} {i j : Nat} {d d' : D} (h : gt (env.set i (some d)) j = some d') : (j = i ∧ d' = d ∧ i < env.length) ∨ (j ≠ i ∧ gt env j = some d') := by
  unfold gt at h ⊢
  by_cases e : j = i
  · subst e
    by_cases l : j < env.length
    · rw [List.getElem?_set_self l] at h
      exact .inl ⟨rfl, (Option.some.inj h).symm, l⟩
    · rw [List.getElem?_eq_none (by simpa using l)] at h
      cases h
  · rw [List.getElem?_set_ne (Ne.symm e)] at h
    exact .inr ⟨e, h⟩
theorem EnvS.set {env : Env} {σ : L2.St} {i : Nat} {d : D} {v : V} (h : EnvS M F H env σ) (r : RS M F H d v) : EnvS M F H (env.set i (some d)) (σ.set i (some v)) := by
  refine ⟨by simpa using h.1, fun j d' e => ?_⟩
  rcases gt_set e with ⟨rfl, rfl, l⟩ | ⟨n, e⟩
  · exact ⟨v, List.getElem?_set_self (Nat.lt_of_lt_of_le l h.1), r⟩
  · obtain ⟨u, a, b⟩ := h.2 j d' e
    exact ⟨u, by rw [List.getElem?_set_ne (Ne.symm n)]; exact a, b⟩
/-- the slots of l hold what F shows -/
theorem EnvF.set {env : Env} {σ : L2.St} {i : Nat} {d : D} {v : V} {l : List Nat} (hl : env.length ≤ σ.length) (h : EnvF M F (l.filter fun j => !(j == i)) env σ) (r : RV M F d v) : EnvF M F l (env.set i (some d)) (σ.set i (some v)) := fun j m d' e => by
  rcases gt_set e with ⟨rfl, rfl, q⟩ | ⟨n, e⟩
  · exact ⟨v, List.getElem?_set_self (Nat.lt_of_lt_of_le q hl), r⟩
  · obtain ⟨u, a, b⟩ := h j (List.mem_filter.mpr ⟨m, by simpa using n⟩) d' e
    exact ⟨u, by rw [List.getElem?_set_ne (Ne.symm n)]; exact a, b⟩
theorem EnvS.sets (s : Same F H) : ∀ {is : List Nat} {ds : List D} {xs : List V} {env env' : Env} {σ : L2.St}, EnvS M F H env σ → RVs M F ds xs → setsD env is ds = some env' → EnvS M F H env' (setsV σ is xs) ∧ xs.length = is.length
  | [], [], _, env, env', σ, h, r, e => by
    rw [show _ = [] from r]
    have e : env = env' := Option.some.inj e
    rw [← e]
    exact ⟨h, rfl⟩
  | [], _ :: _, _, _, _, _, _, _, e => by cases e
  | _ :: _, [], _, _, _, _, _, _, e => by cases e
  | i :: is, d :: ds, _, env, env', σ, h, ⟨v, r, e1, h1, h2⟩, e => by
    rw [e1]
    obtain ⟨a, b⟩ := EnvS.sets s (h.set (i := i) (h1.rs s)) h2 e
    exact ⟨a, by rw [List.length_cons, List.length_cons, b]⟩
theorem EnvF.sets : ∀ {is : List Nat} {ds : List D} {xs : List V} {env env' : Env} {σ : L2.St} {l : List Nat}, env.length ≤ σ.length → EnvF M F (l.filter fun j => !is.contains j) env σ → RVs M F ds xs → setsD env is ds = some env' → EnvF M F l env' (setsV σ is xs)
  | [], [], _, env, env', σ, l, _, h, r, e => by
    rw [show _ = [] from r]
    have e : env = env' := Option.some.inj e
    rw [← e]
    exact h.sub fun i m => List.mem_filter.mpr ⟨m, rfl⟩
  | [], _ :: _, _, _, _, _, _, _, _, _, e => by cases e
  | _ :: _, [], _, _, _, _, _, _, _, _, e => by cases e
  | i :: is, d :: ds, _, env, env', σ, l, hl, h, ⟨v, r, e1, h1, h2⟩, e => by
    rw [e1]
    refine EnvF.sets (is := is) (by simpa using hl) (EnvF.set hl (h.sub fun j m => ?_) h1) h2 e
    rw [List.mem_filter, List.mem_filter] at m
    refine List.mem_filter.mpr ⟨m.1.1, ?_⟩
    rw [List.contains_cons]
    have a := m.1.2
    have b := m.2
    simp only [Bool.not_eq_true'] at a b ⊢
    rw [a, b]
    rfl
theorem wipe_get {σ : L2.St} {i : Nat} {is : List Nat} (h : i ∉ is) : (wipe σ is)[i]? = σ[i]? := wipe_out h
theorem wipe_at {σ : L2.St} {j : Nat} : ∀ {is : List Nat}, j ∈ is → (wipe σ is)[j]? = if j < σ.length then some none else none
  | i :: is, h => by
    unfold wipe
    by_cases e : j = i
    · subst e
      by_cases l : j < σ.length
      · rw [if_pos l, List.getElem?_set_self (by rw [wipe_length]; exact l)]
      · rw [if_neg l, List.getElem?_eq_none (by rw [List.length_set, wipe_length]; omega)]
    · rw [List.getElem?_set_ne (Ne.symm e)]
      rcases List.mem_cons.mp h with q | q
      · exact absurd q e
      · exact wipe_at q
theorem setsV_length : ∀ {is : List Nat} {xs : List V} {σ : L2.St}, (setsV σ is xs).length = σ.length
  | [], _, _ => by unfold setsV; rfl
  | _ :: _, [], _ => by unfold setsV; rfl
  | i :: is, x :: xs, σ => by unfold setsV; rw [setsV_length, List.length_set]
theorem setsV_get : ∀ {is : List Nat} {xs : List V} {σ : L2.St} {j : Nat}, j ∉ is → (setsV σ is xs)[j]? = σ[j]?
  | [], _, _, _, _ => by unfold setsV; rfl
  | _ :: _, [], _, _, _ => by unfold setsV; rfl
  | i :: is, x :: xs, σ, j, h => by
    unfold setsV
    rw [setsV_get (fun z => h (List.mem_cons_of_mem _ z)), List.getElem?_set_ne (fun e => h (by rw [e]; exact List.mem_cons_self ..))]
theorem wipe_same {σ σ2 : L2.St} {is : List Nat} (hl : σ2.length = σ.length) (h : ∀ j, j ∉ is → σ2[j]? = σ[j]?) : wipe σ2 is = wipe σ is := by
  refine List.ext_getElem? fun j => ?_
  by_cases m : j ∈ is
  · rw [wipe_at m, wipe_at m, hl]
  · rw [wipe_get m, wipe_get m, h j m]
/-- a block's own slots wiped, then bound anew -/
theorem EnvS.wiped {env : Env} {σ : L2.St} {t : Tg} {d : D} {v : V} {env1 : Env} {K : PySem.W.Frag} (hK : M.K = K) {Q : L2.St → Hp → Prop} {l : List Nat} (s : Same F H) (h : EnvS M F H env σ) (hf : EnvF M F (l.filter fun j => !(tgs t).contains j) env σ) (r : RV M F d v) (e : bindD t d env = some env1)
    (q : ∀ σ2, wipe σ2 (tgs t) = wipe σ (tgs t) → EnvS M F H env1 σ2 → EnvF M F l env1 σ2 → Q σ2 H) : gT K t v (wipe σ (tgs t)) H Q := by
  -- the state in which all else is as it was
  have base : ∀ σ2 : L2.St, σ2.length = σ.length → (∀ j, j ∉ tgs t → σ2[j]? = σ[j]?) → wipe σ2 (tgs t) = wipe σ (tgs t) := fun σ2 a b => wipe_same a b
  cases t with
  | one i =>
    have e : env.set i (some d) = env1 := Option.some.inj e
    subst e
    have hl : ((wipe σ [i]).set i (some v)).length = σ.length := by rw [List.length_set, wipe_length]
    have hg : ∀ j, j ∉ [i] → ((wipe σ [i]).set i (some v))[j]? = σ[j]? := fun j m => by
      rw [List.getElem?_set_ne (fun z => m (by rw [z]; exact List.mem_cons_self ..)), wipe_get m]
    have eq : (wipe σ [i]).set i (some v) = σ.set i (some v) := by
      unfold wipe wipe
      rw [List.set_set]
    refine q _ (base _ hl hg) ?_ ?_
    · show EnvS M F H _ ((wipe σ [i]).set i (some v))
      rw [eq]; exact h.set (r.rs s)
    · show EnvF M F l _ ((wipe σ [i]).set i (some v))
      rw [eq]
      exact EnvF.set h.1 (hf.sub fun j m => by
        rw [List.mem_filter] at m ⊢
        refine ⟨m.1, ?_⟩
        have := m.2
        simp only [tgs, List.contains_cons, List.contains_nil, Bool.or_false]
        exact this) r
  | many is =>
    cases d with
    | tup ds =>
      obtain ⟨a, xs, ea, ha, hx⟩ := r
      have e : setsD env is ds = some env1 := e
      -- the same values over the unwiped slots
      have key : ∀ (is' : List Nat) (xs : List V) (σ' : L2.St), (∀ i ∈ is', i ∈ is) → xs.length = is'.length → ∀ j, j ∈ is' → (setsV (wipe σ' is) is' xs)[j]? = (setsV σ' is' xs)[j]? := by
        intro is'
        induction is' with
        | nil => intro xs σ' _ _ j m; cases m
        | cons i is' ih =>
          intro xs σ' sub hl j m
          cases xs with
          | nil => simp at hl
          | cons x xs =>
            unfold setsV
            by_cases q : j ∈ is'
            · -- set commutes with the wipe only up to what is overwritten: compare by the later writes
              have c : ∀ (is2 : List Nat) (ys : List V) (τ1 τ2 : L2.St), τ1.length = τ2.length → ys.length = is2.length → j ∈ is2 → (setsV τ1 is2 ys)[j]? = (setsV τ2 is2 ys)[j]? := by
                intro is2
                induction is2 with
                | nil => intro ys τ1 τ2 _ _ m; cases m
                | cons k is2 ih2 =>
                  intro ys τ1 τ2 hl2 hy m
                  cases ys with
                  | nil => simp at hy
                  | cons y ys =>
                    unfold setsV
                    by_cases q2 : j ∈ is2
                    · exact ih2 ys _ _ (by rw [List.length_set, List.length_set, hl2]) (by simpa using hy) q2
                    · rw [setsV_get q2, setsV_get q2]
                      rcases List.mem_cons.mp m with z | z
                      · subst z
                        by_cases lt : j < τ1.length
                        · rw [List.getElem?_set_self lt, List.getElem?_set_self (by omega)]
                        · rw [List.getElem?_eq_none (by rw [List.length_set]; omega), List.getElem?_eq_none (by rw [List.length_set]; omega)]
                      · exact absurd z q2
              exact c is' xs _ _ (by rw [List.length_set, List.length_set, wipe_length]) (by simpa using hl) q
            · rw [setsV_get q, setsV_get q]
              rcases List.mem_cons.mp m with z | z
              · subst z
                by_cases lt : j < σ'.length
                · rw [List.getElem?_set_self (by rw [wipe_length]; exact lt), List.getElem?_set_self lt]
                · rw [List.getElem?_eq_none (by rw [List.length_set, wipe_length]; omega), List.getElem?_eq_none (by rw [List.length_set]; omega)]
              · exact absurd z q
      obtain ⟨z1, z2⟩ := EnvS.sets s h hx e
      have eq : setsV (wipe σ is) is xs = setsV σ is xs := by
        refine List.ext_getElem? fun j => ?_
        by_cases m : j ∈ is
        · exact key is xs σ (fun _ z => z) z2 j m
        · rw [setsV_get m, setsV_get m, wipe_get m]
      refine ⟨a, xs, ea, by rw [← hK]; exact Same.sqt s ha, z2, ?_⟩
      show Q (setsV (wipe σ is) is xs) H
      rw [eq]
      exact q _ (base _ setsV_length fun j m => setsV_get m) z1 (EnvF.sets h.1 hf hx e)
    | _ => cases e

/-! ### what is walked -/
structure Yld (M : Sm) (G F : Hp) (J : It) (ds : List D) : Prop where
  stop : ∀ i F1 H1, Same F F1 → Same G H1 → Same F1 H1 → ds.length ≤ i → J.stop i H1
  item : ∀ i d F1 H1, Same F F1 → Same G H1 → Same F1 H1 → ds[i]? = some d → J.go i H1 ∧ ∀ x H2, J.yld i H1 x H2 → ∃ F2, Ext F1 H1 F2 H2 ∧ RV M F2 d x
theorem some_lt {α : Type} {l : List α} {i : Nat} {x : α} (h : l[i]? = some x) : i < l.length := (List.getElem?_eq_some_iff.mp h).1
theorem y_list {K : PySem.W.Frag} {G : Hp} {a : Addr} {ds : List D} {vs : List V} (hg : G a = some (.lst vs)) (r : RVs M F ds vs) : Yld M G F (Itl K a) ds where
  stop := fun i F1 H1 s t u l => ⟨vs, SqL.of (t _ _ hg), by rw [r.len]; exact l⟩
  item := fun i d F1 H1 s t u e => by
    obtain ⟨v, q1, q2⟩ := r.get e
    have hq : SqL K H1 a vs := SqL.of (t _ _ hg)
    refine ⟨⟨vs, v, hq, q1⟩, fun x H2 ⟨e2, y⟩ => ?_⟩
    have := y vs hq
    rw [q1] at this
    cases this
    rw [e2]
    exact ⟨F1, Ext.refl u, q2.mono s⟩
theorem y_tup {G : Hp} {a : Addr} {ds : List D} {vs : List V} (hg : SqT M.K F a vs) (r : RVs M F ds vs) : Yld M G F (Itt M.K a) ds where
  stop := fun i F1 H1 s t u l => ⟨vs, Same.sqt (s.trans u) hg, by rw [r.len]; exact l⟩
  item := fun i d F1 H1 s t u e => by
    obtain ⟨v, q1, q2⟩ := r.get e
    have hq : SqT M.K H1 a vs := Same.sqt (s.trans u) hg
    refine ⟨⟨vs, v, hq, q1⟩, fun x H2 ⟨e2, y⟩ => ?_⟩
    have := y vs hq
    rw [q1] at this
    cases this
    rw [e2]
    exact ⟨F1, Ext.refl u, q2.mono s⟩
theorem range_get {lo : Int} {n i : Nat} {d : D} (h : ((List.range n).map fun (i : Nat) => D.int (lo + (i : Int)))[i]? = some d) : i < n ∧ d = .int (lo + i) := by
  have l := some_lt h
  rw [List.length_map, List.length_range] at l
  rw [List.getElem?_map, List.getElem?_range l] at h
  exact ⟨l, (Option.some.inj h).symm⟩
theorem y_range {G : Hp} {lo hi : Int} : Yld M G F (Itr lo (hi - lo).toNat) (rangeD lo hi) where
  stop := fun i F1 H1 s t u l => by
    unfold rangeD at l
    rw [List.length_map, List.length_range] at l
    exact l
  item := fun i d F1 H1 s t u e => by
    obtain ⟨l, rfl⟩ := range_get e
    refine ⟨l, fun x H2 ⟨e1, e2⟩ => ?_⟩
    rw [e1, e2]
    exact ⟨F1, Ext.refl u, rfl⟩
theorem y_enum {G : Hp} {a : Addr} {ds : List D} {vs : List V} (hg : G a = some (.lst vs)) (r : RVs M F ds vs) : Yld M G F (Ite M.K a) (enumD 0 ds) := by
  have len : ∀ (ds : List D) (k : Nat), (enumD k ds).length = ds.length := by
    intro ds
    induction ds with
    | nil => intro k; rfl
    | cons d ds ih => intro k; unfold enumD; rw [List.length_cons, List.length_cons, ih]
  have get : ∀ (ds : List D) (k i : Nat) (d : D), (enumD k ds)[i]? = some d → ∃ z, ds[i]? = some z ∧ d = .tup [.int ((k + i : Nat) : Int), z] := by
    intro ds
    induction ds with
    | nil => intro k i d h; unfold enumD at h; simp at h
    | cons z ds ih =>
      intro k i d h
      unfold enumD at h
      cases i with
      | zero =>
        have h : D.tup [.int (k : Int), z] = d := by simpa using h
        exact ⟨z, rfl, h.symm⟩
      | succ i =>
        obtain ⟨w, a, b⟩ := ih (k + 1) i d (by simpa using h)
        exact ⟨w, by simpa using a, by rw [b, show k + 1 + i = k + (i + 1) by omega]⟩
  refine ⟨fun i F1 H1 s t u l => ⟨vs, SqL.of (t _ _ hg), by rw [len] at l; rw [r.len]; exact l⟩, fun i d F1 H1 s t u e => ?_⟩
  obtain ⟨z, e1, rfl⟩ := get ds 0 i d e
  obtain ⟨v, q1, q2⟩ := r.get e1
  have hq : SqL M.K H1 a vs := SqL.of (t _ _ hg)
  refine ⟨⟨vs, v, hq, q1⟩, fun x H2 hy => ?_⟩
  obtain ⟨T, w, rfl, nT, rfl, y⟩ := hy
  have := y vs hq
  rw [q1] at this
  cases this
  have x := Ext.new (o := .tup [.int (i : Nat), v]) u nT
  refine ⟨_, x, T, _, rfl, .inl (.inl upd_same), ?_⟩
  rw [Nat.zero_add]
  exact RVs.cons rfl (RVs.cons ((q2.mono s).mono x.f) RVs.nil)
theorem zip_len : ∀ (xs ys : List D), (zipD xs ys).length = min xs.length ys.length
  | [], _ => by unfold zipD; simp
  | _ :: _, [] => by unfold zipD; simp
  | x :: xs, y :: ys => by unfold zipD; rw [List.length_cons, zip_len, List.length_cons, List.length_cons]; omega
theorem zip_get : ∀ (xs ys : List D) (i : Nat) (d : D), (zipD xs ys)[i]? = some d → ∃ x y, xs[i]? = some x ∧ ys[i]? = some y ∧ d = .tup [x, y]
  | [], _, i, d, h => by unfold zipD at h; simp at h
  | _ :: _, [], i, d, h => by unfold zipD at h; simp at h
  | x :: xs, y :: ys, 0, d, h => by
    unfold zipD at h
    have h : D.tup [x, y] = d := by simpa using h
    exact ⟨x, y, rfl, rfl, h.symm⟩
  | x :: xs, y :: ys, i + 1, d, h => by
    unfold zipD at h
    obtain ⟨a, b, h1, h2, h3⟩ := zip_get xs ys i d (by simpa using h)
    exact ⟨a, b, by simpa using h1, by simpa using h2, h3⟩
theorem y_zip {G : Hp} {a b : Addr} {ds es : List D} {vs us : List V} (ha : G a = some (.lst vs)) (hb : G b = some (.lst us)) (r : RVs M F ds vs) (r2 : RVs M F es us) : Yld M G F (Itz M.K a b) (zipD ds es) := by
  refine ⟨fun i F1 H1 s t u l => ⟨vs, us, SqL.of (t _ _ ha), SqL.of (t _ _ hb), by rw [zip_len] at l; rw [r.len, r2.len]; omega⟩, fun i d F1 H1 s t u e => ?_⟩
  obtain ⟨z, w, e1, e2, rfl⟩ := zip_get ds es i d e
  obtain ⟨v, q1, q2⟩ := r.get e1
  obtain ⟨v2, p1, p2⟩ := r2.get e2
  have hq : SqL M.K H1 a vs := SqL.of (t _ _ ha)
  have hp : SqL M.K H1 b us := SqL.of (t _ _ hb)
  refine ⟨⟨vs, us, v, v2, hq, hp, q1, p1⟩, fun x H2 hy => ?_⟩
  obtain ⟨T, y1, y2, rfl, nT, rfl, f1, f2⟩ := hy
  have g1 := f1 vs hq
  rw [q1] at g1
  cases g1
  have g2 := f2 us hp
  rw [p1] at g2
  cases g2
  have x := Ext.new (o := .tup [v, v2]) u nT
  exact ⟨_, x, T, _, rfl, .inl (.inl upd_same), RVs.cons ((q2.mono s).mono x.f) (RVs.cons ((p2.mono s).mono x.f) RVs.nil)⟩
theorem y_zipT {G : Hp} {a b : Addr} {ds es : List D} {vs us : List V} (ha : SqT M.K F a vs) (hb : SqT M.K F b us) (r : RVs M F ds vs) (r2 : RVs M F es us) : Yld M G F (RZ.ItzT M.K a b) (zipD ds es) := by
  refine ⟨fun i F1 H1 s t u l => ⟨vs, us, Same.sqt (s.trans u) ha, Same.sqt (s.trans u) hb, by rw [zip_len] at l; rw [r.len, r2.len]; omega⟩, fun i d F1 H1 s t u e => ?_⟩
  obtain ⟨z, w, e1, e2, rfl⟩ := zip_get ds es i d e
  obtain ⟨v, q1, q2⟩ := r.get e1
  obtain ⟨v2, p1, p2⟩ := r2.get e2
  have hq : SqT M.K H1 a vs := Same.sqt (s.trans u) ha
  have hp : SqT M.K H1 b us := Same.sqt (s.trans u) hb
  refine ⟨⟨vs, us, v, v2, hq, hp, q1, p1⟩, fun x H2 hy => ?_⟩
  obtain ⟨T, y1, y2, rfl, nT, rfl, f1, f2⟩ := hy
  have g1 := f1 vs hq
  rw [q1] at g1
  cases g1
  have g2 := f2 us hp
  rw [p1] at g2
  cases g2
  have x := Ext.new (o := .tup [v, v2]) u nT
  exact ⟨_, x, T, _, rfl, .inl (.inl upd_same), RVs.cons ((q2.mono s).mono x.f) (RVs.cons ((p2.mono s).mono x.f) RVs.nil)⟩
end Nt

set_option Elab.async false
set_option linter.all false
set_option maxRecDepth 100000
set_option maxHeartbeats 4000000
/-! What is walked, as rules; comprehensions. -/
namespace Nt
open PySem PySem.Spec PyProof.Rows L2

/-- fz: the walked list is to be seen in F (a for statement), else it need only stand in H (a comprehension) -/
def zl (fz : Bool) (p : E) : List Nat := if fz then al p else itm p (al p)
def alz (fz : Bool) : Sr → List Nat
  | .sq e => zl fz e
  | .r1 _ => [] | .r2 _ _ => [] | .r3 _ _ _ => []
  | .zp a b => zl fz a ++ zl fz b
  | .zp3 a b c => zl fz a ++ (zl fz b ++ zl fz c)
  | .en a => zl fz a
theorem alz_false (s : Sr) : alz false s = alr s := by
  cases s <;> (unfold alz alr zl; rfl)
def Rz (M : Sm) (fz : Bool) (F H : Hp) (d : D) (v : V) : Prop := if fz then RV M F d v else RS M F H d v
def Gz (fz : Bool) (F H : Hp) : Hp := if fz then F else H
theorem Rz.lst {M : Sm} {fz : Bool} {F H : Hp} {ds : List D} {v : V} (h : Rz M fz F H (.lst ds) v) : ∃ a vs, v = .ref a ∧ Gz fz F H a = some (.lst vs) ∧ RVs M F ds vs := by
  cases fz with
  | true => exact h
  | false => exact h
theorem Rz.tup {M : Sm} {fz : Bool} {F H : Hp} {ds : List D} {v : V} (h : Rz M fz F H (.tup ds) v) : ∃ a vs, v = .ref a ∧ SqT M.K F a vs ∧ RVs M F ds vs := by
  cases fz with
  | true => exact h
  | false => exact h
theorem Gz.mono {fz : Bool} {F H F' H' : Hp} (s : Same F F') (t : Same H H') : Same (Gz fz F H) (Gz fz F' H') := by
  cases fz with
  | true => exact s
  | false => exact t
theorem Gz.top {fz : Bool} {F H : Hp} (s : Same F H) : Same (Gz fz F H) H := by
  cases fz with
  | true => exact s
  | false => exact Same.refl _
def tZ (M : Sm) (W : Wd) (fz : Bool) (p : E) : TE := fun σ H Q => ∃ F env d, Same F H ∧ EnvS M F H env σ ∧ EnvF M F (zl fz p) env σ ∧ W.ev p env = some d ∧ ∀ v F' H', Ext F H F' H' → Rz M fz F' H' d v → Q v H'
def tR (M : Sm) (W : Wd) (fz : Bool) (s : Sr) : TI := fun σ H R => ∃ F env ds, Same F H ∧ EnvS M F H env σ ∧ EnvF M F (alz fz s) env σ ∧ W.evr s env = some ds ∧ ∀ J F' H', Ext F H F' H' → Yld M (Gz fz F' H') F' J ds → R J H'
abbrev DZ (W : Wd) (fz : Bool) (X : Cx) (e : Expr) (p : E) : Prop := PE X e (tZ (sm X W) W fz p)
abbrev DR (W : Wd) (fz : Bool) (X : Cx) (tg iter : Expr) (s : Sr) : Prop := PI X tg iter (tR (sm X W) W fz s)

theorem PI.imp {X : Cx} {tg e : Expr} {t t' : TI} (h : PI X tg e t) (i : ∀ σ H Q, t' σ H Q → t σ H Q) : PI X tg e t' := ⟨fun pins s σ H R I q => h.run pins s σ H R I (i σ H R q)⟩
section
variable {W : Wd} {X : Cx} {a b c e tg : Expr} {p q r : E} {pos : Pos} {fz : Bool}
theorem dz_t (h : DE W X e p) : DZ W true X e p := deP h
theorem dz_f (h : DI W X e p) : DZ W false X e p := h
/-- a list or a tuple -/
theorem pi_seq {l : Expr} {tl : TE} (hl : PE X l tl) : PI X tg l (fun σ H R => tl σ H fun x H1 => ∃ a, x = .ref a ∧ (((∃ xs, SqL X.K H1 a xs) ∧ R (Itl X.K a) H1) ∨ ((∃ xs, SqT X.K H1 a xs) ∧ R (Itt X.K a) H1))) := by
  refine ⟨fun pins s σ H R I h => ?_⟩
  refine thn (hl.run pins s σ H _ I h) fun v s1 ⟨x, H1, I1, r1, q1⟩ => ?_
  obtain ⟨a, e, q⟩ := q1
  subst e
  cases r1
  rcases q with ⟨⟨xs, hq⟩, q⟩ | ⟨⟨xs, hq⟩, q⟩
  · obtain ⟨its, rv, p, hz⟩ := I1.list hq
    refine wpAny_pyIter_list p.isList ?_
    refine ⟨s1.heap.objs.size, [s1.heap.objs.size], _, _, H1, rfl, I1.kept (t' := s1.toks) fun b o e => Heap.get?_push_of_some _ e, turn_list a _, ⟨_, Heap.get?_push_size _ rfl, rfl, rfl⟩, fun b hb => ?_, q⟩
    have e : b = s1.heap.objs.size := by simpa using hb
    subst e
    exact I1.fpOk (Nat.le_refl _) (I1.hok.fresh (Nat.le_refl _))
  · obtain ⟨its, rv, p, hz⟩ := I1.tuple hq
    refine wpAny_pyIter_tuple (show s1.heap.IsTuple a its.toArray from p) ?_
    refine ⟨s1.heap.objs.size, [s1.heap.objs.size], _, _, H1, rfl, I1.kept (t' := s1.toks) fun b o e => Heap.get?_push_of_some _ e, turn_tuple a _, ⟨_, Heap.get?_push_size _ rfl, rfl, rfl⟩, fun b hb => ?_, q⟩
    have e : b = s1.heap.objs.size := by simpa using hb
    subst e
    exact I1.fpOk (Nat.le_refl _) (I1.hok.fresh (Nat.le_refl _))
theorem evr_sq {T : Tb} {cl : Nat → List D → Option D} {p : E} {env : Env} {ds : List D} (h : evr T cl (.sq p) env = some ds) : ∃ d, ev T cl p env = some d ∧ seqD d = some ds := by
  unfold evr at h
  cases e : ev T cl p env with
  | none => rw [e] at h; cases h
  | some d => rw [e] at h; exact ⟨d, rfl, h⟩
theorem dr_sq (h : DZ W fz X e p) : DR W fz X tg e (.sq p) := PI.imp (pi_seq h) fun σ H R ⟨F, env, ds, s, hs, hf, ev, k⟩ => by
  obtain ⟨d, e1, e2⟩ := evr_sq ev
  refine ⟨F, env, d, s, hs, hf, e1, fun v F1 H1 x r => ?_⟩
  unfold seqD at e2
  split at e2
  · cases e2
    obtain ⟨a1, vs, ea, ha, hv⟩ := r.lst
    exact ⟨a1, ea, .inl ⟨⟨vs, SqL.of (Gz.top x.s _ _ ha)⟩, k _ F1 H1 x (y_list ha hv)⟩⟩
  · cases e2
    obtain ⟨a1, vs, ea, ha, hv⟩ := r.tup
    exact ⟨a1, ea, .inr ⟨⟨vs, Same.sqt x.s ha⟩, k _ F1 H1 x (y_tup ha hv)⟩⟩
  · cases e2
theorem small_of {i : Int} (h : smallI i = true) : -(2 ^ 62) ≤ i ∧ i < 2 ^ 62 := by
  unfold smallI at h
  rw [Bool.and_eq_true] at h
  exact ⟨of_decide_eq_true h.1, of_decide_eq_true h.2⟩
theorem dr_r1 {pp : Pos} (h : DB W X a p) (hg : Gl X "range" := by rfl) (hm : X.mg "range" = none) (hst : starEach [a] X.env = [(false, eval a X.env)] := by rfl) : DR W fz X tg (.Call (.Name "range" pp) [a] [] pos) (.r1 p) :=
  PI.imp (pi_range1 hg hm (pa_cons h pa_nil hst) hst) fun σ H R ⟨F, env, ds, s, hs, _, ev, k⟩ => by
    replace ev : evr W.T (run W.T W.n) (.r1 p) env = some ds := ev
    unfold evr at ev
    split at ev
    · rename_i j e1
      obtain ⟨c, rfl⟩ := ite_some ev
      obtain ⟨c1, c2⟩ := small_of c
      refine ⟨F, env, _, s, hs, e1, fun v H1 t r => ⟨j, by rw [show v = .int j from r], c1, c2, ?_⟩⟩
      have y := y_range (M := sm X W) (F := F) (G := Gz fz F H1) (lo := 0) (hi := j)
      rw [Int.sub_zero] at y
      exact k _ F H1 (Ext.grow s t) y
    · cases ev
theorem dr_r2 {pp : Pos} (h : DB W X a p) (h2 : DB W X b q) (hg : Gl X "range" := by rfl) (hm : X.mg "range" = none) (hst : starEach [a, b] X.env = [(false, eval a X.env), (false, eval b X.env)] := by rfl) (hst2 : starEach [b] X.env = [(false, eval b X.env)] := by rfl) : DR W fz X tg (.Call (.Name "range" pp) [a, b] [] pos) (.r2 p q) :=
  PI.imp (pi_range2 hg hm (pa_cons h (pa_cons h2 pa_nil hst2) (by rw [hst, hst2])) hst hst2) fun σ H R ⟨F, env, ds, s, hs, _, ev, k⟩ => by
    replace ev : evr W.T (run W.T W.n) (.r2 p q) env = some ds := ev
    unfold evr at ev
    split at ev
    · rename_i i e1
      split at ev
      · rename_i j e2
        obtain ⟨c, rfl⟩ := ite_some ev
        rw [Bool.and_eq_true] at c
        obtain ⟨c1, c2⟩ := small_of c.1
        obtain ⟨c3, c4⟩ := small_of c.2
        refine ⟨F, env, _, s, hs, e1, fun v H1 t r => ⟨F, env, _, s.trans t, hs.mono (Same.refl _) t, e2, fun w H2 t2 r2 => ⟨i, j, by rw [show v = .int i from r, show w = .int j from r2], ⟨c1, c2, c3, c4⟩, ?_⟩⟩⟩
        exact k _ F H2 (Ext.grow s (t.trans t2)) y_range
      · cases ev
    · cases ev
theorem dr_en {elts : List Expr} {kk : Nat} {tpos pp : Pos} (h : DZ W fz X a p) (hg : Gl X "enumerate" := by rfl) (hm : X.mg "enumerate" = none) (hst : starEach [a] X.env = [(false, eval a X.env)] := by rfl) : DR W fz X (.Tuple elts kk tpos) (.Call (.Name "enumerate" pp) [a] [] pos) (.en p) :=
  PI.imp (pi_enum hg hm (pa_cons h pa_nil hst) hst) fun σ H R ⟨F, env, ds, s, hs, hf, ev, k⟩ => by
    replace ev : evr W.T (run W.T W.n) (.en p) env = some ds := ev
    unfold evr at ev
    split at ev
    · rename_i xs e1
      cases ev
      refine ⟨F, env, _, s, hs, hf, e1, fun v F1 H1 x r => ?_⟩
      obtain ⟨a1, vs, ea, ha, hv⟩ := r.lst
      exact ⟨a1, vs, by rw [ea], SqL.of (Gz.top x.s _ _ ha), k _ F1 H1 x (y_enum ha hv)⟩
    · cases ev
theorem dr_zp {elts : List Expr} {kk : Nat} {tpos pp : Pos} (h : DZ W fz X a p) (h2 : DZ W fz X b q) (hg : Gl X "zip" := by rfl) (hm : X.mg "zip" = none) (hst : starEach [a, b] X.env = (false, eval a X.env) :: starEach [b] X.env := by rfl) (hst2 : starEach [b] X.env = [(false, eval b X.env)] := by rfl) :
    DR W fz X (.Tuple elts kk tpos) (.Call (.Name "zip" pp) [a, b] [] pos) (.zp p q) :=
  PI.imp (RZ.pi_zipA hg hm (pa_cons h (pa_cons h2 pa_nil hst2) hst) hst (by rw [hst2]; rfl)) fun σ H R ⟨F, env, ds, s, hs, hf, ev, k⟩ => by
    replace ev : evr W.T (run W.T W.n) (.zp p q) env = some ds := ev
    unfold evr at ev
    split at ev
    · rename_i xs e1
      split at ev
      · rename_i ys e2
        cases ev
        refine ⟨F, env, _, s, hs, hf.left, e1, fun v F1 H1 x r => ⟨F1, env, _, x.s, hs.mono x.f x.h, (EnvF.right hf).mono x.f, e2, fun w F2 H2 x2 r2 => ?_⟩⟩
        obtain ⟨a1, vs, ea, ha, hv⟩ := r.lst
        obtain ⟨b1, us, eb, hb, hu⟩ := r2.lst
        have ha2 := Gz.mono (fz := fz) x2.f x2.h _ _ ha
        exact ⟨a1, b1, vs, us, by rw [ea, eb], .inl ⟨SqL.of (Gz.top x2.s _ _ ha2), SqL.of (Gz.top x2.s _ _ hb), k _ F2 H2 (x.trans x2) (y_zip ha2 hb (hv.mono x2.f) hu)⟩⟩
      · cases ev
    · rename_i xs e1
      split at ev
      · rename_i ys e2
        cases ev
        refine ⟨F, env, _, s, hs, hf.left, e1, fun v F1 H1 x r => ⟨F1, env, _, x.s, hs.mono x.f x.h, (EnvF.right hf).mono x.f, e2, fun w F2 H2 x2 r2 => ?_⟩⟩
        obtain ⟨a1, vs, ea, ha, hv⟩ := r.tup
        obtain ⟨b1, us, eb, hb, hu⟩ := r2.tup
        have ha2 := Same.sqt x2.f ha
        exact ⟨a1, b1, vs, us, by rw [ea, eb], .inr ⟨Same.sqt x2.s ha2, Same.sqt x2.s hb, k _ F2 H2 (x.trans x2) (y_zipT ha2 hb (hv.mono x2.f) hu)⟩⟩
      · cases ev
    · cases ev

/-! ### comprehensions -/
theorem compD_cons {b : D → Env → Option Env} {c : Env → Option Bool} {e : Env → Option D} {d : D} {ds : List D} {env : Env} {out : List D} (h : compD b c e (d :: ds) env = some out) : ∃ env1, b d env = some env1 ∧
    ((c env1 = some true ∧ ∃ x r, e env1 = some x ∧ compD b c e ds env = some r ∧ out = x :: r) ∨ (c env1 = some false ∧ compD b c e ds env = some out)) := by
  unfold compD at h
  split at h
  · rename_i env1 e1
    refine ⟨env1, e1, ?_⟩
    split at h
    · rename_i e2
      split at h
      · rename_i x r e3 e4
        exact .inl ⟨e2, x, r, e3, e4, (Option.some.inj h).symm⟩
      · cases h
    · rename_i e2
      exact .inr ⟨e2, h⟩
    · cases h
  · cases h
/-- the core: te', tt' are what the element and the test ask -/
theorem comp_core {K : PySem.W.Frag} {M : Sm} (hK : M.K = K) {W : Wd} {J : It} {t : Tg} {ce : Env → Option Bool} {pe : E} {tt : TT} {te : TE} {F1 H1 : Hp} {env : Env} {σ : L2.St} {ds out : List D} {Q : VK} {F H : Hp}
    (htt : ∀ σ H Q, (∃ F env b, Same F H ∧ EnvS M F H env σ ∧ ce env = some b ∧ ∀ H', Same H H' → Q b H') → tt σ H Q) (hte : ∀ σ H Q, tP M W pe σ H Q → te σ H Q)
    (x1 : Ext F H F1 H1) (hs : EnvS M F1 H1 env σ) (hf : EnvF M F1 ((al pe).filter fun i => !(tgs t).contains i) env σ) (Y : Yld M H1 F1 J ds) (hl : ds.length ≤ LIM) (hc : compD (bindD t) ce (fun env => W.ev pe env) ds env = some out)
    (k : ∀ D F' H', Ext F H F' H' → Rtop M true H F' H' (.lst out) (.ref D) → Q (.ref D) H') :
    ∀ D, H1 D = none → ∃ Wi : Nat → Nat → Hp → Prop, (∃ m, Wi 0 m (upd H1 D (.lst []))) ∧ ∀ i m H, Wi i m H →
      (J.stop i H ∧ Q (.ref D) H) ∨ (J.go i H ∧ ∃ Nx : Hp → Prop, (∀ H', Nx H' → ∃ m', m' < m ∧ Wi (i + 1) m' H') ∧ ∀ x H', J.yld i H x H' → gT K t x (wipe σ (tgs t)) H' fun σ2 H2 => wipe σ2 (tgs t) = wipe σ (tgs t) ∧ tt σ2 H2 fun b H3 =>
        if b = true then te σ2 H3 fun y H4 => ∃ acc, H4 D = some (.lst acc) ∧ acc.length < sizeLine ∧ Nx (upd H4 D (.lst (acc ++ [y]))) else Nx H3) := by
  intro D hD
  have fD : F1 D = none := x1.s.free hD
  refine ⟨fun i m Hc => m = ds.length - i ∧ i ≤ ds.length ∧ ∃ F2 done vs rest, Same F1 F2 ∧ Same H1 Hc ∧ Same F2 Hc ∧ F2 D = none ∧ (∀ a o, F2 a = some o → F1 a = some o ∨ H1 a = none) ∧ compD (bindD t) ce (fun env => W.ev pe env) (ds.drop i) env = some rest ∧
    out = done ++ rest ∧ Hc D = some (.lst vs) ∧ RVs M F2 done vs ∧ done.length ≤ i, ⟨ds.length, by simp, Nat.zero_le _, F1, [], [], out, Same.refl _, Nt.same_new hD, ?_, fD, fun a o e => .inl e, hc, rfl, upd_same, RVs.nil, Nat.le_refl _⟩, ?_⟩
  · exact (Ext.hid x1.s hD).s
  rintro i m Hc ⟨rfl, hi, F2, done, vs, rest, s12, t1, s2, f2D, n2, hc2, rfl, hcD, hv, hdl⟩
  by_cases hlt : i < ds.length
  · refine .inr ?_
    have gd : ds[i]? = some ds[i] := List.getElem?_eq_getElem hlt
    rw [List.drop_eq_getElem_cons hlt] at hc2
    obtain ⟨env1, e1, e2⟩ := compD_cons hc2
    obtain ⟨go, yl⟩ := Y.item i _ F2 Hc s12 t1 s2 gd
    refine ⟨go, fun H' => ∃ F2 done' vs rest, Same F1 F2 ∧ Same H1 H' ∧ Same F2 H' ∧ F2 D = none ∧ (∀ a o, F2 a = some o → F1 a = some o ∨ H1 a = none) ∧ compD (bindD t) ce (fun env => W.ev pe env) (ds.drop (i + 1)) env = some rest ∧
      done ++ _ = done' ++ rest ∧ H' D = some (.lst vs) ∧ RVs M F2 done' vs ∧ done'.length ≤ i + 1, fun H' hN => ⟨ds.length - (i + 1), by omega, rfl, hlt, hN⟩, fun x H2 y => ?_⟩
    obtain ⟨F3, x3, rx⟩ := yl x H2 y
    have s13 := s12.trans x3.f
    have t13 := t1.trans x3.h
    refine EnvS.wiped hK (l := al pe) x3.s (hs.mono s13 t13) (hf.mono s13) rx e1 fun σ2 hw hs2 hf2 => ⟨hw, ?_⟩
    have n3 : ∀ a o, F3 a = some o → F1 a = some o ∨ H1 a = none := fun a o e => (x3.n a o e).elim (n2 a o) fun z => .inr (t1.free z)
    have f3D : F3 D = none := by
      cases z : F3 D with
      | none => rfl
      | some o =>
        rcases x3.n D o z with z | z
        · rw [f2D] at z; cases z
        · rw [hcD] at z; cases z
    rcases e2 with ⟨c1, x', r, c2, c3, rfl⟩ | ⟨c1, c2⟩
    · refine htt σ2 H2 _ ⟨F3, env1, true, x3.s, hs2, c1, fun H3 t3 => iteT ?_⟩
      refine hte σ2 H3 _ ⟨F3, env1, x', x3.s.trans t3, hs2.mono (Same.refl _) t3, hf2, c2, fun v F4 H4 x4 r4 => ?_⟩
      have h4D : H4 D = some (.lst vs) := x4.h _ _ (t3 _ _ (x3.h _ _ hcD))
      have f4D : F4 D = none := by
        cases z : F4 D with
        | none => rfl
        | some o =>
          rcases x4.n D o z with z | z
          · rw [f3D] at z; cases z
          · rw [t3 _ _ (x3.h _ _ hcD)] at z; cases z
      refine ⟨vs, h4D, by rw [hv.len]; exact lim_lt (by omega), F4, done ++ [x'], vs ++ [v], r, s13.trans x4.f, fun b o e => ?_, fun b o e => ?_, f4D, fun a o e => ?_, c3, by rw [List.append_assoc]; rfl, upd_same, ((hv.mono x3.f).mono x4.f).append (RVs.cons r4 RVs.nil), by rw [List.length_append]; exact Nat.succ_le_succ hdl⟩
      · rw [upd_ne (ne_of_none e hD)]
        exact x4.h _ _ (t3 _ _ (t13 _ _ e))
      · rw [upd_ne (ne_of_none e f4D)]
        exact x4.s _ _ e
      · rcases x4.n a o e with z | z
        · exact n3 a o z
        · exact .inr ((t13.trans t3).free z)
    · refine htt σ2 H2 _ ⟨F3, env1, false, x3.s, hs2, c1, fun H3 t3 => iteF ?_⟩
      exact ⟨F3, done, vs, _, s13, t13.trans t3, x3.s.trans t3, f3D, n3, c2, rfl, t3 _ _ (x3.h _ _ hcD), hv.mono x3.f, Nat.le_succ_of_le hdl⟩
  · have e : i = ds.length := by omega
    subst e
    rw [List.drop_length] at hc2
    have er : [] = rest := Option.some.inj hc2
    subst er
    rw [List.append_nil] at k
    refine .inl ⟨Y.stop _ F2 Hc s12 t1 s2 (Nat.le_refl _), k D F2 Hc ⟨x1.f.trans s12, x1.h.trans t1, s2, fun a o e => ?_⟩ (Rtop.newL (x1.h.free hD) f2D hcD hv)⟩
    rcases n2 a o e with z | z
    · exact x1.n a o z
    · exact .inr (x1.h.free z)
theorem ev_comp {T : Tb} {cl : Nat → List D → Option D} {s : Sr} {t : Tg} {p : E} {env : Env} {z : D} (h : ev T cl (.comp s t p) env = some z) : ∃ ds out, evr T cl s env = some ds ∧ ds.length ≤ LIM ∧ compD (bindD t) (fun _ => some true) (fun env => ev T cl p env) ds env = some out ∧ z = .lst out := by
  unfold ev at h
  split at h
  · rename_i ds e1
    split at h
    · rename_i c
      obtain ⟨out, e2, rfl⟩ := Option.map_eq_some_iff.mp h
      exact ⟨ds, out, e1, c, e2, rfl⟩
    · cases h
  · cases h
theorem ev_compI {T : Tb} {cl : Nat → List D → Option D} {s : Sr} {t : Tg} {c p : E} {env : Env} {z : D} (h : ev T cl (.compI s t c p) env = some z) : ∃ ds out, evr T cl s env = some ds ∧ ds.length ≤ LIM ∧ compD (bindD t) (fun env => (ev T cl c env).bind blD) (fun env => ev T cl p env) ds env = some out ∧ z = .lst out := by
  unfold ev at h
  split at h
  · rename_i ds e1
    split at h
    · rename_i c
      obtain ⟨out, e2, rfl⟩ := Option.map_eq_some_iff.mp h
      exact ⟨ds, out, e1, c, e2, rfl⟩
    · cases h
  · cases h
/-- what a comprehension asks, apart from where it stands (value or assignment) -/
theorem comp_t {tt : TT} {te : TE} {s : Sr} {t : Tg} {p : E} (htt : tt = tYes) (hte : te = tP (sm X W) W p) : ∀ σ H Q, tD (sm X W) W (.comp s t p) σ H Q → tLc (tR (sm X W) W false s) (gT X.K t) tt te (tgs t) σ H Q := fun σ H Q ⟨F, env, d, sm1, hs, hf, ev, k⟩ => by
  subst htt hte
  obtain ⟨ds, out, e1, hl, e2, rfl⟩ := ev_comp ev
  refine ⟨F, env, ds, sm1, hs, by rw [alz_false]; exact EnvF.left hf, e1, fun J F1 H1 x Y => ?_⟩
  exact comp_core (M := sm X W) rfl (ce := fun _ => some true) (pe := p) (fun σ H Q ⟨F, env, b, s, hs, eb, q⟩ => by
    have eb : true = b := Option.some.inj eb
    subst eb
    exact q H (Same.refl _)) (fun _ _ _ h => h) x (hs.mono x.f x.h) ((EnvF.right hf).mono x.f) Y hl e2 fun D F' H' x' r => k _ F' H' x' r
theorem comp_tI {tt : TT} {te : TE} {s : Sr} {t : Tg} {c p : E} (htt : tt = tT (sm X W) W c) (hte : te = tP (sm X W) W p) : ∀ σ H Q, tD (sm X W) W (.compI s t c p) σ H Q → tLc (tR (sm X W) W false s) (gT X.K t) tt te (tgs t) σ H Q := fun σ H Q ⟨F, env, d, sm1, hs, hf, ev, k⟩ => by
  subst htt hte
  obtain ⟨ds, out, e1, hl, e2, rfl⟩ := ev_compI ev
  refine ⟨F, env, ds, sm1, hs, by rw [alz_false]; exact EnvF.left hf, e1, fun J F1 H1 x Y => ?_⟩
  exact comp_core (M := sm X W) rfl (ce := fun env => (W.ev c env).bind blD) (pe := p) (fun σ H Q ⟨F, env, b, s, hs, eb, q⟩ => by
    cases ec : W.ev c env with
    | none => rw [ec] at eb; cases eb
    | some z =>
      rw [ec] at eb
      have eb : blD z = some b := eb
      unfold blD at eb
      split at eb
      · cases eb; exact ⟨F, env, _, s, hs, ec, q⟩
      · cases eb) (fun _ _ _ h => h) x (hs.mono x.f x.h) ((EnvF.right hf).mono x.f) Y hl e2 fun D F' H' x' r => k _ F' H' x' r
theorem de_comp {elt iter : Expr} {scope : Scope} {own : List (Str × Nat)} {s : Sr} {t : Tg} {p : E} (hc : X.calm = true) (hN : X.N.Nodup) (hi : DR W false X tg iter s) (ok : BlkOk X.N X.env.scope scope own) (ho : own.map (·.2) = tgs t)
    (hg : ∀ (s : Shared) (H : Hp) (C : Addr) (cl : List (Str × Addr)) (fp : List Addr), PG (X.blk s H scope (compEnvC scope cl C X.env) fp) tg (gT X.K t)) 
    (he : ∀ (s : Shared) (H : Hp) (C : Addr) (cl : List (Str × Addr)) (fp : List Addr), DE W (X.blk s H scope (compEnvC scope cl C X.env) fp) elt p) (hs : ∀ x, foldedSetIterable iter X.env x = pure x := by intro _; rfl) :
    DE W X (.ListComp elt [⟨tg, iter, [], 0⟩] scope pos) (.comp s t p) := PE.imp (pe_lc hc hN hi ok hg (fun _ _ _ _ _ => pts_nil) (fun s H C cl fp => deP (he s H C cl fp)) hs) fun σ H Q h => by
  rw [ho]
  exact comp_t rfl rfl σ H Q h
theorem de_compI {elt iter ic : Expr} {scope : Scope} {own : List (Str × Nat)} {s : Sr} {t : Tg} {c p : E} (hc : X.calm = true) (hN : X.N.Nodup) (hi : DR W false X tg iter s) (ok : BlkOk X.N X.env.scope scope own) (ho : own.map (·.2) = tgs t)
    (hg : ∀ (s : Shared) (H : Hp) (C : Addr) (cl : List (Str × Addr)) (fp : List Addr), PG (X.blk s H scope (compEnvC scope cl C X.env) fp) tg (gT X.K t)) 
    (ht : ∀ (s : Shared) (H : Hp) (C : Addr) (cl : List (Str × Addr)) (fp : List Addr), DT W (X.blk s H scope (compEnvC scope cl C X.env) fp) ic c)
    (he : ∀ (s : Shared) (H : Hp) (C : Addr) (cl : List (Str × Addr)) (fp : List Addr), DE W (X.blk s H scope (compEnvC scope cl C X.env) fp) elt p) (hs : ∀ x, foldedSetIterable iter X.env x = pure x := by intro _; rfl) :
    DE W X (.ListComp elt [⟨tg, iter, [ic], 0⟩] scope pos) (.compI s t c p) := PE.imp (pe_lc hc hN hi ok hg (fun s H C cl fp => pts_one (ht s H C cl fp)) (fun s H C cl fp => deP (he s H C cl fp)) hs) fun σ H Q h => by
  rw [ho]
  exact comp_tI rfl rfl σ H Q h
end
end Nt

set_option Elab.async false
set_option linter.all false
set_option maxRecDepth 100000
set_option maxHeartbeats 4000000
/-! Calls of own defs, methods, classes; isinstance; fields. -/
namespace Nt
open PySem PySem.Spec PyProof.Rows L2

/-- what def number k promises with n calls allowed -/
def spD (M : Sm) (T : Tb) (n k : Nat) : Sp := fun vs H Q _ => ∃ fn F ds d, T.fns[k]? = some fn ∧ ds.length = fn.np ∧ Same F H ∧ RVs M F ds vs ∧ run T n k ds = some d ∧ ∀ v F' H', Ext F H F' H' → Rtop M fn.fr H F' H' d v → Q v H'
/-- def number k stands at f -/
structure FnAt (W : Wd) (P : Program) (w : World) (K : PySem.W.Frag) (mg : Str → Option Value) (base : Heap) (n k : Nat) (f : Addr) : Prop where
  ex : ∃ fd ps, PySem.W.keepIn K (.ref f) = true ∧ Binds K fd ps [] ∧ FnOk P w K mg base CX0 n f fd ps (spD ⟨K, W.ca, W.T.cn⟩ W.T n k)
abbrev FnX (W : Wd) (X : Cx) (k : Nat) (f : Addr) : Prop := FnAt W X.prog X.w X.K X.mg X.base W.n k f

theorem run_fn_some {T : Tb} {n k : Nat} {ds : List D} {d : D} (h : run T n k ds = some d) : ∃ fn, T.fns[k]? = some fn ∧ ds.length = fn.np := by
  cases n with
  | zero => cases h
  | succ n =>
    unfold run at h
    split at h
    · rename_i f e
      split at h
      · rename_i c
        exact ⟨f, e, c⟩
      · cases h
    · cases h
theorem run_pos {T : Tb} {n k : Nat} {ds : List D} {d : D} (h : run T n k ds = some d) : 0 < n := by
  cases n with
  | zero => cases h
  | succ n => exact Nat.succ_pos _

section
variable {W : Wd} {X : Cx} {a b c e o : Expr} {p q r : E} {pos : Pos} {es : List Expr} {ps : Es}
theorem ev_call {T : Tb} {cl : Nat → List D → Option D} {k : Nat} {ps : Es} {env : Env} {z : D} (h : ev T cl (.call k ps) env = some z) : ∃ ds, evs T cl ps env = some ds ∧ cl k ds = some z := by
  unfold ev at h
  split at h
  · rename_i ds e1
    exact ⟨ds, e1, h⟩
  · cases h
theorem de_call {x : Str} {pp : Pos} {k : Nat} {f : Addr} (g : Gd W X) (F : FnX W X k f) (hm : X.mg x = some (.ref f)) (ha : DA W X (e :: es) ps) (hg : Gl X x := by rfl) (hdb : (x == ("__debug__" : Str)) = false := by decide)
    (he : starEach (e :: es) X.env = (false, eval e X.env) :: starEach es X.env := by rfl) (hpl : (backTo pos (starEach es X.env)).any (·.1) = false := by rfl) : DE W X (.Call (.Name x pp) (e :: es) [] pos) (.call k ps) := by
  obtain ⟨fd, pr, kp, hb, ok⟩ := F.ex
  refine PE.imp (pe_call ok g.room hg hm kp hb .nil pass0 ha hdb he hpl) fun σ H Q ⟨F, env, d, s, hs, hf, ev, k'⟩ => ?_
  obtain ⟨ds, e1, e2⟩ := ev_call ev
  refine ⟨F, env, ds, s, hs, hf, e1, fun vs F1 H1 x r => ?_⟩
  obtain ⟨fn, hfn, hl⟩ := run_fn_some e2
  refine ⟨fn, F1, ds, d, hfn, hl, x.s, by rw [List.append_nil]; exact r, e2, fun v F2 H2 x2 r2 => ?_⟩
  refine k' v F2 H2 (x.trans x2) ?_
  have et : top W.T (.call k ps) = fn.fr := by
    unfold top
    rw [hfn]
  rw [et]
  exact r2.before x.h
theorem de_call0 {x : Str} {pp : Pos} {k : Nat} {f : Addr} (g : Gd W X) (F : FnX W X k f) (hm : X.mg x = some (.ref f)) (hg : Gl X x := by rfl) (hdb : (x == ("__debug__" : Str)) = false := by decide) : DE W X (.Call (.Name x pp) [] [] pos) (.call k .nil) := by
  obtain ⟨fd, pr, kp, hb, ok⟩ := F.ex
  refine PE.imp (pe_call0 ok g.room hg hm kp hb .nil pass0 hdb) fun σ H Q ⟨F, env, d, s, hs, hf, ev, k'⟩ => ?_
  obtain ⟨ds, e1, e2⟩ := ev_call ev
  obtain rfl : [] = ds := Option.some.inj e1
  obtain ⟨fn, hfn, hl⟩ := run_fn_some e2
  refine ⟨fn, F, [], d, hfn, hl, s, RVs.nil, e2, fun v F2 H2 x2 r2 => ?_⟩
  refine k' v F2 H2 x2 ?_
  have et : top W.T (.call k .nil) = fn.fr := by
    unfold top
    rw [hfn]
  rw [et]
  exact r2

/-! ### isinstance -/
/-- what a class of ours must have to be asked by isinstance, and its fields -/
structure ClOk (K : PySem.W.Frag) (C : Addr) : Prop where
  cls : Cls K C
  ca : PySem.W.findIn K (.ref C) "__class__" = some (some (.builtin "object.__class__"))
  cg : PySem.W.specialIn K (.builtin "object.__class__") "__get__" = some (some (.builtin "getset_descriptor.__get__"))
  ct : PySem.W.takesIn K (.builtin "object.__class__") = some true
  cm : PySem.W.mroIn K C (.type "object") = some true
theorem ty_tup {K : PySem.W.Frag} {H : Hp} {a : Addr} {vs : List V} (h : SqT K H a vs) : TyX K H (.ref a) (.type "tuple") := by
  rcases h with (h | ⟨o, h⟩) | ⟨o, its, n, h1, h2, _⟩
  · exact .base (.tup h)
  · exact .fTuple h
  · exact .kTuple h1 h2
def tyN : Ty → String
  | .int => "int" | .bool => "bool" | .str => "str" | .tup => "tuple" | .lst => "list" | .cls _ => ""
theorem isT_ok {sub : Nat → Nat → Option Bool} {M : Sm} {t : Ty} {d : D} {b : Bool} {H : Hp} {v : V} (ht : ∀ c, t ≠ .cls c) (h : isT sub t d = some b) (r : RV M H d v) : ∃ ty, TyX M.K H v (.type ty) ∧ kitB ty (tyN t) = some b := by
  cases d with
  | non =>
    rw [show v = .non from r]
    refine ⟨"NoneType", .base .non, ?_⟩
    cases t with
    | cls c => exact absurd rfl (ht c)
    | _ => cases h; decide +kernel
  | bl x =>
    rw [show v = .bl x from r]
    refine ⟨"bool", .base (.bl x), ?_⟩
    cases t with
    | cls c => exact absurd rfl (ht c)
    | _ => cases h; decide +kernel
  | int x =>
    rw [show v = .int x from r]
    refine ⟨"int", .base (.int x), ?_⟩
    cases t with
    | cls c => exact absurd rfl (ht c)
    | _ => cases h; decide +kernel
  | str x =>
    rw [show v = .str x from r]
    refine ⟨"str", .base (.str x), ?_⟩
    cases t with
    | cls c => exact absurd rfl (ht c)
    | _ => cases h; decide +kernel
  | tup ds =>
    obtain ⟨a, vs, e, h1, _⟩ := r
    rw [e]
    refine ⟨"tuple", ty_tup h1, ?_⟩
    cases t with
    | cls c => exact absurd rfl (ht c)
    | _ => cases h; decide +kernel
  | lst ds =>
    obtain ⟨a, vs, e, h1, _⟩ := r
    rw [e]
    refine ⟨"list", .base (.lst h1), ?_⟩
    cases t with
    | cls c => exact absurd rfl (ht c)
    | _ => cases h; decide +kernel
  | frl ns =>
    cases t with
    | cls c => exact absurd rfl (ht c)
    | _ => cases h
  | ins c ds =>
    cases t with
    | cls c => exact absurd rfl (ht c)
    | _ => cases h
  | fn k =>
    cases t with
    | cls c => exact absurd rfl (ht c)
    | _ => cases h
  | lam l =>
    cases t with
    | cls c => exact absurd rfl (ht c)
    | _ => cases h
  | emp =>
    obtain ⟨a, e, h1⟩ := r
    rw [e]
    refine ⟨"dict", .base (.dK h1), ?_⟩
    cases t with
    | cls c => exact absurd rfl (ht c)
    | _ => cases h; decide +kernel
theorem de_isi {t : Ty} {tn : String} {x : Str} {pp p2 : Pos} (h : DB W X a p) (hx : bootBuiltins x = some (.type tn)) (htn : tyN t = tn := by rfl) (ht : ∀ c, t ≠ .cls c := by exact fun c z => nomatch z) (hg : Gl X "isinstance" := by rfl) (hm : X.mg "isinstance" = none) (hg2 : Gl X x := by rfl) (hm2 : X.mg x = none)
    (hn : x ≠ "__name__" := by decide) (hd : (x == ("__debug__" : Str)) = false := by decide) (hst : starEach [a, .Name x p2] X.env = (false, eval a X.env) :: starEach [.Name x p2] X.env := by rfl) : DE W X (.Call (.Name "isinstance" pp) [a, .Name x p2] [] pos) (.o1 (.ist t) p) :=
  PE.imp (pe_callB call_isi hg hm PyProof.Rows.boot_isinstance (pa_cons h (pa_cons (pe_bltn (v := .ty tn) hg2 hm2 hx rfl hn hd) pa_nil rfl) hst) (by decide) (by decide) hst rfl) fun σ H Q ⟨F, env, d, s, hs, _, ev, k⟩ => by
    obtain ⟨d1, e1, e2⟩ := ev_o1 ev
    replace e2 : (isT W.T.sub t d1).map .bl = some d := e2
    obtain ⟨b, e3, rfl⟩ := Option.map_eq_some_iff.mp e2
    refine ⟨F, env, d1, s, hs, e1, fun v H1 tt r1 => ?_⟩
    obtain ⟨ty, q1, q2⟩ := isT_ok ht e3 r1
    rw [htn] at q2
    exact ⟨v, .ty tn, .type ty, .type tn, b, rfl, .ty tn, q1, kit_ty q2, k _ F H1 (Ext.grow s tt) (scl_top rfl)⟩
theorem de_isc {c : Nat} {x : Str} {pp p2 : Pos} (h : DB W X a p) (hsub : ∀ c' b, W.T.sub c' c = some b → ClOk X.K (W.ca c') ∧ PySem.W.kitOne X.K (.ref (W.ca c')) (.ref (W.ca c)) = some b) (hm2 : X.mg x = some (.ref (W.ca c))) (hg : Gl X "isinstance" := by rfl) (hm : X.mg "isinstance" = none) (hg2 : Gl X x := by rfl) 
    (hd : (x == ("__debug__" : Str)) = false := by decide) (hst : starEach [a, .Name x p2] X.env = (false, eval a X.env) :: starEach [.Name x p2] X.env := by rfl) : DE W X (.Call (.Name "isinstance" pp) [a, .Name x p2] [] pos) (.o1 (.ist (.cls c)) p) :=
  PE.imp (pe_callB call_isi hg hm PyProof.Rows.boot_isinstance (pa_cons h (pa_cons (pe_glob (v := .ref (W.ca c)) hg2 hm2 rfl hd) pa_nil rfl) hst) (by decide) (by decide) hst rfl) fun σ H Q ⟨F, env, d, s, hs, _, ev, k⟩ => by
    obtain ⟨d1, e1, e2⟩ := ev_o1 ev
    replace e2 : (isT W.T.sub (.cls c) d1).map .bl = some d := e2
    obtain ⟨b, e3, rfl⟩ := Option.map_eq_some_iff.mp e2
    refine ⟨F, env, d1, s, hs, e1, fun v H1 tt r1 => ?_⟩
    cases d1 with
    | ins c' ds =>
      obtain ⟨q1, q2⟩ := hsub c' b e3
      obtain ⟨a1, dx, fs, ea, ha, _, _⟩ := r1
      exact ⟨v, .ref (W.ca c), .ref (W.ca c'), .ref (W.ca c), b, rfl, .own _, by rw [ea]; exact .base (.ins ha q1.cls q1.ca q1.cg q1.ct q1.cm), q2, k _ F H1 (Ext.grow s tt) (scl_top rfl)⟩
    | _ => cases e3
/-! ### fields -/
theorem ev_fld {T : Tb} {cl : Nat → List D → Option D} {p : E} {f : Str} {env : Env} {z : D} (h : ev T cl (.fld p f) env = some z) : ∃ c fs, ev T cl p env = some (.ins c fs) ∧ ((T.cn c).zip fs).lookup f = some z := by
  unfold ev at h
  split at h
  · rename_i c fs e1
    exact ⟨c, fs, e1, h⟩
  · cases h
theorem ro_plain {M : Sm} {F H : Hp} {p : Addr} {c : Nat} {x : D} {v : V} (h : ∀ ds, x ≠ .lst ds) (r : RO M F H p (.ins c [x]) v) : RV M F (.ins c [x]) v := by
  unfold RO at r
  split at r
  · rename_i e; cases e
  · rename_i e
    cases e
    exact absurd rfl (h _)
  · exact r
theorem fld_look {M : Sm} {F : Hp} {f : Str} {d : D} : ∀ {ns : List Str} {ds : List D} {fs : List (Str × V)}, fs.map (·.1) = ns → RVs M F ds (fs.map (·.2)) → (ns.zip ds).lookup f = some d → f ∈ ns ∧ ∃ v, fs.lookup f = some v ∧ RV M F d v
  | [], _, _, _, _, h => by simp at h
  | n :: ns, [], _, _, _, h => by simp at h
  | n :: ns, d0 :: ds, fs, h1, h2, h => by
    cases fs with
    | nil => cases h1
    | cons p fs =>
      obtain ⟨pn, pv⟩ := p
      rw [List.map_cons] at h1
      injection h1 with e1 e2
      have e1 : pn = n := e1
      subst e1
      obtain ⟨v, r, e3, h3, h4⟩ := h2
      rw [List.map_cons] at e3
      injection e3 with e4 e5
      rw [List.zip_cons_cons, List.lookup_cons] at h
      by_cases q : (f == pn) = true
      · rw [q] at h
        cases h
        have qe : f = pn := by simpa using q
        refine ⟨by rw [qe]; exact List.mem_cons_self .., pv, ?_, by rw [show pv = v from e4]; exact h3⟩
        rw [List.lookup_cons, q]
      · have q : (f == pn) = false := by simpa using q
        rw [q] at h
        obtain ⟨m, v', z1, z2⟩ := fld_look e2 (by rw [e5]; exact h4) h
        refine ⟨List.mem_cons_of_mem _ m, v', ?_, z2⟩
        rw [List.lookup_cons, q]
        exact z1
theorem de_fld {f : Str} (h : DE W X o p) (hc : ∀ c, f ∈ W.T.cn c → Cls X.K (W.ca c) ∧ NoAttr X.K (W.ca c) f) (hb : attributeBase o f X.env (eval o X.env) = eval o X.env := by rfl) : DE W X (.Attribute o f pos) (.fld p f) :=
  PE.imp (pe_fld (deP h) hb) fun σ H Q ⟨F, env, d, s, hs, hf, ev, k⟩ => by
    obtain ⟨c, fs, e1, e2⟩ := ev_fld ev
    refine ⟨F, env, _, s, hs, hf, e1, fun v F1 H1 x r => ?_⟩
    obtain ⟨a1, dx, gs, ea, ha, hn, hv⟩ := r
    obtain ⟨m, u, q1, q2⟩ := fld_look hn hv e2
    obtain ⟨c1, c2⟩ := hc c m
    exact ⟨a1, W.ca c, dx, gs, u, ea, x.s _ _ ha, c1, c2, q1, k u F1 H1 x (.inl q2)⟩
/-- the one field of a new instance -/
theorem de_fldN {f : Str} (h : DE W X o p) (ht : top W.T p = true) (hc : ∀ c, f ∈ W.T.cn c → Cls X.K (W.ca c) ∧ NoAttr X.K (W.ca c) f) (hb : attributeBase o f X.env (eval o X.env) = eval o X.env := by rfl) : DE W X (.Attribute o f pos) (.fldN p f) :=
  PE.imp (pe_fld h hb) fun σ H Q ⟨F, env, d, s, hs, hf, ev, k⟩ => by
    replace ev : Nt.ev W.T (run W.T W.n) (.fldN p f) env = some d := ev
    unfold Nt.ev at ev
    split at ev
    · rename_i c x e1
      obtain ⟨⟨cn, hx⟩, rfl⟩ := ite_some ev
      obtain ⟨c1, c2⟩ := hc c (by rw [cn]; exact List.mem_singleton_self _)
      refine ⟨F, env, _, s, hs, hf, e1, fun v F1 H1 x1 r => ?_⟩
      rw [ht] at r
      have plain : ∀ {d : D}, notL d = true → RV (sm X W) F1 (.ins c [d]) v → ∃ a C dx fs u, v = .ref a ∧ H1 a = some (.ins C dx fs) ∧ Cls X.K C ∧ NoAttr X.K C f ∧ fs.lookup f = some u ∧ RV (sm X W) F1 d u := fun {d} nd rv => by
        obtain ⟨a1, dx, gs, ea, ha, hn, hv⟩ := rv
        have hn : gs.map (·.1) = [f] := hn.trans cn
        match gs, hn, hv with
        | [(f', u)], hn, hv =>
          have e2 : f' = f := by injection hn
          subst e2
          obtain ⟨w, r', e3, h3, _⟩ := hv
          injection e3 with e4 _
          exact ⟨a1, W.ca c, dx, _, u, ea, x1.s _ _ ha, c1, c2, by simp [List.lookup], by rw [show u = w from e4]; exact h3⟩
      by_cases ho : ownL x = true
      · cases x with
        | lst ds =>
          rcases r with ⟨pp, h1, h2, ro⟩ | ⟨_, z, _⟩
          · obtain ⟨a1, dx, f', ea, ha, hn, vs, hq, hv⟩ := ro
            have hn : [f'] = [f] := hn.trans cn
            have e2 : f' = f := by injection hn
            subst e2
            exact ⟨a1, W.ca c, dx, _, .ref pp, ea, x1.s _ _ ha, c1, c2, by simp [List.lookup], k _ F1 H1 x1 (.inl ⟨pp, h1, h2, rfl, vs, hq, hv⟩)⟩
          · cases z
        | _ => cases ho
      · have nd : notL x = true := by
          cases q : notL x with
          | true => rfl
          | false => rw [q] at hx; simp at hx; exact absurd hx ho
        have rv : RV (sm X W) F1 (.ins c [x]) v := by
          rcases r with ⟨pp, _, _, ro⟩ | ⟨_, _, rv⟩
          · refine ro_plain (fun ds e => ?_) ro
            rw [e] at nd
            cases nd
          · exact rv
        obtain ⟨a, C, dx, fs, u, e1, e2, e3, e4, e5, e6⟩ := plain nd rv
        exact ⟨a, C, dx, fs, u, e1, e2, e3, e4, e5, k u F1 H1 x1 (Rtop.of e6 nd)⟩
    · cases ev
/-! ### o.shows(..) -/
theorem ev_shows {T : Tb} {cl : Nat → List D → Option D} {p : E} {ps : Es} {env : Env} {z : D} (h : ev T cl (.shows p ps) env = some z) : ∃ c fs ds k, ev T cl p env = some (.ins c fs) ∧ evs T cl ps env = some ds ∧ T.sh c = some k ∧ cl k (.ins c fs :: ds) = some z := by
  unfold ev at h
  split at h
  · rename_i c fs e1
    split at h
    · rename_i ds e2
      split at h
      · rename_i k e3
        exact ⟨c, fs, ds, k, e1, e2, e3, h⟩
      · cases h
    · cases h
  · cases h
theorem lookup_none {α : Type} {f : Str} : ∀ {fs : List (Str × α)}, f ∉ fs.map (·.1) → fs.lookup f = none
  | [], _ => rfl
  | (n, v) :: fs, h => by
    rw [List.map_cons, List.mem_cons, not_or] at h
    rw [List.lookup_cons, show (f == n) = false by simpa using h.1]
    exact lookup_none h.2
theorem de_shows {m : Str} {apos : Pos} {pl : Sem Bool} (g : Gd W X) (h : DE W X o p) (hc : ∀ c k, W.T.sh c = some k → m ∉ W.T.cn c ∧ ∃ f, Cls X.K (W.ca c) ∧ Meth X.K (W.ca c) m f ∧ FnX W X k f) (ha : DA W X (e :: es) ps)
    (hst : starEach (e :: es) X.env = (false, eval e X.env) :: starEach es X.env := by rfl) (hpl : (backTo pos (starEach es X.env)).any (·.1) = false := by rfl)
    (ht : eval (.Call (.Attribute o m apos) (e :: es) [] pos) X.env = (do
      let ov ← eval o X.env
      standAt apos.atName
      let (f, first) ← holding [ov] (getMethod ov m pl)
      callWith pos f first (backTo pos (starEach (e :: es) X.env)) (backToKw pos (keywordEach [] X.env))) := by rfl) : DE W X (.Call (.Attribute o m apos) (e :: es) [] pos) (.shows p ps) := by
  refine ⟨fun pins s σ H Q I ⟨F, env, d, sm1, hs, hf, ev, k'⟩ => ?_⟩
  obtain ⟨c, fs, ds, k, e1, e2, e3, e4⟩ := ev_shows ev
  obtain ⟨hmn, f, hcl, hmt, hfx⟩ := hc c k e3
  obtain ⟨fd, pr, kp, hb, ok⟩ := hfx.ex
  refine PySem.W.methodCall_KW (pl := pl) (thn ((deP h).run pins s σ H _ I ⟨F, env, _, sm1, hs, EnvF.left hf, e1, fun v F1 H1 x r => (show v = v ∧ ∃ F1, Ext F H F1 H1 ∧ RV (sm X W) F1 (.ins c fs) v from ⟨rfl, F1, x, r⟩)⟩) fun u s1 ⟨x, H1, I1, rx, _, F1, x1, r1⟩ => ?_) ht
  have r1' := r1
  obtain ⟨a1, dx, gs, ea, hga, hn, hv⟩ := r1
  subst ea
  obtain rfl : u = Value.ref a1 := rx
  refine getmeth_ok I1 (x1.s _ _ hga) hcl hmt (lookup_none (by rw [hn]; exact hmn)) ?_
  refine PySem.W.callWith_K (first := [.ref a1]) (h₀ := X.base) I.ok.mod.kin hmt.kp (thn (ha.run pos pins s1 σ H1 _ I1 ⟨F1, env, ds, x1.s, hs.mono x1.f x1.h, (EnvF.right hf).mono x1.f, e2, fun vs F2 H2 x2 r2 => (show vs = vs ∧ ∃ F2, Ext F1 H1 F2 H2 ∧ RVs (sm X W) F2 ds vs from ⟨rfl, F2, x2, r2⟩)⟩) fun us s2 ⟨vs, H2, I2, rv, _, F2, x2, r2⟩ => ⟨I2.kIn, ?_⟩) hst hpl
  obtain ⟨fn, hfn, hl⟩ := run_fn_some e4
  refine run_fn (us := .ref a1 :: us) (vs := .ref a1 :: vs) ok g.room hb .nil pass0 I2 (.cons rfl rv) ?_
  refine ⟨fn, F2, _, d, hfn, hl, x2.s, ?_, e4, fun v F3 H3 x3 r3 => ?_⟩
  · rw [List.append_nil]
    exact RVs.cons (r1'.mono x2.f) r2
  · obtain ⟨F4, x4, _, r4⟩ := r3.plain x3
    exact k' v F4 H3 ((x1.trans x2).trans x4) (.inl r4)
end
end Nt

set_option Elab.async false
set_option linter.all false
set_option maxRecDepth 100000
set_option maxHeartbeats 4000000
/-! Statements; a def by its body. -/
namespace Nt
open PySem PySem.Spec PyProof.Rows L2

theorem ro_ownb {M : Sm} {F H : Hp} {p : Addr} {d : D} {v : V} (h : ownb d = false) (r : RO M F H p d v) : RV M F d v := by
  unfold RO at r
  split at r
  · cases h
  · cases h
  · exact r
theorem ro_there {M : Sm} {F H : Hp} {p : Addr} {d : D} {v : V} (h : ownb d = true) (r : RO M F H p d v) : H p ≠ none := by
  unfold RO at r
  split at r
  · obtain ⟨_, vs, q, _⟩ := r
    rw [q]
    exact fun z => by cases z
  · obtain ⟨_, _, _, _, _, _, vs, q, _⟩ := r
    rw [q]
    exact fun z => by cases z
  · rename_i h1 h2
    unfold ownb at h
    split at h
    · exact absurd rfl (h1 _)
    · exact absurd rfl (h2 _ _)
    · cases h

/-- the state within a def: B what stays seen, F what is seen, F0 H0 the entry, O where the own slots' lists stand -/
structure SJ (M : Sm) (B F0 H0 : Hp) (O : Nat → Option Addr) (F : Hp) (own : List Nat) (env : Env) (σ : L2.St) (H : Hp) : Prop where
  b : Same B F
  x : Ext F0 H0 F H
  ad : ∀ j ∈ own, ∀ p, O j = some p → F p = none ∧ H0 p = none ∧ H p ≠ none
  inj : ∀ i ∈ own, ∀ j ∈ own, i ≠ j → ∀ p, O i = some p → O j ≠ some p
  len : env.length ≤ σ.length
  non : ∀ i d, gt env i = some d → i ∉ own → ∃ v, σ[i]? = some (some v) ∧ RV M F d v
  own : ∀ i d, gt env i = some d → i ∈ own → ∃ v, σ[i]? = some (some v) ∧ match O i with
    | some p => RO M F H p d v
    | none => ownb d = false ∧ RV M F d v

section
variable {M : Sm} {B F0 H0 F H : Hp} {O : Nat → Option Addr} {own own' : List Nat} {env : Env} {σ : L2.St}
theorem SJ.envS (j : SJ M B F0 H0 O F own env σ H) : EnvS M F H env σ := ⟨j.len, fun i d e => by
  by_cases m : i ∈ own
  · obtain ⟨v, h1, h2⟩ := j.own i d e m
    refine ⟨v, h1, ?_⟩
    split at h2
    · exact h2.rs j.x.s
    · exact h2.2.rs j.x.s
  · obtain ⟨v, h1, h2⟩ := j.non i d e m
    exact ⟨v, h1, h2.rs j.x.s⟩⟩
theorem SJ.envF (j : SJ M B F0 H0 O F own env σ H) {l : List Nat} (h : ∀ i ∈ l, i ∉ own) : EnvF M F l env σ := fun i m d e => j.non i d e (h i m)
theorem SJ.grow {F1 H1 : Hp} (j : SJ M B F0 H0 O F own env σ H) (x : Ext F H F1 H1) : SJ M B F0 H0 O F1 own env σ H1 where
  b := j.b.trans x.f
  x := j.x.trans x
  ad := fun k m p e => by
    obtain ⟨a, b, c⟩ := j.ad k m p e
    refine ⟨?_, b, fun z => c (x.h.free z)⟩
    cases q : F1 p with
    | none => rfl
    | some o =>
      rcases x.n p o q with z | z
      · rw [a] at z; cases z
      · exact absurd z c
  inj := j.inj
  len := j.len
  non := fun i d e m => let ⟨v, h1, h2⟩ := j.non i d e m; ⟨v, h1, h2.mono x.f⟩
  own := fun i d e m => by
    obtain ⟨v, h1, h2⟩ := j.own i d e m
    refine ⟨v, h1, ?_⟩
    split at h2
    · exact h2.mono x.f x.h
    · exact ⟨h2.1, h2.2.mono x.f⟩
/-- some own slots are own no more: their lists are seen -/
theorem SJ.free (j : SJ M B F0 H0 O F own env σ H) (sub : ∀ i ∈ own', i ∈ own) : ∃ F1, Same F F1 ∧ SJ M B F0 H0 O F1 own' env σ H := by
  classical
  let F1 : Hp := fun a => if ∃ i ∈ own, i ∉ own' ∧ O i = some a then H a else F a
  have s1 : Same F F1 := fun a o e => by
    show (if _ then _ else _) = _
    rw [if_neg]
    · exact e
    · rintro ⟨i, m, _, q⟩
      rw [(j.ad i m a q).1] at e
      cases e
  have sH : Same F1 H := fun a o e => by
    have e : (if ∃ i ∈ own, i ∉ own' ∧ O i = some a then H a else F a) = some o := e
    by_cases c : ∃ i ∈ own, i ∉ own' ∧ O i = some a
    · rw [if_pos c] at e; exact e
    · rw [if_neg c] at e; exact j.x.s _ _ e
  refine ⟨F1, s1, ⟨j.b.trans s1, ⟨j.x.f.trans s1, j.x.h, sH, fun a o e => ?_⟩, fun k m p e => ?_, fun i m k m' => j.inj i (sub i m) k (sub k m'), j.len, fun i d e m => ?_, fun i d e m => ?_⟩⟩
  · have e : (if ∃ i ∈ own, i ∉ own' ∧ O i = some a then H a else F a) = some o := e
    by_cases c : ∃ i ∈ own, i ∉ own' ∧ O i = some a
    · obtain ⟨i, m, _, q⟩ := c
      exact .inr (j.ad i m a q).2.1
    · rw [if_neg c] at e; exact j.x.n a o e
  · obtain ⟨a, b, c⟩ := j.ad k (sub k m) p e
    refine ⟨?_, b, c⟩
    show (if _ then _ else _) = _
    rw [if_neg]
    · exact a
    · rintro ⟨i, mi, ni, q⟩
      exact j.inj i mi k (sub k m) (fun z => ni (by rw [z]; exact m)) p q e
  · by_cases mo : i ∈ own
    · obtain ⟨v, h1, h2⟩ := j.own i d e mo
      refine ⟨v, h1, ?_⟩
      split at h2
      · rename_i p q
        refine h2.seen s1 fun o e => ?_
        show (if _ then _ else _) = _
        rw [if_pos ⟨i, mo, m, q⟩]
        exact e
      · exact h2.2.mono s1
    · obtain ⟨v, h1, h2⟩ := j.non i d e mo
      exact ⟨v, h1, h2.mono s1⟩
  · obtain ⟨v, h1, h2⟩ := j.own i d e (sub i m)
    refine ⟨v, h1, ?_⟩
    split at h2
    · exact h2.mono s1 (Same.refl _)
    · exact ⟨h2.1, h2.2.mono s1⟩
/-- a slot is stored, its value seen -/
theorem SJ.put {i : Nat} {d : D} {v : V} (j : SJ M B F0 H0 O F own env σ H) (r : RV M F d v) (hi : i ∉ own) : SJ M B F0 H0 O F own (env.set i (some d)) (σ.set i (some v)) H where
  b := j.b
  x := j.x
  ad := j.ad
  inj := j.inj
  len := by simpa using j.len
  non := fun k d' e m => by
    rcases gt_set e with ⟨rfl, rfl, l⟩ | ⟨n, e⟩
    · exact ⟨v, List.getElem?_set_self (Nat.lt_of_lt_of_le l j.len), r⟩
    · obtain ⟨u, a, b⟩ := j.non k d' e m
      exact ⟨u, by rw [List.getElem?_set_ne (Ne.symm n)]; exact a, b⟩
  own := fun k d' e m => by
    rcases gt_set e with ⟨rfl, rfl, l⟩ | ⟨n, e⟩
    · exact absurd m hi
    · obtain ⟨u, a, b⟩ := j.own k d' e m
      exact ⟨u, by rw [List.getElem?_set_ne (Ne.symm n)]; exact a, b⟩
/-- a slot forgotten -/
theorem gt_setN {env : Env} {i k : Nat} {d : D} (h : gt (env.set i none) k = some d) : k ≠ i ∧ gt env k = some d := by
  unfold gt at h ⊢
  by_cases e : k = i
  · subst e
    by_cases l : k < env.length
    · rw [List.getElem?_set_self l] at h; cases h
    · rw [List.getElem?_eq_none (by simpa using l)] at h; cases h
  · rw [List.getElem?_set_ne (Ne.symm e)] at h
    exact ⟨e, h⟩
/-- what an own slot's value is -/
def OwnV (M : Sm) (F H : Hp) (o : Option Addr) (d : D) (v : V) : Prop := match o with
  | some p => RO M F H p d v
  | none => ownb d = false ∧ RV M F d v
/-- a slot is stored, its value its own -/
theorem SJ.putO {i : Nat} {d : D} {v : V} {o : Option Addr} (j : SJ M B F0 H0 O F own env σ H) (hi : i ∉ own) (r : OwnV M F H o d v) (hp : ∀ p, o = some p → F p = none ∧ H0 p = none ∧ H p ≠ none ∧ ∀ k ∈ own, O k ≠ some p) :
    SJ M B F0 H0 (fun k => if k = i then o else O k) F (i :: own) (env.set i (some d)) (σ.set i (some v)) H where
  b := j.b
  x := j.x
  ad := fun k m p e => by
    by_cases q : k = i
    · rw [if_pos q] at e
      obtain ⟨a, b, c, _⟩ := hp p e
      exact ⟨a, b, c⟩
    · rw [if_neg q] at e
      exact j.ad k ((List.mem_cons.mp m).resolve_left q) p e
  inj := fun a ma b mb ne p e1 e2 => by
    by_cases qa : a = i
    · have qb : b ≠ i := fun z => ne (qa.trans z.symm)
      rw [if_pos qa] at e1
      rw [if_neg qb] at e2
      exact (hp p e1).2.2.2 b ((List.mem_cons.mp mb).resolve_left qb) e2
    · rw [if_neg qa] at e1
      by_cases qb : b = i
      · rw [if_pos qb] at e2
        exact (hp p e2).2.2.2 a ((List.mem_cons.mp ma).resolve_left qa) e1
      · rw [if_neg qb] at e2
        exact j.inj a ((List.mem_cons.mp ma).resolve_left qa) b ((List.mem_cons.mp mb).resolve_left qb) ne p e1 e2
  len := by simpa using j.len
  non := fun k d' e m => by
    rw [List.mem_cons, not_or] at m
    rcases gt_set e with ⟨rfl, _, _⟩ | ⟨n, e⟩
    · exact absurd rfl m.1
    · obtain ⟨u, a, b⟩ := j.non k d' e m.2
      exact ⟨u, by rw [List.getElem?_set_ne (Ne.symm n)]; exact a, b⟩
  own := fun k d' e m => by
    rcases gt_set e with ⟨rfl, rfl, l⟩ | ⟨n, e⟩
    · refine ⟨v, List.getElem?_set_self (Nat.lt_of_lt_of_le l j.len), ?_⟩
      rw [if_pos rfl]
      exact r
    · obtain ⟨u, a, b⟩ := j.own k d' e ((List.mem_cons.mp m).resolve_left n)
      refine ⟨u, by rw [List.getElem?_set_ne (Ne.symm n)]; exact a, ?_⟩
      rw [if_neg n]
      exact b
/-- a new thing, as an own slot's value -/
theorem OwnV.of_top {F1 H1 : Hp} {d : D} {v : V} (j : SJ M B F0 H0 O F own env σ H) (x : Ext F H F1 H1) (r : Rtop M true H F1 H1 d v) : ∃ o, OwnV M F1 H1 o d v ∧ ∀ p, o = some p → H p = none ∧ F1 p = none ∧ H0 p = none ∧ H1 p ≠ none ∧ ∀ k ∈ own, O k ≠ some p := by
  cases ob : ownb d with
  | false =>
    refine ⟨none, ⟨ob, ?_⟩, fun p e => by cases e⟩
    rcases r with ⟨p, _, _, r⟩ | ⟨_, _, r⟩
    · exact ro_ownb ob r
    · exact r
  | true =>
    rcases r with ⟨p, h1, h2, r⟩ | ⟨_, n, _⟩
    · refine ⟨some p, r, fun q e => ?_⟩
      cases e
      exact ⟨h1, h2, j.x.h.free h1, ro_there ob r, fun k m z => (j.ad k m p z).2.2 h1⟩
    · rw [n] at ob
      cases ob
theorem ro_other {p q : Addr} {o : HO} {d : D} {v : V} (n : q ≠ p) (r : RO M F H q d v) : RO M F (upd H p o) q d v := by
  unfold RO at r
  split at r
  · obtain ⟨e, vs, h, t⟩ := r
    exact ⟨e, vs, by rw [upd_ne n]; exact h, t⟩
  · obtain ⟨a, dx, f, e, h1, h2, vs, h, t⟩ := r
    exact ⟨a, dx, f, e, h1, h2, vs, by rw [upd_ne n]; exact h, t⟩
  · rename_i h1 h2
    exact RO.of r (fun ds e => h1 ds e) (fun c ds e => h2 c ds e)
/-- an own list is changed where it stands -/
theorem SJ.chg {i : Nat} {d : D} {v : V} {p : Addr} {o : HO} (j : SJ M B F0 H0 O F own env σ H) (hi : i ∈ own) (hp : O i = some p) (hv : σ[i]? = some (some v)) (r : RO M F (upd H p o) p d v) : SJ M B F0 H0 O F own (env.set i (some d)) σ (upd H p o) where
  b := j.b
  x := ⟨j.x.f, fun b z e => by
      rw [upd_ne (fun w => by rw [w, (j.ad i hi p hp).2.1] at e; cases e)]
      exact j.x.h _ _ e, fun b z e => by
      rw [upd_ne (fun w => by rw [w, (j.ad i hi p hp).1] at e; cases e)]
      exact j.x.s _ _ e, j.x.n⟩
  ad := fun k m q e => by
    obtain ⟨a, b, c⟩ := j.ad k m q e
    refine ⟨a, b, ?_⟩
    by_cases z : q = p
    · rw [z, upd_same]; exact fun z => by cases z
    · rw [upd_ne z]; exact c
  inj := j.inj
  len := by simpa using j.len
  non := fun k d' e m => by
    rcases gt_set e with ⟨rfl, _, _⟩ | ⟨n, e⟩
    · exact absurd hi m
    · exact j.non k d' e m
  own := fun k d' e m => by
    rcases gt_set e with ⟨rfl, rfl, l⟩ | ⟨n, e⟩
    · refine ⟨v, hv, ?_⟩
      rw [hp]
      exact r
    · obtain ⟨u, a, b⟩ := j.own k d' e m
      refine ⟨u, a, ?_⟩
      split at b
      · rename_i q hq
        exact ro_other (fun z => j.inj k m i hi n q hq (by rw [z]; exact hp)) b
      · exact b

/-! ### the judgement -/
def ctn (l : List Nat) (i : Nat) : Bool := l.contains i
/-- own1 is part of own -/
def subL (own1 own : List Nat) : Bool := own1.all fun i => own.contains i
/-- nothing of l is in own -/
def disL (l own : List Nat) : Bool := l.all fun i => !own.contains i
theorem sub_of {a b : List Nat} (h : subL a b = true) : ∀ i ∈ a, i ∈ b := fun i m => by
  unfold subL at h
  rw [List.all_eq_true] at h
  have := h i m
  simpa using this
theorem dis_of {a b : List Nat} (h : disL a b = true) : ∀ i ∈ a, i ∉ b := fun i m => by
  unfold disL at h
  rw [List.all_eq_true] at h
  have := h i m
  simpa using this
end

def Fin (M : Sm) (fr : Bool) (B F0 H0 : Hp) (own' : List Nat) (Dn : Ends) : Fl → Prop
  | .nx env' => ∀ O' F' σ' H', SJ M B F0 H0 O' F' own' env' σ' H' → Dn.nx σ' H'
  | .rt d => ∀ v F' H', Ext F0 H0 F' H' → Rtop M fr H0 F' H' d v → Dn.rt v H'
def tS (M : Sm) (W : Wd) (fr : Bool) (own own' : List Nat) (s : S) : TS := fun Dn σ H => ∃ B F0 H0 O F env fl, SJ M B F0 H0 O F own env σ H ∧ Nt.ex W.T (run W.T W.n) s env = some fl ∧ Fin M fr B F0 H0 own' Dn fl
def tSs (M : Sm) (W : Wd) (fr : Bool) (own own' : List Nat) (s : Ss) : TS := fun Dn σ H => ∃ B F0 H0 O F env fl, SJ M B F0 H0 O F own env σ H ∧ Nt.exs W.T (run W.T W.n) s env = some fl ∧ Fin M fr B F0 H0 own' Dn fl
abbrev DS (W : Wd) (X : Cx) (fr : Bool) (own own' : List Nat) (st : Stmt) (s : S) : Prop := PS X st (tS (sm X W) W fr own own' s)
abbrev DSs (W : Wd) (X : Cx) (fr : Bool) (own own' : List Nat) (st : List Stmt) (s : Ss) : Prop := PSs X st (tSs (sm X W) W fr own own' s)

section
variable {W : Wd} {X : Cx} {fr : Bool} {own own1 own2 : List Nat} {st : Stmt} {rest : List Stmt} {s : S} {ss : Ss} {e : Expr} {p : E} {pos : Pos}
theorem ds_nil : DSs W X fr own own [] .nil := PSs.imp pss_nil fun Dn σ H ⟨B, F0, H0, O, F, env, fl, j, ev, k⟩ => by
  obtain rfl : Fl.nx env = fl := Option.some.inj ev
  exact k O F σ H j
theorem ds_cons (h1 : DS W X fr own own1 st s) (h2 : DSs W X fr own1 own2 rest ss) : DSs W X fr own own2 (st :: rest) (.cons s ss) := PSs.imp (pss_cons h1 h2) fun Dn σ H ⟨B, F0, H0, O, F, env, fl, j, ev, k⟩ => by
  unfold exs at ev
  split at ev
  · rename_i env2 e1
    exact ⟨B, F0, H0, O, F, env, _, j, e1, fun O' F' σ' H' j' => ⟨B, F0, H0, O', F', env2, fl, j', ev, k⟩⟩
  · rename_i r hr
    cases fl with
    | nx env' => exact absurd ev (by intro z; exact hr env' z)
    | rt d => exact ⟨B, F0, H0, O, F, env, .rt d, j, ev, k⟩
/-- fewer own slots behind -/
theorem Fin.sub {M : Sm} {B F0 H0 : Hp} {Dn : Ends} {fl : Fl} (h : subL own2 own1 = true) (k : Fin M fr B F0 H0 own2 Dn fl) : Fin M fr B F0 H0 own1 Dn fl := by
  cases fl with
  | nx env' =>
    intro O' F' σ' H' j
    obtain ⟨F1, _, j1⟩ := j.free (sub_of h)
    exact k O' F1 σ' H' j1
  | rt d => exact k
theorem ds_sub (h : DSs W X fr own own1 rest ss) (hs : subL own2 own1 = true := by decide) : DSs W X fr own own2 rest ss := PSs.imp h fun Dn σ H ⟨B, F0, H0, O, F, env, fl, j, ev, k⟩ => ⟨B, F0, H0, O, F, env, fl, j, ev, k.sub hs⟩
theorem ds_fail : DS W X fr own own st .fail := PS.imp ps_never fun Dn σ H ⟨B, F0, H0, O, F, env, fl, j, ev, k⟩ => by cases ev
theorem ds_failTo : DS W X fr own own1 st .fail := PS.imp ps_never fun Dn σ H ⟨B, F0, H0, O, F, env, fl, j, ev, k⟩ => by cases ev

theorem ex_asg {T : Tb} {cl : Nat → List D → Option D} {i : Nat} {p : E} {env : Env} {fl : Fl} (h : ex T cl (.asg i p) env = some fl) : ∃ d, ev T cl p env = some d ∧ fl = .nx (env.set i (some d)) := by
  unfold ex at h
  split at h
  · rename_i d e
    exact ⟨d, e, (Option.some.inj h).symm⟩
  · cases h
/-- x = e, the value seen from then on -/
theorem ds_asg {i : Nat} (h : PS X st (tAsg (tD (sm X W) W p) (gName i))) (c1 : subL own1 own = true := by decide) (c2 : disL (i :: al p) own1 = true := by decide) : DS W X fr own own1 st (.asg i p) := PS.imp h fun Dn σ H ⟨B, F0, H0, O, F, env, fl, j, ev, k⟩ => by
  obtain ⟨d, e1, rfl⟩ := ex_asg ev
  obtain ⟨F1, s1, j1⟩ := j.free (sub_of c1)
  have dis := dis_of c2
  refine ⟨F1, env, d, j1.x.s, j1.envS, j1.envF fun i m => dis i (List.mem_cons_of_mem _ m), e1, fun v F2 H2 x r => ?_⟩
  obtain ⟨F3, x3, _, r3⟩ := r.plain x
  exact k O F3 _ H2 ((j1.grow x3).put r3 (dis i (List.mem_cons_self ..)))
/-- x = e, the value new and x's own -/
theorem ds_asgO {i : Nat} (h : PS X st (tAsg (tD (sm X W) W p) (gName i))) (ht : top W.T p = true := by rfl) (c1 : subL own1 own = true := by decide) (c2 : disL (i :: al p) own1 = true := by decide) : DS W X fr own (i :: own1) st (.asg i p) := PS.imp h fun Dn σ H ⟨B, F0, H0, O, F, env, fl, j, ev, k⟩ => by
  obtain ⟨d, e1, rfl⟩ := ex_asg ev
  obtain ⟨F1, s1, j1⟩ := j.free (sub_of c1)
  have dis := dis_of c2
  refine ⟨F1, env, d, j1.x.s, j1.envS, j1.envF fun i m => dis i (List.mem_cons_of_mem _ m), e1, fun v F2 H2 x r => ?_⟩
  rw [ht] at r
  obtain ⟨o, ov, oh⟩ := OwnV.of_top j1 x r
  exact k _ F2 _ H2 ((j1.grow x).putO (dis i (List.mem_cons_self ..)) ov fun p hp => (oh p hp).2)
/-- y = x, an own list handed on; x is forgotten -/
theorem ds_mov {jj i : Nat} (h : PS X st (tAsg (tVar i) (gName jj))) (c1 : ctn own i = true := by decide) (c2 : subL own1 own = true := by decide) (c3 : disL [i, jj] own1 = true := by decide) (c4 : subL own (i :: own1) = true := by decide) : DS W X fr own (jj :: own1) st (.mov jj i) := PS.imp h fun Dn σ H ⟨B, F0, H0, O, F, env, fl, j, ev, k⟩ => by
  replace ev : ex W.T (run W.T W.n) (.mov jj i) env = some fl := ev
  unfold ex at ev
  split at ev
  · rename_i d e1
    cases ev
    have mi : i ∈ own := by unfold ctn at c1; simpa using c1
    have dis := dis_of c3
    obtain ⟨v, hv, ro⟩ := j.own i d e1 mi
    refine ⟨v, hv, k (fun k => if k = jj then O i else O k) F _ H ?_⟩
    have sub := sub_of c2
    have j0 : SJ (sm X W) B F0 H0 O F own1 (env.set i none) σ H := by
      refine ⟨j.b, j.x, fun k m => j.ad k (sub k m), fun a ma b mb => j.inj a (sub a ma) b (sub b mb), by simpa using j.len, fun k d' e m => ?_, fun k d' e m => ?_⟩
      · obtain ⟨n, e⟩ := gt_setN e
        by_cases mo : k ∈ own
        · rcases List.mem_cons.mp (sub_of c4 k mo) with z | z
          · exact absurd z n
          · exact absurd z m
        · exact j.non k d' e mo
      · obtain ⟨n, e⟩ := gt_setN e
        exact j.own k d' e (sub k m)
    exact j0.putO (dis jj (by simp)) ro fun p hp => by
      obtain ⟨a, b, c⟩ := j.ad i mi p hp
      exact ⟨a, b, c, fun k m z => j.inj k (sub k m) i mi (fun w => dis i (by simp) (by rw [← w]; exact m)) p z hp⟩
  · cases ev
end
end Nt

set_option Elab.async false
set_option linter.all false
set_option maxRecDepth 100000
set_option maxHeartbeats 4000000
/-! More statements; a def by its body. -/
namespace Nt
open PySem PySem.Spec PyProof.Rows L2

section
variable {W : Wd} {X : Cx} {fr : Bool} {own own1 own2 : List Nat} {st : Stmt} {rest : List Stmt} {s : S} {ss : Ss} {e a b c : Expr} {p q r : E} {pos : Pos}
/-! ### assignments of two -/
theorem ex_par {T : Tb} {cl : Nat → List D → Option D} {i j : Nat} {p q : E} {env : Env} {fl : Fl} (h : ex T cl (.par i j p q) env = some fl) : ∃ x y, ev T cl p env = some x ∧ ev T cl q env = some y ∧ fl = .nx ((env.set i (some x)).set j (some y)) := by
  unfold ex at h
  split at h
  · rename_i x e1
    split at h
    · rename_i y e2
      exact ⟨x, y, e1, e2, (Option.some.inj h).symm⟩
    · cases h
  · cases h
/-- t1, t2: which of the two values become own -/
def parOwn (i j : Nat) (t1 t2 : Bool) (own1 : List Nat) : List Nat := (if t2 then [j] else []) ++ ((if t1 then [i] else []) ++ own1)
theorem OwnV.grow {M : Sm} {F H F1 H1 : Hp} {o : Option Addr} {d : D} {v : V} (x : Ext F H F1 H1) (r : OwnV M F H o d v) : OwnV M F1 H1 o d v := by
  cases o with
  | some p => exact RO.mono x.f x.h r
  | none => exact ⟨r.1, r.2.mono x.f⟩
/-- as tPar, a tuple may have been made meanwhile -/
def tParG (i j : Nat) (ta : TA) : TS := fun D σ H => ta σ H fun vs H1 => ∃ v w, vs = [v, w] ∧ ∀ HX, (HX = H1 ∨ ∃ t xs, H1 t = none ∧ HX = upd H1 t (.tup xs)) → D.nx ((σ.set i (some v)).set j (some w)) HX
theorem ds_parG {i j : Nat} (t1 t2 : Bool) (h : PS X st (tParG i j (tCons (tD (sm X W) W p) (tCons (tD (sm X W) W q) tNil)))) (h1 : (!t1 || top W.T p) = true := by rfl) (h2 : (!t2 || top W.T q) = true := by rfl) (hij : (i == j) = false := by decide)
    (c1 : subL own1 own = true := by decide) (c2 : disL (i :: j :: (al p ++ al q)) own1 = true := by decide) : DS W X fr own (parOwn i j t1 t2 own1) st (.par i j p q) := PS.imp h fun Dn σ H ⟨B, F0, H0, O, F, env, fl, js, ev, k⟩ => by
  obtain ⟨d1, d2, e1, e2, rfl⟩ := ex_par ev
  obtain ⟨F1, s1, j1⟩ := js.free (sub_of c1)
  have dis := dis_of c2
  have hi : i ∉ own1 := dis i (by simp)
  have hj : j ∉ own1 := dis j (by simp)
  have nij : i ≠ j := by simpa using hij
  refine ⟨F1, env, d1, j1.x.s, j1.envS, j1.envF fun i m => dis i (by simp [m]), e1, fun v F2 H2 x2 r2 => ?_⟩
  -- the first value: own or seen
  have first : ∃ F3, Ext F1 H F3 H2 ∧ ((t1 = true ∧ ∃ o, OwnV (sm X W) F3 H2 o d1 v ∧ ∀ p, o = some p → H p = none ∧ F3 p = none ∧ H0 p = none ∧ H2 p ≠ none ∧ ∀ k ∈ own1, O k ≠ some p) ∨ (t1 = false ∧ RV (sm X W) F3 d1 v)) := by
    cases t1 with
    | true =>
      have tp : top W.T p = true := by simpa using h1
      rw [tp] at r2
      obtain ⟨o, ov, oh⟩ := OwnV.of_top j1 x2 r2
      exact ⟨F2, x2, .inl ⟨rfl, o, ov, oh⟩⟩
    | false =>
      obtain ⟨F3, x3, _, r3⟩ := r2.plain x2
      exact ⟨F3, x3, .inr ⟨rfl, r3⟩⟩
  obtain ⟨F3, x3, first⟩ := first
  have j3 := j1.grow x3
  refine ⟨F3, env, d2, j3.x.s, j3.envS, j3.envF fun i m => dis i (by simp [m]), e2, fun w F4 H4 x4 r4 => ⟨v, w, rfl, fun HX hX => ?_⟩⟩
  have second : ∃ F5, Ext F3 H2 F5 H4 ∧ ((t2 = true ∧ ∃ o, OwnV (sm X W) F5 H4 o d2 w ∧ ∀ p, o = some p → H2 p = none ∧ F5 p = none ∧ H0 p = none ∧ H4 p ≠ none ∧ ∀ k ∈ own1, O k ≠ some p) ∨ (t2 = false ∧ RV (sm X W) F5 d2 w)) := by
    cases t2 with
    | true =>
      have tp : top W.T q = true := by simpa using h2
      rw [tp] at r4
      obtain ⟨o, ov, oh⟩ := OwnV.of_top j3 x4 r4
      exact ⟨F4, x4, .inl ⟨rfl, o, ov, oh⟩⟩
    | false =>
      obtain ⟨F5, x5, _, r5⟩ := r4.plain x4
      exact ⟨F5, x5, .inr ⟨rfl, r5⟩⟩
  obtain ⟨F5, x5, second⟩ := second
  have j5 := j3.grow x5
  -- store the first
  have A : ∃ O', SJ (sm X W) B F0 H0 O' F5 ((if t1 then [i] else []) ++ own1) (env.set i (some d1)) (σ.set i (some v)) H4 ∧ ∀ k ∈ ((if t1 then [i] else []) ++ own1), ∀ p, O' k = some p → H2 p ≠ none := by
    rcases first with ⟨rfl, o, ov, oh⟩ | ⟨rfl, rv⟩
    · refine ⟨_, j5.putO hi (ov.grow x5) fun p hp => ?_, fun k m p e => ?_⟩
      · obtain ⟨a, b, c, d, f⟩ := oh p hp
        refine ⟨?_, c, fun z => d (x5.h.free z), f⟩
        cases z : F5 p with
        | none => rfl
        | some u =>
          rcases x5.n p u z with y | y
          · rw [b] at y; cases y
          · exact absurd y d
      · by_cases z : k = i
        · rw [if_pos z] at e
          exact (oh p e).2.2.2.1
        · rw [if_neg z] at e
          exact (j3.ad k ((List.mem_cons.mp m).resolve_left z) p e).2.2
    · exact ⟨O, (j5.put (rv.mono x5.f) hi), fun k m p e => (j3.ad k m p e).2.2⟩
  obtain ⟨O', jA, hO'⟩ := A
  have hj' : j ∉ ((if t1 then [i] else []) ++ own1) := fun m => by
    rcases List.mem_append.mp m with z | z
    · cases t1 with
      | true => exact nij (by simpa using z : j = i).symm
      | false => cases z
    · exact hj z
  have out : ∀ {O'' : Nat → Option Addr} {own'' : List Nat} {env'' : Env} {σ'' : L2.St}, SJ (sm X W) B F0 H0 O'' F5 own'' env'' σ'' H4 → SJ (sm X W) B F0 H0 O'' F5 own'' env'' σ'' HX := fun jj => by
    rcases hX with rfl | ⟨t, xs, ht, rfl⟩
    · exact jj
    · exact jj.grow (Ext.hid jj.x.s ht)
  rcases second with ⟨rfl, o, ov, oh⟩ | ⟨rfl, rv⟩
  · exact k _ F5 _ HX (out (jA.putO hj' ov fun p hp => by
      obtain ⟨a, b, c, d, _⟩ := oh p hp
      exact ⟨b, c, d, fun k m e => hO' k m p e a⟩))
  · exact k O' F5 _ HX (out (jA.put rv hj'))
theorem ta_cons2 {te te' : TE} {σ : L2.St} {H : Hp} {Q Q' : List V → Hp → Prop} (m1 : ∀ σ H R R', (∀ v H', R v H' → R' v H') → te σ H R → te σ H R') (m2 : ∀ σ H R R', (∀ v H', R v H' → R' v H') → te' σ H R → te' σ H R') (i : ∀ vs H', Q vs H' → Q' vs H') (h : tCons te (tCons te' tNil) σ H Q) : tCons te (tCons te' tNil) σ H Q' :=
  m1 _ _ _ _ (fun v H' h => m2 _ _ _ _ (fun w H'' h => i _ _ h) h) h
theorem tD_mono {M : Sm} {p : E} (σ : L2.St) (H : Hp) (R R' : V → Hp → Prop) (i : ∀ v H', R v H' → R' v H') (h : tD M W p σ H R) : tD M W p σ H R' := by
  obtain ⟨F, env, d, s, hs, hf, ev, k⟩ := h
  exact ⟨F, env, d, s, hs, hf, ev, fun v F' H' x r => i _ _ (k v F' H' x r)⟩
theorem ds_par {i j : Nat} (t1 t2 : Bool) (h : PS X st (tPar i j (tCons (tD (sm X W) W p) (tCons (tD (sm X W) W q) tNil)))) (h1 : (!t1 || top W.T p) = true := by rfl) (h2 : (!t2 || top W.T q) = true := by rfl) (hij : (i == j) = false := by decide)
    (c1 : subL own1 own = true := by decide) (c2 : disL (i :: j :: (al p ++ al q)) own1 = true := by decide) : DS W X fr own (parOwn i j t1 t2 own1) st (.par i j p q) :=
  ds_parG t1 t2 (PS.imp h fun D σ H h => ta_cons2 tD_mono tD_mono (fun vs H' ⟨v, w, e, k⟩ => ⟨v, w, e, k H' (.inl rfl)⟩) h) h1 h2 hij c1 c2
/-- the same where the pair is made and taken apart -/
theorem ds_parT {i j : Nat} (t1 t2 : Bool) (h : PS X st (tAsg (tTup (tCons (tD (sm X W) W p) (tCons (tD (sm X W) W q) tNil))) (gTup X.K 2 (gCons (gName i) (gCons (gName j) gNil))))) (h1 : (!t1 || top W.T p) = true := by rfl) (h2 : (!t2 || top W.T q) = true := by rfl) (hij : (i == j) = false := by decide)
    (c1 : subL own1 own = true := by decide) (c2 : disL (i :: j :: (al p ++ al q)) own1 = true := by decide) : DS W X fr own (parOwn i j t1 t2 own1) st (.par i j p q) :=
  ds_parG t1 t2 (PS.imp h fun D σ H h => by
    show tCons (tD (sm X W) W p) (tCons (tD (sm X W) W q) tNil) σ H fun vs H1 => vs.length ≤ sizeLine ∧ ∀ t, H1 t = none → gTup X.K 2 (gCons (gName i) (gCons (gName j) gNil)) (.ref t) σ (upd H1 t (.tup vs)) D.nx
    refine ta_cons2 tD_mono tD_mono (fun vs H' z => ?_) h
    obtain ⟨v, w, e, k⟩ := z
    subst e
    exact ⟨by rw [sizeLine_eq]; simp, fun t ht => ⟨t, [v, w], rfl, .inl (.inl upd_same), rfl, v, [w], rfl, w, [], rfl, rfl, k _ (.inr ⟨t, _, ht, rfl⟩)⟩⟩) h1 h2 hij c1 c2
/-- several names = a tuple -/
theorem ex_unp {T : Tb} {cl : Nat → List D → Option D} {is : List Nat} {p : E} {env : Env} {fl : Fl} (h : ex T cl (.unp is p) env = some fl) : ∃ ds env', ev T cl p env = some (.tup ds) ∧ setsD env is ds = some env' ∧ fl = .nx env' := by
  unfold ex at h
  split at h
  · rename_i ds e
    obtain ⟨env', e2, rfl⟩ := Option.map_eq_some_iff.mp h
    exact ⟨ds, env', e, e2, rfl⟩
  · cases h
theorem SJ.puts {M : Sm} {B F0 H0 F H : Hp} {O : Nat → Option Addr} {own : List Nat} : ∀ {is : List Nat} {ds : List D} {xs : List V} {env env' : Env} {σ : L2.St}, SJ M B F0 H0 O F own env σ H → (∀ i ∈ is, i ∉ own) → RVs M F ds xs → setsD env is ds = some env' → SJ M B F0 H0 O F own env' (setsV σ is xs) H ∧ xs.length = is.length
  | [], [], _, env, env', σ, j, _, r, e => by
    rw [show _ = [] from r]
    have e : env = env' := Option.some.inj e
    rw [← e]
    exact ⟨j, rfl⟩
  | [], _ :: _, _, _, _, _, _, _, _, e => by cases e
  | _ :: _, [], _, _, _, _, _, _, _, e => by cases e
  | i :: is, d :: ds, _, env, env', σ, j, hi, ⟨v, r, e1, h1, h2⟩, e => by
    rw [e1]
    obtain ⟨x, y⟩ := SJ.puts (is := is) (j.put h1 (hi i (List.mem_cons_self ..))) (fun k m => hi k (List.mem_cons_of_mem _ m)) h2 e
    exact ⟨x, by rw [List.length_cons, List.length_cons, y]⟩
theorem SJ.bind {M : Sm} {B F0 H0 F H : Hp} {O : Nat → Option Addr} {own : List Nat} {t : Tg} {d : D} {v : V} {env env1 : Env} {σ : L2.St} {Q : L2.St → Hp → Prop} (j : SJ M B F0 H0 O F own env σ H) (hi : ∀ i ∈ tgs t, i ∉ own) (r : RV M F d v) (e : bindD t d env = some env1)
    (q : ∀ σ2, SJ M B F0 H0 O F own env1 σ2 H → Q σ2 H) : gT M.K t v σ H Q := by
  cases t with
  | one i =>
    have e : env.set i (some d) = env1 := Option.some.inj e
    subst e
    exact q _ (j.put r (hi i (List.mem_cons_self ..)))
  | many is =>
    cases d with
    | tup ds =>
      obtain ⟨a, xs, ea, ha, hx⟩ := r
      have e : setsD env is ds = some env1 := e
      obtain ⟨z1, z2⟩ := SJ.puts j hi hx e
      exact ⟨a, xs, ea, Same.sqt j.x.s ha, z2, q _ z1⟩
    | _ => cases e
theorem ds_unp {is : List Nat} (h : PS X st (tAsg (tD (sm X W) W p) (gT X.K (.many is)))) (c1 : subL own1 own = true := by decide) (c2 : disL (is ++ al p) own1 = true := by decide) : DS W X fr own own1 st (.unp is p) := PS.imp h fun Dn σ H ⟨B, F0, H0, O, F, env, fl, j, ev, k⟩ => by
  obtain ⟨ds, env', e1, e2, rfl⟩ := ex_unp ev
  obtain ⟨F1, s1, j1⟩ := j.free (sub_of c1)
  have dis := dis_of c2
  refine ⟨F1, env, _, j1.x.s, j1.envS, j1.envF fun i m => dis i (List.mem_append_right _ m), e1, fun v F2 H2 x r => ?_⟩
  obtain ⟨F3, x3, _, r3⟩ := r.plain x
  exact (j1.grow x3).bind (t := .many is) (fun i m => dis i (List.mem_append_left _ m)) r3 e2 fun σ2 j2 => k O F3 σ2 H2 j2
/-! ### lists of one's own, changed -/
theorem own_list {M : Sm} {B F0 H0 F H : Hp} {O : Nat → Option Addr} {own : List Nat} {env : Env} {σ : L2.St} {i : Nat} {xs : List D} (j : SJ M B F0 H0 O F own env σ H) (m : i ∈ own) (e : gt env i = some (.lst xs)) : ∃ p vs, O i = some p ∧ σ[i]? = some (some (.ref p)) ∧ H p = some (.lst vs) ∧ RVs M F xs vs := by
  obtain ⟨v, hv, h⟩ := j.own i _ e m
  split at h
  · rename_i p hp
    obtain ⟨rfl, vs, h1, h2⟩ := h
    exact ⟨p, vs, hp, hv, h1, h2⟩
  · cases h.1
theorem ctn_of {l : List Nat} {i : Nat} (h : ctn l i = true) : i ∈ l := by unfold ctn at h; simpa using h
theorem ds_app {i : Nat} (h : PS X st (tDrop (tBM X.K "list" rAppend (tVar i) (tCons (tP (sm X W) W p) tNil)))) (c0 : ctn own1 i = true := by decide) (c1 : subL own1 own = true := by decide) (c2 : disL (al p) own1 = true := by decide) : DS W X fr own own1 st (.app i p) := PS.imp h fun Dn σ H ⟨B, F0, H0, O, F, env, fl, j, ev, k⟩ => by
  replace ev : ex W.T (run W.T W.n) (.app i p) env = some fl := ev
  unfold ex at ev
  split at ev
  · rename_i xs e1
    split at ev
    · rename_i d e2
      obtain ⟨c, rfl⟩ := ite_some ev
      obtain ⟨F1, s1, j1⟩ := j.free (sub_of c1)
      have m := ctn_of c0
      obtain ⟨pp, vs, hO, hv, hp, hr⟩ := own_list j1 m e1
      refine ⟨_, hv, .inl ⟨rfl, _, SqL.of hp⟩, F1, env, d, j1.x.s, j1.envS, j1.envF (dis_of c2), e2, fun v F2 H2 x r => ?_⟩
      have j2 := j1.grow x
      have hr2 := hr.mono x.f
      refine ⟨pp, vs, v, rfl, rfl, x.h _ _ hp, by rw [hr.len]; exact lim_lt c, ?_⟩
      exact k O F2 σ _ (j2.chg m hO hv ⟨rfl, _, upd_same, hr2.append (RVs.cons r RVs.nil)⟩)
    · cases ev
  · cases ev
theorem ds_ext {i : Nat} (h : PS X st (tDrop (tBM X.K "list" rExtend (tVar i) (tCons (tI (sm X W) W p) tNil)))) (c0 : ctn own1 i = true := by decide) (c1 : subL own1 own = true := by decide) (c2 : disL (itm p (al p)) own1 = true := by decide) : DS W X fr own own1 st (.ext i p) := PS.imp h fun Dn σ H ⟨B, F0, H0, O, F, env, fl, j, ev, k⟩ => by
  replace ev : ex W.T (run W.T W.n) (.ext i p) env = some fl := ev
  unfold ex at ev
  split at ev
  · rename_i xs e1
    split at ev
    · rename_i ys e2
      obtain ⟨c, rfl⟩ := ite_some ev
      obtain ⟨F1, s1, j1⟩ := j.free (sub_of c1)
      have m := ctn_of c0
      obtain ⟨pp, vs, hO, hv, hp, hr⟩ := own_list j1 m e1
      refine ⟨_, hv, .inl ⟨rfl, _, SqL.of hp⟩, F1, env, _, j1.x.s, j1.envS, j1.envF (dis_of c2), e2, fun v F2 H2 x r => ?_⟩
      have j2 := j1.grow x
      have hr2 := hr.mono x.f
      obtain ⟨b1, us, eb, hb, hu⟩ := r
      refine ⟨pp, b1, vs, us, rfl, by rw [eb], x.h _ _ hp, hb, by rw [hr.len, hu.len]; exact lim_line c, ?_⟩
      exact k O F2 σ _ (j2.chg m hO hv ⟨rfl, _, upd_same, hr2.append hu⟩)
    · cases ev
  · cases ev
theorem ds_seti {i : Nat} (h : PS X st (tAsg (tP (sm X W) W p) (gSub (tVar i) (tB (sm X W) W q) rSetL))) (c0 : ctn own1 i = true := by decide) (c1 : subL own1 own = true := by decide) (c2 : disL (al p) own1 = true := by decide) : DS W X fr own own1 st (.seti i q p) := PS.imp h fun Dn σ H ⟨B, F0, H0, O, F, env, fl, j, ev, k⟩ => by
  replace ev : ex W.T (run W.T W.n) (.seti i q p) env = some fl := ev
  unfold ex at ev
  split at ev
  · rename_i d e2
    split at ev
    · rename_i xs e1
      split at ev
      · rename_i z e3
        split at ev
        · rename_i jj e4
          cases ev
          obtain ⟨F1, s1, j1⟩ := j.free (sub_of c1)
          have m := ctn_of c0
          obtain ⟨pp, vs, hO, hv, hp, hr⟩ := own_list j1 m e1
          refine ⟨F1, env, d, j1.x.s, j1.envS, j1.envF (dis_of c2), e2, fun v F2 H2 x r => ⟨_, hv, F2, env, _, x.s, (j1.grow x).envS, e3, fun w H3 t r3 => ?_⟩⟩
          have x3 := x.trans (Ext.grow x.s t)
          have j3 := j1.grow x3
          refine ⟨pp, vs, z, jj, rfl, r3, x3.h _ _ hp, by rw [hr.len]; exact e4, ?_⟩
          exact k O F2 σ _ (j3.chg m hO hv ⟨rfl, _, upd_same, (hr.mono x.f).set jj r⟩)
        · cases ev
      · cases ev
    · cases ev
  · cases ev
theorem ixN_small {n : Nat} {z : Int} {j : Nat} (h : ixN n z = some j) (hn : n ≤ sizeLine) : -(2 ^ 63) ≤ z ∧ z < 2 ^ 63 ∧ seqIndex? z n = some j ∧ j < n := by
  obtain ⟨a, b, c, d⟩ := ixN_seq h
  have : sizeLine = 16777216 := sizeLine_eq
  exact ⟨by omega, by omega, a, b⟩
theorem ds_popd {i : Nat} (h : PS X st (tDrop (tBM X.K "list" rPopAt (tVar i) (tCons (tB (sm X W) W q) tNil)))) (c0 : ctn own i = true := by decide) : DS W X fr own own st (.popd i q) := PS.imp h fun Dn σ H ⟨B, F0, H0, O, F, env, fl, j, ev, k⟩ => by
  replace ev : ex W.T (run W.T W.n) (.popd i q) env = some fl := ev
  unfold ex at ev
  split at ev
  · rename_i xs e1
    split at ev
    · rename_i z e2
      split at ev
      · rename_i jj e3
        obtain ⟨cl, rfl⟩ := ite_some ev
        have m := ctn_of c0
        obtain ⟨pp, vs, hO, hv, hp, hr⟩ := own_list j m e1
        refine ⟨_, hv, .inl ⟨rfl, _, SqL.of hp⟩, F, env, _, j.x.s, j.envS, e2, fun v H2 t r => ?_⟩
        have j2 := j.grow (Ext.grow j.x.s t)
        obtain ⟨s1, s2, s3, s4⟩ := ixN_small e3 (lim_line cl)
        obtain ⟨y, hy⟩ : ∃ y, vs[jj]? = some y := ⟨vs[jj]'(by rw [hr.len]; exact s4), List.getElem?_eq_getElem _⟩
        refine ⟨pp, vs, z, jj, y, rfl, by rw [show v = .int z from r], t _ _ hp, s1, s2, by rw [hr.len]; exact s3, hy, ?_⟩
        exact k O F σ _ (j2.chg m hO hv ⟨rfl, _, upd_same, hr.erase jj⟩)
      · cases ev
    · cases ev
  · cases ev
/-! ### if, return, an expression alone -/
theorem ex_ifs {T : Tb} {cl : Nat → List D → Option D} {c : E} {a b : Ss} {env : Env} {fl : Fl} (h : ex T cl (.ifs c a b) env = some fl) : (ev T cl c env = some (.bl true) ∧ exs T cl a env = some fl) ∨ (ev T cl c env = some (.bl false) ∧ exs T cl b env = some fl) := by
  unfold ex at h
  split at h
  · rename_i e; exact .inl ⟨e, h⟩
  · rename_i e; exact .inr ⟨e, h⟩
  · cases h
theorem ds_if {aa bb : List Stmt} {sa sb : Ss} (hc : DT W X c r) (ha : DSs W X fr own own1 aa sa) (hb : DSs W X fr own own1 bb sb) : DS W X fr own own1 (.If c aa bb pos) (.ifs r sa sb) := PS.imp (ps_if hc ha hb) fun Dn σ H ⟨B, F0, H0, O, F, env, fl, j, ev, k⟩ => by
  rcases ex_ifs ev with ⟨e1, e2⟩ | ⟨e1, e2⟩
  · exact ⟨F, env, true, j.x.s, j.envS, e1, fun H' t => iteT ⟨B, F0, H0, O, F, env, fl, j.grow (Ext.grow j.x.s t), e2, k⟩⟩
  · exact ⟨F, env, false, j.x.s, j.envS, e1, fun H' t => iteF ⟨B, F0, H0, O, F, env, fl, j.grow (Ext.grow j.x.s t), e2, k⟩⟩
theorem ex_ret {T : Tb} {cl : Nat → List D → Option D} {p : E} {env : Env} {fl : Fl} (h : ex T cl (.ret p) env = some fl) : ∃ d, ev T cl p env = some d ∧ fl = .rt d := by
  unfold ex at h
  split at h
  · rename_i d e; exact ⟨d, e, (Option.some.inj h).symm⟩
  · cases h
/-- return e; where the def is to hand back a new thing, e's value is new -/
theorem ds_ret (h : DE W X e p) (ht : (!fr || top W.T p) = true := by rfl) (ht2 : True := trivial) : DS W X fr own own1 (.Return (some e) pos) (.ret p) := PS.imp (ps_ret h) fun Dn σ H ⟨B, F0, H0, O, F, env, fl, j, ev, k⟩ => by
  obtain ⟨d, e1, rfl⟩ := ex_ret ev
  obtain ⟨F1, s1, j1⟩ := j.free (own' := []) (fun i m => by cases m)
  refine ⟨F1, env, d, j1.x.s, j1.envS, j1.envF (fun i m z => by cases z), e1, fun v F2 H2 x r => ?_⟩
  obtain ⟨F3, x3, r3⟩ := r.down x (t2 := fr) (fun z => by rw [z] at ht; simpa using ht)
  exact k v F3 H2 (j1.x.trans x3) (r3.before j1.x.h)
/-- return x, x's own list -/
theorem ds_retO {i : Nat} (hh : PS X st (tRet (tVar i))) (c0 : ctn own i = true := by decide) : DS W X true own own1 st (.ret (.var i)) := PS.imp hh fun Dn σ H ⟨B, F0, H0, O, F, env, fl, j, ev, k⟩ => by
  obtain ⟨d, e1, rfl⟩ := ex_ret ev
  have m := ctn_of c0
  have e1 : gt env i = some d := e1
  obtain ⟨v, hv, h⟩ := j.own i d e1 m
  refine ⟨v, hv, k v F H j.x ?_⟩
  split at h
  · rename_i p hp
    obtain ⟨a, b, c⟩ := j.ad i m p hp
    exact .inl ⟨p, b, a, h⟩
  · -- no list: the value is plain
    exact .inr ⟨rfl, h.1, h.2⟩
theorem ds_retN : DS W X fr own own1 (.Return none pos) .retn := PS.imp ps_retN fun Dn σ H ⟨B, F0, H0, O, F, env, fl, j, ev, k⟩ => by
  obtain rfl : Fl.rt .non = fl := Option.some.inj ev
  exact k .non F H j.x (scl_top rfl)
theorem ex_ex {T : Tb} {cl : Nat → List D → Option D} {p : E} {env : Env} {fl : Fl} (h : ex T cl (.ex p) env = some fl) : ∃ d, ev T cl p env = some d ∧ fl = .nx env := by
  unfold ex at h
  split at h
  · rename_i d e; exact ⟨d, e, (Option.some.inj h).symm⟩
  · cases h
theorem ds_ex (h : DE W X e p) (hs : swapsWith e none pos.line X.env = pure false := by rfl) : DS W X fr own own (.Expr e pos) (.ex p) := PS.imp (ps_expr (deB h) hs) fun Dn σ H ⟨B, F0, H0, O, F, env, fl, j, ev, k⟩ => by
  obtain ⟨d, e1, rfl⟩ := ex_ex ev
  exact ⟨F, env, d, j.x.s, j.envS, e1, fun v H' t r => k O F σ H' (j.grow (Ext.grow j.x.s t))⟩
end
end Nt

set_option Elab.async false
set_option linter.all false
set_option maxRecDepth 100000
set_option maxHeartbeats 4000000
/-! for, while; a def by its body; the law. -/
namespace Nt
open PySem PySem.Spec PyProof.Rows L2

section
variable {W : Wd} {X : Cx} {fr : Bool} {own own1 own2 : List Nat} {st : Stmt} {rest : List Stmt} {s : S} {ss : Ss} {e a b c tg iter : Expr} {p q r : E} {pos : Pos}
theorem loopD_cons {bb : D → Env → Option Env} {body : Env → Option Fl} {d : D} {ds : List D} {env : Env} {fl : Fl} (h : loopD bb body (d :: ds) env = some fl) : ∃ env1, bb d env = some env1 ∧ ((∃ env2, body env1 = some (.nx env2) ∧ loopD bb body ds env2 = some fl) ∨ ∃ z, body env1 = some (.rt z) ∧ fl = .rt z) := by
  unfold loopD at h
  split at h
  · rename_i env1 e1
    refine ⟨env1, e1, ?_⟩
    split at h
    · rename_i env2 e2
      exact .inl ⟨env2, e2, h⟩
    · rename_i hr
      cases fl with
      | nx env' => exact absurd h (hr env')
      | rt z => exact .inr ⟨z, h, rfl⟩
  · cases h
theorem ex_for {T : Tb} {cl : Nat → List D → Option D} {t : Tg} {s : Sr} {b : Ss} {env : Env} {fl : Fl} (h : ex T cl (.for t s b) env = some fl) : ∃ ds, evr T cl s env = some ds ∧ loopD (bindD t) (fun env => exs T cl b env) ds env = some fl := by
  unfold ex at h
  split at h
  · rename_i ds e; exact ⟨ds, e, h⟩
  · cases h
theorem ds_for {t : Tg} {sr : Sr} {body : List Stmt} {sb : Ss} (g : Gd W X) (hi : DR W true X tg iter sr) (hg : PG X tg (gT X.K t)) (hb : DSs W X fr own1 own1 body sb) (hs : ∀ x, foldedSetIterable iter X.env x = pure x := by intro _; rfl)
    (c1 : subL own1 own = true := by decide) (c2 : disL (tgs t ++ alz true sr) own1 = true := by decide) : DS W X fr own own1 (.For tg iter body [] pos) (.for t sr sb) := by
  have hp : PassesOwn (model X.prog X.w) X.A X.env X.xe := by rw [g.nox]; exact PassesOwn.never
  refine PS.imp (ps_for hp g.calm hi hg hb hs) fun Dn σ H ⟨B, F0, H0, O, F, env, fl, j, ev, k⟩ => ?_
  obtain ⟨ds, e1, e2⟩ := ex_for ev
  obtain ⟨F1, s1, j1⟩ := j.free (sub_of c1)
  have dis := dis_of c2
  refine ⟨F1, env, ds, j1.x.s, j1.envS, j1.envF fun i m => dis i (List.mem_append_right _ m), e1, fun J F2 H2 x Y => ?_⟩
  have j2 := j1.grow x
  refine ⟨fun i m σ H => m = ds.length - i ∧ i ≤ ds.length ∧ ∃ O F env, SJ (sm X W) F2 F0 H0 O F own1 env σ H ∧ loopD (bindD t) (fun env => exs W.T (run W.T W.n) sb env) (ds.drop i) env = some fl,
    ⟨ds.length, by simp, Nat.zero_le _, O, F2, env, ⟨Same.refl _, j2.x, j2.ad, j2.inj, j2.len, j2.non, j2.own⟩, e2⟩, ?_⟩
  rintro i m σ3 H3 ⟨rfl, hle, O3, F3, env3, j3, e3⟩
  by_cases hlt : i < ds.length
  · have gd : ds[i]? = some ds[i] := List.getElem?_eq_getElem hlt
    rw [List.drop_eq_getElem_cons hlt] at e3
    obtain ⟨env4, b4, e4⟩ := loopD_cons e3
    obtain ⟨go, yl⟩ := Y.item i _ F3 H3 j3.b (j3.b.trans j3.x.s) j3.x.s gd
    refine .inr ⟨go, fun σ' H' => ∃ O F env, SJ (sm X W) F2 F0 H0 O F own1 env σ' H' ∧ loopD (bindD t) (fun env => exs W.T (run W.T W.n) sb env) (ds.drop (i + 1)) env = some fl, fun σ' H' hN => ⟨ds.length - (i + 1), by omega, rfl, hlt, hN⟩, fun x5 H5 y => ?_⟩
    obtain ⟨F5, xx, rx⟩ := yl x5 H5 y
    have j5 := j3.grow xx
    refine j5.bind (M := sm X W) (fun i m => dis i (List.mem_append_left _ m)) rx b4 fun σ6 j6 => ?_
    rcases e4 with ⟨env7, h7, l7⟩ | ⟨z, h7, rfl⟩
    · exact ⟨F2, F0, H0, O3, F5, env4, _, j6, h7, fun O' F' σ' H' j' => ⟨O', F', env7, j', l7⟩⟩
    · exact ⟨F2, F0, H0, O3, F5, env4, _, j6, h7, k⟩
  · have e : i = ds.length := by omega
    subst e
    rw [List.drop_length] at e3
    obtain rfl : Fl.nx env3 = fl := Option.some.inj e3
    exact .inl ⟨Y.stop _ F3 H3 j3.b (j3.b.trans j3.x.s) j3.x.s (Nat.le_refl _), k O3 F3 σ3 H3 ⟨(j.b.trans (s1.trans x.f)).trans j3.b, j3.x, j3.ad, j3.inj, j3.len, j3.non, j3.own⟩⟩
theorem ds_while {body : List Stmt} {sb : Ss} (g : Gd W X) (hc : DT W X c r) (hb : DSs W X fr own1 own1 body sb) (c1 : subL own1 own = true := by decide) : DS W X fr own own1 (.While c body [] pos) (.whl r sb) := by
  have hp : PassesOwn (model X.prog X.w) X.A X.env X.xe := by rw [g.nox]; exact PassesOwn.never
  refine PS.imp (ps_while hp hc hb) fun Dn σ H ⟨B, F0, H0, O, F, env, fl, j, ev, k⟩ => ?_
  obtain ⟨F1, s1, j1⟩ := j.free (sub_of c1)
  have ev : whileD (fun env => Nt.ev W.T (run W.T W.n) r env) (fun env => exs W.T (run W.T W.n) sb env) WF env = some fl := ev
  refine ⟨fun m σ H => ∃ O F env, SJ (sm X W) B F0 H0 O F own1 env σ H ∧ whileD (fun env => Nt.ev W.T (run W.T W.n) r env) (fun env => exs W.T (run W.T W.n) sb env) m env = some fl, ⟨WF, O, F1, env, ⟨j.b.trans s1, j1.x, j1.ad, j1.inj, j1.len, j1.non, j1.own⟩, ev⟩, ?_⟩
  rintro m σ3 H3 ⟨O3, F3, env3, j3, e3⟩
  cases m with
  | zero => cases e3
  | succ m =>
    unfold whileD at e3
    split at e3
    · rename_i c1
      refine ⟨F3, env3, true, j3.x.s, j3.envS, c1, fun H4 t => iteT ?_⟩
      have j4 := j3.grow (Ext.grow j3.x.s t)
      refine ⟨fun σ' H' => ∃ O F env, SJ (sm X W) B F0 H0 O F own1 env σ' H' ∧ whileD (fun env => Nt.ev W.T (run W.T W.n) r env) (fun env => exs W.T (run W.T W.n) sb env) m env = some fl, fun σ' H' hN => ⟨m, Nat.lt_succ_self _, hN⟩, ?_⟩
      split at e3
      · rename_i env5 e5
        exact ⟨B, F0, H0, O3, F3, env3, _, j4, e5, fun O' F' σ' H' j' => ⟨O', F', env5, j', e3⟩⟩
      · rename_i hr
        cases fl with
        | nx env' => exact absurd e3 (hr env')
        | rt z => exact ⟨B, F0, H0, O3, F3, env3, _, j4, e3, k⟩
    · rename_i c1
      cases e3
      refine ⟨F3, env3, false, j3.x.s, j3.envS, c1, fun H4 t => iteF ?_⟩
      exact k O3 F3 σ3 H4 (j3.grow (Ext.grow j3.x.s t))
    · cases e3
end

/-! ### a def -/
theorem start_get {M : Sm} {F : Hp} {N : List Str} {vs : List V} {ds : List D} {m : Nat} (r : RVs M F ds vs) : ∀ i d, gt (ds.map some ++ List.replicate m none) i = some d → ∃ v, (L2.start N vs)[i]? = some (some v) ∧ RV M F d v := fun i d e => by
  unfold gt at e
  have hl := r.len
  by_cases h : i < ds.length
  · rw [List.getElem?_append_left (by simpa using h), List.getElem?_map, List.getElem?_eq_getElem h] at e
    have e : some ds[i] = some d := e
    cases e
    obtain ⟨v, h1, h2⟩ := r.get (List.getElem?_eq_getElem h)
    refine ⟨v, ?_, h2⟩
    unfold L2.start
    rw [List.getElem?_append_left (by rw [List.length_map]; omega), List.getElem?_map, h1]
    rfl
  · rw [List.getElem?_append_right (by simpa using h), List.getElem?_replicate] at e
    split at e
    · rename_i o hx
      split at hx
      · cases hx; cases e
      · cases hx
    · cases e
/-- THE RULE: def number k, by its body's derivation -/
theorem fn_okX {ca : Nat → Addr} {T : Tb} {P : Program} {w : World} {K : PySem.W.Frag} {mg : Str → Option Value} {base : Heap} {x qual : Str} {st : Stmt} {f : Addr} {fd : FuncData} {N ps : List Str} {n k : Nat} {fn : Fn} {own' : List Nat} (Fu : Fun K x qual st f fd) (S : FnScope N ps (defScope st))
    (hfn : T.fns[k]? = some fn) (hnp : fn.np = ps.length) (hns : decide (fn.ns ≤ N.length ∧ fn.np ≤ fn.ns) = true)
    (body : ∀ (cdv : Value) (A : Around) (outer : List PySem.Env) (s : Shared) (H : Hp) (E : XK), Gd ⟨ca, { T with lv := n }⟩ (cxOf CX0 P w K mg base N qual (defScope st) f cdv A outer s H E).nox →
      DSs ⟨ca, { T with lv := n }⟩ (cxOf CX0 P w K mg base N qual (defScope st) f cdv A outer s H E).nox fn.fr [] own' (defBody st) fn.body) : FnOk P w K mg base CX0 (n + 1) f fd ps (spD ⟨K, ca, T.cn⟩ T (n + 1) k) := by
  refine Fu.ok S (fun vs H Q E h => ?_) fun cdv A outer s H vs Q E hr h => ?_
  · obtain ⟨fn', F, ds, d, e1, e2, _, r, _⟩ := h
    rw [hfn] at e1
    cases e1
    rw [r.len, e2, hnp]
  · obtain ⟨fn', F, ds, d, e1, e2, sm1, r, ev, q⟩ := h
    rw [hfn] at e1
    cases e1
    have hns := of_decide_eq_true hns
    refine ⟨_, body cdv A outer s H E ⟨rfl, hr, rfl⟩, ?_⟩
    unfold run at ev
    rw [hfn] at ev
    simp only [e2, if_true] at ev
    have hlv : run { T with lv := n } n = run T n := by funext k ds; exact run_lv T n n k ds
    have J : SJ ⟨K, ca, T.cn⟩ F F H (fun _ => none) F [] (ds.map some ++ List.replicate (fn.ns - fn.np) none) (L2.start N vs) H := by
      refine ⟨Same.refl _, Ext.refl sm1, fun j m => (by cases m), fun i m => (by cases m), ?_, fun i d e _ => start_get r i d e, fun i d _ m => (by cases m)⟩
      unfold L2.start
      simp only [List.length_append, List.length_map, List.length_replicate]
      have := r.len
      omega
    cases hx : exs { T with lv := n } (run T n) fn.body (ds.map some ++ List.replicate (fn.ns - fn.np) none) with
    | none => rw [hx] at ev; cases ev
    | some fl =>
      rw [hx] at ev
      refine ⟨F, F, H, fun _ => none, F, _, fl, J, by show exs { T with lv := n } (run { T with lv := n } n) fn.body _ = _; rw [hlv]; exact hx, ?_⟩
      cases fl with
      | nx env' =>
        cases ev
        intro O' F' σ' H' j'
        exact q .non F' H' j'.x (scl_top rfl)
      | rt d' =>
        cases ev
        exact fun v F' H' xx rr => q v F' H' xx rr
theorem fnat {ca : Nat → Addr} {T : Tb} {P : Program} {w : World} {K : PySem.W.Frag} {mg : Str → Option Value} {base : Heap} {x qual : Str} {st : Stmt} {f : Addr} {fd : FuncData} {ps : List Str} {n k : Nat} (Fu : Fun K x qual st f fd) (hb : Binds K fd ps []) (h : FnOk P w K mg base CX0 n f fd ps (spD ⟨K, ca, T.cn⟩ T n k)) : FnAt ⟨ca, T⟩ P w K mg base n k f := ⟨fd, ps, Fu.kp, hb, h⟩
/-- no call allowed: nothing is promised -/
theorem fn_zero {ca : Nat → Addr} {T : Tb} {P : Program} {w : World} {K : PySem.W.Frag} {mg : Str → Option Value} {base : Heap} {f : Addr} {fd : FuncData} {ps : List Str} {k : Nat} (kp : PySem.W.keepIn K (.ref f) = true) (hb : Binds K fd ps []) : FnAt ⟨ca, T⟩ P w K mg base 0 k f := by
  have no : ∀ vs H Q E, ¬ spD ⟨K, ca, T.cn⟩ T 0 k vs H Q E := fun vs H Q E ⟨fn, F, ds, d, _, _, _, _, e, _⟩ => by cases e
  exact ⟨fd, ps, kp, hb, fun vs H Q E h => absurd h (no vs H Q E), fun A outer s H args us vs Q E _ _ _ _ h => absurd h (no vs H Q E)⟩

/-! ### the law -/
/-- the law's own promise: of the script's list -/
theorem law_sp {ca : Nat → Addr} {T : Tb} {K : PySem.W.Frag} {n k : Nat} {fn : Fn} {H : Hp} {a : Addr} {ns : List Int} {Q : VK} {E : XK} (hfn : T.fns[k]? = some fn) (hnp : fn.np = 1) (hl : SqL K H a (ns.map V.int)) (hr : run T n k [.frl ns] = some (.bl true)) (q : ∀ v H', v = .bl true → Q v H') : spD ⟨K, ca, T.cn⟩ T n k [.ref a] H Q E := by
  refine ⟨fn, H, [.frl ns], .bl true, hfn, by rw [hnp]; rfl, Same.refl _, RVs.cons ⟨a, rfl, hl⟩ RVs.nil, hr, fun v F' H' x r => q v H' ?_⟩
  obtain ⟨F2, _, _, r2⟩ := r.plain x
  exact r2
end Nt

set_option Elab.async false
set_option linter.all false
set_option maxRecDepth 100000
set_option maxHeartbeats 4000000
/-! Further rules. -/
namespace Nt
open PySem PySem.Spec PyProof.Rows L2

theorem room65 {k : Nat} {A : Around} (r : Room k A) : A.units + 65 < cLine := by have := r.un; omega
theorem gd_blk {W : Wd} {X : Cx} {s : Shared} {H : Hp} {sc : Scope} {env : PySem.Env} {fp : List Addr} (g : Gd W X) : Gd W (X.blk s H sc env fp) := ⟨g.calm, g.room, rfl⟩
theorem gbE {W : Wd} {X : Cx} {s : Shared} {H : Hp} {sc : Scope} {env : PySem.Env} {fp : List Addr} {e : Expr} {p : E} (g : Gd W X) (h : Gd W (X.blk s H sc env fp) → DE W (X.blk s H sc env fp) e p) : DE W (X.blk s H sc env fp) e p := h (gd_blk g)
theorem gbT {W : Wd} {X : Cx} {s : Shared} {H : Hp} {sc : Scope} {env : PySem.Env} {fp : List Addr} {e : Expr} {p : E} (g : Gd W X) (h : Gd W (X.blk s H sc env fp) → DT W (X.blk s H sc env fp) e p) : DT W (X.blk s H sc env fp) e p := h (gd_blk g)
theorem gbG {W : Wd} {X : Cx} {s : Shared} {H : Hp} {sc : Scope} {env : PySem.Env} {fp : List Addr} {tg : Expr} {t : TG} (g : Gd W X) (h : Gd W (X.blk s H sc env fp) → PG (X.blk s H sc env fp) tg t) : PG (X.blk s H sc env fp) tg t := h (gd_blk g)
theorem fnat_lv {ca : Nat → Addr} {T : Tb} {P : Program} {w : World} {K : PySem.W.Frag} {mg : Str → Option Value} {base : Heap} {n k a : Nat} {f : Addr} (F : FnAt ⟨ca, T⟩ P w K mg base n k f) : FnAt ⟨ca, { T with lv := a }⟩ P w K mg base n k f := by
  obtain ⟨fd, ps, kp, hb, ok⟩ := F.ex
  refine ⟨fd, ps, kp, hb, ok.imp fun vs H Q E h => ?_⟩
  obtain ⟨fn, F, ds, d, e1, e2, s, r, ev, q⟩ := h
  exact ⟨fn, F, ds, d, e1, e2, s, r, by rw [← run_lv T a n k ds]; exact ev, q⟩
/-! the scopes of a def's comprehensions -/
mutual
def scE : Expr → List Scope
  | .BoolOp _ vs _ => scEs vs
  | .BinOp a _ b _ => scE a ++ scE b
  | .UnaryOp _ a _ => scE a
  | .IfExp a b c _ => scE a ++ scE b ++ scE c
  | .ListComp e gs s _ => s :: (scG gs ++ scE e)
  | .Compare a _ bs _ => scE a ++ scEs bs
  | .Call f as _ _ => scE f ++ scEs as
  | .Attribute a _ _ => scE a
  | .Subscript a b _ => scE a ++ scE b
  | .List es _ => scEs es
  | .Tuple es _ _ => scEs es
  | .Slice a b c _ => scO a ++ scO b ++ scO c
  | _ => []
def scO : Option Expr → List Scope
  | some e => scE e
  | none => []
def scEs : List Expr → List Scope
  | [] => []
  | e :: es => scE e ++ scEs es
def scG : List Comprehension → List Scope
  | [] => []
  | ⟨_, it, ifs, _⟩ :: gs => scE it ++ scEs ifs ++ scG gs
end

section
variable {W : Wd} {X : Cx} {fr : Bool} {own own1 own2 : List Nat} {st : Stmt} {a b c e tg iter : Expr} {p q r : E} {pos : Pos}
theorem dt_ch {op op' : CmpOp} {o o' : O2} {r1 r2 : R2} (ho : OpR X (compareOp op) r1) (hr : OpS (sm X W) o r1) (ho' : OpR X (compareOp op') r2) (hr' : OpS (sm X W) o' r2) (ha : DB W X a p) (hb : DB W X b q) (hc : DB W X c r)
    (hm : lastMarks [op, op'] [b, c] = false := by with_unfolding_all rfl) : DT W X (.Compare a [op, op'] [b, c] pos) (.ch o o' p q r) :=
  PT.imp (pt_chain ho ho' ha hb hc hm) fun σ H Q ⟨F, env, d, s, hs, ev, k⟩ => by
    obtain ⟨d1, d2, e1, e2, e⟩ := ev_ch ev
    refine ⟨F, env, d1, s, hs, e1, fun v H1 t1 w1 => ⟨F, env, d2, s.trans t1, hs.mono (Same.refl _) t1, e2, fun y H2 t2 w2 => ?_⟩⟩
    rcases e with ⟨e3, w, e4, e5⟩ | ⟨e3, e5⟩
    · obtain ⟨u, su, hq⟩ := hr H2 v y d1 d2 _ (w1.mono t2) w2 e3
      obtain rfl : V.bl true = u := Option.some.inj su
      refine hq _ ⟨true, rfl, ?_⟩
      rw [if_pos rfl]
      refine ⟨F, env, w, (s.trans t1).trans t2, (hs.mono (Same.refl _) t1).mono (Same.refl _) t2, e4, fun x H3 t3 w3 => ?_⟩
      obtain ⟨u, su, hq⟩ := hr' H3 y x d2 w _ (w2.mono t3) w3 e5
      obtain rfl : V.bl d = u := Option.some.inj su
      exact hq _ ⟨d, rfl, k H3 ((t1.trans t2).trans t3)⟩
    · obtain ⟨u, su, hq⟩ := hr H2 v y d1 d2 _ (w1.mono t2) w2 e3
      obtain rfl : V.bl false = u := Option.some.inj su
      refine hq _ ⟨false, rfl, ?_⟩
      rw [if_neg Bool.false_ne_true]
      cases e5
      exact ⟨false, rfl, k H2 (t1.trans t2)⟩
theorem de_ch2 {op op' : CmpOp} {o o' : O2} {r1 r2 : R2} (ho : OpR X (compareOp op) r1) (hr : OpS (sm X W) o r1) (ho' : OpR X (compareOp op') r2) (hr' : OpS (sm X W) o' r2) (ha : DB W X a p) (hb : DB W X b q) (hc : DB W X c r)
    (hm : lastMarks [op, op'] [b, c] = false := by with_unfolding_all rfl) : DE W X (.Compare a [op, op'] [b, c] pos) (.ch o o' p q r) := de_ch ho hr ho' hr' ha hb hc (pe_chain ho ho' ha hb hc hm)
/-! ### range with a step -/
theorem small_up {i j k : Int} (h0 : 0 ≤ i) (h1 : i ≤ 1000000) (h2 : 0 ≤ j) (h3 : j ≤ 1000000) (h4 : 0 < k) (h5 : k < 1000000) : Builtin.Range.small i j k = true ∧ Builtin.Range.rangeSize i j k = ((rg3 i j k).toNat : Nat) ∧ (rg3 i j k).toNat ≤ 1000000 := by
  have hd : 0 ≤ (j - i - 1) / k ∨ ¬ i < j := by
    by_cases c : i < j
    · left
      exact Int.ediv_nonneg (by omega) (by omega)
    · exact .inr c
  have hd2 : i < j → (j - i - 1) / k ≤ j - i - 1 := fun c => by
    have := Int.ediv_le_self (a := j - i - 1) k (by omega)
    exact this
  have e : Builtin.Range.rangeSize i j k = rg3 i j k := by
    unfold Builtin.Range.rangeSize rg3
    rw [if_pos (show k > 0 from h4)]
  have nn : 0 ≤ rg3 i j k ∧ rg3 i j k ≤ 1000000 := by
    unfold rg3
    split
    · rename_i c
      have := hd2 c
      rcases hd with z | z
      · omega
      · exact absurd c z
    · omega
  refine ⟨?_, by rw [e]; omega, by omega⟩
  unfold Builtin.Range.small
  rw [e]
  simp only [Builtin.Range.rangeFitsLong, Bool.and_eq_true, Bool.or_eq_true, decide_eq_true_eq, beq_iff_eq, if_pos (show k > 0 from h4)]
  omega
theorem dr_r3 {fz : Bool} {pp : Pos} (h : DB W X a p) (h2 : DB W X b q) (h3 : DB W X c r) (hg : Gl X "range" := by rfl) (hm : X.mg "range" = none) (hst : starEach [a, b, c] X.env = (false, eval a X.env) :: starEach [b, c] X.env := by rfl) (hst2 : starEach [b, c] X.env = (false, eval b X.env) :: starEach [c] X.env := by rfl) (hst3 : starEach [c] X.env = [(false, eval c X.env)] := by rfl) :
    DR W fz X tg (.Call (.Name "range" pp) [a, b, c] [] pos) (.r3 p q r) :=
  PI.imp (pi_range3 hg hm (pa_cons h (pa_cons h2 (pa_cons h3 pa_nil hst3) hst2) hst) hst (by rw [hst2, hst3]; rfl)) fun σ H R ⟨F, env, ds, s, hs, _, ev, k⟩ => by
    replace ev : evr W.T (run W.T W.n) (.r3 p q r) env = some ds := ev
    unfold evr at ev
    split at ev
    · rename_i i e1
      split at ev
      · rename_i j e2
        split at ev
        · rename_i l e3
          obtain ⟨cc, rfl⟩ := ite_some ev
          simp only [Bool.and_eq_true, decide_eq_true_eq] at cc
          obtain ⟨⟨⟨⟨⟨c1, c2⟩, c3⟩, c4⟩, c5⟩, c6⟩ := cc
          obtain ⟨s1, s2, s3⟩ := small_up c1 c2 c3 c4 c5 c6
          refine ⟨F, env, _, s, hs, e1, fun v H1 t r => ⟨F, env, _, s.trans t, hs.mono (Same.refl _) t, e2, fun w H2 t2 r2 => ⟨F, env, _, (s.trans t).trans t2, (hs.mono (Same.refl _) t).mono (Same.refl _) t2, e3, fun z H3 t3 r3 => ⟨i, j, l, (rg3 i j l).toNat, ?_, ⟨by omega, by omega, s1, s2⟩, ?_⟩⟩⟩⟩
          · rw [show v = .int i from r, show w = .int j from r2, show z = .int l from r3]
          · refine k _ F H3 (Ext.grow s ((t.trans t2).trans t3)) ⟨fun m F1 H1 _ _ _ hl => ?_, fun m d F1 H1 _ _ u hd => ?_⟩
            · unfold range3D at hl
              rw [List.length_map, List.length_range] at hl
              exact hl
            · unfold range3D at hd
              have lt := some_lt hd
              rw [List.length_map, List.length_range] at lt
              rw [List.getElem?_map, List.getElem?_range lt] at hd
              have hd : D.int (i + (m : Int) * l) = d := Option.some.inj hd
              subst hd
              refine ⟨lt, fun x H2 ⟨e1, e2⟩ => ?_⟩
              rw [e1, e2]
              exact ⟨F1, Ext.refl u, rfl⟩
        · cases ev
      · cases ev
    · cases ev
/-! ### a comprehension, stored at once -/
theorem asg_mono {te te' : TE} {g : TG} {st : Stmt} (h : PS X st (tAsg te g)) (i : ∀ σ H Q, te' σ H Q → te σ H Q) : PS X st (tAsg te' g) := PS.imp h fun D σ H q => i σ H _ q
theorem pa_comp {i : Nat} {y : Str} {py : Pos} {elt iter : Expr} {scope : Scope} {own : List (Str × Nat)} {s : Sr} {t : Tg} {p : E} {pos spos : Pos} (hsw : swapsWith (.ListComp elt [⟨tg, iter, [], 0⟩] scope pos) (some (.Name y py)) spos.line X.env = pure true) (hy : X.N[i]? = some y) (hyl : X.env.scope.names.lookup y = some .local) (hc : X.calm = true) (hN : X.N.Nodup) (hi : DR W false X tg iter s) (ok : BlkOk X.N X.env.scope scope own) (ho : own.map (·.2) = tgs t)
    (hg : ∀ (s : Shared) (H : Hp) (C : Addr) (cl : List (Str × Addr)) (fp : List Addr), PG (X.blk s H scope (compEnvC scope cl C X.env) fp) tg (gT X.K t)) 
    (he : ∀ (s : Shared) (H : Hp) (C : Addr) (cl : List (Str × Addr)) (fp : List Addr), DE W (X.blk s H scope (compEnvC scope cl C X.env) fp) elt p) (hs : ∀ x, foldedSetIterable iter X.env x = pure x := by intro _; rfl) :
    PS X (.Assign [.Name y py] (.ListComp elt [⟨tg, iter, [], 0⟩] scope pos) spos) (tAsg (tD (sm X W) W (.comp s t p)) (gName i)) :=
  asg_mono (ps_setLc hc hN hy hyl hsw hi ok hg (fun _ _ _ _ _ => pts_nil) (fun s H C cl fp => deP (he s H C cl fp)) hs) fun σ H Q h => by
    rw [ho]
    exact comp_t rfl rfl σ H Q h
theorem pa_compI {i : Nat} {y : Str} {py : Pos} {elt iter ic : Expr} {scope : Scope} {own : List (Str × Nat)} {s : Sr} {t : Tg} {c p : E} {pos spos : Pos} (hsw : swapsWith (.ListComp elt [⟨tg, iter, [ic], 0⟩] scope pos) (some (.Name y py)) spos.line X.env = pure true) (hy : X.N[i]? = some y) (hyl : X.env.scope.names.lookup y = some .local) (hc : X.calm = true) (hN : X.N.Nodup) (hi : DR W false X tg iter s) (ok : BlkOk X.N X.env.scope scope own) (ho : own.map (·.2) = tgs t)
    (hg : ∀ (s : Shared) (H : Hp) (C : Addr) (cl : List (Str × Addr)) (fp : List Addr), PG (X.blk s H scope (compEnvC scope cl C X.env) fp) tg (gT X.K t)) 
    (ht : ∀ (s : Shared) (H : Hp) (C : Addr) (cl : List (Str × Addr)) (fp : List Addr), DT W (X.blk s H scope (compEnvC scope cl C X.env) fp) ic c)
    (he : ∀ (s : Shared) (H : Hp) (C : Addr) (cl : List (Str × Addr)) (fp : List Addr), DE W (X.blk s H scope (compEnvC scope cl C X.env) fp) elt p) (hs : ∀ x, foldedSetIterable iter X.env x = pure x := by intro _; rfl) :
    PS X (.Assign [.Name y py] (.ListComp elt [⟨tg, iter, [ic], 0⟩] scope pos) spos) (tAsg (tD (sm X W) W (.compI s t c p)) (gName i)) :=
  asg_mono (ps_setLc hc hN hy hyl hsw hi ok hg (fun s H C cl fp => pts_one (ht s H C cl fp)) (fun s H C cl fp => deP (he s H C cl fp)) hs) fun σ H Q h => by
    rw [ho]
    exact comp_tI rfl rfl σ H Q h
/-! ### constants of the module -/
theorem de_gint {x : Str} {i : Int} (h : ∃ t, X.mg x = some (.int i t)) (hg : Gl X x := by rfl) (hd : (x == ("__debug__" : Str)) = false := by decide) : DE W X (.Name x pos) (.lit (.int i)) := by
  obtain ⟨t, h⟩ := h
  exact de_glob (v := .int i) hg h ⟨t, rfl⟩ (fun F => rfl) rfl hd
/-- a tuple of ints that stands in the written part -/
def TupAt (K : PySem.W.Frag) (mg : Str → Option Value) (x : Str) (ns : List Int) : Prop := ∃ a o its n, mg x = some (.ref a) ∧ K.lookup a = some o ∧ o.cls = .type "tuple" ∧ o.data = .seq its n ∧ Vals (ns.map V.int) its.toList ∧ ns.length ≤ 1000
theorem de_gtup {x : Str} {ns : List Int} (h : TupAt X.K X.mg x ns) (hg : Gl X x := by rfl) (hd : (x == ("__debug__" : Str)) = false := by decide) : DE W X (.Name x pos) (.lit (.tup (ns.map .int))) := by
  obtain ⟨a, o, its, n, h1, h2, h3, h4, h5, h6⟩ := h
  refine de_glob (v := .ref a) hg h1 rfl (fun F => ⟨a, ns.map V.int, rfl, .inr ⟨o, its, n, h2, h3, h4, ?_, h5⟩, RVs.ints⟩) rfl hd
  have := h5.length
  rw [List.length_map] at this
  have q : its.toList.length = its.size := rfl
  have e : sizeLine = 16777216 := sizeLine_eq
  omega
end
end Nt

set_option Elab.async false
set_option linter.all false
set_option maxRecDepth 100000
set_option maxHeartbeats 4000000
/-! sum of a tuple; name op= e; zip of three tuples with one name as the target. -/
namespace Nt
open PySem PySem.Spec PyProof.Rows L2

/-! ### sum of a tuple of ints -/
section
variable {prog : Program} {w : World} {A : Around} {E : Value → Shared → Prop} {s : Shared} {l : Addr}
theorem sum_tup {xs : Array (Int × Tok)} {Q : Value → Shared → Prop} (hh : A.handled = none) (hl : s.heap.IsTuple l (intItems xs))
    (h : ∀ h' tk t', (∀ b o, s.heap.get? b = some o → h'.get? b = some o) → Q (.int (preSum (numAt xs) xs.size) t') { s with heap := h', toks := tk }) :
    wpAny (model prog w) A (call (.builtin "sum") [.ref l]) Q E s := by
  have hlt : l < s.heap.objs.size := by obtain ⟨_, e, _⟩ := hl; exact Heap.lt_size e
  refine call_sum_walkG (wpAny_pyIter_tuple hl ?_)
  refine ⟨_, _, _, _, _, _, numAt xs, rfl, Walks.tuple (A := A.in1) hh _ l (Nat.ne_of_lt hlt) (intItems xs), ⟨⟨_, Heap.get?_push_size _ rfl, rfl, rfl⟩, hl.push _⟩, fun b hb => ?_, (fun _ _ => intItems_at), fun h' tk t' hk => ?_⟩
  · show b < (s.heap.push _).objs.size
    rw [Heap.size_push]
    rcases List.mem_cons.mp hb with rfl | hb
    · exact Nat.lt_succ_self _
    · rcases List.mem_cons.mp hb with rfl | hb
      · exact Nat.lt_succ_of_lt hlt
      · cases hb
  · have := h h' tk t' fun b o e => hk b o (fun hb => by
      rw [List.mem_singleton] at hb
      subst hb
      exact Nat.lt_irrefl _ (Heap.lt_size e)) (Heap.get?_push_of_some _ e)
    simpa [intItems] using this
theorem sum_tupRaw {its : List Value} {ns : List Int} {Q : Value → Shared → Prop} (hh : A.handled = none) (hl : s.heap.IsTuple l its.toArray) (hi : IntsAre its ns)
    (h : ∀ h' tk t', (∀ b o, s.heap.get? b = some o → h'.get? b = some o) → Q (.int ns.sum t') { s with heap := h', toks := tk }) : wpAny (model prog w) A (call (.builtin "sum") [.ref l]) Q E s := by
  obtain ⟨xs, e⟩ := hi.allInts.items
  have hn : numsOf (intItems xs).toList = ns := by rw [← e]; exact hi.numsOf
  rw [nums_intItems] at hn
  rw [e] at hl
  refine sum_tup hh hl fun h' tk t' hk => ?_
  have := h h' tk t' hk
  rw [preSum_eq, List.take_of_length_le (by simp), hn]; exact this
end
def rSumT (K : PySem.W.Frag) : List V → Hp → VK → Prop := fun vs H Q => ∃ (a : Addr) (ns : List Int), vs = [V.ref a] ∧ SqT K H a (ns.map V.int) ∧ Q (.int ns.sum) H
theorem cr_sumT {X : Cx} (hc : X.calm = true) : CallR X (.builtin "sum") (rSumT X.K) := by
  intro pins s σ H vs us Q I r h
  obtain ⟨a, ns, rfl, hs, q⟩ := h
  obtain ⟨its, rv, hl, _⟩ := I.tuple hs
  rw [Vals.ref1 r]
  exact sum_tupRaw (I.ok.hd hc) hl rv.ints fun h' tk t' hk => ⟨.int _, H, I.kept hk, ⟨_, rfl⟩, q⟩
theorem cs_sumT {sub : Nat → Nat → Option Bool} {M : Sm} : CallS sub M .sum (rSumT M.K) := by
  intro H x d z h e0
  have e : sumD d = some z := e0
  clear e0
  unfold sumD at e
  split at e
  · rename_i xs
    cases hi : intsOf xs with
    | none => rw [hi] at e; cases e
    | some ns =>
      rw [hi] at e
      cases e
      obtain ⟨a, vs, e1, h1, h2⟩ := h
      obtain ⟨e2, _⟩ := h2.of_ints hi
      subst e2
      exact ⟨_, rfl, fun Q k => ⟨a, ns, by rw [e1], h1, k⟩⟩
  · cases e
section
variable {W : Wd} {X : Cx} {a b c e : Expr} {p q r : E} {pos : Pos} {fr : Bool} {own own1 : List Nat} {st : Stmt}
theorem de_sum {pp : Pos} (hc : X.calm = true) (h : DB W X a p) (hg : Gl X "sum" := by rfl) (hm : X.mg "sum" = none) (hst : starEach [a] X.env = [(false, eval a X.env)] := by rfl) : DE W X (.Call (.Name "sum" pp) [a] [] pos) (.o1 .sum p) :=
  de_b1 (cr_sumT hc) hg hm (by decide +kernel) cs_sumT h (by decide) (by decide) hst

/-! ### name op= e, ints -/
theorem ds_augadd {i : Nat} (h : PS X st (tAug i (tB (sm X W) W p) (ipI fun i j => i + j))) (c1 : subL own1 own = true := by decide) (c2 : disL [i] own1 = true := by decide) : DS W X fr own own1 st (.asg i (.o2 .adi (.var i) p)) := PS.imp h fun Dn σ H ⟨B, F0, H0, O, F, env, fl, j, ev, k⟩ => by
  obtain ⟨d, e1, rfl⟩ := ex_asg ev
  obtain ⟨F1, s1, j1⟩ := j.free (sub_of c1)
  have dis := dis_of c2
  obtain ⟨x, y, ex, ey, eo⟩ := ev_o2 e1
  replace eo : int2 (fun i j => some (.int (i + j))) x y = some d := eo
  unfold int2 at eo
  split at eo
  · cases eo
    rename_i a b
    obtain ⟨v, hv, rv⟩ := j1.envS.2 i (.int a) (by unfold Nt.ev at ex; exact ex)
    have rv : v = .int a := rv
    refine ⟨v, hv, F1, env, _, j1.x.s, j1.envS, ey, fun u H2 t r => ⟨a, b, rv, r, ?_⟩⟩
    exact k O F1 _ H2 ((j1.grow (Ext.grow j1.x.s t)).put (by exact rfl) (dis i (List.mem_cons_self ..)))
  · cases eo
end
end Nt

set_option Elab.async false
set_option linter.all false
set_option maxRecDepth 100000
set_option maxHeartbeats 4000000
/-! zip of three tuples of one length, the target one name: each tuple that was handed out may still be alive. -/
namespace Nt
open PySem PySem.Spec PyProof.Rows L2
abbrev Zg (h : Heap) (z TI TO : Addr) (f0 : Value) (f : Bool) : Prop :=
  h.get? z = some { cls := .type "zip", dict := none, data := .fields #[f0, .bool f, .bool false, .ref TI, .ref TO], slots := #[] }
abbrev T3 (h : Heap) (T : Addr) (a1 a2 a3 : Value) : Prop := h.get? T = some { cls := .type "tuple", data := .seq #[a1, a2, a3] }
def Fv (v : Value) : Prop := v = .none ∨ ∃ T : Addr, v = rawInt T
structure Z3 (z TI TO i1 i2 i3 l1 l2 l3 : Addr) : Prop where
  TIz : TI ≠ z
  TOz : TO ≠ z
  TITO : TI ≠ TO
  TIi : TI ≠ i1 ∧ TI ≠ i2 ∧ TI ≠ i3
  TOi : TO ≠ i1 ∧ TO ≠ i2 ∧ TO ≠ i3
  iz : i1 ≠ z ∧ i2 ≠ z ∧ i3 ≠ z
  ii : i1 ≠ i2 ∧ i1 ≠ i3 ∧ i2 ≠ i3
  lz : l1 ≠ z ∧ l2 ≠ z ∧ l3 ≠ z
  lT : l1 ≠ TO ∧ l2 ≠ TO ∧ l3 ≠ TO
  l1i : l1 ≠ i1 ∧ l1 ≠ i2 ∧ l1 ≠ i3
  l2i : l2 ≠ i1 ∧ l2 ≠ i2 ∧ l2 ≠ i3
  l3i : l3 ≠ i1 ∧ l3 ≠ i2 ∧ l3 ≠ i3
section
variable {prog : Program} {w : World} {A : Around} {E : Value → Shared → Prop} {s : Shared} {z TI TO i1 i2 i3 l1 l2 l3 : Addr} {f0 : Value} {f : Bool} {k : Nat} {xs ys zs : Array Value} {x y u a b c : Value}
theorem alive_not {a : Addr} {Q : Option Obj → Shared → Prop} (ho : s.heap.get? a = none) (h : Q none s) : wpAny (model prog w) A (loadIfAlive a) Q E s := by
  have h' : Q (s.heap.get? a) s := by rw [ho]; exact h
  exact fun _ _ _ => h'
theorem owned_any {Q : Bool → Shared → Prop} (hz : Zg s.heap z TI TO f0 f) (hf : Fv f0) (ht : Q true s) (hn : ∀ h', Zg h' z TI TO f0 true → Heap.SameBut z s.heap h' → Q false { s with heap := h' }) :
    wpAny (model prog w) A (Builtin.SmallTypes.ownedTupleIsFree (.ref z)) Q E s := by
  unfold Builtin.SmallTypes.ownedTupleIsFree
  rcases hf with rfl | ⟨T, rfl⟩
  · exact wpAny_bind (wpAny_field hz rfl (x := .none) rfl (wpAny_pure ht))
  · refine wpAny_bind (wpAny_field hz rfl (x := rawInt T) rfl ?_)
    show wpAny _ _ (loadIfAlive ((T : Int).toNat) >>= _) _ _ _
    rw [Int.toNat_natCast]
    cases hT : s.heap.get? T with
    | none =>
      refine wpAny_bind (alive_not hT ?_)
      simp only [Option.isNone_none, if_true]
      exact wpAny_pure ht
    | some oT =>
      refine wpAny_bind (PySem.W.kdx_alive hT ?_)
      simp only [Option.isNone_some, Bool.false_eq_true, if_false]
      refine wpAny_bind (wpAny_field hz rfl (x := .bool f) rfl ?_)
      cases f with
      | true =>
        rw [if_neg (show ¬ ((Value.bool true != Value.bool true) = true) from Bool.false_ne_true)]
        exact wpAny_pure (hn s.heap hz (Heap.SameBut.refl _ _))
      | false =>
        rw [if_pos (show (Value.bool false != Value.bool true) = true from rfl)]
        exact wpAny_bind (wpAny_setField_rec hz (by simp) fun h₁ hz₁ hs₁ => wpAny_pure (hn h₁ hz₁ hs₁))
theorem updT3 {T : Addr} {j : Nat} {Q : Unit → Shared → Prop} (hT : T3 s.heap T a b c)
    (h : ∀ h', h'.get? T = some { cls := .type "tuple", data := .seq ((#[a, b, c] : Array Value).setIfInBounds j x) } → Heap.SameBut T s.heap h' → Q () { s with heap := h' }) :
    wpAny (model prog w) A (updateSeq T (·.setIfInBounds j x)) Q E s := by
  refine wpAny_updateSeq hT rfl (h _ ?_ (Heap.SameBut.update ..))
  rw [Heap.get?_update_self _ hT rfl]
  simp [Obj.mapSeq]
theorem z3_item {Q : Value → Shared → Prop} (D : Z3 z TI TO i1 i2 i3 l1 l2 l3) (hz : Zg s.heap z TI TO f0 f) (hf : Fv f0) (hTI : T3 s.heap TI (.ref i1) (.ref i2) (.ref i3)) (hTO : T3 s.heap TO a b c)
    (h1 : s.heap.IsTupleIter i1 l1 k) (h2 : s.heap.IsTupleIter i2 l2 k) (h3 : s.heap.IsTupleIter i3 l3 k) (hl1 : s.heap.IsTuple l1 xs) (hl2 : s.heap.IsTuple l2 ys) (hl3 : s.heap.IsTuple l3 zs) (hx : xs[k]? = some x) (hy : ys[k]? = some y) (hu : zs[k]? = some u)
    (hQ : ∀ h' g0 g, Zg h' z TI TO g0 g → Fv g0 → (∃ a b c, T3 h' TO a b c) → h'.IsTupleIter i1 l1 (k + 1) → h'.IsTupleIter i2 l2 (k + 1) → h'.IsTupleIter i3 l3 (k + 1) → T3 h' s.heap.objs.size x y u →
      (∀ e o, e ≠ z → e ≠ TO → e ≠ i1 → e ≠ i2 → e ≠ i3 → s.heap.get? e = some o → h'.get? e = some o) → Q (.ref s.heap.objs.size) { s with heap := h' }) :
    wpAny (model prog w) A (Builtin.«zip.__next__» ⟨[.ref z], []⟩) (fun fin s' => ∃ v, fin = .done (.ret v) ∧ Q v s') E s := by
  show wpAny _ _ (field (.ref z) 2 >>= _) _ _ _
  refine wpAny_bind (wpAny_field hz rfl (x := .bool false) rfl ?_)
  show wpAny _ _ (field (.ref z) 3 >>= _) _ _ _
  refine wpAny_bind (wpAny_field hz rfl (x := .ref TI) rfl ?_)
  refine wpAny_bind (wpAny_seqItems hTI rfl ?_)
  show wpAny _ _ (Builtin.SmallTypes.ownedTupleIsFree (.ref z) >>= _) _ _ _
  refine wpAny_bind (owned_any hz hf ?_ fun h₁ hz₁ hs₁ => ?_)
  · simp only [if_true]
    refine wpAny_bind (wpAny_rule ?_)
    refine wpAny_bind (wpAny_field hz rfl (x := .ref TO) rfl ?_)
    refine wpAny_bind (wpAny_setField_rec hz (by simp) fun h₁ hz₁ hs₁ => ?_)
    replace hz₁ : Zg h₁ z TI TO .ellipsis f := hz₁
    refine wpAny_bind ?_
    simp only [List.zipIdx_cons, List.zipIdx_nil, List.forIn_cons, List.forIn_nil]
    refine wpAny_bind (wpAny_bind (wpAny_onRaise ?_))
    show wpAny _ _ (Builtin.SmallTypes.nextOf (.ref i1) >>= _) _ _ _
    refine wpAny_bind (RZ.nextOf_tuple_item (s := { s with heap := h₁ }) (h1.extBut hs₁.extBut D.iz.1) (hl1.extBut hs₁.extBut D.lz.1) hx fun p1 j1 t1 => wpAny_pure ?_)
    have hU1 : T3 p1 TO a b c := t1.extBut _ _ D.TOi.1 (hs₁.extBut _ _ D.TOz hTO)
    refine wpAny_bind (wpAny_seqItems hU1 rfl ?_)
    refine wpAny_bind (updT3 hU1 fun g1 hT1 s1 => ?_)
    replace hT1 : T3 g1 TO x b c := hT1
    refine wpAny_bind (wpAny_letGo (wpAny_pure ?_))
    refine wpAny_bind (wpAny_bind (wpAny_onRaise ?_))
    show wpAny _ _ (Builtin.SmallTypes.nextOf (.ref i2) >>= _) _ _ _
    refine wpAny_bind (RZ.nextOf_tuple_item (s := { s with heap := g1 }) (((h2.extBut hs₁.extBut D.iz.2.1).extBut t1.extBut D.ii.1.symm).extBut s1.extBut D.TOi.2.1.symm) (((hl2.extBut hs₁.extBut D.lz.2.1).extBut t1.extBut D.l2i.1).extBut s1.extBut D.lT.2.1) hy fun p2 j2 t2 => wpAny_pure ?_)
    have hU2 : T3 p2 TO x b c := t2.extBut _ _ D.TOi.2.1 hT1
    refine wpAny_bind (wpAny_seqItems hU2 rfl ?_)
    refine wpAny_bind (updT3 hU2 fun g2 hT2 s2 => ?_)
    replace hT2 : T3 g2 TO x y c := hT2
    refine wpAny_bind (wpAny_letGo (wpAny_pure ?_))
    refine wpAny_bind (wpAny_bind (wpAny_onRaise ?_))
    show wpAny _ _ (Builtin.SmallTypes.nextOf (.ref i3) >>= _) _ _ _
    refine wpAny_bind (RZ.nextOf_tuple_item (s := { s with heap := g2 }) (((((h3.extBut hs₁.extBut D.iz.2.2).extBut t1.extBut D.ii.2.1.symm).extBut s1.extBut D.TOi.2.2.symm).extBut t2.extBut D.ii.2.2.symm).extBut s2.extBut D.TOi.2.2.symm) (((((hl3.extBut hs₁.extBut D.lz.2.2).extBut t1.extBut D.l3i.1).extBut s1.extBut D.lT.2.2).extBut t2.extBut D.l3i.2.1).extBut s2.extBut D.lT.2.2) hu fun p3 j3 t3 => wpAny_pure ?_)
    have hU3 : T3 p3 TO x y c := t3.extBut _ _ D.TOi.2.2 hT2
    refine wpAny_bind (wpAny_seqItems hU3 rfl ?_)
    refine wpAny_bind (updT3 hU3 fun g3 hT3 s3 => ?_)
    replace hT3 : T3 g3 TO x y u := hT3
    refine wpAny_bind (wpAny_letGo (wpAny_pure (wpAny_pure ?_)))
    refine wpAny_bind (wpAny_seqItems hT3 rfl ?_)
    refine wpAny_bind (wpAny_newTuple ?_)
    have hsz : g3.objs.size = s.heap.objs.size := by rw [s3.1, t3.1, s2.1, t2.1, s1.1, t1.1, hs₁.1]
    have hzz : Zg g3 z TI TO .ellipsis f := s3.extBut _ _ D.TOz.symm (t3.extBut _ _ D.iz.2.2.symm (s2.extBut _ _ D.TOz.symm (t2.extBut _ _ D.iz.2.1.symm (s1.extBut _ _ D.TOz.symm (t1.extBut _ _ D.iz.1.symm hz₁)))))
    have hkk : ∀ e o, e ≠ z → e ≠ TO → e ≠ i1 → e ≠ i2 → e ≠ i3 → s.heap.get? e = some o → g3.get? e = some o := fun e o cz cT c1 c2 c3 q =>
      s3.extBut _ _ cT (t3.extBut _ _ c3 (s2.extBut _ _ cT (t2.extBut _ _ c2 (s1.extBut _ _ cT (t1.extBut _ _ c1 (hs₁.extBut _ _ cz q))))))
    have q1 : g3.IsTupleIter i1 l1 (k + 1) := ((((j1.extBut s1.extBut D.TOi.1.symm).extBut t2.extBut D.ii.1).extBut s2.extBut D.TOi.1.symm).extBut t3.extBut D.ii.2.1).extBut s3.extBut D.TOi.1.symm
    have q2 : g3.IsTupleIter i2 l2 (k + 1) := ((j2.extBut s2.extBut D.TOi.2.1.symm).extBut t3.extBut D.ii.2.2).extBut s3.extBut D.TOi.2.1.symm
    have q3 : g3.IsTupleIter i3 l3 (k + 1) := j3.extBut s3.extBut D.TOi.2.2.symm
    have hzlt : z < g3.objs.size := Heap.lt_size hzz
    show wpAny _ _ (Builtin.SmallTypes.ownedTupleHandOut (.ref z) (.ref g3.objs.size) >>= _) _ _ _
    refine wpAny_bind ?_
    unfold Builtin.SmallTypes.ownedTupleHandOut
    have hz₆ : Zg (g3.push { cls := .type "tuple", data := .seq #[x, y, u] }) z TI TO .ellipsis f := Heap.get?_push_of_some _ hzz
    refine wpAny_bind (wpAny_setField_rec hz₆ (by simp) fun h₇ hz₇ hs₇ => ?_)
    replace hz₇ : Zg h₇ z TI TO (rawInt g3.objs.size) f := hz₇
    refine wpAny_setField_rec hz₇ (by simp) fun h₈ hz₈ hs₈ => ?_
    replace hz₈ : Zg h₈ z TI TO (rawInt g3.objs.size) false := hz₈
    have up : ∀ e o, e ≠ z → g3.get? e = some o → h₈.get? e = some o := fun e o c1 q => hs₈.extBut _ _ c1 (hs₇.extBut _ _ c1 (Heap.get?_push_of_some _ q))
    have hT₈ : T3 h₈ g3.objs.size x y u := hs₈.extBut _ _ (Nat.ne_of_gt hzlt) (hs₇.extBut _ _ (Nat.ne_of_gt hzlt) (Heap.get?_push_size _ rfl))
    refine wpAny_pure ⟨_, rfl, ?_⟩
    rw [hsz] at hT₈
    show Q (.ref g3.objs.size) _
    rw [hsz]
    exact hQ h₈ _ _ hz₈ (.inr ⟨_, rfl⟩) ⟨_, _, _, up _ _ D.TOz hT3⟩ (q1.at fun o q => up _ o D.iz.1 q) (q2.at fun o q => up _ o D.iz.2.1 q) (q3.at fun o q => up _ o D.iz.2.2 q) hT₈ fun e o cz cT c1 c2 c3 q => up e o cz (hkk e o cz cT c1 c2 c3 q)
  · simp only [Bool.false_eq_true, if_false]
    refine wpAny_bind ?_
    rw [← Array.forIn_toList]
    simp only [List.forIn_cons, List.forIn_nil]
    refine wpAny_bind (wpAny_bind (wpAny_holding ?_))
    show wpAny _ _ (Builtin.SmallTypes.nextOf (.ref i1) >>= _) _ _ _
    refine wpAny_bind (RZ.nextOf_tuple_item (s := { s with heap := h₁ }) (h1.extBut hs₁.extBut D.iz.1) (hl1.extBut hs₁.extBut D.lz.1) hx fun p1 j1 t1 => wpAny_pure ?_)
    refine wpAny_pure ?_
    refine wpAny_bind (wpAny_bind (wpAny_holding ?_))
    show wpAny _ _ (Builtin.SmallTypes.nextOf (.ref i2) >>= _) _ _ _
    refine wpAny_bind (RZ.nextOf_tuple_item (s := { s with heap := p1 }) ((h2.extBut hs₁.extBut D.iz.2.1).extBut t1.extBut D.ii.1.symm) ((hl2.extBut hs₁.extBut D.lz.2.1).extBut t1.extBut D.l2i.1) hy fun p2 j2 t2 => wpAny_pure ?_)
    refine wpAny_pure ?_
    refine wpAny_bind (wpAny_bind (wpAny_holding ?_))
    show wpAny _ _ (Builtin.SmallTypes.nextOf (.ref i3) >>= _) _ _ _
    refine wpAny_bind (RZ.nextOf_tuple_item (s := { s with heap := p2 }) (((h3.extBut hs₁.extBut D.iz.2.2).extBut t1.extBut D.ii.2.1.symm).extBut t2.extBut D.ii.2.2.symm) (((hl3.extBut hs₁.extBut D.lz.2.2).extBut t1.extBut D.l3i.1).extBut t2.extBut D.l3i.2.1) hu fun p3 j3 t3 => wpAny_pure ?_)
    refine wpAny_pure (wpAny_pure ?_)
    show wpAny _ _ (newTuple [x, y, u] >>= _) _ _ _
    refine wpAny_bind (wpAny_newTuple ?_)
    have hsz : p3.objs.size = s.heap.objs.size := by rw [t3.1, t2.1, t1.1, hs₁.1]
    have hzz : Zg p3 z TI TO f0 true := t3.extBut _ _ D.iz.2.2.symm (t2.extBut _ _ D.iz.2.1.symm (t1.extBut _ _ D.iz.1.symm hz₁))
    have hkk : ∀ e o, e ≠ z → e ≠ i1 → e ≠ i2 → e ≠ i3 → s.heap.get? e = some o → p3.get? e = some o := fun e o cz c1 c2 c3 q => t3.extBut _ _ c3 (t2.extBut _ _ c2 (t1.extBut _ _ c1 (hs₁.extBut _ _ cz q)))
    have q1 : p3.IsTupleIter i1 l1 (k + 1) := (j1.extBut t2.extBut D.ii.1).extBut t3.extBut D.ii.2.1
    have q2 : p3.IsTupleIter i2 l2 (k + 1) := j2.extBut t3.extBut D.ii.2.2
    have hp : T3 (p3.push { cls := .type "tuple", data := .seq #[x, y, u] }) p3.objs.size x y u := Heap.get?_push_size _ rfl
    refine wpAny_pure ⟨_, rfl, ?_⟩
    show Q (.ref p3.objs.size) _
    rw [hsz] at hp ⊢
    exact hQ _ _ _ (Heap.get?_push_of_some _ hzz) hf ⟨_, _, _, Heap.get?_push_of_some _ (hkk _ _ D.TOz D.TOi.1 D.TOi.2.1 D.TOi.2.2 hTO)⟩ (q1.at fun o e => Heap.get?_push_of_some _ e) (q2.at fun o e => Heap.get?_push_of_some _ e) (j3.at fun o e => Heap.get?_push_of_some _ e) hp
      fun e o cz _ c1 c2 c3 q => Heap.get?_push_of_some _ (hkk e o cz c1 c2 c3 q)
theorem z3_end {Q : PySem.Fin → Shared → Prop} (hh : A.handled = none) (D : Z3 z TI TO i1 i2 i3 l1 l2 l3) (hz : Zg s.heap z TI TO f0 f) (hf : Fv f0) (hTI : T3 s.heap TI (.ref i1) (.ref i2) (.ref i3))
    (h1 : s.heap.IsTupleIter i1 l1 k) (hl1 : s.heap.IsTuple l1 xs) (hx : xs[k]? = none)
    (hE : ∀ h' e, (∀ c o, c ≠ z → c ≠ i1 → s.heap.get? c = some o → h'.get? c = some o) → (∃ o, h'.get? e = some o ∧ o.cls = .type "StopIteration") → E (.ref e) { s with heap := h' }) :
    wpAny (model prog w) A (Builtin.«zip.__next__» ⟨[.ref z], []⟩) Q E s := by
  show wpAny _ _ (field (.ref z) 2 >>= _) _ _ _
  refine wpAny_bind (wpAny_field hz rfl (x := .bool false) rfl ?_)
  show wpAny _ _ (field (.ref z) 3 >>= _) _ _ _
  refine wpAny_bind (wpAny_field hz rfl (x := .ref TI) rfl ?_)
  refine wpAny_bind (wpAny_seqItems hTI rfl ?_)
  show wpAny _ _ (Builtin.SmallTypes.ownedTupleIsFree (.ref z) >>= _) _ _ _
  refine wpAny_bind (owned_any hz hf ?_ fun h₁ hz₁ hs₁ => ?_)
  · simp only [if_true]
    refine wpAny_bind (wpAny_rule ?_)
    refine wpAny_bind (wpAny_field hz rfl (x := .ref TO) rfl ?_)
    refine wpAny_bind (wpAny_setField_rec hz (by simp) fun h₁ hz₁ hs₁ => ?_)
    replace hz₁ : Zg h₁ z TI TO .ellipsis f := hz₁
    refine wpAny_bind ?_
    simp only [List.zipIdx_cons, List.zipIdx_nil, List.forIn_cons, List.forIn_nil]
    refine wpAny_bind (wpAny_bind (wpAny_onRaise ?_))
    show wpAny _ _ (Builtin.SmallTypes.nextOf (.ref i1) >>= _) _ _ _
    refine wpAny_bind (RZ.nextOf_tuple_end (s := { s with heap := h₁ }) hh (h1.extBut hs₁.extBut D.iz.1) (hl1.extBut hs₁.extBut D.lz.1) hx fun h₂ e hs₂ he => ?_)
    obtain ⟨oe, hoe, hce⟩ := he
    have hz₂ : Zg h₂ z TI TO .ellipsis f := hs₂ _ _ D.iz.1.symm hz₁
    have hez : e ≠ z := fun x => by subst x; rw [hz₂] at hoe; cases hoe; simp at hce
    refine wpAny_setField_rec hz₂ (by simp) fun h₃ _ hs₃ => hE h₃ e (fun c o c1 c3 x => hs₃.extBut _ _ c1 (hs₂ _ _ c3 (hs₁.extBut _ _ c1 x))) ⟨oe, hs₃.extBut _ _ hez hoe, hce⟩
  · simp only [Bool.false_eq_true, if_false]
    refine wpAny_bind ?_
    rw [← Array.forIn_toList]
    simp only [List.forIn_cons, List.forIn_nil]
    refine wpAny_bind (wpAny_bind (wpAny_holding ?_))
    show wpAny _ _ (Builtin.SmallTypes.nextOf (.ref i1) >>= _) _ _ _
    refine wpAny_bind (RZ.nextOf_tuple_end (s := { s with heap := h₁ }) hh (h1.extBut hs₁.extBut D.iz.1) (hl1.extBut hs₁.extBut D.lz.1) hx fun h₂ e hs₂ he => ?_)
    exact hE h₂ e (fun c o c1 c2 x => hs₂ _ _ c2 (hs₁.extBut _ _ c1 x)) he
theorem pyNext_z3_item {Q : Option Value → Shared → Prop} (D : Z3 z TI TO i1 i2 i3 l1 l2 l3) (hz : Zg s.heap z TI TO f0 f) (hf : Fv f0) (hTI : T3 s.heap TI (.ref i1) (.ref i2) (.ref i3)) (hTO : T3 s.heap TO a b c)
    (h1 : s.heap.IsTupleIter i1 l1 k) (h2 : s.heap.IsTupleIter i2 l2 k) (h3 : s.heap.IsTupleIter i3 l3 k) (hl1 : s.heap.IsTuple l1 xs) (hl2 : s.heap.IsTuple l2 ys) (hl3 : s.heap.IsTuple l3 zs) (hx : xs[k]? = some x) (hy : ys[k]? = some y) (hu : zs[k]? = some u)
    (hQ : ∀ h' g0 g, Zg h' z TI TO g0 g → Fv g0 → (∃ a b c, T3 h' TO a b c) → h'.IsTupleIter i1 l1 (k + 1) → h'.IsTupleIter i2 l2 (k + 1) → h'.IsTupleIter i3 l3 (k + 1) → T3 h' s.heap.objs.size x y u →
      (∀ e o, e ≠ z → e ≠ TO → e ≠ i1 → e ≠ i2 → e ≠ i3 → s.heap.get? e = some o → h'.get? e = some o) → Q (some (.ref s.heap.objs.size)) { s with heap := h' }) :
    wpAny (model prog w) A (pyNext (.ref z)) Q E s := by
  have hT : s.TypeIs (.ref z) "zip" := ⟨_, hz, rfl⟩
  unfold pyNext
  exact wpAny_bind (wpAny_attempt (wpAny_callSpecial?_slot (name := Str.ofString "__next__") hT F.slot_zip_next
    (wpAny_call_entry F.slot_zip_next hT F.entry_zip_next (z3_item D hz hf hTI hTO h1 h2 h3 hl1 hl2 hl3 hx hy hu fun h' g0 g y1 y2 y3 y4 y5 y6 y7 y8 => wpAny_pure (hQ h' g0 g y1 y2 y3 y4 y5 y6 y7 y8)) (F.args_zip_next_1 _))))
theorem pyNext_z3_end {Q : Option Value → Shared → Prop} (hh : A.handled = none) (D : Z3 z TI TO i1 i2 i3 l1 l2 l3) (hz : Zg s.heap z TI TO f0 f) (hf : Fv f0) (hTI : T3 s.heap TI (.ref i1) (.ref i2) (.ref i3))
    (h1 : s.heap.IsTupleIter i1 l1 k) (hl1 : s.heap.IsTuple l1 xs) (hx : xs[k]? = none)
    (hQ : ∀ h', (∀ c o, c ≠ z → c ≠ i1 → s.heap.get? c = some o → h'.get? c = some o) → Q none { s with heap := h' }) : wpAny (model prog w) A (pyNext (.ref z)) Q E s := by
  have hT : s.TypeIs (.ref z) "zip" := ⟨_, hz, rfl⟩
  unfold pyNext
  refine wpAny_bind (wpAny_attempt (wpAny_callSpecial?_slot (name := Str.ofString "__next__") hT F.slot_zip_next
    (wpAny_call_entry F.slot_zip_next hT F.entry_zip_next (z3_end hh D hz hf hTI h1 hl1 hx fun h' e hk he => ?_) (F.args_zip_next_1 _))))
  obtain ⟨o, ho, hc⟩ := he
  refine wpAny_bind (wpAny_isInstance (T := "StopIteration") (b := true) ⟨o, ho, hc⟩ isSubtype_stop ?_)
  exact wpAny_pure (hQ _ hk)
end
/-- three tuples of one length, the items in new tuples -/
def It3 (K : PySem.W.Frag) (a b c : Addr) : It :=
  ⟨fun i H => ∃ (xs ys zs : List V) (x y z : V), SqT K H a xs ∧ SqT K H b ys ∧ SqT K H c zs ∧ xs[i]? = some x ∧ ys[i]? = some y ∧ zs[i]? = some z,
    fun i H v H' => ∃ T x y z, v = .ref T ∧ H T = none ∧ H' = upd H T (.tup [x, y, z]) ∧ (∀ xs, SqT K H a xs → xs[i]? = some x) ∧ (∀ ys, SqT K H b ys → ys[i]? = some y) ∧ ∀ zs, SqT K H c zs → zs[i]? = some z,
    fun i H => ∃ xs : List V, SqT K H a xs ∧ xs.length ≤ i⟩
def St3 (z TI TO i1 i2 i3 a b c : Addr) (i : Nat) (h : Heap) : Prop := (∃ f0 f, Zg h z TI TO f0 f ∧ Fv f0) ∧ T3 h TI (.ref i1) (.ref i2) (.ref i3) ∧ (∃ x y u, T3 h TO x y u) ∧ h.IsTupleIter i1 a i ∧ h.IsTupleIter i2 b i ∧ h.IsTupleIter i3 c i
theorem mem6 {c z TI TO i1 i2 i3 : Addr} (h : c ∈ [z, TI, TO, i1, i2, i3]) : c = z ∨ c = TI ∨ c = TO ∨ c = i1 ∨ c = i2 ∨ c = i3 := by simpa using h
theorem turn_z3 {P : Program} {w : World} {K : PySem.W.Frag} {x : Str} {pp : Pos} {a b c z TI TO i1 i2 i3 : Addr} (D : Z3 z TI TO i1 i2 i3 a b c) :
    Turn P w K (.Name x pp) (It3 K a b c) [z, TI, TO, i1, i2, i3] z (St3 z TI TO i1 i2 i3 a b c) where
  mem := by simp
  obj := fun i h st e hc => by
    obtain ⟨⟨f0, f, hz, _⟩, hTI, ⟨x, y, u, hTO⟩, ⟨o1, e1, _, d1⟩, ⟨o2, e2, _, d2⟩, ⟨o3, e3, _, d3⟩⟩ := st
    rcases mem6 hc with q | q | q | q | q | q
    · rw [q]; exact ⟨_, hz, fun v q => nomatch q⟩
    · rw [q]; exact ⟨_, hTI, fun v q => nomatch q⟩
    · rw [q]; exact ⟨_, hTO, fun v q => nomatch q⟩
    · rw [q]; exact ⟨o1, e1, fun v q => by rw [d1] at q; cases q⟩
    · rw [q]; exact ⟨o2, e2, fun v q => by rw [d2] at q; cases q⟩
    · rw [q]; exact ⟨o3, e3, fun v q => by rw [d3] at q; cases q⟩
  keep := fun i h h' st k => by
    obtain ⟨⟨f0, f, hz, hf⟩, hTI, ⟨x, y, u, hTO⟩, h1, h2, h3⟩ := st
    exact ⟨⟨f0, f, k z (by simp) _ hz, hf⟩, k TI (by simp) _ hTI, ⟨x, y, u, k TO (by simp) _ hTO⟩, h1.at fun o q => k i1 (by simp) o q, h2.at fun o q => k i2 (by simp) o q, h3.at fun o q => k i3 (by simp) o q⟩
  item := by
    intro X hP hw hK hc i pins s σ H E I hf st hg
    subst hP hw hK
    obtain ⟨⟨f0, f, hz, hfv⟩, hTI, ⟨x0, y0, u0, hTO⟩, h1, h2, h3⟩ := st
    obtain ⟨xs, ys, zs, x, y, u, hqx, hqy, hqz, hx, hy, hu⟩ := hg
    obtain ⟨its, rv, p, _⟩ := I.tuple hqx
    obtain ⟨its2, rv2, p2, _⟩ := I.tuple hqy
    obtain ⟨its3, rv3, p3, _⟩ := I.tuple hqz
    obtain ⟨v1, hv1, ru1⟩ := rv.get hx
    obtain ⟨v2, hv2, ru2⟩ := rv2.get hy
    obtain ⟨v3, hv3, ru3⟩ := rv3.get hu
    refine pyNext_z3_item D hz hfv hTI hTO h1 h2 h3 p p2 p3 (x := v1) (y := v2) (u := v3) (by simpa using hv1) (by simpa using hv2) (by simpa using hv3) fun h' g0 g z' gv TO' j1 j2 j3 hT hk => ?_
    refine ⟨_, rfl, ?_⟩
    unfold letOwnedTupleGo
    have new : ObjOk X.prog X.w (upd H s.heap.objs.size (.tup [x, y, u])) h' s.heap.objs.size (.tup [x, y, u]) :=
      ⟨by show 3 ≤ sizeLine; decide, [v1, v2, v3], .cons ru1 (.cons ru2 (.cons ru3 .nil)), ⟨_, hT, rfl, _, rfl⟩⟩
    have I1 : Inv X pins σ (upd H s.heap.objs.size (.tup [x, y, u])) { s with heap := h' } :=
      I.turnedNew (t' := s.toks) (ch := [z, TI, TO, i1, i2, i3]) (fun e o hb q => hk e o (fun q' => hb (by simp [q'])) (fun q' => hb (by simp [q'])) (fun q' => hb (by simp [q'])) (fun q' => hb (by simp [q'])) (fun q' => hb (by simp [q'])) q) hf (Nat.le_refl _) new
    refine wpAny_pure ⟨.ref s.heap.objs.size, _, I1, rfl, ⟨_, x, y, u, rfl, I.hok.fresh (Nat.le_refl _), rfl, fun l hl => by rw [I.tuple_inj hl hqx]; exact hx, fun l hl => by rw [I.tuple_inj hl hqy]; exact hy, fun l hl => by rw [I.tuple_inj hl hqz]; exact hu⟩, ⟨⟨g0, g, z', gv⟩, hk _ _ D.TIz D.TITO D.TIi.1 D.TIi.2.1 D.TIi.2.2 hTI, TO', j1, j2, j3⟩, fun e hcm => ?_⟩
    have hlt : e < s.heap.objs.size := by
      rcases mem6 hcm with q | q | q | q | q | q
      · rw [q]; exact Heap.lt_size hz
      · rw [q]; exact Heap.lt_size hTI
      · rw [q]; exact Heap.lt_size hTO
      · rw [q]; obtain ⟨_, e1, _⟩ := h1; exact Heap.lt_size e1
      · rw [q]; obtain ⟨_, e1, _⟩ := h2; exact Heap.lt_size e1
      · rw [q]; obtain ⟨_, e1, _⟩ := h3; exact Heap.lt_size e1
    rw [upd_ne (Nat.ne_of_lt hlt)]
    exact (hf e hcm).1
  done := by
    intro X hP hw hK hc i pins s σ H E I hf st hg
    subst hP hw hK
    obtain ⟨⟨f0, f, hz, hfv⟩, hTI, ⟨x0, y0, u0, hTO⟩, h1, h2, h3⟩ := st
    obtain ⟨xs, hqx, hend⟩ := hg
    obtain ⟨its, rv, p, _⟩ := I.tuple hqx
    have l1 := rv.length
    exact pyNext_z3_end (I.ok.hd hc) D hz hfv hTI h1 p (by simp; omega) fun h' hk => ⟨rfl, I.turnedL (t' := s.toks) (ch := [z, TI, TO, i1, i2, i3]) (fun e o hb q =>
      hk e o (fun q' => hb (by simp [q'])) (fun q' => hb (by simp [q'])) q) hf⟩
  self := fun A i s Q E st h => by
    obtain ⟨f0, f, hz, _⟩ := st.1
    have hT : s.TypeIs (.ref z) "zip" := ⟨_, hz, rfl⟩
    refine wpAny_pyIter_slot hT F.slot_zip_iter (wpAny_call_entry F.slot_zip_iter hT F.entry_zip_iter ?_ (F.args_zip_iter_1 _))
    show wpAny _ _ (ret (.ref z)) _ _ s
    exact wpAny_pure ⟨_, rfl, "zip", _, hT, F.slot_zip_next.lookup, h⟩
def iZip3 (K : PySem.W.Frag) (ta : TA) : TI := fun σ H R => ta σ H fun vs H1 => ∃ a b c xs ys zs, vs = [.ref a, .ref b, .ref c] ∧ SqT K H1 a xs ∧ SqT K H1 b ys ∧ SqT K H1 c zs ∧ R (It3 K a b c) H1
theorem z3_apart (n a b c : Nat) (h1 : a < n) (h2 : b < n) (h3 : c < n) : Z3 (n + 5) (n + 3) (n + 4) n (n + 1) (n + 2) a b c := by
  constructor <;> (try constructor) <;> (try constructor) <;> (try constructor) <;> (refine fun q => absurd (show @Eq Nat _ _ from q) ?_; omega)
theorem pi_zip3 {X : Cx} {e e2 e3 : Expr} {ta : TA} {p pos tpos : Pos} {x : Str} (hg : Gl X "zip") (hm : X.mg "zip" = none) (ha : PA X [e, e2, e3] ta)
    (hs : starEach [e, e2, e3] X.env = (false, eval e X.env) :: starEach [e2, e3] X.env) (hpl : (backTo pos (starEach [e2, e3] X.env)).any (·.1) = false) :
    PI X (.Name x tpos) (.Call (.Name "zip" p) [e, e2, e3] [] pos) (iZip3 X.K ta) := by
  refine ⟨fun pins s σ H R I h => ?_⟩
  refine Call_ (ld_blt I hg hm PyProof.Rows.boot_zip (PyProof.Rows.callWith_type1 (thn (ha.run pos pins s σ H _ I h) fun us s1 ⟨vs, H1, I1, r1, q1⟩ => ?_) hs hpl))
  obtain ⟨a, b, c, xs, ys, zs, ex, hqx, hqy, hqz, q⟩ := q1
  subst ex
  cases r1 with
  | cons r rr =>
    cases rr with
    | cons r' rr =>
      cases rr with
      | cons r'' rr =>
        cases rr
        cases r
        cases r'
        cases r''
        have fresh6 : ∀ c, c ∈ [s1.heap.objs.size + 5, s1.heap.objs.size + 3, s1.heap.objs.size + 4, s1.heap.objs.size, s1.heap.objs.size + 1, s1.heap.objs.size + 2] → FpOk X pins H1 c := fun c hcm => by
          have hle : s1.heap.objs.size ≤ c := by
            rcases mem6 hcm with z | z | z | z | z | z <;> rw [z]
            all_goals first | exact Nat.le_refl _ | exact Nat.le_add_right _ _
          exact I1.fpOk hle (I1.hok.fresh hle)
        obtain ⟨its, rv, p1, _⟩ := I1.tuple hqx
        obtain ⟨its2, rv2, p2, _⟩ := I1.tuple hqy
        obtain ⟨its3, rv3, p3, _⟩ := I1.tuple hqz
        obtain ⟨o1, ho1, _⟩ := id p1
        obtain ⟨o2, ho2, _⟩ := id p2
        obtain ⟨o3, ho3, _⟩ := id p3
        refine zip_begins3 (begins_tuple a its.toArray) (begins_tuple b its2.toArray) (begins_tuple c its3.toArray) p1 p2 p3 fun h' hz hTI hTO h1 h2 h3 hsz hk => wpAny_pyIter_zip hz ?_
        have I2 : Inv X pins σ H1 { s1 with heap := h' } := I1.kept (t' := s1.toks) hk
        exact ⟨s1.heap.objs.size + 5, [s1.heap.objs.size + 5, s1.heap.objs.size + 3, s1.heap.objs.size + 4, s1.heap.objs.size, s1.heap.objs.size + 1, s1.heap.objs.size + 2], _, _, H1, rfl, I2,
          turn_z3 (z3_apart s1.heap.objs.size a b c (Heap.lt_size ho1) (Heap.lt_size ho2) (Heap.lt_size ho3)), ⟨⟨_, _, hz, .inl rfl⟩, hTI, ⟨_, _, _, hTO⟩, ⟨_, h1, rfl, rfl⟩, ⟨_, h2, rfl, rfl⟩, ⟨_, h3, rfl, rfl⟩⟩, fresh6, q⟩
theorem zip3_len : ∀ (xs ys zs : List D), xs.length = ys.length → xs.length = zs.length → (zip3D xs ys zs).length = xs.length
  | [], _, _, _, _ => by unfold zip3D; rfl
  | x :: xs, [], _, h, _ => by cases h
  | x :: xs, _ :: _, [], _, h => by cases h
  | x :: xs, y :: ys, z :: zs, h, h2 => by
    unfold zip3D
    rw [List.length_cons, List.length_cons, zip3_len xs ys zs (by simpa using h) (by simpa using h2)]
theorem zip3_get : ∀ (xs ys zs : List D) (i : Nat) (d : D), (zip3D xs ys zs)[i]? = some d → ∃ x y z, xs[i]? = some x ∧ ys[i]? = some y ∧ zs[i]? = some z ∧ d = .tup [x, y, z]
  | [], _, _, i, d, h => by unfold zip3D at h; simp at h
  | _ :: _, [], _, i, d, h => by unfold zip3D at h; simp at h
  | _ :: _, _ :: _, [], i, d, h => by unfold zip3D at h; simp at h
  | x :: xs, y :: ys, z :: zs, 0, d, h => by
    unfold zip3D at h
    have h : D.tup [x, y, z] = d := by simpa using h
    exact ⟨x, y, z, rfl, rfl, rfl, h.symm⟩
  | x :: xs, y :: ys, z :: zs, i + 1, d, h => by
    unfold zip3D at h
    obtain ⟨a, b, c, h1, h2, h3, h4⟩ := zip3_get xs ys zs i d (by simpa using h)
    exact ⟨a, b, c, by simpa using h1, by simpa using h2, by simpa using h3, h4⟩
section
variable {M : Sm} {F : Hp}
theorem y_zip3 {G : Hp} {a b c : Addr} {ds es fs : List D} {vs us ws : List V} (ha : SqT M.K F a vs) (hb : SqT M.K F b us) (hc : SqT M.K F c ws) (r : RVs M F ds vs) (r2 : RVs M F es us) (r3 : RVs M F fs ws) (l1 : ds.length = es.length) (l2 : ds.length = fs.length) : Yld M G F (It3 M.K a b c) (zip3D ds es fs) := by
  refine ⟨fun i F1 H1 s t u l => ⟨vs, Same.sqt (s.trans u) ha, by rw [zip3_len _ _ _ l1 l2] at l; rw [r.len]; omega⟩, fun i d F1 H1 s t u e => ?_⟩
  obtain ⟨x, y, z, e1, e2, e3, rfl⟩ := zip3_get ds es fs i d e
  obtain ⟨v, q1, q2⟩ := r.get e1
  obtain ⟨v2, p1, p2⟩ := r2.get e2
  obtain ⟨v3, o1, o2⟩ := r3.get e3
  have hq : SqT M.K H1 a vs := Same.sqt (s.trans u) ha
  have hp : SqT M.K H1 b us := Same.sqt (s.trans u) hb
  have ho : SqT M.K H1 c ws := Same.sqt (s.trans u) hc
  refine ⟨⟨vs, us, ws, v, v2, v3, hq, hp, ho, q1, p1, o1⟩, fun x H2 hy => ?_⟩
  obtain ⟨T, y1, y2, y3, rfl, nT, rfl, f1, f2, f3⟩ := hy
  have g1 := f1 vs hq
  rw [q1] at g1
  cases g1
  have g2 := f2 us hp
  rw [p1] at g2
  cases g2
  have g3 := f3 ws ho
  rw [o1] at g3
  cases g3
  have x := Ext.new (o := .tup [v, v2, v3]) u nT
  exact ⟨_, x, T, _, rfl, .inl (.inl upd_same), RVs.cons ((q2.mono s).mono x.f) (RVs.cons ((p2.mono s).mono x.f) (RVs.cons ((o2.mono s).mono x.f) RVs.nil))⟩
end
section
variable {W : Wd} {X : Cx} {a b c e : Expr} {p q r : E} {pos : Pos}
theorem dr_zp3 {x : Str} {xp pp : Pos} {fz : Bool} (h : DZ W fz X a p) (h2 : DZ W fz X b q) (h3 : DZ W fz X c r) (hg : Gl X "zip" := by rfl) (hm : X.mg "zip" = none) (hst : starEach [a, b, c] X.env = (false, eval a X.env) :: starEach [b, c] X.env := by rfl) (hst2 : starEach [b, c] X.env = (false, eval b X.env) :: starEach [c] X.env := by rfl) (hst3 : starEach [c] X.env = [(false, eval c X.env)] := by rfl) :
    DR W fz X (.Name x xp) (.Call (.Name "zip" pp) [a, b, c] [] pos) (.zp3 p q r) :=
  PI.imp (pi_zip3 hg hm (pa_cons h (pa_cons h2 (pa_cons h3 pa_nil hst3) hst2) hst) hst (by rw [hst2, hst3]; rfl)) fun σ H R ⟨F, env, ds, s, hs, hf, ev, k⟩ => by
    replace ev : evr W.T (run W.T W.n) (.zp3 p q r) env = some ds := ev
    unfold evr at ev
    split at ev
    · rename_i xs e1
      split at ev
      · rename_i ys e2
        split at ev
        · rename_i zs e3
          obtain ⟨⟨c1, c2⟩, rfl⟩ := ite_some ev
          refine ⟨F, env, _, s, hs, hf.left, e1, fun v F1 H1 x1 r => ⟨F1, env, _, x1.s, hs.mono x1.f x1.h, (EnvF.left (EnvF.right hf)).mono x1.f, e2, fun w F2 H2 x2 r2 => ⟨F2, env, _, x2.s, (hs.mono x1.f x1.h).mono x2.f x2.h, ((EnvF.right (EnvF.right hf)).mono x1.f).mono x2.f, e3, fun z F3 H3 x3 r3 => ?_⟩⟩⟩
          obtain ⟨a1, vs, ea, ha, hv⟩ := r.tup
          obtain ⟨b1, us, eb, hb, hu⟩ := r2.tup
          obtain ⟨g1, ws, ec, hc, hw⟩ := r3.tup
          have ha2 := Same.sqt (x2.f.trans x3.f) ha
          have hb2 := Same.sqt x3.f hb
          exact ⟨a1, b1, g1, vs, us, ws, by rw [ea, eb, ec], Same.sqt x3.s ha2, Same.sqt x3.s hb2, Same.sqt x3.s hc, k _ F3 H3 ((x1.trans x2).trans x3) (y_zip3 ha2 hb2 hc (hv.mono (x2.f.trans x3.f)) (hu.mono x3.f) hw c1 c2)⟩
        · cases ev
      · cases ev
    · cases ev
end
end Nt

set_option Elab.async false
set_option linter.all false
set_option maxRecDepth 100000
set_option maxHeartbeats 4000000
/-! Instances: a class whose __init__ stores one argument, or a list of it; a class without __init__. -/
namespace Nt
open PySem PySem.Spec PyProof.Rows L2
/-- what `self.f = list(x)` (wrap) or `self.f = x` asks and leaves -/
def spI (K : PySem.W.Frag) (wrap : Bool) (f : Str) : Sp := fun vs H Q _ => ∃ x y C dx, vs = [.ref x, y] ∧ H x = some (.ins C dx []) ∧ Cls K C ∧ NoAttr K C f ∧
  ((wrap = true ∧ ∃ a xs, y = .ref a ∧ (SqL K H a xs ∨ SqT K H a xs) ∧ ∀ L, H L = none → Q .non (upd (upd H L (.lst xs)) x (.ins C dx [(f, .ref L)]))) ∨ (wrap = false ∧ Q .non (upd H x (.ins C dx [(f, y)]))))
section
variable {P : Program} {w : World} {K : PySem.W.Frag} {mg : Str → Option Value} {base : Heap} {x qual : Str} {st : Stmt} {f : Addr} {fd : FuncData} {n : Nat}
theorem spI_len {ps : List Str} {wrap : Bool} {g : Str} (h : ps.length = 2) (vs : List V) (H : Hp) (Q : VK) (E : XK) (q : spI K wrap g vs H Q E) : vs.length = ps.length := by
  obtain ⟨x, y, C, dx, rfl, _⟩ := q
  exact h.symm
theorem init_v {N ps : List Str} {g : Str} (Fu : Fun K x qual st f fd) (S : FnScope N ps (defScope st)) (hl : ps.length = 2)
    (body : ∀ (cdv : Value) (A : Around) (outer : List PySem.Env) (s : Shared) (H : Hp) (E : XK), PSs (cxOf CX0 P w K mg base N qual (defScope st) f cdv A outer s H E).nox (defBody st) (sFld K (tVar 0) (tVar 1) g)) :
    FnOk P w K mg base CX0 (n + 1) f fd ps (spI K false g) := by
  refine Fu.ok S (spI_len hl) fun cdv A outer s H vs Q E hr h => ⟨_, body cdv A outer s H E, ?_⟩
  obtain ⟨x, y, C, dx, rfl, hx, c, na, h⟩ := h
  rcases h with ⟨z, _⟩ | ⟨_, q⟩
  · cases z
  · exact ⟨y, rfl, .ref x, rfl, x, C, dx, [], rfl, hx, c, na, by decide, q⟩
theorem init_l {N ps : List Str} {g : Str} (Fu : Fun K x qual st f fd) (S : FnScope N ps (defScope st)) (hl : ps.length = 2)
    (body : ∀ (cdv : Value) (A : Around) (outer : List PySem.Env) (s : Shared) (H : Hp) (E : XK), PSs (cxOf CX0 P w K mg base N qual (defScope st) f cdv A outer s H E).nox (defBody st) (sFld K (tVar 0) (tCB (fun xs H Q => ∃ p ys, xs = [V.ref p] ∧ (SqL K H p ys ∨ SqT K H p ys) ∧ ∀ l, H l = none → Q (.ref l) (upd H l (.lst ys))) (tCons (tVar 1) tNil)) g)) :
    FnOk P w K mg base CX0 (n + 1) f fd ps (spI K true g) := by
  refine Fu.ok S (spI_len hl) fun cdv A outer s H vs Q E hr h => ⟨_, body cdv A outer s H E, ?_⟩
  obtain ⟨x, y, C, dx, rfl, hx, c, na, h⟩ := h
  rcases h with ⟨_, a, xs, rfl, hq, q⟩ | ⟨z, _⟩
  · refine ⟨.ref a, rfl, a, xs, rfl, hq, fun L hL => ⟨.ref x, rfl, x, C, dx, [], rfl, ?_, c, na, by decide, q L hL⟩⟩
    rw [upd_ne (ne_of_none hx hL)]
    exact hx
  · cases z
end
/-- the class of number c, its one field f, how __init__ stores it -/
structure MkAt (W : Wd) (X : Cx) (c : Nat) (wrap : Bool) (f : Str) : Prop where
  cls : Cls X.K (W.ca c)
  na : NoAttr X.K (W.ca c) f
  cf : W.T.cf c = some [wrap]
  cn : W.T.cn c = [f]
  ex : ∃ fi fd ps, Mk X.K (W.ca c) fi ∧ Binds X.K fd ps [] ∧ FnOk X.prog X.w X.K X.mg X.base CX0 1 fi fd ps (spI X.K wrap f)
theorem ev_mk {T : Tb} {cl : Nat → List D → Option D} {c : Nat} {ps : Es} {env : Env} {z : D} {w : Bool} (h : ev T cl (.mk c ps) env = some z) (hc : T.cf c = some [w]) :
    2 ≤ T.lv ∧ ∃ d, evs T cl ps env = some [d] ∧ ((w = true ∧ ∃ xs, seqD d = some xs ∧ z = .ins c [.lst xs]) ∨ (w = false ∧ notL d = true ∧ z = .ins c [d])) := by
  unfold ev at h
  cases e : evs T cl ps env with
  | none => rw [e] at h; cases h
  | some ds =>
    rw [e, hc] at h
    obtain ⟨⟨h1, h2, h3⟩, rfl⟩ := ite_some (show (if 2 ≤ T.lv ∧ ds.length = [w].length ∧ (ds.zip [w]).all (fun p => if p.2 then (seqD p.1).isSome else notL p.1) then some (D.ins c ((ds.zip [w]).map fun p => if p.2 then .lst ((seqD p.1).getD []) else p.1)) else none) = some z from h)
    match ds, h2, h3 with
    | [d], _, h3 =>
      refine ⟨h1, d, rfl, ?_⟩
      cases w with
      | true =>
        have h3 : (seqD d).isSome = true := by simpa using h3
        obtain ⟨xs, ex⟩ := Option.isSome_iff_exists.mp h3
        exact .inl ⟨rfl, xs, ex, by simp [ex]⟩
      | false => exact .inr ⟨rfl, by simpa using h3, by simp⟩
theorem upd_some {H : Hp} {a b : Addr} {o : _} (h : (upd H a o) b = none) : b ≠ a ∧ H b = none := by
  by_cases e : b = a
  · rw [e, upd_same] at h; cases h
  · rw [upd_ne e] at h; exact ⟨e, h⟩
section
variable {W : Wd} {X : Cx} {e : Expr} {p : E} {pos pp : Pos} {x : Str} {c : Nat} {f : Str} {wrap : Bool}
theorem de_mk (g : Gd W X) (M : MkAt W X c wrap f) (hm : X.mg x = some (.ref (W.ca c))) (ha : DAi W X [e] (.cons p .nil)) (hg : Gl X x := by rfl) (hdb : (x == ("__debug__" : Str)) = false := by decide)
    (he : starEach [e] X.env = (false, eval e X.env) :: starEach [] X.env := by rfl) (hpl : (backTo pos (starEach [] X.env)).any (·.1) = false := by rfl) : DE W X (.Call (.Name x pp) [e] [] pos) (.mk c (.cons p .nil)) := by
  obtain ⟨fi, fd, ps, mk, hb, ok⟩ := M.ex
  by_cases h2 : 2 ≤ W.n
  · refine PE.imp (pe_make (ds := []) (dvs := []) mk ok (g.room.mono h2) hg hm hb .nil pass0 ha hdb he hpl) fun σ H Q ⟨F, env, d, s, hs, hf, ev, k⟩ => ?_
    obtain ⟨_, d1, e1, e2⟩ := ev_mk ev M.cf
    refine ⟨F, env, _, s, hs, hf, e1, fun vs F1 H1 x1 r => fun y dx hy hdx hne => ?_⟩
    obtain ⟨v1, rr, rfl, r1, rn⟩ := r
    have rn : rr = [] := rn
    subst rn
    have fy : F1 y = none := x1.s.free hy
    have hyd : y ≠ dx := fun q => hne q.symm
    have hi : (upd (upd H1 dx (.own y)) y (.ins (W.ca c) dx [])) y = some (.ins (W.ca c) dx []) := upd_same
    have up : ∀ b o, H1 b = some o → (upd (upd H1 dx (.own y)) y (.ins (W.ca c) dx [])) b = some o := fun b o q => by
      rw [upd_ne (ne_of_none q hy), upd_ne (ne_of_none q hdx)]; exact q
    rcases e2 with ⟨rfl, xs, ex, rfl⟩ | ⟨rfl, hn, rfl⟩
    · have ra : ∃ a us, v1 = .ref a ∧ (SqL X.K H1 a us ∨ SqT X.K H1 a us) ∧ RVs (sm X W) F1 xs us := by
        unfold seqD at ex
        split at ex
        · cases ex
          obtain ⟨a, us, q1, q2, q3⟩ := r1
          exact ⟨a, us, q1, .inl (SqL.of q2), q3⟩
        · cases ex
          obtain ⟨a, us, q1, q2, q3⟩ := (show RV (sm X W) F1 (.tup _) v1 from r1)
          exact ⟨a, us, q1, .inr (Same.sqt x1.s q2), q3⟩
        · cases ex
      obtain ⟨a, us, rfl, hq, hu⟩ := ra
      refine ⟨y, .ref a, W.ca c, dx, rfl, hi, M.cls, M.na, .inl ⟨rfl, a, us, rfl, ?_, fun L hL => ⟨rfl, ?_⟩⟩⟩
      · have sm2 : Same H1 (upd (upd H1 dx (.own y)) y (.ins (W.ca c) dx [])) := up
        rcases hq with hq | hq
        · exact .inl (L2.Same.seq sm2 hq)
        · exact .inr (Same.sqt sm2 hq)
      · obtain ⟨n1, h3⟩ := upd_some hL
        obtain ⟨n2, hL1⟩ := upd_some h3
        have sF : Same F1 (upd F1 y (.ins (W.ca c) dx [(f, .ref L)])) := fun b o q => by rw [upd_ne (ne_of_none q fy)]; exact q
        have sH : Same H1 (upd (upd (upd (upd H1 dx (.own y)) y (.ins (W.ca c) dx [])) L (.lst us)) y (.ins (W.ca c) dx [(f, .ref L)])) := fun b o q => by
          rw [upd_ne (ne_of_none q hy), upd_ne (ne_of_none q hL1)]
          exact up b o q
        refine k (.ref y) (upd F1 y (.ins (W.ca c) dx [(f, .ref L)])) _ ⟨x1.f.trans sF, x1.h.trans sH, fun b o q => ?_, fun b o q => ?_⟩ (.inl ⟨L, x1.h.free hL1, ?_, y, dx, f, rfl, upd_same, M.cn.symm, us, ?_, hu.mono sF⟩)
        · by_cases z : b = y
          · rw [z, upd_same] at q ⊢; exact q
          · rw [upd_ne z] at q
            exact sH b o (x1.s _ _ q)
        · by_cases z : b = y
          · rw [z]; exact .inr (x1.h.free hy)
          · rw [upd_ne z] at q; exact x1.n _ _ q
        · rw [upd_ne n1]; exact x1.s.free hL1
        · rw [upd_ne n1, upd_same]
    · have rv : RV (sm X W) F1 d1 v1 := by
        cases d1 <;> first | exact r1 | (cases hn)
      refine ⟨y, v1, W.ca c, dx, rfl, hi, M.cls, M.na, .inr ⟨rfl, rfl, ?_⟩⟩
      have sF : Same F1 (upd F1 y (.ins (W.ca c) dx [(f, v1)])) := fun b o q => by rw [upd_ne (ne_of_none q fy)]; exact q
      have sH : Same H1 (upd (upd (upd H1 dx (.own y)) y (.ins (W.ca c) dx [])) y (.ins (W.ca c) dx [(f, v1)])) := fun b o q => by
        rw [upd_ne (ne_of_none q hy)]
        exact up b o q
      refine k (.ref y) (upd F1 y (.ins (W.ca c) dx [(f, v1)])) _ ⟨x1.f.trans sF, x1.h.trans sH, fun b o q => ?_, fun b o q => ?_⟩ (.inr ⟨rfl, ?_, y, dx, [(f, v1)], rfl, upd_same, M.cn.symm, v1, [], rfl, rv.mono sF, rfl⟩)
      · by_cases z : b = y
        · rw [z, upd_same] at q ⊢; exact q
        · rw [upd_ne z] at q
          exact sH b o (x1.s _ _ q)
      · by_cases z : b = y
        · rw [z]; exact .inr (x1.h.free hy)
        · rw [upd_ne z] at q; exact x1.n _ _ q
      · cases d1 <;> first | rfl | (cases hn)
  · refine ⟨fun pins s σ H Q I h => ?_⟩
    obtain ⟨F, env, d, _, _, _, ev, _⟩ := h
    obtain ⟨h3, _⟩ := ev_mk ev M.cf
    exact absurd h3 h2
/-- a class without __init__ -/
structure MkAt0 (W : Wd) (X : Cx) (c : Nat) : Prop where
  makes : PySem.W.makesIn X.K (W.ca c) = true
  init : PySem.W.findIn X.K (.ref (W.ca c)) "__init__" = some (some (.builtin "object.__init__"))
  kp : PySem.W.keepIn X.K (.ref (W.ca c)) = true
  cf : W.T.cf c = some []
  cn : W.T.cn c = []
theorem de_mk0 (g : Gd W X) (M : MkAt0 W X c) (hm : X.mg x = some (.ref (W.ca c))) (hg : Gl X x := by rfl) (hdb : (x == ("__debug__" : Str)) = false := by decide) : DE W X (.Call (.Name x pp) [] [] pos) (.mk c .nil) := by
  refine ⟨fun pins s σ H Q I h => ?_⟩
  refine wpAny_Call_Name_kw (ld_glob I hg hm ?_ hdb)
  obtain ⟨F, env, d, sm1, _, _, ev, k⟩ := h
  have hd : d = .ins c [] := by
    replace ev : Nt.ev W.T (run W.T W.n) (.mk c .nil) env = some d := ev
    unfold Nt.ev at ev
    rw [evs.eq_1] at ev
    replace ev : (match W.T.cf c with | some cf => if 2 ≤ W.T.lv ∧ ([] : List D).length = cf.length ∧ (([] : List D).zip cf).all (fun p => if p.2 then (seqD p.1).isSome else notL p.1) then some (D.ins c ((([] : List D).zip cf).map fun p => if p.2 then .lst ((seqD p.1).getD []) else p.1)) else none | none => none) = some d := ev
    rw [M.cf] at ev
    obtain ⟨_, e⟩ := ite_some ev
    exact e.symm
  subst hd
  have I2 := Inv.made (C := W.ca c) I
  have fy : F (s.heap.objs.size + 1) = none := sm1.free (I.hok.fresh (Nat.le_succ _))
  have hq : Q (.ref (s.heap.objs.size + 1)) (upd (upd H s.heap.objs.size (.own (s.heap.objs.size + 1))) (s.heap.objs.size + 1) (.ins (W.ca c) s.heap.objs.size [])) := by
    have hy : H (s.heap.objs.size + 1) = none := I.hok.fresh (Nat.le_succ _)
    have hdx : H s.heap.objs.size = none := I.hok.fresh (Nat.le_refl _)
    have sF : Same F (upd F (s.heap.objs.size + 1) (.ins (W.ca c) s.heap.objs.size [])) := fun b o q => by rw [upd_ne (ne_of_none q fy)]; exact q
    have sH : Same H (upd (upd H s.heap.objs.size (.own (s.heap.objs.size + 1))) (s.heap.objs.size + 1) (.ins (W.ca c) s.heap.objs.size [])) := fun b o q => by
      rw [upd_ne (ne_of_none q hy), upd_ne (ne_of_none q hdx)]; exact q
    refine k (.ref _) (upd F (s.heap.objs.size + 1) (.ins (W.ca c) s.heap.objs.size [])) _ ⟨sF, sH, fun b o q => ?_, fun b o q => ?_⟩ (.inr ⟨rfl, rfl, _, _, [], rfl, upd_same, M.cn.symm, rfl⟩)
    · by_cases z : b = s.heap.objs.size + 1
      · rw [z, upd_same] at q ⊢; exact q
      · rw [upd_ne z] at q
        exact sH b o (sm1 _ _ q)
    · by_cases z : b = s.heap.objs.size + 1
      · rw [z]; exact .inr hy
      · rw [upd_ne z] at q; exact .inl q
  refine PySem.W.callWith_K0 I.kIn M.kp (wpAny_call (make_map0 I.kIn M.makes M.init (fun self => PySem.W.Looks.of_pure (PySem.W.oi_bind self)) ?_))
  obtain ⟨hh, gg, dd, tt, oo⟩ := s
  have Y := PySem.W.makes_of (M := model X.prog X.w) I.kIn M.makes
  have t1 : PySem.W.Looks (model X.prog X.w) ((hh.push PySem.W.emptyDict).push (PySem.W.instObj (W.ca c) hh.objs.size)) (typeOf (.ref (hh.objs.size + 1))) (.ref (W.ca c)) :=
    (PySem.W.Looks.ld (by have := Heap.get?_push_size (hh.push PySem.W.emptyDict) (o := PySem.W.instObj (W.ca c) hh.objs.size) rfl; rwa [Heap.size_push] at this)).andThen .now
  have t2 : PySem.W.Looks (model X.prog X.w) ((hh.push PySem.W.emptyDict).push (PySem.W.instObj (W.ca c) hh.objs.size)) (isInstance (.ref (hh.objs.size + 1)) (.type "object")) true := t1.andThen (Y.top.keeps fun b o e => Heap.get?_push_of_some _ (Heap.get?_push_of_some _ e))
  refine codeAny_call_builtin PySem.W.oi_plain PySem.W.entry_oi (PySem.W.check_slot PySem.W.oi_kind PySem.W.oi_split t2 (PySem.W.oi_args (.ref (hh.objs.size + 1))) ?_)
  rw [PySem.W.oi_run]
  exact wpAny_pure (And.intro rfl ⟨.ref (hh.objs.size + 1), _, I2, rfl, hq⟩)
theorem ds_fapp {fr : Bool} {own own1 : List Nat} {st : Stmt} {i : Nat} (hc : ∀ c, W.T.cn c = [f] → Cls X.K (W.ca c) ∧ NoAttr X.K (W.ca c) f) (h : PS X st (tDrop (tBM X.K "list" rAppend (tFld X.K (tVar i) f) (tCons (tP (sm X W) W p) tNil)))) (c0 : ctn own1 i = true := by decide) (c1 : subL own1 own = true := by decide) (c2 : disL (al p) own1 = true := by decide) : DS W X fr own own1 st (.fapp i f p) := PS.imp h fun Dn σ H ⟨B, F0, H0, O, F, env, fl, j, ev, k⟩ => by
  replace ev : Nt.ex W.T (run W.T W.n) (.fapp i f p) env = some fl := ev
  unfold Nt.ex at ev
  split at ev
  · rename_i c xs e1
    split at ev
    · rename_i d e2
      obtain ⟨⟨cn, cl⟩, rfl⟩ := ite_some ev
      obtain ⟨F1, s1, j1⟩ := j.free (sub_of c1)
      have m := ctn_of c0
      obtain ⟨v, hv, ho⟩ := j1.own i _ e1 m
      split at ho
      · rename_i pp hO
        obtain ⟨a, dx, f', rfl, ha, hn, vs, hp, hr⟩ := ho
        have hn2 : [f'] = [f] := hn.trans cn
        obtain rfl : f' = f := by injection hn2
        obtain ⟨q1, q2⟩ := hc c cn
        refine ⟨_, hv, a, W.ca c, dx, _, .ref pp, rfl, j1.x.s _ _ ha, q1, q2, by simp [List.lookup], .inl ⟨rfl, _, SqL.of hp⟩, F1, env, d, j1.x.s, j1.envS, j1.envF (dis_of c2), e2, fun v F2 H2 x r => ?_⟩
        have j2 := j1.grow x
        have hr2 := hr.mono x.f
        refine ⟨pp, vs, v, rfl, rfl, x.h _ _ hp, by rw [hr.len]; exact lim_lt cl, ?_⟩
        exact k O F2 σ _ (j2.chg m hO hv ⟨a, dx, f', rfl, x.f _ _ ha, hn, _, upd_same, hr2.append (RVs.cons r RVs.nil)⟩)
      · exact absurd ho.1 (by simp [ownb])
    · cases ev
  · cases ev
end
end Nt

set_option Elab.async false
set_option linter.all false
set_option maxRecDepth 100000
set_option maxHeartbeats 4000000
/-! An assignment whose value holds no list: what is own stays own. -/
namespace Nt
open PySem PySem.Spec PyProof.Rows L2
/-- some addresses, lists all of them, are seen no more -/
def hide (F : Hp) (R : Addr → Prop) [DecidablePred R] : Hp := fun a => if R a then none else F a
section
variable {M : Sm} {F : Hp} {R : Addr → Prop} [DecidablePred R]
theorem sqt_hide (hR : ∀ a, R a → F a = none ∨ ∃ vs, F a = some (.lst vs)) {a : Addr} {xs : List V} (h : SqT M.K F a xs) : SqT M.K (hide F R) a xs := by
  rcases h with (h | ⟨o, h⟩) | h
  · refine .inl (.inl ?_)
    unfold hide
    rw [if_neg]
    · exact h
    · intro r
      rcases hR a r with e | ⟨vs, e⟩ <;> rw [e] at h <;> cases h
  · refine .inl (.inr ⟨o, ?_⟩)
    unfold hide
    rw [if_neg]
    · exact h
    · intro r
      rcases hR a r with e | ⟨vs, e⟩ <;> rw [e] at h <;> cases h
  · exact .inr h
mutual
theorem flat_rv (hR : ∀ a, R a → F a = none ∨ ∃ vs, F a = some (.lst vs)) : ∀ {d : D} {v : V}, flat d = true → RV M F d v → RV M (hide F R) d v
  | .non, _, _, h => h
  | .bl _, _, _, h => h
  | .int _, _, _, h => h
  | .str _, _, _, h => h
  | .tup ds, _, f, ⟨a, vs, e1, h1, h2⟩ => ⟨a, vs, e1, sqt_hide hR h1, flat_rvs hR f h2⟩
  | .lst _, _, f, _ => by cases f
  | .frl _, _, f, _ => by cases f
  | .lam _, _, f, _ => by cases f
  | .ins _ _, _, f, _ => by cases f
  | .fn _, _, _, h => h
  | .emp, _, _, ⟨a, e1, h1⟩ => ⟨a, e1, by
    unfold hide
    rw [if_neg]
    · exact h1
    · intro z
      rcases hR a z with y | ⟨_, y⟩
      · rw [h1] at y; cases y
      · rw [h1] at y; cases y⟩
theorem flat_rvs (hR : ∀ a, R a → F a = none ∨ ∃ vs, F a = some (.lst vs)) : ∀ {ds : List D} {vs : List V}, flats ds = true → RVs M F ds vs → RVs M (hide F R) ds vs
  | [], _, _, h => h
  | d :: ds, _, f, ⟨v, r, e1, h1, h2⟩ => by
    unfold flats at f
    rw [Bool.and_eq_true] at f
    exact ⟨v, r, e1, flat_rv hR f.1 h1, flat_rvs hR f.2 h2⟩
end
end
section
variable {M : Sm} {B F0 H0 F H : Hp} {O : Nat → Option Addr} {own : List Nat} {env : Env} {σ : L2.St}
/-- all own slots' lists are seen for a while -/
theorem SJ.lend (j : SJ M B F0 H0 O F own env σ H) : ∃ F1 : Hp, Same F F1 ∧ Same F1 H ∧ EnvS M F1 H env σ ∧ (∀ l, EnvF M F1 l env σ) ∧
    (∀ a, (∃ i ∈ own, O i = some a) → F1 a = none ∨ ∃ vs, F1 a = some (.lst vs)) ∧ ∀ a o, F1 a = some o → F a = some o ∨ ∃ i ∈ own, O i = some a := by
  classical
  let F1 : Hp := fun a => if ∃ i ∈ own, O i = some a ∧ ∃ vs, H a = some (.lst vs) then H a else F a
  have f1 : ∀ a, F1 a = if ∃ i ∈ own, O i = some a ∧ ∃ vs, H a = some (.lst vs) then H a else F a := fun _ => rfl
  have s1 : Same F F1 := fun a o e => by
    rw [f1, if_neg]
    · exact e
    · rintro ⟨i, m, q, _⟩
      rw [(j.ad i m a q).1] at e
      cases e
  have sH : Same F1 H := fun a o e => by
    rw [f1] at e
    split at e
    · exact e
    · exact j.x.s _ _ e
  have all : ∀ i d, gt env i = some d → ∃ v, σ[i]? = some (some v) ∧ RV M F1 d v := fun i d e => by
    by_cases mo : i ∈ own
    · obtain ⟨v, h1, h2⟩ := j.own i d e mo
      refine ⟨v, h1, ?_⟩
      split at h2
      · rename_i p q
        cases ob : ownb d with
        | false => exact (ro_ownb ob h2).mono s1
        | true =>
          have il : ∃ vs, H p = some (.lst vs) := by
            unfold RO at h2
            split at h2
            · obtain ⟨_, vs, z, _⟩ := h2; exact ⟨vs, z⟩
            · obtain ⟨_, _, _, _, _, _, vs, z, _⟩ := h2; exact ⟨vs, z⟩
            · rename_i h1 h2'
              unfold ownb at ob
              split at ob
              · exact absurd rfl (h1 _)
              · exact absurd rfl (h2' _ _)
              · cases ob
          refine h2.seen s1 fun o e => ?_
          rw [f1, if_pos ⟨i, mo, q, il⟩]
          exact e
      · exact h2.2.mono s1
    · obtain ⟨v, h1, h2⟩ := j.non i d e mo
      exact ⟨v, h1, h2.mono s1⟩
  refine ⟨F1, s1, sH, ⟨j.len, fun i d e => ?_⟩, fun l i _ d e => all i d e, fun a ⟨i, m, q⟩ => ?_, fun a o e => ?_⟩
  · obtain ⟨v, a, b⟩ := all i d e
    exact ⟨v, a, b.rs sH⟩
  · rw [f1]
    split
    · rename_i h
      obtain ⟨_, _, _, vs, z⟩ := h
      exact .inr ⟨vs, z⟩
    · exact .inl (j.ad i m a q).1
  · rw [f1] at e
    split at e
    · rename_i h
      obtain ⟨i, m, q, _⟩ := h
      exact .inr ⟨i, m, q⟩
    · exact .inl e
end
section
variable {W : Wd} {X : Cx} {fr : Bool} {own own1 : List Nat} {st : Stmt} {p : E}
/-- x = e, e's value without lists -/
theorem ds_asgF {i : Nat} (h : PS X st (tAsg (tD (sm X W) W p) (gName i))) (c2 : disL [i] own = true := by decide) : DS W X fr own own st (.asgF i p) := PS.imp h fun Dn σ H ⟨B, F0, H0, O, F, env, fl, j, ev, k⟩ => by
  classical
  replace ev : Nt.ex W.T (run W.T W.n) (.asgF i p) env = some fl := ev
  unfold Nt.ex at ev
  split at ev
  · rename_i d e1
    obtain ⟨hf, rfl⟩ := ite_some ev
    obtain ⟨F1, s1, sH, es, ef, hl, hn⟩ := j.lend
    refine ⟨F1, env, d, sH, es, ef _, e1, fun v F2 H2 x r => ?_⟩
    obtain ⟨F3, x3, _, r3⟩ := r.plain x
    have hR : ∀ a, (∃ i ∈ own, O i = some a) → F3 a = none ∨ ∃ vs, F3 a = some (.lst vs) := fun a q => by
      rcases hl a q with e | ⟨vs, e⟩
      · cases e3 : F3 a with
        | none => exact .inl rfl
        | some o =>
          rcases x3.n a o e3 with z | z
          · rw [e] at z; cases z
          · obtain ⟨i, m, q⟩ := q
            exact absurd z (j.ad i m a q).2.2
      · exact .inr ⟨vs, x3.f _ _ e⟩
    have r4 := flat_rv (R := fun a => ∃ i ∈ own, O i = some a) hR hf r3
    have x4 : Ext F H (hide F3 fun a => ∃ i ∈ own, O i = some a) H2 := by
      refine ⟨fun a o e => ?_, x3.h, fun a o e => ?_, fun a o e => ?_⟩
      · unfold hide
        rw [if_neg]
        · exact x3.f _ _ (s1 _ _ e)
        · rintro ⟨i, m, q⟩
          rw [(j.ad i m a q).1] at e
          cases e
      · unfold hide at e
        split at e
        · cases e
        · exact x3.s _ _ e
      · unfold hide at e
        split at e
        · cases e
        · rename_i nr
          rcases x3.n a o e with z | z
          · rcases hn a o z with w | w
            · exact .inl w
            · exact absurd w nr
          · exact .inr z
    exact k O _ _ H2 ((j.grow x4).put r4 ((dis_of c2) i (List.mem_cons_self ..)))
  · cases ev
theorem ds_augsub {i : Nat} (h : PS X st (tAug i (tB (sm X W) W p) (ipI fun i j => i - j))) (c1 : subL own1 own = true := by decide) (c2 : disL [i] own1 = true := by decide) : DS W X fr own own1 st (.asg i (.o2 .sub (.var i) p)) := PS.imp h fun Dn σ H ⟨B, F0, H0, O, F, env, fl, j, ev, k⟩ => by
  obtain ⟨d, e1, rfl⟩ := ex_asg ev
  obtain ⟨F1, s1, j1⟩ := j.free (sub_of c1)
  have dis := dis_of c2
  obtain ⟨x, y, ex, ey, eo⟩ := ev_o2 e1
  replace eo : int2 (fun i j => some (.int (i - j))) x y = some d := eo
  unfold int2 at eo
  split at eo
  · cases eo
    rename_i a b
    obtain ⟨v, hv, rv⟩ := j1.envS.2 i (.int a) (by unfold Nt.ev at ex; exact ex)
    have rv : v = .int a := rv
    refine ⟨v, hv, F1, env, _, j1.x.s, j1.envS, ey, fun u H2 t r => ⟨a, b, rv, r, ?_⟩⟩
    exact k O F1 _ H2 ((j1.grow (Ext.grow j1.x.s t)).put (by exact rfl) (dis i (List.mem_cons_self ..)))
  · cases eo
/-- i, j, l = three values, all of them seen -/
theorem ds_par3 {i j l : Nat} {ps : Es} (h : PS X st (tPar3 i j l (tAs (sm X W) W ps))) (c1 : subL own1 own = true := by decide) (c2 : disL (i :: j :: l :: als ps) own1 = true := by decide) : DS W X fr own own1 st (.unp [i, j, l] (.tup ps)) := PS.imp h fun Dn σ H ⟨B, F0, H0, O, F, env, fl, js, ev, k⟩ => by
  replace ev : Nt.ex W.T (run W.T W.n) (.unp [i, j, l] (.tup ps)) env = some fl := ev
  unfold Nt.ex at ev
  rw [Nt.ev.eq_3] at ev
  cases e1 : evs W.T (run W.T W.n) ps env with
  | none => rw [e1] at ev; cases ev
  | some ds =>
    rw [e1] at ev
    replace ev : (setsD env [i, j, l] ds).map Fl.nx = some fl := ev
    obtain ⟨F1, s1, j1⟩ := js.free (sub_of c1)
    have dis := dis_of c2
    refine ⟨F1, env, ds, j1.x.s, j1.envS, j1.envF fun i m => dis i (by simp [m]), e1, fun vs F2 H2 x r => ?_⟩
    have hl := r.len
    cases ds with
    | nil => cases ev
    | cons d1 ds =>
      cases ds with
      | nil => cases ev
      | cons d2 ds =>
        cases ds with
        | nil => cases ev
        | cons d3 ds =>
          cases ds with
          | cons _ _ => cases ev
          | nil =>
            cases ev
            obtain ⟨v1, u1, rfl, r1, v2, u2, rfl, r2, v3, u3, rfl, r3, e⟩ := r
            have e : u3 = [] := e
            subst e
            refine ⟨v1, v2, v3, rfl, ?_⟩
            exact k O F2 _ H2 ((((j1.grow x).put r1 (dis i (by simp))).put r2 (dis j (by simp))).put r3 (dis l (by simp)))
/-- one store into an own list -/
theorem gsub_step {q : E} {i jj : Nat} {B F0 H0 F H : Hp} {O : Nat → Option Addr} {env : Env} {σ : L2.St} {xs : List D} {z : Int} {d : D} {v : V} {Q : L2.St → Hp → Prop} (j : SJ (sm X W) B F0 H0 O F own1 env σ H) (m : i ∈ own1) (e1 : gt env i = some (.lst xs)) (e3 : W.ev q env = some (.int z)) (e4 : ixN xs.length z = some jj) (r : RV (sm X W) F d v)
    (k : ∀ H', SJ (sm X W) B F0 H0 O F own1 (env.set i (some (.lst (xs.set jj d)))) σ H' → Q σ H') : gSub (tVar i) (tB (sm X W) W q) rSetL v σ H Q := by
  obtain ⟨pp, vs, hO, hv, hp, hr⟩ := own_list j m e1
  refine ⟨_, hv, F, env, _, j.x.s, j.envS, e3, fun w H3 t r3 => ?_⟩
  have x3 := Ext.grow j.x.s t
  have j3 := j.grow x3
  refine ⟨pp, vs, z, jj, rfl, r3, x3.h _ _ hp, by rw [hr.len]; exact e4, ?_⟩
  exact k _ (j3.chg m hO hv ⟨rfl, _, upd_same, hr.set jj r⟩)
theorem ds_seti2 {q r : E} {i : Nat} (h : PS X st (tAsg (tP (sm X W) W p) (gTup X.K 2 (gCons (gSub (tVar i) (tB (sm X W) W q) rSetL) (gCons (gSub (tVar i) (tB (sm X W) W r) rSetL) gNil))))) (c0 : ctn own1 i = true := by decide) (c1 : subL own1 own = true := by decide) (c2 : disL (al p) own1 = true := by decide) : DS W X fr own own1 st (.seti2 i q r p) := PS.imp h fun Dn σ H ⟨B, F0, H0, O, F, env, fl, j, ev, k⟩ => by
  replace ev : Nt.ex W.T (run W.T W.n) (.seti2 i q r p) env = some fl := ev
  unfold Nt.ex at ev
  split at ev
  · rename_i a b e2
    split at ev
    · rename_i xs e1
      split at ev
      · rename_i z e3
        split at ev
        · rename_i jj e4
          split at ev
          · rename_i y e5
            split at ev
            · rename_i mm e6
              cases ev
              obtain ⟨F1, s1, j1⟩ := j.free (sub_of c1)
              have m := ctn_of c0
              refine ⟨F1, env, _, j1.x.s, j1.envS, j1.envF (dis_of c2), e2, fun v F2 H2 x rv => ?_⟩
              obtain ⟨t, vs, rfl, ht, v1, u1, rfl, r1, v2, u2, rfl, r2, e⟩ := rv
              have e : u2 = [] := e
              subst e
              have j2 := j1.grow x
              refine ⟨t, _, rfl, Same.sqt x.s ht, rfl, v1, [v2], rfl, ?_⟩
              refine gsub_step j2 m e1 e3 e4 r1 fun H3 j3 => ⟨v2, [], rfl, ?_⟩
              refine gsub_step j3 m ?_ e5 e6 r2 fun H4 j4 => ⟨rfl, k O F2 σ _ j4⟩
              unfold gt
              rw [List.getElem?_set_self]
              have : gt env i ≠ none := by rw [e1]; exact fun z => by cases z
              unfold gt at this
              rcases Nat.lt_or_ge i env.length with h | h
              · exact h
              · rw [List.getElem?_eq_none h] at this
                exact absurd rfl this
            · cases ev
          · cases ev
        · cases ev
      · cases ev
    · cases ev
  · cases ev
theorem cnt_core {d1 d2 d : D} (e : op2 .cnt d1 d2 = some d) : ∃ xs i ns, d1 = .lst xs ∧ d2 = .int i ∧ intsOf xs = some ns ∧ d = .int (ns.count i : Nat) := by
  cases d1 with
  | lst xs =>
    cases d2 with
    | int i =>
      have e : (match intsOf xs with | some ns => some (D.int (ns.count i : Nat)) | none => none) = some d := e
      cases hi : intsOf xs with
      | none => rw [hi] at e; cases e
      | some ns => rw [hi] at e; exact ⟨xs, i, ns, rfl, rfl, hi, (Option.some.inj e).symm⟩
    | _ => cases (show (none : Option D) = some d from e)
  | _ => cases d2 <;> cases (show (none : Option D) = some d from e)
/-- xs.count(k), ints -/
theorem de_cnt {a b : Expr} {q : E} {apos pos : Pos} (h : DB W X a p) (h2 : DB W X b q) (hbase : attributeBase a "count" X.env (eval a X.env) = eval a X.env := by rfl)
    (hfew : ((backTo pos (starEach [b] X.env)).all (fun x => !x.1) && (backToKw pos (keywordEach [] X.env)).all (fun x => x.1.isSome)
      && decide (([b] : List Expr).length + ([] : List Keyword).length + (if ([] : List Keyword).isEmpty then 0 else 1) < 30)) = true := by rfl) (hline : (apos.endLine == pos.line) = true := by rfl)
    (hst : starEach [b] X.env = (false, eval b X.env) :: starEach [] X.env := by rfl) (hpl : (backTo pos (starEach [] X.env)).any (·.1) = false := by rfl) : DE W X (.Call (.Attribute a "count" apos) [b] [] pos) (.o2 .cnt p q) :=
  PE.imp (pe_bm PySem.F.plainAttrs_list PySem.F.slot_list_count PySem.F.type_list_count mt_lcount h (pa_cons h2 pa_nil hst) hbase hfew hline hst hpl) fun σ H Q ⟨F, env, d, s, hs, hf, ev, k⟩ => by
    obtain ⟨d1, d2, e1, e2, e⟩ := ev_o2 ev
    obtain ⟨xs, i, ns, rfl, rfl, hi, rfl⟩ := cnt_core e
    refine ⟨F, env, _, s, hs, e1, fun v H1 t r1 => ?_⟩
    obtain ⟨a1, vs, rfl, ha, hv⟩ := r1
    obtain ⟨e3, _⟩ := hv.of_ints hi
    subst e3
    refine ⟨.inl ⟨rfl, _, SqL.of ha⟩, F, env, _, s.trans t, hs.mono (Same.refl _) t, e2, fun w H2 t2 r2 => ?_⟩
    have r2 : w = .int i := r2
    subst r2
    exact ⟨a1, ns, i, rfl, rfl, SqL.of (t2 _ _ ha), k _ F H2 (Ext.grow s (t.trans t2)) (scl_top rfl)⟩
theorem flatN_rv {M : Sm} {F : Hp} {R : Addr → Prop} [DecidablePred R] (hR : ∀ a, R a → F a = none ∨ ∃ vs, F a = some (.lst vs)) {d : D} {v : V} (hf : flatN d = true) (r : RV M F d v)
    (hl : ∀ c ds, d = .ins c [.lst ds] → ∃ a dx f pp, v = .ref a ∧ F a = some (.ins (M.ca c) dx [(f, .ref pp)]) ∧ ¬ R pp) : RV M (hide F R) d v := by
  have keep : ∀ a o, F a = some o → (∀ vs, o ≠ .lst vs) → hide F R a = some o := fun a o e n => by
    unfold hide
    rw [if_neg]
    · exact e
    · intro z
      rcases hR a z with y | ⟨vs, y⟩
      · rw [e] at y; cases y
      · rw [e] at y; exact n vs (Option.some.inj y)
  unfold flatN at hf
  split at hf
  · rename_i c ds
    obtain ⟨a, dx, f, pp, e1, ha, np⟩ := hl c ds rfl
    obtain ⟨a', dx', fs', e2, ha', hn, rr⟩ := r
    rw [e1] at e2
    cases e2
    rw [ha] at ha'
    cases ha'
    obtain ⟨w, u, e, rw1, ru⟩ := rr
    have e : [V.ref pp] = w :: u := e
    cases e
    obtain ⟨l, vs, e3, hq, hv⟩ := rw1
    cases e3
    refine ⟨a, dx, _, e1, keep _ _ ha (fun vs z => by cases z), hn, RVs.cons ⟨pp, vs, rfl, ?_, flat_rvs hR hf hv⟩ ru⟩
    unfold hide
    rw [if_neg np]
    exact hq
  · rename_i c fs hne
    obtain ⟨a', dx', fs', e2, ha', hn, rr⟩ := r
    exact ⟨a', dx', fs', e2, keep _ _ ha' (fun vs z => by cases z), hn, flat_rvs hR hf rr⟩
  · exact flat_rv hR hf r
/-- x = e, e's value a new instance -/
theorem ds_asgN {i : Nat} (h : PS X st (tAsg (tD (sm X W) W p) (gName i))) (ht : top W.T p = true := by rfl) (c2 : disL [i] own = true := by decide) : DS W X fr own own st (.asgN i p) := PS.imp h fun Dn σ H ⟨B, F0, H0, O, F, env, fl, j, ev, k⟩ => by
  classical
  replace ev : Nt.ex W.T (run W.T W.n) (.asgN i p) env = some fl := ev
  unfold Nt.ex at ev
  split at ev
  · rename_i d e1
    obtain ⟨hf, rfl⟩ := ite_some ev
    obtain ⟨F1, s1, sH, es, ef, hl, hn⟩ := j.lend
    refine ⟨F1, env, d, sH, es, ef _, e1, fun v F2 H2 x r => ?_⟩
    rw [ht] at r
    have hi : ∀ c ds, d = .ins c [.lst ds] → ∃ a dx f pp, v = .ref a ∧ F2 a = some (.ins (W.ca c) dx [(f, .ref pp)]) ∧ ¬ (∃ i ∈ own, O i = some pp) := fun c ds e => by
      subst e
      rcases r with ⟨pp, h1, h2, ro⟩ | ⟨_, ob, _⟩
      · obtain ⟨a, dx, f, e1, ha, hn, vs, hq, hv⟩ := ro
        exact ⟨a, dx, f, pp, e1, ha, fun ⟨i, m, q⟩ => (j.ad i m pp q).2.2 h1⟩
      · cases ob
    obtain ⟨F3, x3, s23, r3⟩ := r.plain x
    have hR : ∀ a, (∃ i ∈ own, O i = some a) → F3 a = none ∨ ∃ vs, F3 a = some (.lst vs) := fun a q => by
      rcases hl a q with e | ⟨vs, e⟩
      · cases e3 : F3 a with
        | none => exact .inl rfl
        | some o =>
          rcases x3.n a o e3 with z | z
          · rw [e] at z; cases z
          · obtain ⟨i, m, q⟩ := q
            exact absurd z (j.ad i m a q).2.2
      · exact .inr ⟨vs, x3.f _ _ e⟩
    have r4 := flatN_rv (R := fun a => ∃ i ∈ own, O i = some a) hR hf r3 fun c ds e => by
      obtain ⟨a, dx, f, pp, e1, e2, e3⟩ := hi c ds e
      exact ⟨a, dx, f, pp, e1, s23 _ _ e2, e3⟩
    have x4 : Ext F H (hide F3 fun a => ∃ i ∈ own, O i = some a) H2 := by
      refine ⟨fun a o e => ?_, x3.h, fun a o e => ?_, fun a o e => ?_⟩
      · unfold hide
        rw [if_neg]
        · exact x3.f _ _ (s1 _ _ e)
        · rintro ⟨i, m, q⟩
          rw [(j.ad i m a q).1] at e
          cases e
      · unfold hide at e
        split at e
        · cases e
        · exact x3.s _ _ e
      · unfold hide at e
        split at e
        · cases e
        · rename_i nr
          rcases x3.n a o e with z | z
          · rcases hn a o z with w | w
            · exact .inl w
            · exact absurd w nr
          · exact .inr z
    exact k O _ _ H2 ((j.grow x4).put r4 ((dis_of c2) i (List.mem_cons_self ..)))
  · cases ev
/-! ### x = l.pop(); three values at once -/
theorem ds_popa {i j : Nat} (h : PS X st (tAsg (tBM0 X.K "list" rPop (tVar j)) (gName i))) (c0 : ctn own j = true := by decide) (c2 : disL [i] own = true := by decide) : DS W X fr own own st (.popa i j) := PS.imp h fun Dn σ H ⟨B, F0, H0, O, F, env, fl, js, ev, k⟩ => by
  replace ev : Nt.ex W.T (run W.T W.n) (.popa i j) env = some fl := ev
  unfold Nt.ex at ev
  split at ev
  · rename_i xs e1
    split at ev
    · rename_i d e2
      cases ev
      have m := ctn_of c0
      obtain ⟨pp, vs, hO, hv, hp, hr⟩ := own_list js m e1
      obtain ⟨y, hy, ry⟩ := hr.get e2
      have hl := hr.len
      refine ⟨_, hv, .inl ⟨rfl, _, SqL.of hp⟩, pp, vs, y, rfl, rfl, hp, by rw [hl]; exact hy, ?_⟩
      have tk : RVs (sm X W) F xs.dropLast vs.dropLast := by rw [List.dropLast_eq_take, List.dropLast_eq_take, hl]; exact hr.take _
      have j2 := js.chg (d := .lst xs.dropLast) (o := .lst vs.dropLast) m hO hv ⟨rfl, _, upd_same, tk⟩
      exact k O F _ _ (j2.put ry ((dis_of c2) i (List.mem_cons_self ..)))
    · cases ev
  · cases ev
theorem fresh_grow {F H F1 H1 : Hp} {p : Addr} (x : Ext F H F1 H1) (a : F p = none) (b : H p ≠ none) : F1 p = none ∧ H1 p ≠ none := by
  refine ⟨?_, fun z => b (x.h.free z)⟩
  cases q : F1 p with
  | none => rfl
  | some o =>
    rcases x.n p o q with z | z
    · rw [a] at z; cases z
    · exact absurd z b
/-- i, j, l = three new things -/
theorem ds_par3O {i j l : Nat} {q r : E} (h : PS X st (tPar3 i j l (tCons (tD (sm X W) W p) (tCons (tD (sm X W) W q) (tCons (tD (sm X W) W r) tNil))))) (h1 : top W.T p = true := by rfl) (h2 : top W.T q = true := by rfl) (h3 : top W.T r = true := by rfl) (hij : (i == j || i == l || j == l) = false := by decide) (c1 : subL own1 own = true := by decide)
    (c2 : disL (i :: j :: l :: (al p ++ (al q ++ al r))) own1 = true := by decide) : DS W X fr own (l :: j :: i :: own1) st (.par3 i j l p q r) := PS.imp h fun Dn σ H ⟨B, F0, H0, O, F, env, fl, js, ev, k⟩ => by
  replace ev : Nt.ex W.T (run W.T W.n) (.par3 i j l p q r) env = some fl := ev
  unfold Nt.ex at ev
  split at ev
  · rename_i x e1
    split at ev
    · rename_i y e2
      split at ev
      · rename_i z e3
        cases ev
        obtain ⟨F1, s1, j1⟩ := js.free (sub_of c1)
        have dis := dis_of c2
        rw [Bool.or_eq_false_iff, Bool.or_eq_false_iff] at hij
        have nij : i ≠ j := by simpa using hij.1.1
        have nil : i ≠ l := by simpa using hij.1.2
        have njl : j ≠ l := by simpa using hij.2
        refine ⟨F1, env, x, j1.x.s, j1.envS, j1.envF fun a m => dis a (by simp [m]), e1, fun v F2 H2 x2 r2 => ?_⟩
        have j2 := j1.grow x2
        refine ⟨F2, env, y, j2.x.s, j2.envS, j2.envF fun a m => dis a (by simp [m]), e2, fun w F3 H3 x3 r3 => ?_⟩
        have j3 := j2.grow x3
        refine ⟨F3, env, z, j3.x.s, j3.envS, j3.envF fun a m => dis a (by simp [m]), e3, fun u F4 H4 x4 r4 => ?_⟩
        have j4 := j3.grow x4
        rw [h1] at r2; rw [h2] at r3; rw [h3] at r4
        obtain ⟨o1, ov1, f1⟩ := OwnV.of_top j1 x2 r2
        obtain ⟨o2, ov2, f2⟩ := OwnV.of_top j2 x3 r3
        obtain ⟨o3, ov3, f3⟩ := OwnV.of_top j3 x4 r4
        refine ⟨v, w, u, rfl, ?_⟩
        have k1 := j4.putO (i := i) (o := o1) (dis i (by simp)) (OwnV.grow x4 (OwnV.grow x3 ov1)) fun pp e => by
          obtain ⟨a, b, c, d, e⟩ := f1 pp e
          obtain ⟨g1, g2⟩ := fresh_grow x3 b d
          obtain ⟨g3, g4⟩ := fresh_grow x4 g1 g2
          exact ⟨g3, c, g4, e⟩
        have k2 := k1.putO (i := j) (o := o2) (fun m => by
          rcases List.mem_cons.mp m with z | z
          · exact nij z.symm
          · exact dis j (by simp) z) (OwnV.grow x4 ov2) fun pp e => by
          obtain ⟨a, b, c, d, e⟩ := f2 pp e
          obtain ⟨g3, g4⟩ := fresh_grow x4 b d
          refine ⟨g3, c, g4, fun k m => ?_⟩
          rcases List.mem_cons.mp m with z | z
          · rw [if_pos z]
            intro q1
            exact (f1 pp q1).2.2.2.1 a
          · by_cases q1 : k = i
            · rw [if_pos q1]
              intro q1
              exact (f1 pp q1).2.2.2.1 a
            · rw [if_neg q1]
              exact e k z
        have k3 := k2.putO (i := l) (o := o3) (fun m => by
          rcases List.mem_cons.mp m with z | z
          · exact njl z.symm
          · rcases List.mem_cons.mp z with z | z
            · exact nil z.symm
            · exact dis l (by simp) z) ov3 fun pp e => by
          obtain ⟨a, b, c, d, e⟩ := f3 pp e
          refine ⟨b, c, d, fun k m => ?_⟩
          have no2 : o2 ≠ some pp := fun q1 => (f2 pp q1).2.2.2.1 a
          have no1 : o1 ≠ some pp := fun q1 => (f1 pp q1).2.2.2.1 (x3.h.free a)
          by_cases q1 : k = j
          · rw [if_pos q1]; exact no2
          · rw [if_neg q1]
            by_cases q2 : k = i
            · rw [if_pos q2]; exact no1
            · rw [if_neg q2]
              rcases List.mem_cons.mp m with z | z
              · exact absurd z q1
              · rcases List.mem_cons.mp z with z | z
                · exact absurd z q2
                · exact e k z
        exact k _ F4 _ H4 k3
      · cases ev
    · cases ev
  · cases ev
end
end Nt

set_option Elab.async false
set_option linter.all false
set_option maxRecDepth 100000
set_option maxHeartbeats 4000000
/-! Refusals: a def that raises. -/
namespace Nt
open PySem PySem.Spec PyProof.Rows L2

/-- the statements of a def up to a raise -/
inductive Xs where
  | stop | chk (k : Nat) (es : Es) (r : Xs) | rse (c : Nat) | iff (p : E) (a r : Xs) | sto (s : S) (r : Xs)
section
variable (T : Tb) (cl : Nat → List D → Option D) (cx : Nat → List D → Option Nat)
/-- the number of the exception that leaves -/
def xs : Xs → Env → Option Nat
  | .stop, _ => none
  | .chk k es r, env => match evs T cl es env with
    | some ds => match cx k ds with
      | some c => some c
      | none => match cl k ds with
        | some _ => xs r env
        | none => none
    | none => none
  | .rse c, _ => some c
  | .iff p a r, env => match ev T cl p env with
    | some (.bl true) => xs a env
    | some (.bl false) => xs r env
    | _ => none
  | .sto s r, env => match ex T cl s env with
    | some (.nx env2) => xs r env2
    | _ => none
end
/-- a def called: the number of the exception that leaves it -/
def runX (T : Tb) (xt : Nat → Option Xs) : Nat → Nat → List D → Option Nat
  | 0, _, _ => none
  | n + 1, k, ds => match T.fns[k]? with
    | some f => match xt k with
      | some x => if ds.length = f.np then xs { T with lv := n } (run T n) (runX T xt n) x (ds.map some ++ List.replicate (f.ns - f.np) none) else none
      | none => none
    | none => none
theorem runX_lv (T : Tb) (xt : Nat → Option Xs) (a : Nat) : ∀ n k ds, runX { T with lv := a } xt n k ds = runX T xt n k ds
  | 0, _, _ => rfl
  | n + 1, k, ds => by
    have e : runX { T with lv := a } xt n = runX T xt n := by
      funext k ds
      exact runX_lv T xt a n k ds
    have e2 : run { T with lv := a } n = run T n := by
      funext k ds
      exact run_lv T a n k ds
    unfold runX
    rw [e, e2]
/-- the promise of def k: of what it is handed, the exception's class -/
def spX (M : Sm) (T : Tb) (xt : Nat → Option Xs) (n k : Nat) : Sp := fun vs H _ E => ∃ fn F ds c, T.fns[k]? = some fn ∧ ds.length = fn.np ∧ Same F H ∧ RVs M F ds vs ∧ runX T xt n k ds = some c ∧ ∀ F' H', Ext F H F' H' → E (.ref (M.ca (200 + c))) none H'
structure XnAt (W : Wd) (xt : Nat → Option Xs) (P : Program) (w : World) (K : PySem.W.Frag) (mg : Str → Option Value) (base : Heap) (n k : Nat) (f : Addr) : Prop where
  ex : ∃ fd ps, PySem.W.keepIn K (.ref f) = true ∧ Binds K fd ps [] ∧ FnOk P w K mg base (L2.CX P w) n f fd ps (spX ⟨K, W.ca, W.T.cn⟩ W.T xt n k)
abbrev XnX (W : Wd) (xt : Nat → Option Xs) (X : Cx) (k : Nat) (f : Addr) : Prop := XnAt W xt X.prog X.w X.K X.mg X.base W.n k f
theorem runX_some {T : Tb} {xt : Nat → Option Xs} {n k : Nat} {ds : List D} {c : Nat} (h : runX T xt n k ds = some c) : ∃ fn, T.fns[k]? = some fn ∧ ds.length = fn.np := by
  cases n with
  | zero => cases h
  | succ n =>
    unfold runX at h
    split at h
    · rename_i f e
      split at h
      · split at h
        · rename_i l
          exact ⟨f, e, l⟩
        · cases h
      · cases h
    · cases h

theorem PS.nox {X : Cx} {st : Stmt} {t : TS} (h : PS X.nox st t) : PS X st t := ⟨fun pins s σ H D I hw =>
  wpAny_mono (h.run pins s σ H D (I.wish _) hw) (fun _ _ q => q.unwish) fun _ _ z => False.elim z⟩
theorem PA.nox {X : Cx} {es : List Expr} {t : TA} (h : PA X.nox es t) : PA X es t := ⟨fun pos pins s σ H Q I hw =>
  wpAny_mono (h.run pos pins s σ H Q (I.wish _) hw) (fun _ _ ⟨vs, H', I', r, q⟩ => ⟨vs, H', I'.unwish, r, q⟩) fun _ _ z => False.elim z⟩
theorem PS.or {X : Cx} {st : Stmt} {t u : TS} (h : PS X st t) (h2 : PS X st u) : PS X st (fun D σ H => t D σ H ∨ u D σ H) := ⟨fun pins s σ H D I q => q.elim (h.run pins s σ H D I) (h2.run pins s σ H D I)⟩

section
variable (W : Wd) (xt : Nat → Option Xs) (X : Cx) (EX : XK) (own : List Nat)
def tX (x : Xs) : TS := fun _ σ H => ∃ B F0 H0 O F env c, SJ (sm X W) B F0 H0 O F own env σ H ∧ xs W.T (run W.T W.n) (runX W.T xt W.n) x env = some c ∧ ∀ F' H', Ext F0 H0 F' H' → EX (.ref (W.ca (200 + c))) none H'
abbrev XSs (body : List Stmt) (x : Xs) : Prop := PSs X body (tX W xt X EX own x)
end
section
variable {W : Wd} {xt : Nat → Option Xs} {X : Cx} {EX : XK} {own own1 : List Nat} {st : Stmt} {rest : List Stmt} {x r a : Xs} {e : Expr} {es : List Expr} {ps : Es} {p : E} {pos : Pos} {fr : Bool}
theorem xs_stop : XSs W xt X EX own rest .stop := PSs.imp pss_never fun D σ H ⟨_, _, _, _, _, _, _, _, e, _⟩ => by cases e
theorem xs_sto {s : S} (h : DS W X.nox fr own own1 st s) (hr : XSs W xt X EX own1 rest r) : XSs W xt X EX own (st :: rest) (.sto s r) := PSs.imp (pss_cons (PS.nox h) hr) fun D σ H ⟨B, F0, H0, O, F, env, c, j, e, k⟩ => by
  unfold xs at e
  split at e
  · rename_i env2 e1
    exact ⟨B, F0, H0, O, F, env, .nx env2, j, e1, fun O' F' σ' H' j' => ⟨B, F0, H0, O', F', env2, c, j', e, k⟩⟩
  · cases e
theorem xs_rse {c : Nat} (hc : X.calm = true) (tk : L2.Takes X (fun cls d _ H => EX cls d H)) (he : L2.PMk X e (fun _ H Q => Q (.ref (W.ca (200 + c))) none H)) : XSs W xt X EX own (.Raise (some e) none pos :: rest) (.rse c) := PSs.imp (pss_cons (L2.ps_raise hc tk he) (pss_never (sts := rest))) fun D σ H ⟨B, F0, H0, O, F, env, c', j, e, k⟩ => by
  obtain rfl : c = c' := Option.some.inj e
  exact k F H j.x
theorem xs_iff {ca : List Stmt} (hc : DT W X.nox e p) (ha : XSs W xt X EX own ca a) (hr : XSs W xt X EX own rest r) : XSs W xt X EX own (.If e ca [] pos :: rest) (.iff p a r) := PSs.imp (pss_cons (ps_if (PT.nox hc) ha pss_nil) hr) fun D σ H ⟨B, F0, H0, O, F, env, c, j, ev, k⟩ => by
  unfold xs at ev
  split at ev
  · rename_i e1
    refine ⟨F, env, true, j.x.s, j.envS, e1, fun H' t => iteT ?_⟩
    exact ⟨B, F0, H0, O, F, env, c, j.grow (Ext.grow j.x.s t), ev, k⟩
  · rename_i e1
    refine ⟨F, env, false, j.x.s, j.envS, e1, fun H' t => iteF ?_⟩
    exact ⟨B, F0, H0, O, F, env, c, j.grow (Ext.grow j.x.s t), ev, k⟩
  · cases ev
/-- f(..), which may refuse -/
theorem xs_chk {xn : Str} {pp pos2 : Pos} {k : Nat} {f : Addr} (g : Gd W X.nox) (Fn : XnX W xt X k f) (tk : L2.Takes X (fun cls d _ H => EX cls d H)) (hm : X.mg xn = some (.ref f)) (hs : DS W X.nox fr own own (.Expr (.Call (.Name xn pp) (e :: es) [] pos) pos2) (.ex (.call k ps))) (ha : DA W X.nox (e :: es) ps) (hr : XSs W xt X EX own rest r)
    (c2 : disL (als ps) own = true := by decide) (hg : Gl X xn := by rfl) (hdb : (xn == ("__debug__" : Str)) = false := by decide)
    (he : starEach (e :: es) X.env = (false, eval e X.env) :: starEach es X.env := by rfl) (hpl : (backTo pos (starEach es X.env)).any (·.1) = false := by rfl) : XSs W xt X EX own (.Expr (.Call (.Name xn pp) (e :: es) [] pos) pos2 :: rest) (.chk k ps r) := by
  obtain ⟨fd, pr, kp, hb, ok⟩ := Fn.ex
  have h2 : PS X (.Expr (.Call (.Name xn pp) (e :: es) [] pos) pos2) _ := ps_expr (pe_call ok g.room hg hm kp hb .nil (E := EX) (L2.passes_call tk fun _ _ _ _ h => h) (PA.nox ha) hdb he hpl)
  refine PSs.imp (pss_cons (PS.or (PS.nox hs) h2) hr) fun D σ H ⟨B, F0, H0, O, F, env, c, j, ev, k'⟩ => ?_
  unfold xs at ev
  split at ev
  · rename_i ds e1
    split at ev
    · rename_i c' e2
      cases ev
      refine .inr ⟨F, env, ds, j.x.s, j.envS, j.envF (dis_of c2), e1, fun vs F1 H1 x1 rv => ?_⟩
      obtain ⟨fn, hfn, hl⟩ := runX_some e2
      exact ⟨fn, F1, ds, c, hfn, hl, x1.s, by rw [List.append_nil]; exact rv, e2, fun F' H' x2 => k' F' H' ((j.x.trans x1).trans x2)⟩
    · split at ev
      · rename_i d e3
        refine .inl ⟨B, F0, H0, O, F, env, .nx env, j, ?_, fun O' F' σ' H' j' => ⟨B, F0, H0, O', F', env, c, j', ev, k'⟩⟩
        unfold ex
        have : Nt.ev W.T (run W.T W.n) (.call k ps) env = some d := by
          unfold Nt.ev
          rw [e1]
          exact e3
        rw [this]
      · cases ev
  · cases ev
/-- THE RULE: what def k refuses, by its body -/
theorem fn_xX {ca : Nat → Addr} {T : Tb} {xt : Nat → Option Xs} {P : Program} {w : World} {K : PySem.W.Frag} {mg : Str → Option Value} {base : Heap} {x qual : Str} {st : Stmt} {f : Addr} {fd : FuncData} {N ps : List Str} {n k : Nat} {fn : Fn} {xb : Xs} (Fu : Fun K x qual st f fd) (S : FnScope N ps (defScope st))
    (hfn : T.fns[k]? = some fn) (hx : xt k = some xb) (hnp : fn.np = ps.length) (hns : decide (fn.ns ≤ N.length ∧ fn.np ≤ fn.ns) = true)
    (body : ∀ (cdv : Value) (A : Around) (outer : List PySem.Env) (s : Shared) (H : Hp) (EX : XK), Gd ⟨ca, { T with lv := n }⟩ (cxOf (L2.CX P w) P w K mg base N qual (defScope st) f cdv A outer s H EX).nox →
      L2.Takes (cxOf (L2.CX P w) P w K mg base N qual (defScope st) f cdv A outer s H EX) (fun cls d _ H => EX cls d H) →
      XSs ⟨ca, { T with lv := n }⟩ xt (cxOf (L2.CX P w) P w K mg base N qual (defScope st) f cdv A outer s H EX) EX [] (defBody st) xb) : FnOk P w K mg base (L2.CX P w) (n + 1) f fd ps (spX ⟨K, ca, T.cn⟩ T xt (n + 1) k) := by
  refine Fu.okX S (fun vs H Q E h => ?_) fun cdv A outer s H vs Q E hr h => ?_
  · obtain ⟨fn', F, ds, c, e1, e2, _, r, _⟩ := h
    rw [hfn] at e1
    cases e1
    rw [r.len, e2, hnp]
  · obtain ⟨fn', F, ds, c, e1, e2, sm1, r, ev, q⟩ := h
    rw [hfn] at e1
    cases e1
    have hns := of_decide_eq_true hns
    refine ⟨_, body cdv A outer s H E ⟨rfl, hr, rfl⟩ (L2.takes_of rfl rfl rfl rfl), ?_⟩
    unfold runX at ev
    rw [hfn, hx] at ev
    simp only [e2, if_true] at ev
    have hlv : run { T with lv := n } n = run T n := by funext k ds; exact run_lv T n n k ds
    have hlx : runX { T with lv := n } xt n = runX T xt n := by funext k ds; exact runX_lv T xt n n k ds
    refine ⟨F, F, H, fun _ => none, F, ds.map some ++ List.replicate (fn.ns - fn.np) none, c, ⟨Same.refl _, Ext.refl sm1, fun j m => (by cases m), fun i m => (by cases m), ?_, fun i d e _ => start_get r i d e, fun i d _ m => (by cases m)⟩, ?_, q⟩
    · unfold L2.start
      simp only [List.length_append, List.length_map, List.length_replicate]
      have := r.len
      omega
    · show xs { T with lv := n } (run { T with lv := n } n) (runX { T with lv := n } xt n) xb _ = _
      rw [hlv, hlx]
      exact ev
theorem xnat {ca : Nat → Addr} {T : Tb} {P : Program} {w : World} {K : PySem.W.Frag} {mg : Str → Option Value} {base : Heap} {xq qual : Str} {f : Addr} {fd : FuncData} {pr : List Str} {n k : Nat} (Fu : Fun K xq qual st f fd) (hb : Binds K fd pr []) (h : FnOk P w K mg base (L2.CX P w) n f fd pr (spX ⟨K, ca, T.cn⟩ T xt n k)) : XnAt ⟨ca, T⟩ xt P w K mg base n k f := ⟨fd, pr, Fu.kp, hb, h⟩
theorem xn_zero {ca : Nat → Addr} {T : Tb} {P : Program} {w : World} {K : PySem.W.Frag} {mg : Str → Option Value} {base : Heap} {f : Addr} {fd : FuncData} {pr : List Str} {k : Nat} (kp : PySem.W.keepIn K (.ref f) = true) (hb : Binds K fd pr []) : XnAt ⟨ca, T⟩ xt P w K mg base 0 k f := by
  have no : ∀ vs H Q E, ¬ spX ⟨K, ca, T.cn⟩ T xt 0 k vs H Q E := fun vs H Q E ⟨fn, F, ds, c, _, _, _, _, e, _⟩ => by cases e
  exact ⟨fd, pr, kp, hb, fun vs H Q E h => absurd h (no vs H Q E), fun A outer s H args us vs Q E _ _ _ _ h => absurd h (no vs H Q E)⟩
end
end Nt

set_option Elab.async false
set_option linter.all false
set_option maxRecDepth 100000
set_option maxHeartbeats 4000000
/-! A lambda's call that is refused; of which classes a refusal is. -/
namespace Nt
open PySem PySem.Spec PyProof.Rows L2 LamX

/-- a lambda's body: a def's call, or a local's that holds a def -/
inductive Lm where
  | c (k : Nat) (es : Es) | v (i : Nat) (ks : List Nat) (es : Es)
def Lm.es : Lm → Es
  | .c _ es => es
  | .v _ _ es => es
def lmX (T : Tb) (cl : Nat → List D → Option D) (cx : Nat → List D → Option Nat) : Lm → Env → Option Nat
  | .c k es, env => (evs T cl es env).bind fun ds => cx k ds
  | .v i ks es, env => match gt env i with
    | some (.fn k) => if k ∈ ks then (evs T cl es env).bind fun ds => cx k ds else none
    | _ => none
section
variable (W : Wd) (xt : Nat → Option Xs) (M : Sm) (EX : XK)
def tLX (l : Lm) : TE := fun σ H _ => ∃ F env c, Same F H ∧ EnvS M F H env σ ∧ EnvF M F (als l.es) env σ ∧ lmX W.T (run W.T W.n) (runX W.T xt W.n) l env = some c ∧ ∀ F' H', Ext F H F' H' → EX (.ref (W.ca (200 + c))) none H'
end
section
variable {W : Wd} {xt : Nat → Option Xs} {X : Cx} {EX : XK} {e : Expr} {es : List Expr} {ps : Es} {pos : Pos}
theorem lx_core {k : Nat} {fd : FuncData} {pr : List Str} {F : Hp} {env : Env} {c : Nat} {H : Hp} {σ : L2.St} {Q : VK} (s : Same F H) (hs : EnvS (sm X W) F H env σ) (hf : EnvF (sm X W) F (als ps) env σ)
    (ev : (evs W.T (run W.T W.n) ps env).bind (fun ds => runX W.T xt W.n k ds) = some c) (k' : ∀ F' H', Ext F H F' H' → EX (.ref (W.ca (200 + c))) none H') : tCall (spX ⟨X.K, W.ca, W.T.cn⟩ W.T xt W.n k) [] EX (tAs (sm X.nox W) W ps) σ H Q := by
  obtain ⟨ds, e1, e2⟩ := Option.bind_eq_some_iff.mp ev
  refine ⟨F, env, ds, s, hs, hf, e1, fun vs F1 H1 x1 rv => ?_⟩
  obtain ⟨fn, hfn, hl⟩ := runX_some e2
  exact ⟨fn, F1, ds, c, hfn, hl, x1.s, by rw [List.append_nil]; exact rv, e2, fun F' H' x2 => k' F' H' (x1.trans x2)⟩
theorem lx_c {xn : Str} {pp : Pos} {k : Nat} {f : Addr} (g : Gd W X.nox) (Fn : XnX W xt X k f) (tk : L2.Takes X (fun cls d _ H => EX cls d H)) (hm : X.mg xn = some (.ref f)) (ha : DA W X.nox (e :: es) ps) (hg : Gl X xn := by rfl) (hdb : (xn == ("__debug__" : Str)) = false := by decide)
    (he : starEach (e :: es) X.env = (false, eval e X.env) :: starEach es X.env := by rfl) (hpl : (backTo pos (starEach es X.env)).any (·.1) = false := by rfl) : PE X (.Call (.Name xn pp) (e :: es) [] pos) (tLX W xt (sm X W) EX (.c k ps)) := by
  obtain ⟨fd, pr, kp, hb, ok⟩ := Fn.ex
  refine PE.imp (pe_call ok g.room hg hm kp hb .nil (E := EX) (L2.passes_call tk fun _ _ _ _ h => h) (PA.nox ha) hdb he hpl) fun σ H Q ⟨F, env, c, s, hs, hf, ev, k'⟩ => ?_
  exact lx_core (fd := fd) (pr := pr) s hs hf ev k'
theorem lx_v {xn : Str} {pp : Pos} {i : Nat} {ks : List Nat} (g : Gd W X.nox) (Fn : ∀ k ∈ ks, XnX W xt X k (W.ca (100 + k))) (tk : L2.Takes X (fun cls d _ H => EX cls d H)) (hN : X.N[i]? = some xn) (hv : Vis X.env.scope xn) (ha : DA W X.nox (e :: es) ps) (hd : (xn == ("__debug__" : Str)) = false := by decide) (hcd : (xn == ("__classdict__" : Str)) = false := by decide)
    (he : starEach (e :: es) X.env = (false, eval e X.env) :: starEach es X.env := by rfl) (hpl : (backTo pos (starEach es X.env)).any (·.1) = false := by rfl) : PE X (.Call (.Name xn pp) (e :: es) [] pos) (tLX W xt (sm X W) EX (.v i ks ps)) := by
  refine ⟨fun pins s σ H Q I h => ?_⟩
  obtain ⟨F, env, c, sm1, hs, hf, ev, k'⟩ := h
  replace ev : (match gt env i with | some (.fn k) => if k ∈ ks then (evs W.T (run W.T W.n) ps env).bind fun ds => runX W.T xt W.n k ds else none | _ => none) = some c := ev
  split at ev
  · rename_i k hk
    split at ev
    · rename_i mk
      obtain ⟨fd, pr, kp, hb, ok⟩ := (Fn k mk).ex
      obtain ⟨v, hv1, hv2⟩ := hs.2 i _ hk
      have hv2 : v = .ref (W.ca (100 + k)) := hv2
      subst hv2
      refine wpAny_Call_Name_kw (thn ((pe_var (pos := pp) hN hv hd hcd).run pins s σ H (fun v H1 => v = .ref (W.ca (100 + k)) ∧ H1 = H) I ⟨_, hv1, rfl, rfl⟩) fun u s1 ⟨v, H1, I1, r1, q1⟩ => ?_)
      obtain ⟨rfl, rfl⟩ := q1
      cases r1
      have core := lx_core (X := X) (W := W) (xt := xt) (EX := EX) (k := k) (fd := fd) (pr := pr) (Q := Q) sm1 hs hf ev k'
      refine PySem.W.callWith_K (h₀ := X.base) I1.ok.mod.kin kp (thn ((PA.nox ha).run pos pins s1 σ _ _ I1 core) fun us s2 ⟨vs, H2, I2, r, q⟩ => ⟨I2.kIn, ?_⟩) he hpl
      exact run_fn ok g.room hb .nil (L2.passes_call tk fun _ _ _ _ h => h) I2 r q
    · cases ev
  · cases ev

/-! ### of which classes -/
def kdsB (c : Nat) : List Bool := ((List.range 8).map fun i => decide (i = c)) ++ [true]
/-- what the classes of refusals say -/
structure KX (K : PySem.W.Frag) (ca : Nat → Addr) : Prop where
  ex : ∀ c, c < 8 → ExcC K (ca (200 + c))
  kt : ∀ c, c < 8 → ∀ j, j < 8 → PySem.W.kitOne K (.ref (ca (200 + c))) (.ref (ca (200 + j))) = some (decide (j = c))
  kv : ∀ c, c < 8 → PySem.W.kitOne K (.ref (ca (200 + c))) (.type "ValueError") = some true
  em : ∀ c, c < 8 → PySem.W.exmOne K (.ref (ca (200 + c))) (.ref (ca 208)) = some true
def tIs (i : Nat) (a : Addr) (b : Bool) : TE := fun σ H Q => σ[i]? = some (some (.ref a)) ∧ Q (.bl b) H
def tBl (i : Nat) (a : Addr) (bs : List Bool) : TE := fun σ H Q => σ[i]? = some (some (.ref a)) ∧ ∀ p, H p = none → Q (.ref p) (upd H p (.lst (bs.map V.bl)))
theorem is_one {a Dc : Addr} {oe : Obj} {pn : List (Addr × Obj)} {i : Nat} {n nm : Str} {cv : V} {u : Value} {b : Bool} {p1 p2 p3 p4 : Pos} (C : ExcC X.K Dc) (hz : L2.Zc (.ref Dc) none oe) (hf : ∃ vs, oe.data = .fields vs)
    (hc : PE (X.suite a ((a, oe) :: pn)) (.Name nm p3) (tC cv)) (hcv : ∀ w, RelV cv w → w = u) (hk : PySem.W.kitOne X.K (.ref Dc) u = some b) (hN : X.N[i]? = some n := by rfl) (hv : Vis X.env.scope n := by exact Or.inl rfl) (hd : (n == ("__debug__" : Str)) = false := by decide) (hcd : (n == ("__classdict__" : Str)) = false := by decide)
    (hg : Gl X "isinstance" := by rfl) (hm : X.mg "isinstance" = none) : PE (X.suite a ((a, oe) :: pn)) (.Call (.Name "isinstance" p1) [.Name n p2, .Name nm p3] [] p4) (tIs i a b) :=
  PE.imp (pe_callB (X := X.suite a ((a, oe) :: pn)) (call_isE C hz hf) hg hm PyProof.Rows.boot_isinstance (pa_cons (pe_var (X := X.suite a ((a, oe) :: pn)) (i := i) hN hv hd hcd) (pa_cons hc pa_nil)) (by decide) (by decide) rfl rfl) fun σ H Q ⟨hs, hq⟩ =>
    ⟨.ref a, hs, cv, u, b, rfl, hcv, hk, hq⟩
theorem bl_three {i : Nat} {a : Addr} {b1 b2 b3 : Bool} {e1 e2 e3 : Expr} (h1 : PE X e1 (tIs i a b1)) (h2 : PE X e2 (tIs i a b2)) (h3 : PE X e3 (tIs i a b3)) (s1 : starEach [e1, e2, e3] X.env = (false, eval e1 X.env) :: starEach [e2, e3] X.env := by rfl)
    (s2 : starEach [e2, e3] X.env = (false, eval e2 X.env) :: starEach [e3] X.env := by rfl) (s3 : starEach [e3] X.env = [(false, eval e3 X.env)] := by rfl) : PE X (.List [e1, e2, e3] pos) (tBl i a [b1, b2, b3]) :=
  PE.imp (pe_lst (pa_cons h1 (pa_cons h2 (pa_cons h3 pa_nil s3) s2) s1)) fun σ H Q ⟨hs, hq⟩ => ⟨hs, hs, hs, by show 3 ≤ sizeLine; rw [sizeLine_eq]; decide, hq⟩
/-- the suite: nine answers -/
def tSu (i j : Nat) (a : Addr) (bs : List Bool) : TS := fun D σ H => σ[i]? = some (some (.ref a)) ∧ j < σ.length ∧ ∀ p H', Same H H' → H p = none → H' p = some (.lst (bs.map V.bl)) → D.nx (σ.set j (some (.ref p))) H'
theorem add_step {i j : Nat} {a p : Addr} {bs cs : List Bool} {D : Ends} {σ : L2.St} {H : Hp} (hs : σ[i]? = some (some (.ref a))) (hj : σ[j]? = some (some (.ref p))) (hp : H p = some (.lst (bs.map V.bl))) (hl : bs.length + cs.length ≤ 100)
    (k : ∀ t H', Same H H' → H t = none → H' t = some (.lst ((bs ++ cs).map V.bl)) → D.nx (σ.set j (some (.ref t))) H') : tAsg (tOp (rAdd3 X.K) (tVar j) (tBl i a cs)) (gName j) D σ H := by
  refine ⟨_, hj, hs, fun p2 hp2 => ?_⟩
  have n12 : p ≠ p2 := fun z => by rw [← z, hp] at hp2; cases hp2
  have e1 : (upd H p2 (.lst (cs.map V.bl))) p = some (.lst (bs.map V.bl)) := by rw [upd_ne n12]; exact hp
  show rAdd3 X.K (.ref p) (.ref p2) _ _
  refine .inr (.inr ⟨p, p2, _, _, rfl, rfl, e1, upd_same, ?_, fun t ht => ?_⟩)
  · rw [List.length_map, List.length_map, sizeLine_eq]; omega
  · have nt : t ≠ p2 := fun z => by rw [z, upd_same] at ht; cases ht
    have ht' : H t = none := by rw [upd_ne nt] at ht; exact ht
    refine k t _ ((same_new hp2).trans (same_new ht)) ht' ?_
    rw [upd_same, List.map_append]
theorem kd_suite {i j : Nat} {a : Addr} {bs cs ds : List Bool} {st1 st2 st3 : Stmt} (hij : i ≠ j) (h1 : PS X st1 (tAsg (tBl i a bs) (gName j))) (h2 : PS X st2 (tAsg (tOp (rAdd3 X.K) (tVar j) (tBl i a cs)) (gName j))) (h3 : PS X st3 (tAsg (tOp (rAdd3 X.K) (tVar j) (tBl i a ds)) (gName j)))
    (hl : bs.length + cs.length + ds.length ≤ 100) : PSs X [st1, st2, st3] (tSu i j a (bs ++ cs ++ ds)) := by
  refine PSs.imp (pss_cons h1 (pss_cons h2 (pss_one h3))) fun D σ H ⟨hs, hj, k⟩ => ?_
  have g1 : ∀ (σ : L2.St) (v : V), j < σ.length → (σ.set j (some v))[j]? = some (some v) := fun σ v h => List.getElem?_set_self h
  have g2 : ∀ (σ : L2.St) (v : V), σ[i]? = some (some (.ref a)) → (σ.set j (some v))[i]? = some (some (.ref a)) := fun σ v h => by rw [List.getElem?_set_ne (Ne.symm hij)]; exact h
  refine ⟨hs, fun p hp => ?_⟩
  show tAsg (tOp (rAdd3 X.K) (tVar j) (tBl i a cs)) (gName j) { D with nx := tAsg (tOp (rAdd3 X.K) (tVar j) (tBl i a ds)) (gName j) D } (σ.set j (some (.ref p))) (upd H p (.lst (bs.map V.bl)))
  refine add_step (g2 _ _ hs) (g1 _ _ hj) upd_same (by omega) fun t H2 s2 ht e2 => ?_
  have ht' : H t = none := by
    have n : t ≠ p := fun z => by rw [z, upd_same] at ht; cases ht
    rw [upd_ne n] at ht
    exact ht
  show tAsg (tOp (rAdd3 X.K) (tVar j) (tBl i a ds)) (gName j) D ((σ.set j (some (.ref p))).set j (some (.ref t))) H2
  refine add_step (g2 _ _ (g2 _ _ hs)) (g1 _ _ (by rw [List.length_set]; exact hj)) e2 (by rw [List.length_append]; omega) fun t3 H3 s3 ht3 e3 => ?_
  rw [List.set_set, List.set_set]
  have s1 : Same H (upd H p (.lst (bs.map V.bl))) := same_new hp
  exact k t3 H3 ((s1.trans s2).trans s3) ((s1.trans s2).free ht3) e3

/-- what a def makes of a lambda that is refused: the classes' answers, in a new list -/
def TTk (ca : Nat → Addr) : (XK → Hp → VK → Prop) → Hp → VK → Prop := fun tl H Q => ∀ p0, H p0 = none → ∀ Q', tl (fun cls d H' => ∃ c, c < 8 ∧ cls = .ref (ca (200 + c)) ∧ d = none ∧ ∀ p H'', Same H' H'' → H' p = none → H'' p = some (.lst ((kdsB c).map V.bl)) → Q (.ref p) H'') (upd H p0 (.lst [])) Q'
theorem takes_len {W : WX} (tk : L2.Takes X W) : L2.Takes X (fun cls d σ H => σ.length = X.N.length → W cls d σ H) := fun u s' ⟨a, B, sI, pins, σ, H, cls, d, e, I, nb, up, sky, na, os, ag, w⟩ =>
  tk u s' ⟨a, B, sI, pins, σ, H, cls, d, e, I, nb, up, sky, na, os, ag, w I.len⟩
section
variable {Ng : List Str} {x : Str} {sg : Scope} {g : Addr} {cdg : Value} {ca : Nat → Addr}
abbrev kZ (X : Cx) (Ng : List Str) (x : Str) (sg : Scope) (g : Addr) (cdg : Value) (s : Shared) (H : Hp) : Cx := (cxOf C8.CX0 X.prog X.w X.K X.mg X.base Ng x sg g cdg X.A X.stack s H C8.E0).nox
theorem kinds_giv {q a xn en : Str} {st1 st3 b0 : Stmt} {suite : List Stmt} {p1 p2 p3 np pos' pos : Pos} (hl : 3 = Ng.length) (h1 : ∀ s H, PS (kZ X Ng x sg g cdg s H) st1 (tAsg (tLst tNil) (gName 1)))
    (hN : Ng.Nodup) (hi : Ng[2]? = some en) (hln : sg.names.lookup en = some .local) (hge : sg.names.lookup xn = some .globalImplicit) (hme : X.mg xn = some (.ref (ca 208))) (kx : KX X.K ca)
    (hsu : ∀ s H a oe c pn, c < 8 → L2.Zc (.ref (ca (200 + c))) none oe → (∃ vs, oe.data = .fields vs) → PSs ((kZ X Ng x sg g cdg s H).suite a ((a, oe) :: pn)) (b0 :: suite) (tSu 2 1 a (kdsB c)))
    (h3 : ∀ s H, PS (kZ X Ng x sg g cdg s H) st3 (tRet (tVar 1))) (hde : (xn == ("__debug__" : Str)) = false := by decide) :
    GivesTo X Ng x sg g cdg [st1, .Try [.Expr (.Call (.Name a p1) [] [] p2) p3] [.ExceptHandler (some (.Name xn np)) (some en) (b0 :: suite) pos'] [] [] pos, st3] a q (TTk ca) := by
  intro f c' s H Q tl act hc h
  have hgl : Gl (kZ X Ng x sg g cdg s H) xn := hge
  have tr := L2.ps_try_as (X := kZ X Ng x sg g cdg s H) (c := .ref (ca 208)) (i := 2) (x := xn) (n := en) (body := [.Expr (.Call (.Name a p1) [] [] p2) p3]) (b₀ := b0) (suite := suite) (np := np) (pos' := pos') (pos := pos) (Wout := fun _ _ _ _ => False)
    (tb := fun W D σ H => ∃ Ech : XK, (∀ cls d σ' H', Ech cls d H' → σ'.length = Ng.length → W cls d σ' H') ∧ σ[0]? = some (some (.ref f)) ∧ H c' = some (CodeO c' q) ∧ ∀ Q', tl Ech H Q')
    (ts := fun a cls d D σ H => ∃ c, c < 8 ∧ cls = .ref (ca (200 + c)) ∧ d = none ∧ tSu 2 1 a (kdsB c) D σ H)
    rfl rfl hN hi hln ⟨hgl, hde, .inl hme⟩ LamX.takes0 (fun W pn xe tk _ => ?_) (fun a oe cls d pn hz hf => ?_)
  · refine ⟨_, pss_cons (h1 s H) (pss_cons tr (pss_one (h3 s H))), ?_⟩
    refine ⟨Nat.zero_le _, fun p0 hp0 => ?_⟩
    have hc0 : c' ≠ p0 := fun z => by rw [← z, hc] at hp0; cases hp0
    have l0 : (L2.start Ng [V.ref f]).length = Ng.length := by
      unfold L2.start
      simp only [List.length_append, List.length_map, List.length_replicate, List.length_cons, List.length_nil]
      omega
    have h00 : ((L2.start Ng [V.ref f]).set 1 (some (.ref p0)))[0]? = some (some (.ref f)) := by
      rw [List.getElem?_set_ne (by decide)]
      rfl
    refine ⟨fun cls d H' => ∃ c, c < 8 ∧ cls = .ref (ca (200 + c)) ∧ d = none ∧ ∀ p H'', Same H' H'' → H' p = none → H'' p = some (.lst ((kdsB c).map V.bl)) → Q (.ref p) H'', ?_, h00, (by rw [upd_ne hc0]; exact hc), h p0 hp0⟩
    rintro cls d σ' H' ⟨c, hc8, e1, e2, k⟩ hlen
    refine ⟨true, by rw [e1]; exact kx.em c hc8, fun _ a ha => ⟨c, hc8, e1, e2, ?_⟩, fun z => by cases z⟩
    refine ⟨List.getElem?_set_self (by omega), by rw [List.length_set]; omega, fun p H'' s2 hp e3 => ?_⟩
    refine ⟨.ref p, ?_, k p H'' s2 hp e3⟩
    rw [List.getElem?_set_ne (by decide), List.getElem?_set_self (by rw [List.length_set]; omega)]
  · refine ⟨fun pins s' σ H' D I h' => ?_⟩
    obtain ⟨Ech, hW, h1, h2, h3⟩ := h'
    have hp := act _ pn xe Ech p1 p2 (takes_len tk) hW
    exact (pss_one (ps_expr (pos := p3) hp)).run pins s' σ H' D I ⟨h1, h2, h3 _⟩
  · refine ⟨fun pins s' σ H' D I h' => ?_⟩
    obtain ⟨c, hc8, rfl, rfl, h'⟩ := h'
    exact (hsu s H a oe c pn hc8 hz hf).run pins s' σ H' D I h'
end
end
end Nt

set_option Elab.async false
set_option linter.all false
set_option maxRecDepth 100000
set_option maxHeartbeats 4000000
/-! Defs that make lambdas: the tables of code objects grow. -/
namespace Nt
open PySem PySem.Spec PyProof.Rows L2 LamX

/-- no table is told -/
def NT (F : Hp) : Prop := ∀ b ps, F b ≠ some (.tbl ps)
/-- without the tables -/
def unT (F : Hp) : Hp := fun a => match F a with
  | some (.tbl _) => none
  | o => o
theorem unT_of {F : Hp} {a : Addr} {o : HO} (h : unT F a = some o) : F a = some o := by
  unfold unT at h
  split at h
  · cases h
  · exact h
theorem unT_NT (F : Hp) : NT (unT F) := fun b ps h => by
  have e := unT_of h
  unfold unT at h
  rw [e] at h
  cases h
theorem unT_some {F : Hp} {a : Addr} {o : HO} (h : F a = some o) (n : ∀ ps, o ≠ .tbl ps) : unT F a = some o := by
  unfold unT
  split
  · rename_i ps e
    rw [h] at e
    cases e
    exact absurd rfl (n ps)
  · exact h
theorem unT_none {F : Hp} {a : Addr} (h : F a = none) : unT F a = none := by
  cases e : unT F a with
  | none => rfl
  | some o => rw [unT_of e] at h; cases h
theorem unT_same {F : Hp} : Same (unT F) F := fun a o e => unT_of e
theorem unT_ext {F : Hp} : ExtN F (unT F) := fun a o h n => unT_some h n
theorem ext_same {F F' : Hp} (e : Same F F') : ExtN F F' := fun b o h _ => e b o h
/-- kept, from where no table is -/
theorem nt_same {F H H' : Hp} (n : NT F) (s : Same F H) (e : ExtN H H') : Same F H' := fun b o h => e b o (s b o h) fun ps z => n b ps (by rw [h, z])

section
variable {M : Sm} {F F' H H' : Hp}
theorem rd_n (e : ExtN F F') {a : Addr} {u : HO} (h : Rd F a u) (n : ∀ ps, u ≠ .tbl ps) : Rd F' a u := by
  rcases h with h | ⟨o, h⟩
  · exact .inl (e _ _ h n)
  · exact .inr ⟨o, e _ _ h fun ps z => by cases z⟩
mutual
theorem rv_n (e : ExtN F F') : ∀ {d : D} {v : V}, RV M F d v → RV M F' d v
  | .non, _, h => h
  | .bl _, _, h => h
  | .int _, _, h => h
  | .str _, _, h => h
  | .tup ds, _, ⟨a, vs, e1, h1, h2⟩ => ⟨a, vs, e1, h1.elim (fun z => .inl (rd_n e z fun ps y => by cases y)) .inr, rvs_n e h2⟩
  | .lst ds, _, ⟨a, vs, e1, h1, h2⟩ => ⟨a, vs, e1, e _ _ h1 (fun ps y => by cases y), rvs_n e h2⟩
  | .frl ns, _, ⟨a, e1, h⟩ => ⟨a, e1, h.elim (fun z => .inl (rd_n e z fun ps y => by cases y)) .inr⟩
  | .ins c ds, _, ⟨a, dx, fs, e1, h1, h2, h3⟩ => ⟨a, dx, fs, e1, e _ _ h1 (fun ps y => by cases y), h2, rvs_n e h3⟩
  | .fn _, _, h => h
  | .emp, _, ⟨a, e1, h1⟩ => ⟨a, e1, e _ _ h1 fun ps y => by cases y⟩
  | .lam _, _, ⟨f, c, e1, h1, h2⟩ => ⟨f, c, e1, e _ _ h1 (fun ps y => by unfold LmO at y; cases y), e _ _ h2 LamX.codeO_ne⟩
theorem rvs_n (e : ExtN F F') : ∀ {ds : List D} {vs : List V}, RVs M F ds vs → RVs M F' ds vs
  | [], _, h => h
  | d :: ds, _, ⟨v, r, e1, h1, h2⟩ => ⟨v, r, e1, rv_n e h1, rvs_n e h2⟩
end
theorem ro_n (e : ExtN F F') {p : Addr} {d : D} {v : V} (h : RO M F H p d v) : RO M F' H p d v := by
  unfold RO at h
  split at h
  · obtain ⟨e1, vs, q, r⟩ := h
    exact ⟨e1, vs, q, rvs_n e r⟩
  · obtain ⟨a, dx, f, e1, q, n, vs, z, r⟩ := h
    exact ⟨a, dx, f, e1, e _ _ q (fun ps y => by cases y), n, vs, z, rvs_n e r⟩
  · rename_i h1 h2
    exact RO.of (rv_n e h) (fun ds e => h1 ds e) (fun c ds e => h2 c ds e)
end

open Classical in
/-- the heap at hand but for the own lists -/
noncomputable def mnO (O : Nat → Option Addr) (own : List Nat) (H : Hp) : Hp := fun a => if ∃ i ∈ own, O i = some a then none else H a
theorem mnO_same {O : Nat → Option Addr} {own : List Nat} {H : Hp} : Same (mnO O own H) H := fun a o e => by
  unfold mnO at e
  split at e
  · cases e
  · exact e
theorem mnO_nil {O : Nat → Option Addr} {H : Hp} : mnO O [] H = H := funext fun a => if_neg fun ⟨i, m, _⟩ => by cases m
/-- the state of a def that makes lambdas: tbs, the tables it may write -/
structure ST (M : Sm) (tbs : List (Addr × Str)) (B F0 H0 : Hp) (O : Nat → Option Addr) (F : Hp) (own : List Nat) (env : Env) (σ : L2.St) (H : Hp) : Prop where
  j : SJ M B F0 H0 O F own env σ H
  tb : Tabs tbs (mnO O own H)
  nF : NT F
  nH : NT H0
section
variable {M : Sm} {tbs : List (Addr × Str)} {B F0 H0 F H : Hp} {O : Nat → Option Addr} {own own1 : List Nat} {env : Env} {σ : L2.St}
theorem tabs_s {H H' : Hp} (t : Tabs tbs H) (e : Same H H') : Tabs tbs H' := t.ext e
theorem sj_un (j : SJ M B F0 H0 O F own env σ H) (hB : NT B) (h0 : NT F0) : SJ M B F0 H0 O (unT F) own env σ H where
  b := fun a o e => unT_some (j.b a o e) fun ps z => hB a ps (by rw [e, z])
  x := ⟨fun a o e => unT_some (j.x.f a o e) fun ps z => h0 a ps (by rw [e, z]), j.x.h, fun a o e => j.x.s a o (unT_of e), fun a o e => j.x.n a o (unT_of e)⟩
  ad := fun i m p e => ⟨unT_none (j.ad i m p e).1, (j.ad i m p e).2⟩
  inj := j.inj
  len := j.len
  non := fun i d e m => let ⟨v, a, b⟩ := j.non i d e m; ⟨v, a, rv_n unT_ext b⟩
  own := fun i d e m => by
    obtain ⟨v, a, b⟩ := j.own i d e m
    refine ⟨v, a, ?_⟩
    split at b
    · exact ro_n unT_ext b
    · exact ⟨b.1, rv_n unT_ext b.2⟩
theorem ST.nB (s : ST M tbs B F0 H0 O F own env σ H) : NT B := fun b ps e => s.nF b ps (s.j.b _ _ e)
theorem ST.n0 (s : ST M tbs B F0 H0 O F own env σ H) : NT F0 := fun b ps e => s.nF b ps (s.j.x.f _ _ e)
theorem ST.tabs (s : ST M tbs B F0 H0 O F own env σ H) : Tabs tbs H := tabs_s s.tb mnO_same
/-- an ordinary statement's view of the state, and back -/
theorem ST.view (s : ST M tbs B F0 H0 O F own env σ H) : ∃ H1, SJ M F F H1 O F own env σ H ∧ (∀ own1 O' F' env' σ' H', SJ M F F H1 O' F' own1 env' σ' H' → ST M tbs B F0 H0 O' (unT F') own1 env' σ' H') ∧
    ∀ F' H', Ext F H1 F' H' → Ext F0 H0 (unT F') H' ∧ Tabs tbs H' := by
  have hin : ∀ {a}, (∃ i ∈ own, O i = some a) → H0 a = none := fun ⟨i, m, e⟩ => (s.j.ad i m _ e).2.1
  have h0 : Same H0 (mnO O own H) := fun a o e => by
    unfold mnO
    rw [if_neg fun z => by rw [hin z] at e; cases e]
    exact s.j.x.h _ _ e
  have ext : ∀ {F' H'}, Ext F (mnO O own H) F' H' → Ext F0 H0 (unT F') H' := fun {F' H'} x =>
    ⟨fun a o e => unT_some (x.f _ _ (s.j.x.f _ _ e)) fun ps z => s.n0 a ps (by rw [e, z]), h0.trans x.h, fun a o e => x.s _ _ (unT_of e), fun a o e => by
      rcases x.n a o (unT_of e) with z | z
      · exact s.j.x.n a o z
      · exact .inr (h0.free z)⟩
  refine ⟨mnO O own H, ⟨Same.refl _, ⟨Same.refl _, mnO_same, s.j.x.s, fun a o e => .inl e⟩, fun i m p e => ⟨(s.j.ad i m p e).1, if_pos ⟨i, m, e⟩, (s.j.ad i m p e).2.2⟩, s.j.inj, s.j.len, s.j.non, s.j.own⟩, fun own1 O' F' env' σ' H' k => ?_, fun F' H' x => ⟨ext x, tabs_s s.tb x.h⟩⟩
  refine ⟨⟨fun a o e => unT_some (k.b _ _ (s.j.b _ _ e)) fun ps z => s.nB a ps (by rw [e, z]), ext k.x, fun i m p e => ⟨unT_none (k.ad i m p e).1, h0.free (k.ad i m p e).2.1, (k.ad i m p e).2.2⟩, k.inj, k.len, fun i d e m => ?_, fun i d e m => ?_⟩, ?_, unT_NT _, s.nH⟩
  · obtain ⟨v, a, b⟩ := k.non i d e m
    exact ⟨v, a, rv_n unT_ext b⟩
  · obtain ⟨v, a, b⟩ := k.own i d e m
    refine ⟨v, a, ?_⟩
    split at b
    · exact ro_n unT_ext b
    · exact ⟨b.1, rv_n unT_ext b.2⟩
  · refine tabs_s s.tb fun a o e => ?_
    unfold mnO
    rw [if_neg fun ⟨i, m, z⟩ => by rw [(k.ad i m a z).2.1] at e; cases e]
    exact k.x.h _ _ e
/-- where nothing is own: a step that may write the tables -/
theorem ST.step {H' : Hp} (s : ST M tbs B F0 H0 O F [] env σ H) (e : ExtN H H') (t : Tabs tbs H') : ST M tbs B F0 H0 O F [] env σ H' := by
  have sF : Same F H' := nt_same s.nF s.j.x.s e
  refine ⟨⟨s.j.b, ⟨s.j.x.f, nt_same s.nH s.j.x.h e, sF, s.j.x.n⟩, fun i m => (by cases m), fun i m => (by cases m), s.j.len, s.j.non, fun i d _ m => (by cases m)⟩, by rw [mnO_nil]; exact t, s.nF, s.nH⟩
/-- nothing is own any more -/
theorem ST.free (s : ST M tbs B F0 H0 O F own env σ H) : ∃ F1, ST M tbs B F0 H0 O F1 [] env σ H := by
  obtain ⟨F1, _, j⟩ := s.j.free (own' := []) fun i m => by cases m
  exact ⟨unT F1, sj_un j s.nB s.n0, by rw [mnO_nil]; exact s.tabs, unT_NT _, s.nH⟩
theorem ST.all (s : ST M tbs B F0 H0 O F [] env σ H) : ∀ i d, gt env i = some d → ∃ v, σ[i]? = some (some v) ∧ RV M F d v := fun i d e => s.j.non i d e fun m => by cases m
end

/-! ### bodies -/
/-- mi: made_into of the list of slot i's instance, by the rows of slot j, asked by l; the test g is false ahead. lifE: a def called, and a test that is false behind it -/
inductive Ls where
  | nil | mi (g : Option E) (i j : Nat) (l : E) (r : Ls) | lifE (k : Nat) (es : Es) (p : E) (r : Ls) | st (s : S) (r : Ls) | kif (l : Lm) (kd c : Nat) (r : Ls) | kret (l : Lm) (kd c : Nat) | lif (cs : List (Nat × Es)) (r : Ls) | lp (t : Tg) (p : E) (b r : Ls)
section
variable (T : Tb) (m : Nat) (xt : Nat → Option Xs) (cL : Nat → List D → Prop)
/-- the lambda is refused, with class c; the other side's def says the same -/
def okK (l : Lm) (kd c : Nat) (env : Env) : Prop := lmX { T with lv := m } (run T m) (runX T xt m) l env = some c ∧ c < 8 ∧ run T (m + 2) kd [.int (c : Int)] = some (.lst ((kdsB c).map .bl))
/-- what made_into's rows say -/
structure okMi (g : Option E) (i j : Nat) (l : E) (env : Env) : Prop where
  g : ∀ p, g = some p → ev { T with lv := m + 2 } (run T (m + 2)) p env = some (.bl false)
  ex : ∃ (c : Nat) (xs : List D) (dl : List (List D × Bool)), gt env i = some (.ins c [.lst xs]) ∧ gt env j = some (.lst (dl.map fun z => .tup [.lst z.1, .bl z.2])) ∧ T.cn c = [("points" : Str)] ∧ xs.length ≤ LIM ∧ (∀ z ∈ dl, z.1.length ≤ LIM) ∧
    (∀ z ∈ dl, ev { T with lv := m } (run T m) l (env.set i (some (.ins c [.lst z.1]))) = some (.bl z.2)) ∧ ev { T with lv := m } (run T m) l env = some (.bl true)
mutual
inductive XL : Ls → Env → Fl → Prop
  | mi {g : Option E} {i j : Nat} {l : E} {r : Ls} {env : Env} {fl : Fl} : okMi T m g i j l env → XL r env fl → XL (.mi g i j l r) env fl
  | lifE {k : Nat} {es : Es} {p : E} {r : Ls} {env : Env} {fl : Fl} {ds : List D} : evs { T with lv := m + 2 } (run T (m + 2)) es env = some ds → cL k ds → ev { T with lv := m + 2 } (run T (m + 2)) p env = some (.bl false) → XL r env fl → XL (.lifE k es p r) env fl
  | nil {env : Env} : XL .nil env (.nx env)
  | st1 {s : S} {r : Ls} {env e : Env} {fl : Fl} : ex { T with lv := m + 2 } (run T (m + 2)) s env = some (.nx e) → XL r e fl → XL (.st s r) env fl
  | st2 {s : S} {r : Ls} {env : Env} {b : Bool} : ex { T with lv := m + 2 } (run T (m + 2)) s env = some (.rt (.bl b)) → XL (.st s r) env (.rt (.bl b))
  | kif {l : Lm} {kd c : Nat} {r : Ls} {env : Env} {fl : Fl} : okK T m xt l kd c env → XL r env fl → XL (.kif l kd c r) env fl
  | kret {l : Lm} {kd c : Nat} {env : Env} : okK T m xt l kd c env → XL (.kret l kd c) env (.rt (.bl true))
  | lif {cs : List (Nat × Es)} {r : Ls} {env : Env} {fl : Fl} : (∀ z ∈ cs, ∃ ds, evs { T with lv := m + 2 } (run T (m + 2)) z.2 env = some ds ∧ cL z.1 ds) → XL r env fl → XL (.lif cs r) env fl
  | lp {t : Tg} {p : E} {b r : Ls} {env e2 : Env} {d : D} {ds : List D} {fl : Fl} : ev { T with lv := m + 2 } (run T (m + 2)) p env = some d → seqD d = some ds → XF t b ds env e2 → XL r e2 fl → XL (.lp t p b r) env fl
inductive XF : Tg → Ls → List D → Env → Env → Prop
  | nil {t : Tg} {b : Ls} {env : Env} : XF t b [] env env
  | cons {t : Tg} {b : Ls} {d : D} {ds : List D} {env e1 e2 e3 : Env} : bindD t d env = some e1 → XL b e1 (.nx e2) → XF t b ds e2 e3 → XF t b (d :: ds) env e3
end
end
/-- the def's call ends with True -/
def RunL (T : Tb) (xt : Nat → Option Xs) (xl : Nat → Option Ls) : Nat → Nat → List D → Prop
  | m + 3, k, ds => ∃ f l, T.fns[k]? = some f ∧ xl k = some l ∧ ds.length = f.np ∧ XL T m xt (RunL T xt xl (m + 2)) l (ds.map some ++ List.replicate (f.ns - f.np) none) (.rt (.bl true))
  | _, _, _ => False
def spL (M : Sm) (T : Tb) (xt : Nat → Option Xs) (xl : Nat → Option Ls) (tbs : List (Addr × Str)) (n k : Nat) : Sp := fun vs H Q _ => ∃ fn F ds, T.fns[k]? = some fn ∧ ds.length = fn.np ∧ NT F ∧ Same F H ∧ RVs M F ds vs ∧ Tabs tbs H ∧ RunL T xt xl n k ds ∧ ∀ F' H', Ext F (unT H) F' H' → Tabs tbs H' → Q (.bl true) H'
structure LnAt (ca : Nat → Addr) (T : Tb) (xt : Nat → Option Xs) (xl : Nat → Option Ls) (tbs : List (Addr × Str)) (P : Program) (w : World) (K : PySem.W.Frag) (mg : Str → Option Value) (base : Heap) (n k : Nat) (f : Addr) : Prop where
  ex : ∃ fd ps, PySem.W.keepIn K (.ref f) = true ∧ Binds K fd ps [] ∧ FnOk P w K mg base CX0 n f fd ps (spL ⟨K, ca, T.cn⟩ T xt xl tbs n k)
def FinL (M : Sm) (tbs : List (Addr × Str)) (B F0 H0 : Hp) (Dn : Ends) : Fl → Prop
  | .nx env' => ∀ O' F' σ' H', ST M tbs B F0 H0 O' F' [] env' σ' H' → Dn.nx σ' H'
  | .rt d => ∀ b, d = .bl b → ∀ F' H', Ext F0 H0 F' H' → Tabs tbs H' → Dn.rt (.bl b) H'
section
variable (ca : Nat → Addr) (T : Tb) (m : Nat) (xt : Nat → Option Xs) (xl : Nat → Option Ls) (tbs : List (Addr × Str)) (X : Cx) (own : List Nat)
def tLs (l : Ls) : TS := fun Dn σ H => ∃ B F0 H0 O F env fl, ST ⟨X.K, ca, T.cn⟩ tbs B F0 H0 O F own env σ H ∧ XL T m xt (RunL T xt xl (m + 2)) l env fl ∧ FinL ⟨X.K, ca, T.cn⟩ tbs B F0 H0 Dn fl
abbrev LSs (body : List Stmt) (l : Ls) : Prop := PSs X body (tLs ca T m xt xl tbs X own l)
abbrev wd (n : Nat) : Wd := ⟨ca, { T with lv := n }⟩
end
theorem hlv {T : Tb} {n : Nat} : run { T with lv := n } n = run T n := by funext k ds; exact run_lv T n n k ds
theorem hlx {T : Tb} {xt : Nat → Option Xs} {n : Nat} : runX { T with lv := n } xt n = runX T xt n := by funext k ds; exact runX_lv T xt n n k ds
theorem rvs_bls {M : Sm} {F : Hp} : ∀ bs : List Bool, RVs M F (bs.map .bl) (bs.map V.bl)
  | [] => RVs.nil
  | _ :: bs => RVs.cons rfl (rvs_bls bs)
theorem kds_eq : ∀ c, c < 8 → eqD (.lst ((kdsB c).map .bl)) (.lst ((kdsB c).map .bl)) = some true := by decide +kernel
section
variable {ca : Nat → Addr} {T : Tb} {m : Nat} {xt : Nat → Option Xs} {xl : Nat → Option Ls} {tbs : List (Addr × Str)} {X : Cx} {own own1 : List Nat} {st : Stmt} {rest body : List Stmt} {l r lb : Ls} {e : Expr} {es : List Expr} {ps : Es} {p : E} {pos : Pos}
theorem ls_nil : LSs ca T m xt xl tbs X own [] .nil := PSs.imp pss_nil fun Dn σ H ⟨B, F0, H0, O, F, env, fl, s, x, fin⟩ => by
  obtain ⟨F1, s1⟩ := s.free
  cases x with
  | nil => exact fin O F1 σ H s1
theorem ls_free (h : LSs ca T m xt xl tbs X [] body l) : LSs ca T m xt xl tbs X own body l := PSs.imp h fun Dn σ H ⟨B, F0, H0, O, F, env, fl, s, x, fin⟩ => by
  obtain ⟨F1, s1⟩ := s.free
  exact ⟨B, F0, H0, O, F1, env, fl, s1, x, fin⟩
theorem ls_st {s : S} {fr : Bool} (h : DS (wd ca T (m + 2)) X fr own own1 st s) (hr : LSs ca T m xt xl tbs X own1 rest r) : LSs ca T m xt xl tbs X own (st :: rest) (.st s r) := PSs.imp (pss_cons h hr) fun Dn σ H ⟨B, F0, H0, O, F, env, fl, s0, x, fin⟩ => by
  obtain ⟨H1, j1, back, out⟩ := s0.view
  cases x with
  | @st1 _ _ _ e _ he hx =>
    exact ⟨F, F, H1, O, F, env, .nx e, j1, by show ex _ (run { T with lv := m + 2 } (m + 2)) _ _ = _; rw [hlv]; exact he, fun O' F' σ' H' j' => ⟨B, F0, H0, O', unT F', e, fl, back own1 O' F' e σ' H' j', hx, fin⟩⟩
  | @st2 _ _ _ b he =>
    refine ⟨F, F, H1, O, F, env, .rt (.bl b), j1, by show ex _ (run { T with lv := m + 2 } (m + 2)) _ _ = _; rw [hlv]; exact he, fun v F' H' x1 rr => ?_⟩
    obtain ⟨F2, x2, _, r2⟩ := rr.plain x1
    obtain ⟨y1, y2⟩ := out F2 H' x2
    have : v = .bl b := r2
    rw [this]
    exact fin b rfl (unT F2) H' y1 y2
/-! ### for -/
theorem ls_for {t : Tg} {tg iter : Expr} (g : Gd (wd ca T (m + 2)) X) (hi : DE (wd ca T (m + 2)) X iter p) (hg : PG X tg (gT X.K t)) (hb : LSs ca T m xt xl tbs X [] body lb) (hr : LSs ca T m xt xl tbs X [] rest r) (hs : ∀ x, foldedSetIterable iter X.env x = pure x := by intro _; rfl) :
    LSs ca T m xt xl tbs X [] (.For tg iter body [] pos :: rest) (.lp t p lb r) := by
  have hp : PassesOwn (model X.prog X.w) X.A X.env X.xe := by rw [g.nox]; exact PassesOwn.never
  refine PSs.imp (pss_cons (ps_for hp g.calm (pi_seq (deP hi)) hg hb hs) hr) fun Dn σ H ⟨B, F0, H0, O, F, env, fl, s0, x, fin⟩ => ?_
  cases x with
  | @lp _ _ _ _ _ e2 d ds _ he hds xf hx =>
    refine ⟨F, env, d, s0.j.x.s, s0.j.envS, fun i _ => s0.all i, by show ev _ (run { T with lv := m + 2 } (m + 2)) _ _ = _; rw [hlv]; exact he, fun v F1 H1 x rv => ?_⟩
    have s1 : ST ⟨X.K, ca, T.cn⟩ tbs B F0 H0 O (unT F1) [] env σ H1 := ⟨sj_un (s0.j.grow x) s0.nB s0.n0, by rw [mnO_nil]; exact tabs_s s0.tabs x.h, unT_NT _, s0.nH⟩
    have r1 : RV ⟨X.K, ca, T.cn⟩ (unT F1) d v := rv_n unT_ext rv
    have su : Same (unT F1) H1 := s1.j.x.s
    have main : ∀ J : It, Yld ⟨X.K, ca, T.cn⟩ (unT F1) (unT F1) J ds → ∃ I : Nat → Nat → L2.St → Hp → Prop, (∃ m, I 0 m σ H1) ∧ ∀ i m' σ' H', I i m' σ' H' →
        (J.stop i H' ∧ (tLs ca T m xt xl tbs X [] r Dn) σ' H') ∨ (J.go i H' ∧ ∃ N : L2.St → Hp → Prop, (∀ σ'' H'', N σ'' H'' → ∃ m'', m'' < m' ∧ I (i + 1) m'' σ'' H'') ∧ ∀ x H2, J.yld i H' x H2 → gT X.K t x σ' H2 fun σ3 H3 => tLs ca T m xt xl tbs X [] lb { nx := N, rt := Dn.rt, bk := tLs ca T m xt xl tbs X [] r Dn, ct := N } σ3 H3) := by
      intro J Y
      refine ⟨fun i m' σ H => m' = ds.length - i ∧ i ≤ ds.length ∧ ∃ O F env, ST ⟨X.K, ca, T.cn⟩ tbs (unT F1) F0 H0 O F [] env σ H ∧ XF T m xt (RunL T xt xl (m + 2)) t lb (ds.drop i) env e2,
        ⟨ds.length, by simp, Nat.zero_le _, O, unT F1, env, ⟨⟨Same.refl _, s1.j.x, s1.j.ad, s1.j.inj, s1.j.len, s1.j.non, s1.j.own⟩, s1.tb, s1.nF, s1.nH⟩, xf⟩, ?_⟩
      rintro i m' σ3 H3 ⟨rfl, hle, O3, F3, env3, s3, e3⟩
      by_cases hlt : i < ds.length
      · have gd : ds[i]? = some ds[i] := List.getElem?_eq_getElem hlt
        rw [List.drop_eq_getElem_cons hlt] at e3
        cases e3 with
        | @cons _ _ _ _ _ e4 e5 _ hb1 hx1 hrest =>
          obtain ⟨go, yl⟩ := Y.item i _ F3 H3 s3.j.b (s3.j.b.trans s3.j.x.s) s3.j.x.s gd
          refine .inr ⟨go, fun σ' H' => ∃ O F env, ST ⟨X.K, ca, T.cn⟩ tbs (unT F1) F0 H0 O F [] env σ' H' ∧ XF T m xt (RunL T xt xl (m + 2)) t lb (ds.drop (i + 1)) env e2, fun σ' H' hN => ⟨ds.length - (i + 1), by omega, rfl, hlt, hN⟩, fun x5 H5 y => ?_⟩
          obtain ⟨F5, xx, rx⟩ := yl x5 H5 y
          have j5 := sj_un (s3.j.grow xx) s3.nB s3.n0
          have t5 : Tabs tbs H5 := tabs_s s3.tabs xx.h
          refine j5.bind (M := ⟨X.K, ca, T.cn⟩) (fun i m => by intro z; cases z) (rv_n unT_ext rx) hb1 fun σ6 j6 => ?_
          exact ⟨unT F1, F0, H0, O3, unT F5, e4, .nx e5, ⟨j6, by rw [mnO_nil]; exact t5, unT_NT _, s3.nH⟩, hx1, fun O' F' σ' H' s' => ⟨O', F', e5, s', hrest⟩⟩
      · have e : i = ds.length := by omega
        subst e
        rw [List.drop_length] at e3
        cases e3
        refine .inl ⟨Y.stop _ F3 H3 s3.j.b (s3.j.b.trans s3.j.x.s) s3.j.x.s (Nat.le_refl _), B, F0, H0, O3, F3, _, fl, ⟨⟨s1.j.b.trans s3.j.b, s3.j.x, s3.j.ad, s3.j.inj, s3.j.len, s3.j.non, s3.j.own⟩, s3.tb, s3.nF, s3.nH⟩, hx, fin⟩
    unfold seqD at hds
    split at hds
    · cases hds
      obtain ⟨a1, vs, ea, ha, hv⟩ := r1
      exact ⟨a1, ea, .inl ⟨⟨vs, SqL.of (su _ _ ha)⟩, main _ (y_list ha hv)⟩⟩
    · cases hds
      obtain ⟨a1, vs, ea, ha, hv⟩ := r1
      exact ⟨a1, ea, .inr ⟨⟨vs, Same.sqt su ha⟩, main _ (y_tup ha hv)⟩⟩
    · cases hds
/-! ### lambdas refused -/
theorem kd_read {M : Sm} {B F0 H0 F H : Hp} {O : Nat → Option Addr} {env : Env} {σ : L2.St} {Q : VK} {c : Nat} {l : Lm} (s : ST M tbs B F0 H0 O F [] env σ H) (h : lmX { T with lv := m } (run T m) (runX T xt m) l env = some c) (c8 : c < 8)
    (k : ∀ p H', H' p = some (.lst ((kdsB c).map V.bl)) → ExtN H H' → Tabs tbs H' → Q (.ref p) H') : tLam tbs (TTk ca) (fun E => tLX (wd ca T m) xt M E l) σ H Q := by
  refine ⟨s.tabs, fun H1 eN T1 => ?_⟩
  intro p0 hp0 Q'
  have sF : Same F (upd H1 p0 (.lst [])) := (nt_same s.nF s.j.x.s eN).trans (same_new hp0)
  refine ⟨F, env, c, sF, ⟨s.j.len, fun i d e => ?_⟩, fun i _ => s.all i, ?_, fun F' H' x => ⟨c, c8, rfl, rfl, fun p H'' s2 hp e3 => k p H'' e3 (eN.trans (ext_same ((same_new hp0).trans (x.h.trans s2)))) (tabs_s T1 ((same_new hp0).trans (x.h.trans s2)))⟩⟩
  · obtain ⟨v, a, b⟩ := s.all i d e
    exact ⟨v, a, b.rs sF⟩
  · show lmX _ (run { T with lv := m } m) (runX { T with lv := m } xt m) l env = some c
    rw [hlv, hlx]
    exact h
theorem kds_ne {c : Nat} (h : c < 8) : op2 .ne (.lst ((kdsB c).map .bl)) (.lst ((kdsB c).map .bl)) = some (.bl false) := by
  have e := kds_eq c h
  show Option.map (fun b => D.bl (!b)) (eqD (.lst ((kdsB c).map .bl)) (.lst ((kdsB c).map .bl))) = _
  rw [e]
  rfl
theorem kds_eqq {c : Nat} (h : c < 8) : op2 .eq (.lst ((kdsB c).map .bl)) (.lst ((kdsB c).map .bl)) = some (.bl true) := by
  have e := kds_eq c h
  show Option.map D.bl (eqD (.lst ((kdsB c).map .bl)) (.lst ((kdsB c).map .bl))) = _
  rw [e]
  rfl
theorem ev_due {kd c : Nat} {env : Env} (h : run T (m + 2) kd [.int (c : Int)] = some (.lst ((kdsB c).map .bl))) : (wd ca T (m + 2)).ev (.call kd (.cons (.lit (.int (c : Int))) .nil)) env = some (.lst ((kdsB c).map .bl)) := by
  show ev _ (run { T with lv := m + 2 } (m + 2)) _ _ = _
  rw [hlv]
  exact h
theorem ls_kif {ec ed : Expr} {cp : Pos} {kd c : Nat} {lm : Lm} (g : Gd (wd ca T (m + 2)) X) (hk : PE X ec (tLam tbs (TTk ca) (fun E => tLX (wd ca T m) xt ⟨X.K, ca, T.cn⟩ E lm))) (hd : DE (wd ca T (m + 2)) X ed (.call kd (.cons (.lit (.int (c : Int))) .nil))) (hr : LSs ca T m xt xl tbs X [] rest r)
    (hm : behindInMarks .NotEq ed = false := by first | exact nomark _ | rfl) : LSs ca T m xt xl tbs X [] (.If (.Compare ec [.NotEq] [ed] cp) body [] pos :: rest) (.kif lm kd c r) := by
  refine PSs.imp (pss_cons (ps_if (pt_cmpR (op_neD g.room.units) hk (deB hd) hm) (pss_never (sts := body)) pss_nil) hr) fun Dn σ H ⟨B, F0, H0, O, F, env, fl, s0, x, fin⟩ => ?_
  cases x with
  | kif hok hx =>
    obtain ⟨h1, c8, h3⟩ := hok
    refine kd_read s0 h1 c8 fun p H1 e1 eN tN => ?_
    have s1 := s0.step eN tN
    refine ⟨F, env, _, s1.j.x.s, s1.j.envS, ev_due h3, fun y H2 t2 r2 => ?_⟩
    obtain ⟨u, su, hq⟩ := os_ne (M := ⟨X.K, ca, T.cn⟩) H2 (.ref p) y (.lst ((kdsB c).map .bl)) (.lst ((kdsB c).map .bl)) (.bl false) ⟨p, _, rfl, t2 _ _ e1, rvs_bls _⟩ r2 (kds_ne c8)
    obtain rfl : V.bl false = u := Option.some.inj su
    refine hq _ ⟨false, rfl, iteF ?_⟩
    exact ⟨B, F0, H0, O, F, env, fl, s1.step (ext_same t2) (tabs_s tN t2), hx, fin⟩
theorem ls_kret {ec ed : Expr} {cp : Pos} {kd c : Nat} {lm : Lm} (g : Gd (wd ca T (m + 2)) X) (hk : PE X ec (tLam tbs (TTk ca) (fun E => tLX (wd ca T m) xt ⟨X.K, ca, T.cn⟩ E lm))) (hd : DE (wd ca T (m + 2)) X ed (.call kd (.cons (.lit (.int (c : Int))) .nil)))
    (hm : behindInMarks .Eq ed = false := by first | exact nomark _ | rfl) : LSs ca T m xt xl tbs X [] (.Return (some (.Compare ec [.Eq] [ed] cp)) pos :: rest) (.kret lm kd c) := by
  refine PSs.imp (pss_cons (ps_ret (pe_cmpR (op_eqD g.room.units) hk (deB hd) hm)) (pss_never (sts := rest))) fun Dn σ H ⟨B, F0, H0, O, F, env, fl, s0, x, fin⟩ => ?_
  cases x with
  | kret hok =>
    obtain ⟨h1, c8, h3⟩ := hok
    refine kd_read s0 h1 c8 fun p H1 e1 eN tN => ?_
    have s1 := s0.step eN tN
    refine ⟨F, env, _, s1.j.x.s, s1.j.envS, ev_due h3, fun y H2 t2 r2 => ?_⟩
    obtain ⟨u, su, hq⟩ := os_eq (M := ⟨X.K, ca, T.cn⟩) H2 (.ref p) y (.lst ((kdsB c).map .bl)) (.lst ((kdsB c).map .bl)) (.bl true) ⟨p, _, rfl, t2 _ _ e1, rvs_bls _⟩ r2 (kds_eqq c8)
    obtain rfl : V.bl true = u := Option.some.inj su
    refine hq _ ?_
    have s2 := s1.step (ext_same t2) (tabs_s tN t2)
    exact fin true rfl F H2 s2.j.x s2.tabs
/-! ### defs that make lambdas, called -/
theorem runL_some {n k : Nat} {ds : List D} (h : RunL T xt xl n k ds) : ∃ fn, T.fns[k]? = some fn ∧ ds.length = fn.np := by
  match n, h with
  | m + 3, ⟨f, l, e1, _, e2, _⟩ => exact ⟨f, e1, e2⟩
section
variable (ca : Nat → Addr) (T : Tb) (m : Nat) (xt : Nat → Option Xs) (xl : Nat → Option Ls) (tbs : List (Addr × Str)) (X : Cx)
/-- each call ends with True -/
def tLT (cs : List (Nat × Es)) : TT := fun σ H Q => ∃ B F0 H0 O F env, ST ⟨X.K, ca, T.cn⟩ tbs B F0 H0 O F [] env σ H ∧ (∀ z ∈ cs, ∃ ds, evs { T with lv := m + 2 } (run T (m + 2)) z.2 env = some ds ∧ RunL T xt xl (m + 2) z.1 ds) ∧ ∀ H', ExtN H H' → Tabs tbs H' → Q false H'
end
theorem unT_step {H H1 F F' H' : Hp} (a : Same H H1) (b : Ext F (unT H1) F' H') : ExtN H H' := fun x o h n => b.h _ _ (unT_some (a _ _ h) n)
theorem lt_one {xn : Str} {pp cp : Pos} {k : Nat} {f : Addr} (g : Gd (wd ca T (m + 2)) X) (Ln : LnAt ca T xt xl tbs X.prog X.w X.K X.mg X.base (m + 2) k f) (hm : X.mg xn = some (.ref f)) (ha : DA (wd ca T (m + 2)) X (e :: es) ps) (hg : Gl X xn := by rfl) (hdb : (xn == ("__debug__" : Str)) = false := by decide)
    (he : starEach (e :: es) X.env = (false, eval e X.env) :: starEach es X.env := by rfl) (hpl : (backTo cp (starEach es X.env)).any (·.1) = false := by rfl) : PT X (.UnaryOp .Not (.Call (.Name xn pp) (e :: es) [] cp) pos) (tLT ca T m xt xl tbs X [(k, ps)]) := by
  obtain ⟨fd, pr, kp, hb, ok⟩ := Ln.ex
  refine PT.imp (pt_not (pt_val (pe_call ok g.room hg hm kp hb .nil pass0 ha hdb he hpl))) fun σ H Q ⟨B, F0, H0, O, F, env, s0, hc, k'⟩ => ?_
  obtain ⟨ds, e1, e2⟩ := hc _ (List.mem_singleton.mpr rfl)
  refine ⟨F, env, ds, s0.j.x.s, s0.j.envS, fun i _ => s0.all i, ?_, fun vs F1 H1 x rv => ?_⟩
  · show evs _ (run { T with lv := m + 2 } (m + 2)) _ _ = _
    rw [hlv]
    exact e1
  · obtain ⟨fn, hfn, hl⟩ := runL_some e2
    exact ⟨fn, unT F1, ds, hfn, hl, unT_NT _, unT_same.trans x.s, by rw [List.append_nil]; exact rvs_n unT_ext rv, tabs_s s0.tabs x.h, e2, fun F' H' x2 t2 => ⟨true, rfl, k' H' (unT_step x.h x2) t2⟩⟩
theorem lw_or1 {a : Expr} {cs : List (Nat × Es)} (h : PT X a (tLT ca T m xt xl tbs X cs)) : PW X (.BoolOp .Or [a] pos) (tLT ca T m xt xl tbs X cs) := pw_or1 h
theorem lw_or {a b : Expr} {more : List Expr} {z : Nat × Es} {cs : List (Nat × Es)} (h : PT X a (tLT ca T m xt xl tbs X [z])) (hb : PW X (.BoolOp .Or (b :: more) pos) (tLT ca T m xt xl tbs X cs)) : PW X (.BoolOp .Or (a :: b :: more) pos) (tLT ca T m xt xl tbs X (z :: cs)) :=
  PW.imp (pw_or h hb) fun σ H Q ⟨B, F0, H0, O, F, env, s0, hc, k'⟩ => by
    refine ⟨B, F0, H0, O, F, env, s0, fun y my => hc y (by rw [List.mem_singleton.mp my]; exact List.mem_cons_self ..), fun H1 eN t1 => iteF ?_⟩
    exact ⟨B, F0, H0, O, F, env, s0.step eN t1, fun y my => hc y (List.mem_cons_of_mem _ my), fun H2 e2 t2 => k' H2 (eN.trans e2) t2⟩
theorem ls_lif {c : Expr} {cs : List (Nat × Es)} (h : PT X c (tLT ca T m xt xl tbs X cs)) (hr : LSs ca T m xt xl tbs X [] rest r) : LSs ca T m xt xl tbs X [] (.If c body [] pos :: rest) (.lif cs r) := by
  refine PSs.imp (pss_cons (ps_if h (pss_never (sts := body)) pss_nil) hr) fun Dn σ H ⟨B, F0, H0, O, F, env, fl, s0, x, fin⟩ => ?_
  cases x with
  | lif hc hx =>
    refine ⟨B, F0, H0, O, F, env, s0, hc, fun H1 eN t1 => iteF ?_⟩
    exact ⟨B, F0, H0, O, F, env, fl, s0.step eN t1, hx, fin⟩
/-! ### such a def by its body; the law -/
/-- a def of the text, its code object at c -/
structure FunC (K : PySem.W.Frag) (x qual : Str) (st : Stmt) (f : Addr) (fd : FuncData) (c : Addr) : Prop where
  ex : ∃ (oc : Value) (od : Option Addr) (kV doc pm : Value) (an : Option Addr) (ct : Value) (osl : Array (Option Value)), fd = PySem.W.fnOf x qual (defArgs st) (defBody st) (defScope st) .none kV doc pm an (.ref c) ct ∧ K.lookup f = some ⟨oc, od, .func fd, osl⟩ ∧ PySem.W.codeIn K (.ref c) qual = true
  kp : PySem.W.keepIn K (.ref f) = true
theorem FunC.fn {K : PySem.W.Frag} {x qual : Str} {st : Stmt} {f c : Addr} {fd : FuncData} (F : FunC K x qual st f fd c) : Fun K x qual st f fd := by
  obtain ⟨oc, od, kV, doc, pm, an, ct, osl, e, l, h⟩ := F.ex
  exact ⟨⟨oc, od, kV, doc, pm, an, .ref c, ct, osl, e, l, h⟩, F.kp⟩
theorem fn_lX {P : Program} {w : World} {K : PySem.W.Frag} {mg : Str → Option Value} {base : Heap} {x qual : Str} {st : Stmt} {f c : Addr} {fd : FuncData} {N pr : List Str} {k : Nat} {fn : Fn} (Fu : FunC K x qual st f fd c) (S : FnScope N pr (defScope st))
    (hfn : T.fns[k]? = some fn) (hx : xl k = some l) (hnp : fn.np = pr.length) (hns : decide (fn.ns ≤ N.length ∧ fn.np ≤ fn.ns) = true)
    (hb : ∀ (A : Around) (outer : List PySem.Env) (s : Shared) (H : Hp) (E : XK), Gd (wd ca T (m + 2)) (cxOf CX0 P w K mg base N qual (defScope st) f (.ref c) A outer s H E).nox →
      LSs ca T m xt xl tbs (cxOf CX0 P w K mg base N qual (defScope st) f (.ref c) A outer s H E).nox [] (defBody st) l) : FnOk P w K mg base CX0 (m + 3) f fd pr (spL ⟨K, ca, T.cn⟩ T xt xl tbs (m + 3) k) := by
  obtain ⟨oc, od, kV, doc, pm, an, ct, osl, rfl, lk, hcd⟩ := Fu.ex
  refine fn_of lk hcd S (fun vs H Q E h => ?_) fun A outer s H vs Q E hr hsp => ?_
  · obtain ⟨fn', F, ds, e1, e2, _, _, r, _⟩ := h
    rw [hfn] at e1
    cases e1
    rw [r.len, e2, hnp]
  · obtain ⟨fn', F, ds, e1, e2, nF, sm1, r, tb, ⟨f', l', e3, e4, _, xx⟩, q⟩ := hsp
    rw [hfn] at e1 e3
    cases e1
    cases e3
    rw [hx] at e4
    cases e4
    have hns := of_decide_eq_true hns
    refine ⟨_, (hb A outer s H E ⟨rfl, hr, rfl⟩).nox, ?_⟩
    refine ⟨F, F, unT H, fun _ => none, F, ds.map some ++ List.replicate (fn.ns - fn.np) none, _, ⟨⟨Same.refl _, ⟨Same.refl _, unT_same, sm1, fun _ _ e => .inl e⟩, fun i m => (by cases m), fun i m => (by cases m), ?_, fun i d e _ => start_get r i d e, fun i d _ m => (by cases m)⟩, by rw [mnO_nil]; exact tb, nF, unT_NT _⟩, xx, fun b eb F' H' x2 t2 => ?_⟩
    · unfold L2.start
      simp only [List.length_append, List.length_map, List.length_replicate]
      have := r.len
      omega
    · cases eb
      exact q F' H' x2 t2
theorem lnat {P : Program} {w : World} {K : PySem.W.Frag} {mg : Str → Option Value} {base : Heap} {x qual : Str} {st : Stmt} {f c : Addr} {fd : FuncData} {pr : List Str} {n k : Nat} (Fu : FunC K x qual st f fd c) (hb : Binds K fd pr []) (h : FnOk P w K mg base CX0 n f fd pr (spL ⟨K, ca, T.cn⟩ T xt xl tbs n k)) : LnAt ca T xt xl tbs P w K mg base n k f := ⟨fd, pr, Fu.kp, hb, h⟩
theorem law_spL {M : Sm} {n k : Nat} {fn : Fn} {H : Hp} {a : Addr} {ns : List Int} {E : XK} (hcn : M.cn = T.cn) (hfn : T.fns[k]? = some fn) (hnp : fn.np = 1) (hT : ∀ t ∈ tbs, H t.1 = some (.tbl #[])) (hl : SqL M.K H a (ns.map V.int)) (hr : RunL T xt xl n k [.frl ns]) : spL M T xt xl tbs n k [.ref a] H (fun v _ => v = .bl true) E :=
  ⟨fn, unT H, [.frl ns], hfn, by rw [hnp]; rfl, unT_NT _, unT_same, RVs.cons ⟨a, rfl, hl.elim (fun z => .inl (rd_n unT_ext z fun ps y => by cases y)) .inr⟩ RVs.nil, fun t ht => TabS.nil (hT t ht), hr, fun _ _ _ _ => rfl⟩
end
/-- the end of a law row where defs at the top make lambdas -/
theorem walk_tabs {lw : PySem.W.OpenLaw} {n k : Nat} {q : Program} {loose : List Str} {XP : (Str → Option Value) → Heap → Prop} {YP : World → Heap → Prop} {d : DefRec} {K : Params → PySem.W.Frag} {CX : World → CXT} {x : Str} (h1 : lw.most = some n) (h2 : n ≤ sizeLine) (h3 : d.params.defaults = []) (h4 : Room k callerA) (h5 : ∀ (w : World) (h : Heap), YP w h → (K w.params).In h)
    (F : ∀ (w : World) (mg : Str → Option Value) (fa : Addr) (h : Heap), YP w h → (K w.params).In h → h.Ns mainGlobals mg → mg d.name = some (.ref fa) → (∀ y e c p, (recsOf q).find? (fun e => e.name == y) = some e → PySem.W.tabIn (K w.params) y = some (c, p) → PySem.W.CodeHd h c p ∧ h.get? p = some (PySem.W.tabObj #[])) → LawAtS lw w (K w.params) (CX w) k n x mg fa h)
    (h6 : ∀ (w : World) (H : Hp) (s : Shared) (e : Value) (s' : Shared), CX w [] H s (fun _ _ _ => False) e s' → False) : PySem.W.WalkO q loose XP YP lw.row.toRowW d [] (fun f vs => PySem.call f vs) := by
  refine Att.attach_callB h1 h3 fun w s0 s1 mg mb fa o pm cd doc a vs ns G Y ho hd hc hm hobj hi hl hbits hg => ?_
  have hk := h5 w _ Y
  obtain ⟨fd, cs, sp, c1, c2, c3, c4, c5, c6⟩ := F w mg fa _ Y hk G.T.g hm fun y e c p r t => PySem.W.tab_of G.T hk r t
  exact law_callTs hk G.T.g G.T.b G.T.builtins G.T.nolimit hg c1 c2 c3 G.T.bmain hobj hi (Nat.le_trans hl h2) h4 c6 c4 (fun H hH hS => c5 H a ns hl hbits hH hS) fun H e s' => h6 w H s1 e s'
end Nt

set_option Elab.async false
set_option linter.all false
set_option maxRecDepth 100000
set_option maxHeartbeats 4000000
/-! Words for the generator: lambdas, functions as values, an empty dict. -/
namespace Nt
open PySem PySem.Spec PyProof.Rows L2 LamX

theorem boot_ve : bootBuiltins "ValueError" = some (.type "ValueError") := by decide +kernel
section
variable {W : Wd} {X : Cx} {pos : Pos}
/-- {} -/
theorem de_emp : DE W X (.Dict [] [] pos) (.lit .emp) := PE.imp pe_dnewK fun σ H Q ⟨F, env, d, s, _, _, ev, q⟩ => by
  obtain rfl : D.emp = d := Option.some.inj ev
  intro p hp
  have y := Ext.new (o := .dK []) s hp
  exact q _ _ _ y (Rtop.of ⟨p, rfl, upd_same⟩ rfl)
/-- a def's name as a value -/
theorem de_fn {x : Str} {k : Nat} {f : Addr} (hm : X.mg x = some (.ref f)) (hv : f = W.ca (100 + k)) (hg : Gl X x := by rfl) (hd : (x == ("__debug__" : Str)) = false := by decide) : DE W X (.Name x pos) (.lit (.fn k)) := by
  subst hv
  exact de_glob (v := .ref (W.ca (100 + k))) hg hm rfl (fun _ => rfl) rfl hd
end
section
variable {W : Wd} {X : Cx} {fr : Bool} {own own1 : List Nat} {st : Stmt} {p q : E}
/-- x.insert(k, e) -/
theorem ds_inst {i : Nat} (h : PS X st (tDrop (tBM X.K "list" (fun x vs H Q => ∃ (l : Addr) (xs : List V) (i : Int) (y : V), x = .ref l ∧ vs = [.int i, y] ∧ H l = some (.lst xs) ∧ xs.length < sizeLine ∧ 0 ≤ i ∧ i < 2 ^ 63 ∧ Q .non (upd H l (.lst (xs.take i.toNat ++ [y] ++ xs.drop i.toNat)))) (tVar i) (tCons (tB (sm X W) W q) (tCons (tP (sm X W) W p) tNil))))) (c0 : ctn own1 i = true := by decide) (c1 : subL own1 own = true := by decide) (c2 : disL (al p) own1 = true := by decide) :
    DS W X fr own own1 st (.inst i q p) := PS.imp h fun Dn σ H ⟨B, F0, H0, O, F, env, fl, j, ev, k⟩ => by
  replace ev : ex W.T (run W.T W.n) (.inst i q p) env = some fl := ev
  unfold ex at ev
  split at ev
  · rename_i xs e1
    split at ev
    · rename_i z e3
      split at ev
      · rename_i d e2
        obtain ⟨⟨l1, l2, l3⟩, rfl⟩ := ite_some ev
        obtain ⟨F1, s1, j1⟩ := j.free (sub_of c1)
        have m := ctn_of c0
        obtain ⟨pp, vs, hO, hv, hp, hr⟩ := own_list j1 m e1
        refine ⟨_, hv, .inl ⟨rfl, _, SqL.of hp⟩, F1, env, _, j1.x.s, j1.envS, e3, fun w H3 t r3 => ?_⟩
        have j3 := j1.grow (Ext.grow j1.x.s t)
        refine ⟨F1, env, d, j3.x.s, j3.envS, j3.envF (dis_of c2), e2, fun v F2 H2 x r => ?_⟩
        have j2 := j3.grow x
        have hr2 := hr.mono x.f
        refine ⟨pp, vs, z, v, rfl, by rw [show w = .int z from r3], x.h _ _ (t _ _ hp), by rw [hr.len]; exact lim_lt l1, l2, by omega, ?_⟩
        exact k O F2 σ _ (j2.chg m hO hv ⟨rfl, _, upd_same, ((hr2.take z.toNat).append (RVs.cons r RVs.nil)).append (hr2.drop z.toNat)⟩)
      · cases ev
    · cases ev
  · cases ev
end
theorem xnat_lv {ca : Nat → Addr} {T : Tb} {xt : Nat → Option Xs} {P : Program} {w : World} {K : PySem.W.Frag} {mg : Str → Option Value} {base : Heap} {n k a : Nat} {f : Addr} (F : XnAt ⟨ca, T⟩ xt P w K mg base n k f) : XnAt ⟨ca, { T with lv := a }⟩ xt P w K mg base n k f := by
  obtain ⟨fd, ps, kp, hb, ok⟩ := F.ex
  refine ⟨fd, ps, kp, hb, ok.imp fun vs H Q E h => ?_⟩
  obtain ⟨fn, F, ds, c, e1, e2, s, r, ev, q⟩ := h
  exact ⟨fn, F, ds, c, e1, e2, s, r, by rw [← runX_lv T xt a n k ds]; exact ev, q⟩
theorem lam_kd {ca : Nat → Addr} {T : Tb} {m : Nat} {xt : Nat → Option Xs} {tbs : List (Addr × Str)} {X : Cx} {gk c P : Addr} {dk : FuncData} {Ng : List Str} {xk a : Str} {sk : Stmt} {params : Arguments} {body : Expr} {scope : Scope} {lpos p pos : Pos} {l : Lm} (g : Gd (wd ca T (m + 2)) X) (Fk : Fun X.K xk xk sk gk dk) (hb : Binds X.K dk [a] []) (hm : X.mg xk = some (.ref gk))
    (Sg : FnScope Ng [a] (defScope sk)) (hG : ∀ cdv, GivesTo X Ng xk (defScope sk) gk cdv (defBody sk) a (X.env.qual ++ "<lambda>") (TTk ca)) (TB : TabB X.base X.mg c P) (hmT : (P, X.env.qual ++ "<lambda>") ∈ tbs) (hu : ∀ p ∈ tbs, p.1 = P → p.2 = X.env.qual ++ "<lambda>")
    (hbody : ∀ (A : Around) (outer : List PySem.Env) (s : Shared) (H : Hp) (E : XK) (f c' : Addr), Gd (wd ca T m) (lamCx X A outer s H E scope f c').nox → L2.Takes (lamCx X A outer s H E scope f c') (fun cls d _ H => E cls d H) → PE (lamCx X A outer s H E scope f c') body (tLX (wd ca T m) xt ⟨X.K, ca, T.cn⟩ E l))
    (L : LamS X.env.scope scope := by exact lamS_by (by decide +kernel)) (hg : Gl X xk := by rfl) (hNg : Ng[0]? = some a := by rfl) (hva : Vis (defScope sk) a := by exact Or.inl rfl) (hcode : X.env.code = .ref c := by rfl) (hdef : defaultsOf params X.env = ([], []) := by rfl)
    (hbind : ∀ (q : Str) (cl : List (Str × Addr)) (pm cv ctv : Value), bindArgs (PySem.W.kla_fn "<lambda>" q params body scope cl pm cv ctv) ⟨[], []⟩ = pure [] := by intros; rfl) (hdb : (xk == ("__debug__" : Str)) = false := by decide) (hd : (a == ("__debug__" : Str)) = false := by decide) (hcd : (a == ("__classdict__" : Str)) = false := by decide) :
    PE X (.Call (.Name xk p) [.Lambda params body scope lpos] [] pos) (tLam tbs (TTk ca) (fun E => tLX (wd ca T m) xt ⟨X.K, ca, T.cn⟩ E l)) := by
  obtain ⟨oc, od, kV, doc, pm, an, cdv, ct, osl, rfl, lk, hcd2⟩ := Fk.ex
  exact pe_lamcall (k := m) hg hm Fk.kp lk hcd2 hb Sg hNg hva (hG cdv) TB hcode hmT hu g.room L hdef hbind (fun A outer s H E f c' hr => hbody A outer s H E f c' ⟨rfl, hr, rfl⟩ (L2.takes_of rfl rfl rfl rfl)) hdb hd hcd
theorem xn_at {ca : Nat → Addr} {T : Tb} {xt : Nat → Option Xs} {P : Program} {w : World} {K : PySem.W.Frag} {mg : Str → Option Value} {base : Heap} {n k a : Nat} {f : Addr} (h : f = ca (100 + k)) (F : XnAt ⟨ca, T⟩ xt P w K mg base n k f) : XnAt ⟨ca, { T with lv := a }⟩ xt P w K mg base n k (ca (100 + k)) := by
  rw [← h]
  exact xnat_lv F
theorem hu_of {P : Addr} {q : Str} : ∀ {tbs : List (Addr × Str)}, (tbs.map (·.1)).Nodup → (P, q) ∈ tbs → ∀ p ∈ tbs, p.1 = P → p.2 = q
  | [], _, h => by cases h
  | t :: tbs, n, h => by
    rw [List.map_cons, List.nodup_cons] at n
    intro p hp e
    rcases List.mem_cons.mp h with h | h
    · rcases List.mem_cons.mp hp with hp | hp
      · rw [hp, ← h]
      · exact absurd (List.mem_map.mpr ⟨p, hp, by rw [e, ← h]⟩) n.1
    · rcases List.mem_cons.mp hp with hp | hp
      · exact absurd (List.mem_map.mpr ⟨_, h, by rw [← e, hp]⟩) n.1
      · exact hu_of n.2 h p hp e
/-- the tables and their lambdas' names -/
theorem all1 {α : Type} {Q : α → Prop} {a : α} (h : Q a) : ∀ x ∈ [a], Q x := fun x m => by rw [List.mem_singleton.mp m]; exact h
theorem alls {α : Type} {Q : α → Prop} {a : α} {l : List α} (h : Q a) (hl : ∀ x ∈ l, Q x) : ∀ x ∈ a :: l, Q x := List.forall_mem_cons.mpr ⟨h, hl⟩
theorem tabIn_of {K : PySem.W.Frag} {x : Str} {f c P : Addr} {oc e : Value} {od dd : Option Addr} {fd : FuncData} {osl sl : Array (Option Value)} {vs : Array Value} (a : PySem.W.nsIn K mainGlobals x = some (some (.ref f))) (l : K.lookup f = some ⟨oc, od, .func fd, osl⟩) (hc : fd.code = .ref c) (lc : K.lookup c = some ⟨e, dd, .fields vs, sl⟩) (h : vs[11]? = some (.ref P)) : PySem.W.tabIn K x = some (c, P) := by
  unfold PySem.W.tabIn
  rw [a]
  simp only [l, hc, lc, h]
/-- the name of a lambda made in the def q -/
def lamQ (q : Str) : Str := (envOfC q (defScope (.Pass ⟨0, 0, 0, 0⟩)) 0 0 .none).qual ++ "<lambda>"
end Nt

set_option Elab.async false
set_option linter.all false
set_option maxRecDepth 100000
set_option maxHeartbeats 4000000
/-! A lambda of one parameter as a value: made, kept, called. -/
namespace Nt
open PySem PySem.Spec PyProof.Rows L2 LamX

theorem lmO_ne {f c : Addr} {l : LmD} (ps : Array Value) : LmO f c l ≠ .tbl ps := fun z => by
  unfold LmO at z
  cases z
theorem lmO_at {P : Program} {w : World} {H : Hp} {h : Heap} {f c : Addr} {l : LmD} (hok : HOk P w H h) (e : H f = some (LmO f c l)) : ∃ pm ctv : Value, h.get? f = some (PySem.W.kla_obj "<lambda>" l.qual l.params l.body l.scope [] pm c ctv) := by
  obtain ⟨z, _, _⟩ := hok f _ e
  exact z
section
variable {X : Cx} {pins : List (Addr × Obj)} {σ : L2.St} {H : Hp} {s : Shared}
/-- the object just pushed is known from now on -/
theorem inv_lm {l : LmD} {c : Addr} {t' : Nat} {pm ctv : Value} {h' : Heap} (I : Inv X pins σ H { s with heap := h', toks := t' }) : Inv X pins σ (upd H h'.objs.size (LmO h'.objs.size c l)) { s with heap := h'.push (PySem.W.kla_obj "<lambda>" l.qual l.params l.body l.scope [] pm c ctv), toks := t' } := by
  have e : (h'.push (PySem.W.kla_obj "<lambda>" l.qual l.params l.body l.scope [] pm c ctv)).get? h'.objs.size = some (PySem.W.kla_obj "<lambda>" l.qual l.params l.body l.scope [] pm c ctv) := Heap.get?_push_size _ rfl
  exact Inv.laid (s := { s with heap := h', toks := t' }) (t' := t') I (fun b u z => Heap.get?_push_of_some _ z) (Nat.le_refl _) ⟨⟨pm, ctv, e⟩, ⟨_, e⟩, fun h1 h2 ⟨p, t, z⟩ st => ⟨p, t, st _ z⟩⟩
/-- nothing captured -/
structure LamP (l : LmD) (N : List Str) (x : Str) : Prop where
  nofree : ∀ y ∈ l.scope.names, y.2 ≠ .free
  sc : NdefX.NScope N [x] [] l.scope
  def0 : l.params.defaults = []
  kdef : l.params.kw_defaults = []
  bind : ∀ (pm cv ctv u : Value), bindArgs (PySem.W.kla_fn "<lambda>" l.qual l.params l.body l.scope [] pm cv ctv) ⟨[u], []⟩ = pure [(x, u)]
theorem clo_nil {cells : List (Str × Addr)} : ∀ {names : List (Str × NameKind)}, (∀ y ∈ names, y.2 ≠ .free) → cloFrom cells names [] = [] := fun {names} h => by
  cases e : cloFrom cells names [] with
  | nil => rfl
  | cons p r =>
    have m : p ∈ cloFrom cells names [] := by rw [e]; exact List.mem_cons_self ..
    rcases cloFrom_mem (show (p.1, p.2) ∈ _ from m) with z | ⟨z, _⟩
    · cases z
    · exact absurd rfl (h _ z)
/-- a lambda made -/
def tMkL (tbs : List (Addr × Str)) (l : LmD) : TE := fun _ H Q => Tabs tbs H ∧ ∀ (f c : Addr) (H1 : Hp), ExtN H H1 → Tabs tbs H1 → H f = none → H1 f = some (LmO f c l) → H1 c = some (CodeO c l.qual) → Q (.ref f) H1
theorem pe_mkl {tbs : List (Addr × Str)} {l : LmD} {N : List Str} {x : Str} {c P : Addr} {pos : Pos} (L : LamP l N x) (TB : TabB X.base X.mg c P) (hcode : X.env.code = .ref c) (hq : l.qual = X.env.qual ++ "<lambda>") (hm : (P, l.qual) ∈ tbs) (hu : ∀ p ∈ tbs, p.1 = P → p.2 = l.qual) (hdef : defaultsOf l.params X.env = ([], [])) :
    PE X (.Lambda l.params l.body l.scope pos) (tMkL tbs l) := by
  refine ⟨fun pins s σ H Q I ⟨hT, h⟩ => ?_⟩
  obtain ⟨ps, hP, ht, ha⟩ := hT _ hm
  have hP : H P = some (.tbl ps) := hP
  have bP : s.heap.BuiltinsAt X.mg P := TB.bm.keeps I.bk
  have gP := I.hok P _ hP
  have cl0 : cloFrom X.env.cells l.scope.names [] = [] := clo_nil L.nofree
  have hfree : ∀ y ∈ l.scope.names, y.2 = .free → ∃ c, X.env.cells.lookup y.1 = some c := fun y hy e => absurd e (L.nofree y hy)
  refine PySem.W.kla_eval hdef ?_
  cases hc : codeAmong pos ps.toList with
  | none =>
    refine PySem.W.kla_makeFunction (mg := X.mg) (c := c) (P := P) (ps := ps) (closure_ok hfree) I.ok.glob (I.mod.glob.keeps I.bk) hcode (TB.code.keeps I.bk) gP ht hc TB.gP bP fun c' ctv h' tk hx hge hlt hrec htb => ?_
    obtain ⟨c2, oc, vs, t, e2, hoc, hd, hv⟩ := hrec
    cases e2
    have nC : H c' = none := I.hok.fresh hge
    have I1 := inv_table (t' := tk) (more := #[rawInt pos.line, rawInt pos.col, .ref c']) (h' := h') I hP (fun b o hb e => hx b o hb e) htb hge ⟨oc, vs, t, hoc, hd, hv⟩
    have nF := I1.hok.fresh (Nat.le_refl h'.objs.size)
    have I2 := inv_lm (l := l) (c := c') (pm := (X.mg "__name__").getD .none) (ctv := ctv) I1
    have hE : ExtN H (upd (upd H P (.tbl (ps ++ #[rawInt pos.line, rawInt pos.col, .ref c']))) c' (CodeO c' (X.env.qual ++ "<lambda>"))) := fun b o e n => by
      have nb : b ≠ P := fun z => n ps (Option.some.inj (e.symm.trans (by rw [z, hP])))
      rw [upd_ne (ne_of_none e nC), upd_ne nb]
      exact e
    have eL : (ps ++ #[rawInt pos.line, rawInt pos.col, .ref c']).toList = ps.toList ++ [rawInt pos.line, rawInt pos.col, .ref c'] := by simp
    have T1 : Tabs tbs (upd (upd H P (.tbl (ps ++ #[rawInt pos.line, rawInt pos.col, .ref c']))) c' (CodeO c' (X.env.qual ++ "<lambda>"))) := fun p hp => by
      by_cases hb : p.1 = P
      · have e2 := hu p hp hb
        rw [e2, hb]
        refine ⟨ps ++ #[rawInt pos.line, rawInt pos.col, .ref c'], ?_, ?_, fun p' cv hcv => ?_⟩
        · rw [upd_ne (ne_of_none hP nC)]; exact upd_same
        · rw [eL]; exact PySem.TriplesOk_snoc _ _ _ _ ht
        · rw [eL] at hcv
          rcases among_app _ ht hcv with z | z
          · obtain ⟨c0, e1, e3⟩ := ha p' cv z
            exact ⟨c0, e1, hE _ _ e3 codeO_ne⟩
          · exact ⟨c', z, by rw [hq]; exact upd_same⟩
      · obtain ⟨ps', q1, q2, q3⟩ := hT p hp
        refine ⟨ps', ?_, q2, fun p' cv hcv => ?_⟩
        · rw [upd_ne (ne_of_none q1 nC), upd_ne hb]; exact q1
        · obtain ⟨c0, e1, e3⟩ := q3 p' cv hcv
          exact ⟨c0, e1, hE _ _ e3 codeO_ne⟩
    have sF : Same (upd (upd H P (.tbl (ps ++ #[rawInt pos.line, rawInt pos.col, .ref c']))) c' (CodeO c' (X.env.qual ++ "<lambda>"))) (upd (upd (upd H P (.tbl (ps ++ #[rawInt pos.line, rawInt pos.col, .ref c']))) c' (CodeO c' (X.env.qual ++ "<lambda>"))) h'.objs.size (LmO h'.objs.size c' l)) := same_new nF
    rw [cl0]
    rw [hq] at I2
    refine ⟨.ref h'.objs.size, _, I2, rfl, ?_⟩
    refine h h'.objs.size c' _ (hE.trans (ext_same sF)) (tabs_s T1 sF) (I.hok.fresh (Nat.le_trans hge (Nat.le_of_lt hlt))) upd_same ?_
    rw [hq]
    exact sF _ _ upd_same
  | some cv =>
    obtain ⟨c', e, hco⟩ := ha pos cv hc
    subst e
    rw [hq] at hco
    refine PySem.W.kla_makeFunctionHit (mg := X.mg) (c := c) (P := P) (ps := ps) (closure_ok hfree) I.ok.glob (I.mod.glob.keeps I.bk) hcode (TB.code.keeps I.bk) gP ht hc bP fun ctv h' tk hx hsz => ?_
    have I1 : Inv X pins σ H { s with heap := h', toks := tk } := I.kept hx
    have nF := I1.hok.fresh (Nat.le_refl h'.objs.size)
    have I2 := inv_lm (l := l) (c := c') (pm := (X.mg "__name__").getD .none) (ctv := ctv) I1
    have sF : Same H (upd H h'.objs.size (LmO h'.objs.size c' l)) := same_new nF
    rw [cl0, ← hq]
    refine ⟨.ref h'.objs.size, _, I2, rfl, ?_⟩
    refine h h'.objs.size c' _ (ext_same sF) (tabs_s hT sF) nF upd_same ?_
    rw [hq]
    exact sF _ _ hco
end
end Nt

set_option Elab.async false
set_option linter.all false
set_option maxRecDepth 100000
set_option maxHeartbeats 4000000
/-! A list of lists of one's own: nothing of it is seen. -/
namespace Nt
open PySem PySem.Spec PyProof.Rows L2 LamX

/-- an item: a thing without lists, or a list at q of such -/
def NI (M : Sm) (F H : Hp) (d : D) (v : V) : Option Addr → Prop
  | none => flat d = true ∧ RV M F d v
  | some q => ∃ xs ws, d = .lst xs ∧ flats xs = true ∧ v = .ref q ∧ F q = none ∧ H q = some (.lst ws) ∧ RVs M F xs ws
def NIs (M : Sm) (F H : Hp) : List D → List V → List (Option Addr) → Prop
  | [], vs, qs => vs = [] ∧ qs = []
  | d :: ds, vs, qs => ∃ v r q s, vs = v :: r ∧ qs = q :: s ∧ NI M F H d v q ∧ NIs M F H ds r s
structure NV (M : Sm) (F H : Hp) (p : Addr) (qs : List (Option Addr)) (ds : List D) : Prop where
  ex : ∃ vs, H p = some (.lst vs) ∧ NIs M F H ds vs qs
  fp : F p = none
  ne : ∀ q, some q ∈ qs → q ≠ p
  inj : ∀ (i j : Nat) (q : Addr), qs[i]? = some (some q) → qs[j]? = some (some q) → i = j
section
variable {M : Sm} {F F' H H' : Hp}
theorem NI.mono {d : D} {v : V} {o : Option Addr} (h : NI M F H d v o) (x : Ext F H F' H') : NI M F' H' d v o := by
  cases o with
  | none => exact ⟨h.1, h.2.mono x.f⟩
  | some q =>
    obtain ⟨xs, ws, e1, e2, e3, e4, e5, e6⟩ := h
    exact ⟨xs, ws, e1, e2, e3, (fresh_grow x e4 (by rw [e5]; exact fun z => by cases z)).1, x.h _ _ e5, e6.mono x.f⟩
theorem NIs.mono (x : Ext F H F' H') : ∀ {ds : List D} {vs : List V} {qs : List (Option Addr)}, NIs M F H ds vs qs → NIs M F' H' ds vs qs
  | [], _, _, h => h
  | d :: ds, _, _, ⟨v, r, q, s, e1, e2, h1, h2⟩ => ⟨v, r, q, s, e1, e2, h1.mono x, NIs.mono x h2⟩
theorem NIs.len : ∀ {ds : List D} {vs : List V} {qs : List (Option Addr)}, NIs M F H ds vs qs → vs.length = ds.length ∧ qs.length = ds.length
  | [], _, _, ⟨e1, e2⟩ => by rw [e1, e2]; exact ⟨rfl, rfl⟩
  | d :: ds, _, _, ⟨v, r, q, s, e1, e2, _, h2⟩ => by
    obtain ⟨a, b⟩ := NIs.len h2
    rw [e1, e2, List.length_cons, List.length_cons, List.length_cons, a, b]
    exact ⟨rfl, rfl⟩
theorem NIs.get : ∀ {ds : List D} {vs : List V} {qs : List (Option Addr)} {i : Nat} {d : D}, NIs M F H ds vs qs → ds[i]? = some d → ∃ v q, vs[i]? = some v ∧ qs[i]? = some q ∧ NI M F H d v q
  | [], _, _, _, _, _, h => by simp at h
  | d :: ds, _, _, 0, d', ⟨v, r, q, s, e1, e2, h1, h2⟩, h => by
    have e : d = d' := by simpa using h
    subst e
    exact ⟨v, q, by rw [e1]; rfl, by rw [e2]; rfl, h1⟩
  | d :: ds, _, _, i + 1, d', ⟨v, r, q, s, e1, e2, h1, h2⟩, h => by
    obtain ⟨u, w, a, b, c⟩ := NIs.get (i := i) h2 (by simpa using h)
    exact ⟨u, w, by rw [e1]; simpa using a, by rw [e2]; simpa using b, c⟩
theorem NIs.app : ∀ {ds es : List D} {vs us : List V} {qs ps : List (Option Addr)}, NIs M F H ds vs qs → NIs M F H es us ps → NIs M F H (ds ++ es) (vs ++ us) (qs ++ ps)
  | [], _, _, _, _, _, ⟨e1, e2⟩, h => by rw [e1, e2]; exact h
  | d :: ds, _, _, _, _, _, ⟨v, r, q, s, e1, e2, h1, h2⟩, h => by rw [e1, e2]; exact ⟨v, _, q, _, rfl, rfl, h1, NIs.app h2 h⟩
theorem NIs.one {d : D} {v : V} {q : Option Addr} (h : NI M F H d v q) : NIs M F H [d] [v] [q] := ⟨v, [], q, [], rfl, rfl, h, rfl, rfl⟩
theorem NIs.set : ∀ {ds : List D} {vs : List V} {qs : List (Option Addr)} (i : Nat) {d : D} {v : V} {q : Option Addr}, NIs M F H ds vs qs → NI M F H d v q → NIs M F H (ds.set i d) (vs.set i v) (qs.set i q)
  | [], _, _, _, _, _, _, ⟨e1, e2⟩, _ => by rw [e1, e2]; exact ⟨rfl, rfl⟩
  | d :: ds, _, _, 0, _, _, _, ⟨v, r, q, s, e1, e2, h1, h2⟩, h => by rw [e1, e2]; exact ⟨_, r, _, s, rfl, rfl, h, h2⟩
  | d :: ds, _, _, i + 1, _, _, _, ⟨v, r, q, s, e1, e2, h1, h2⟩, h => by rw [e1, e2]; exact ⟨v, _, q, _, rfl, rfl, h1, NIs.set i h2 h⟩
/-- in the whole heap it is just data -/
theorem NI.full (s : Same F H) {d : D} {v : V} {o : Option Addr} (h : NI M F H d v o) : RV M H d v := by
  cases o with
  | none => exact h.2.mono s
  | some q =>
    obtain ⟨xs, ws, e1, _, e3, _, e5, e6⟩ := h
    rw [e1]
    exact ⟨q, ws, e3, e5, e6.mono s⟩
theorem NIs.full (s : Same F H) : ∀ {ds : List D} {vs : List V} {qs : List (Option Addr)}, NIs M F H ds vs qs → RVs M H ds vs
  | [], _, _, ⟨e1, _⟩ => e1
  | d :: ds, _, _, ⟨v, r, q, t, e1, e2, h1, h2⟩ => ⟨v, r, e1, h1.full s, NIs.full s h2⟩
/-- things without lists alone -/
theorem NIs.flat : ∀ {ds : List D} {vs : List V} {qs : List (Option Addr)}, flats ds = true → NIs M F H ds vs qs → RVs M F ds vs ∧ ∀ q, some q ∉ qs
  | [], _, _, _, ⟨e1, e2⟩ => ⟨e1, fun q m => by rw [e2] at m; cases m⟩
  | d :: ds, _, _, f, ⟨v, r, q, s, e1, e2, h1, h2⟩ => by
    unfold flats at f
    rw [Bool.and_eq_true] at f
    obtain ⟨a, b⟩ := NIs.flat f.2 h2
    cases q with
    | none =>
      refine ⟨⟨v, r, e1, h1.2, a⟩, fun q m => ?_⟩
      rw [e2] at m
      rcases List.mem_cons.mp m with z | z
      · cases z
      · exact b q z
    | some q =>
      obtain ⟨xs, ws, e3, _⟩ := h1
      rw [e3] at f
      cases f.1
theorem NIs.of_flat : ∀ {ds : List D} {vs : List V}, flats ds = true → RVs M F ds vs → NIs M F H ds vs (ds.map fun _ => none)
  | [], _, _, h => ⟨h, rfl⟩
  | d :: ds, _, f, ⟨v, r, e1, h1, h2⟩ => by
    unfold flats at f
    rw [Bool.and_eq_true] at f
    exact ⟨v, r, none, _, e1, rfl, ⟨f.1, h1⟩, NIs.of_flat f.2 h2⟩
/-- each list keeps what it holds -/
theorem NIs.keep (s : Same F F') (hn : ∀ q, H q ≠ none → F q = none → F' q = none) : ∀ {ds : List D} {vs : List V} {qs : List (Option Addr)}, (∀ q, some q ∈ qs → ∀ o, H q = some o → H' q = some o) → NIs M F H ds vs qs → NIs M F' H' ds vs qs
  | [], _, _, _, h => h
  | d :: ds, _, _, k, ⟨v, r, q, t, e1, e2, h1, h2⟩ => by
    refine ⟨v, r, q, t, e1, e2, ?_, NIs.keep s hn (fun q m => k q (by rw [e2]; exact List.mem_cons_of_mem _ m)) h2⟩
    cases q with
    | none => exact ⟨h1.1, h1.2.mono s⟩
    | some q =>
      obtain ⟨xs, ws, z1, z2, z3, z4, z5, z6⟩ := h1
      exact ⟨xs, ws, z1, z2, z3, hn q (by rw [z5]; exact fun z => by cases z) z4, k q (by rw [e2]; exact List.mem_cons_self ..) _ z5, z6.mono s⟩
theorem NV.mono {p : Addr} {qs : List (Option Addr)} {ds : List D} (h : NV M F H p qs ds) (x : Ext F H F' H') : NV M F' H' p qs ds := by
  obtain ⟨vs, e1, e2⟩ := h.ex
  exact ⟨⟨vs, x.h _ _ e1, e2.mono x⟩, (fresh_grow x h.fp (by rw [e1]; exact fun z => by cases z)).1, h.ne, h.inj⟩
theorem NV.full {p : Addr} {qs : List (Option Addr)} {ds : List D} (h : NV M F H p qs ds) (s : Same F H) : RV M H (.lst ds) (.ref p) := by
  obtain ⟨vs, e1, e2⟩ := h.ex
  exact ⟨p, vs, rfl, e1, e2.full s⟩
end
/-- what may be an item -/
def itemD : D → Bool
  | .lst xs => flats xs && decide (xs.length ≤ LIM)
  | d => flat d
end Nt

set_option Elab.async false
set_option linter.all false
set_option maxRecDepth 100000
set_option maxHeartbeats 4000000
/-! A lambda of one parameter, called. -/
namespace Nt
open PySem PySem.Spec PyProof.Rows L2 LamX
abbrev lmNF (l : LmD) (c : Addr) : NdefX.NF := ⟨"<lambda>", l.qual, l.params, [], l.scope, [], c⟩
section
variable {P : Program} {w : World} {K : PySem.W.Frag} {mg : Str → Option Value} {base : Heap} {N : List Str} {x : Str} {l : LmD} {f c : Addr} {A : Around} {outer : List PySem.Env} {s : Shared} {H : Hp} {u : Value} {v : V} {Q : VK} {E : XK} {k : Nat}
theorem lm_call (L : LamP l N x) (hr : Room (k + 1) A) (e0 : Env0 P w K mg base A outer s H) (hf : H f = some (LmO f c l)) (hc : H c = some (CodeO c l.qual)) (r : RelV v u)
    (hbody : Room k (A.deeper (NdefX.envF (lmNF l c) f s.heap.objs.size)) → ∃ te, PE (NdefX.ncx C8.CX0 P w K mg base N (lmNF l c) f A outer s H E) l.body te ∧ te (NdefX.startF N [v] []) H Q) : codeAny (model P w) A (.call (.ref f) ⟨[u], []⟩) (CR C8.CX0 outer P w H s Q E) s := by
  obtain ⟨pm, ctv, ho⟩ := lmO_at e0.hok hf
  have lim : s.heap.NoLimit := e0.mod.nolimit.keeps fun b o e => (e0.bs b o e).1
  refine PySem.W.kla_callFunE hr.depth ho rfl L.sc.co L.sc.gen rfl (NdefX.codeO_at e0.hok hc) ?_
  rw [L.bind]
  refine wpAny_pure (wpAny_newFunctionEnv L.sc.nocell (fun y hy => ?_) (fun h₁ hns hsb => ⟨lim.fresh _ hsb, ?_⟩) L.sc.kind)
  · rw [List.mem_singleton.mp hy]
    exact L.sc.par x (List.mem_singleton_self _)
  · have kp : ∀ b o, s.heap.get? b = some o → h₁.get? b = some o := fun b o e => hsb.extBut b o (Nat.ne_of_lt (Heap.lt_size e)) (Heap.get?_push_of_some _ e)
    obtain ⟨te, ht, hq⟩ := hbody (hr.deeper _)
    have C : NdefX.CellsAt (lmNF l c).cl [] [] s.heap H := ⟨rfl, (fun y c e => by cases e), (fun x y c e => by cases e), (fun i y h => by cases (show (none : Option Str) = some y from by simpa using h))⟩
    have I := NdefX.inv_startN (CX := C8.CX0) (F := lmNF l c) (f := f) (E := E) (ps := [x]) (us := [u]) (vs := [v]) (ws := []) (tk := s.toks + 1) L.sc hr.hd e0 rfl (.cons r .nil) C hns kp
    show codeAny _ _ (.expr l.body (NdefX.envF (lmNF l c) f s.heap.objs.size)) _ _
    refine PySem.W.kla_codeExpr (wpAny_mono (ht.run [] _ (NdefX.startF N [v] []) H _ I hq) (fun v' s' hv => ?_) fun e s' hs => hs)
    obtain ⟨w', H', J, rv, q⟩ := hv
    exact ⟨w', H', J.os, J.bare, J.base, J.hok, rv, q⟩
end
/-- the promise of the lambda l: as a def's -/
structure LmAt (ca : Nat → Addr) (T : Tb) (P : Program) (w : World) (K : PySem.W.Frag) (mg : Str → Option Value) (base : Heap) (n : Nat) (l : LmD) : Prop where
  run : ∀ (A : Around) (outer : List PySem.Env) (s : Shared) (H : Hp) (f c : Addr) (u : Value) (v : V) (Q : VK), Room n A → Env0 P w K mg base A outer s H → H f = some (LmO f c l) → H c = some (CodeO c l.qual) → RelV v u → spD ⟨K, ca, T.cn⟩ T n l.k [v] H Q (fun _ _ _ => False) →
    codeAny (model P w) A (.call (.ref f) ⟨[u], []⟩) (CR C8.CX0 outer P w H s Q C8.E0) s
theorem lm_ok {ca : Nat → Addr} {T : Tb} {P : Program} {w : World} {K : PySem.W.Frag} {mg : Str → Option Value} {base : Heap} {N : List Str} {x : Str} {l : LmD} {n : Nat} {fr : Bool} {p : E} (L : LamP l N x) (hN : N = [x]) (hfn : T.fns[l.k]? = some ⟨1, 1, fr, .cons (.ret p) .nil⟩)
    (body : ∀ (A : Around) (outer : List PySem.Env) (s : Shared) (H : Hp) (f c : Addr), Gd ⟨ca, { T with lv := n }⟩ (NdefX.ncx C8.CX0 P w K mg base N (lmNF l c) f A outer s H C8.E0).nox → DE ⟨ca, { T with lv := n }⟩ (NdefX.ncx C8.CX0 P w K mg base N (lmNF l c) f A outer s H C8.E0).nox l.body p)
    (ht : (!fr || top { T with lv := n } p) = true) : LmAt ca T P w K mg base (n + 1) l := by
  subst hN
  refine ⟨fun A outer s H f c u v Q hr e0 hf hc r hsp => ?_⟩
  obtain ⟨fn, F, ds, d, e1, e2, sm1, rv, ev, q⟩ := hsp
  rw [hfn] at e1
  cases e1
  refine lm_call L hr e0 hf hc r fun hr' => ⟨_, PE.nox (body A outer s H f c ⟨rfl, hr', rfl⟩), ?_⟩
  match ds, e2, rv with
  | [d0], _, ⟨v0, r0, ez, hv, hz⟩ =>
    cases ez
    refine ⟨F, [some d0], d, sm1, ⟨Nat.le_refl _, fun i d' e => ?_⟩, fun i _ d' e => ?_, ?_, fun v' F' H' xx rr => ?_⟩
    · match i, e with
      | 0, e => cases e; exact ⟨v, rfl, hv.rs sm1⟩
      | i + 1, e => cases e
    · match i, e with
      | 0, e => cases e; exact ⟨v, rfl, hv⟩
      | i + 1, e => cases e
    · unfold run at ev
      rw [hfn] at ev
      have hlv : run { T with lv := n } n = run T n := by funext k ds; exact run_lv T n n k ds
      have ev : (match exs { T with lv := n } (run T n) (.cons (.ret p) .nil) [some d0] with | some (.rt d) => some d | some (.nx _) => some D.non | none => none) = some d := ev
      rw [exs.eq_2] at ev
      show Nt.ev { T with lv := n } (run { T with lv := n } n) p [some d0] = some d
      rw [hlv]
      cases hp : Nt.ev { T with lv := n } (run T n) p [some d0] with
      | none =>
        have : ex { T with lv := n } (run T n) (.ret p) [some d0] = none := by unfold ex; rw [hp]
        rw [this] at ev
        cases ev
      | some d1 =>
        have : ex { T with lv := n } (run T n) (.ret p) [some d0] = some (.rt d1) := by unfold ex; rw [hp]
        rw [this] at ev
        exact ev
    · obtain ⟨F2, x2, r2⟩ := rr.down xx (t2 := fr) (fun z => by rw [z] at ht; simpa using ht)
      exact q v' F2 H' x2 r2
section
variable {X : Cx}
/-- x(e), x a local that holds the lambda l -/
theorem pe_ask {ca : Nat → Addr} {T : Tb} {n i : Nat} {l : LmD} {xn : Str} {e : Expr} {te : TE} {pp pos : Pos} (LA : LmAt ca T X.prog X.w X.K X.mg X.base n l) (hr : Room n X.A) (hN : X.N[i]? = some xn) (hv : Vis X.env.scope xn) (he : PE X e te) (hd : (xn == ("__debug__" : Str)) = false := by decide) (hcd : (xn == ("__classdict__" : Str)) = false := by decide)
    (hst : starEach [e] X.env = (false, eval e X.env) :: starEach [] X.env := by rfl) (hpl : (backTo pos (starEach [] X.env)).any (·.1) = false := by rfl) :
    PE X (.Call (.Name xn pp) [e] [] pos) (fun σ H Q => ∃ f c, σ[i]? = some (some (.ref f)) ∧ H f = some (LmO f c l) ∧ te σ H fun v H1 => H1 f = some (LmO f c l) ∧ H1 c = some (CodeO c l.qual) ∧ spD ⟨X.K, ca, T.cn⟩ T n l.k [v] H1 Q (fun _ _ _ => False)) := by
  refine ⟨fun pins s σ H Q I h => ?_⟩
  obtain ⟨f, c, hs, hf, ht⟩ := h
  refine wpAny_Call_Name_kw (thn ((pe_var (pos := pp) (i := i) hN hv hd hcd).run pins s σ H (fun v H1 => v = .ref f ∧ H1 = H) I ⟨.ref f, hs, rfl, rfl⟩) fun u s1 ⟨v, H1, I1, r1, q1⟩ => ?_)
  obtain ⟨ev, eH⟩ := q1
  subst ev
  rw [eH] at I1
  obtain rfl : u = Value.ref f := r1
  obtain ⟨pm, ctv, ho⟩ := lmO_at I1.hok hf
  refine PySem.W.callWith_F ⟨_, _, _, _, ho⟩ ?_ hst hpl
  rw [hst]
  show wpAny _ _ (spliced ((false, eval e X.env) :: [])) _ _ s1
  refine Calls.spliced_cons (thn (he.run pins s1 σ H _ I1 ht) fun u2 s2 ⟨v2, H2, I2, r2, hf2, hc2, hsp⟩ => ?_)
  obtain ⟨pm2, ctv2, ho2⟩ := lmO_at I2.hok hf2
  refine Calls.spliced_nil ⟨⟨_, _, _, _, ho2⟩, ?_⟩
  have rc := LA.run X.A X.stack s2 H2 f c u2 v2 Q hr I2.env0 hf2 hc2 r2 hsp
  refine wpAny_call (codeAny_mono rc fun r s3 hq => ?_)
  cases r with
  | error e => exact (show False from hq).elim
  | ok fl =>
    cases fl with
    | ret u => exact I2.after hq
    | next => exact False.elim hq
    | brk => exact False.elim hq
    | cont => exact False.elim hq
end
/-! ### abs -/
section
variable {W : Wd} {X : Cx} {a : Expr} {p : E} {pos pp : Pos}
theorem cs_abs {sub : Nat → Nat → Option Bool} {M : Sm} : CallS sub M .abs (fun xs H Q => ∃ i, xs = [.int i] ∧ Q (.int (if i < 0 then -i else i)) H) := by
  intro H x d z h e
  have e : absD d = some z := e
  unfold absD at e
  split at e
  · cases e
    exact ⟨_, rfl, fun Q k => ⟨_, by rw [show x = .int _ from h], k⟩⟩
  · cases e
theorem de_abs (h : DB W X a p) (hg : Gl X "abs" := by rfl) (hm : X.mg "abs" = none) (hst : starEach [a] X.env = [(false, eval a X.env)] := by rfl) : DE W X (.Call (.Name "abs" pp) [a] [] pos) (.o1 .abs p) :=
  de_b1 call_abs hg hm (by decide +kernel) cs_abs h (by decide) (by decide) hst
end
end Nt

set_option Elab.async false
set_option linter.all false
set_option maxRecDepth 100000
set_option maxHeartbeats 4000000
/-! A list copied, its lists too. -/
namespace Nt
open PySem PySem.Spec PyProof.Rows L2 LamX
def leafD : D → Bool
  | .tup ds => (ds.all fun d => match d with | .int _ => true | _ => false) && decide (ds.length ≤ LIM)
  | .int _ => true | .bl _ => true | .non => true
  | _ => false
def itmD : D → Bool
  | .lst xs => xs.all leafD && decide (xs.length ≤ LIM)
  | d => leafD d
/-- how many calls a copy takes -/
def ndC (ds : List D) : Nat := if ds.all leafD then 3 else 4
theorem ints_flat : ∀ {ds : List D}, (ds.all fun d => match d with | .int _ => true | _ => false) = true → flats ds = true
  | [], _ => rfl
  | d :: ds, h => by
    rw [List.all_cons, Bool.and_eq_true] at h
    unfold flats
    rw [ints_flat h.2]
    cases d with
    | int i => rfl
    | _ => cases h.1
theorem leaf_flat {d : D} (h : leafD d = true) : flat d = true := by
  cases d with
  | tup ds =>
    have h : ((ds.all fun d => match d with | .int _ => true | _ => false) && decide (ds.length ≤ LIM)) = true := h
    rw [Bool.and_eq_true] at h
    exact ints_flat h.1
  | int i => rfl
  | bl b => rfl
  | non => rfl
  | _ => cases h
theorem leafs_flats : ∀ {ds : List D}, ds.all leafD = true → flats ds = true
  | [], _ => rfl
  | d :: ds, h => by
    rw [List.all_cons, Bool.and_eq_true] at h
    unfold flats
    rw [leaf_flat h.1, leafs_flats h.2]
    rfl
def Inj (qs : List (Option Addr)) : Prop := ∀ (i j : Nat) (q : Addr), qs[i]? = some (some q) → qs[j]? = some (some q) → i = j
theorem inj_snoc {qs : List (Option Addr)} {o : Option Addr} (h : Inj qs) (n : ∀ q, o = some q → some q ∉ qs) : Inj (qs ++ [o]) := fun i j q a b => by
  have key : ∀ i, (qs ++ [o])[i]? = some (some q) → (i < qs.length ∧ qs[i]? = some (some q)) ∨ (i = qs.length ∧ o = some q) := fun i a => by
    by_cases l : i < qs.length
    · rw [List.getElem?_append_left l] at a
      exact .inl ⟨l, a⟩
    · rw [List.getElem?_append_right (by omega)] at a
      by_cases z : i = qs.length
      · rw [z, Nat.sub_self] at a
        exact .inr ⟨z, Option.some.inj a⟩
      · rw [List.getElem?_eq_none (by show 1 ≤ i - qs.length; omega)] at a
        cases a
  rcases key i a with ⟨_, a⟩ | ⟨e1, a⟩
  · rcases key j b with ⟨_, b⟩ | ⟨e2, b⟩
    · exact h i j q a b
    · exact absurd (List.mem_of_getElem? a) (n q b)
  · rcases key j b with ⟨_, b⟩ | ⟨e2, b⟩
    · exact absurd (List.mem_of_getElem? b) (n q a)
    · rw [e1, e2]
/-- the promise of a list's copy -/
def spCL (M : Sm) (n : Nat) : Sp := fun vs H Q _ => ∃ F ds v, vs = [v] ∧ Same F H ∧ RV M F (.lst ds) v ∧ (∀ d ∈ ds, itmD d = true) ∧ ds.length ≤ LIM ∧ ndC ds ≤ n ∧ ∀ F' H' p qs, Ext F H F' H' → NV M F' H' p qs ds → H p = none → (∀ q, some q ∈ qs → H q = none) → Q (.ref p) H'
theorem PE.or {X : Cx} {e : Expr} {t u : TE} (h : PE X e t) (h2 : PE X e u) : PE X e (fun σ H Q => t σ H Q ∨ u σ H Q) := ⟨fun pins s σ H Q I q => q.elim (h.run pins s σ H Q I) (h2.run pins s σ H Q I)⟩
section
variable {W : Wd} {X : Cx}
/-- the comprehension's core -/
theorem cl_core {kc : Nat} {n' : Nat} {σ : L2.St} {H F : Hp} {ds : List D} {v : V} {Q : VK} (hW : W.n = n') (hcopy : 2 ≤ n' → ∀ d, leafD d = true → run W.T W.n kc [d] = some d) (sl : 2 ≤ σ.length) (h0 : σ[0]? = some (some v)) (s : Same F H) (r : RV (sm X W) F (.lst ds) v) (hi : ∀ d ∈ ds, itmD d = true) (hl : ds.length ≤ LIM) (hn : ndC ds ≤ n' + 1)
    (k : ∀ F' H' p qs, Ext F H F' H' → NV (sm X W) F' H' p qs ds → H p = none → (∀ q, some q ∈ qs → H q = none) → Q (.ref p) H') :
    tLc (fun σ H R => tVar 0 σ H fun x H1 => ∃ a, x = .ref a ∧ (((∃ xs, SqL X.K H1 a xs) ∧ R (Itl X.K a) H1) ∨ ((∃ xs, SqT X.K H1 a xs) ∧ R (Itt X.K a) H1))) (gT X.K (.one 1)) tYes
      (fun σ H Q => tD (sm X W) W (.call kc (.cons (.var 1) .nil)) σ H Q ∨ tCall (spCL (sm X W) n') [] (fun _ _ _ => False) (tCons (tVar 1) tNil) σ H Q) [1] σ H Q := by
  obtain ⟨a, vs0, rfl, ha, hv⟩ := r
  refine ⟨.ref a, h0, a, rfl, .inl ⟨⟨vs0, SqL.of (s _ _ ha)⟩, fun D hD => ?_⟩⟩
  have Y : Yld (sm X W) F F (Itl X.K a) ds := y_list ha hv
  have fD : F D = none := s.free hD
  refine ⟨fun i m Hc => m = ds.length - i ∧ i ≤ ds.length ∧ ∃ F2 vs qs, Same F F2 ∧ Same H Hc ∧ Same F2 Hc ∧ F2 D = none ∧ (∀ a o, F2 a = some o → F a = some o ∨ H a = none) ∧ Hc D = some (.lst vs) ∧ NIs (sm X W) F2 Hc (ds.take i) vs qs ∧ (∀ q, some q ∈ qs → H q = none ∧ q ≠ D) ∧ Inj qs,
    ⟨ds.length, by simp, Nat.zero_le _, F, [], [], Same.refl _, Nt.same_new hD, (Ext.hid s hD).s, fD, fun a o e => .inl e, upd_same, ⟨rfl, rfl⟩, (fun q m => by cases m), (fun i j q z => by rw [List.getElem?_nil] at z; cases z)⟩, ?_⟩
  rintro i m Hc ⟨rfl, hle, F2, vs, qs, s12, t1, s2, f2D, n2, hcD, hni, hq, hinj⟩
  by_cases hlt : i < ds.length
  · have gd : ds[i]? = some ds[i] := List.getElem?_eq_getElem hlt
    obtain ⟨go, yl⟩ := Y.item i _ F2 Hc s12 (s.trans t1) s2 gd
    refine .inr ⟨go, fun H' => i + 1 ≤ ds.length ∧ ∃ F2 vs qs, Same F F2 ∧ Same H H' ∧ Same F2 H' ∧ F2 D = none ∧ (∀ a o, F2 a = some o → F a = some o ∨ H a = none) ∧ H' D = some (.lst vs) ∧ NIs (sm X W) F2 H' (ds.take (i + 1)) vs qs ∧ (∀ q, some q ∈ qs → H q = none ∧ q ≠ D) ∧ Inj qs, fun H' hN => ⟨ds.length - (i + 1), by omega, rfl, hN⟩, fun x5 H3 y5 => ?_⟩
    obtain ⟨F3, x3, rx⟩ := yl x5 H3 y5
    have h3D : H3 D = some (.lst vs) := x3.h _ _ hcD
    have f3D := (fresh_grow x3 f2D (by rw [hcD]; exact fun z => by cases z)).1
    have ni3 := hni.mono x3
    have lw : (wipe σ [1]).length = σ.length := wipe_length _ _
    show wipe ((wipe σ [1]).set 1 (some x5)) [1] = wipe σ [1] ∧ _
    refine ⟨?_, ?_⟩
    · refine wipe_same (σ := σ) (σ2 := (wipe σ [1]).set 1 (some x5)) (is := [1]) (by rw [List.length_set, lw]) fun j hj => ?_
      have hj : j ≠ 1 := fun z => hj (by rw [z]; exact List.mem_singleton_self _)
      rw [List.getElem?_set_ne (Ne.symm hj), wipe_get (fun z => hj (List.mem_singleton.mp z))]
    have s1' : ((wipe σ [1]).set 1 (some x5))[1]? = some (some x5) := List.getElem?_set_self (by rw [lw]; omega)
    have fin : ∀ (y : V) (F4 H4 : Hp) (o : Option Addr), Ext F3 H3 F4 H4 → NI (sm X W) F4 H4 ds[i] y o → (∀ q, o = some q → H3 q = none) → ∃ acc, H4 D = some (.lst acc) ∧ acc.length < sizeLine ∧ (i + 1 ≤ ds.length ∧ ∃ F2 vs qs, Same F F2 ∧ Same H (upd H4 D (.lst (acc ++ [y]))) ∧ Same F2 (upd H4 D (.lst (acc ++ [y]))) ∧ F2 D = none ∧ (∀ a o, F2 a = some o → F a = some o ∨ H a = none) ∧ (upd H4 D (.lst (acc ++ [y]))) D = some (.lst vs) ∧ NIs (sm X W) F2 (upd H4 D (.lst (acc ++ [y]))) (ds.take (i + 1)) vs qs ∧ (∀ q, some q ∈ qs → H q = none ∧ q ≠ D) ∧ Inj qs) := by
      intro y F4 H4 o x4 hy ho
      have h4D := x4.h _ _ h3D
      have f4D := (fresh_grow x4 f3D (by rw [h3D]; exact fun z => by cases z)).1
      have ni4 := ni3.mono x4
      have lens := hni.len
      rw [List.length_take] at lens
      have no : ∀ q, o = some q → some q ∉ qs := fun q e m => by
        obtain ⟨j, hj⟩ := List.mem_iff_getElem?.mp m
        have lj : j < qs.length := (List.getElem?_eq_some_iff.mp hj).1
        have gj : (ds.take i)[j]? = some ((ds.take i)[j]'(by rw [List.length_take]; omega)) := List.getElem?_eq_getElem _
        obtain ⟨u, q', z1, z2, z3⟩ := ni3.get gj
        rw [hj] at z2
        cases z2
        obtain ⟨xs, ws, _, _, _, _, z5, _⟩ := z3
        rw [ho q e] at z5
        cases z5
      have nD : ∀ q, o = some q → q ≠ D := fun q e z => by rw [← z, ho q e] at h3D; cases h3D
      refine ⟨vs, h4D, by rw [lens.1]; exact lim_lt (by omega), hlt, F4, vs ++ [y], qs ++ [o], (s12.trans x3.f).trans x4.f, fun b u e => ?_, fun b u e => ?_, f4D, fun b u e => ?_, upd_same, ?_, fun q m => ?_, inj_snoc hinj no⟩
      · rw [upd_ne (ne_of_none e hD)]
        exact x4.h _ _ (x3.h _ _ (t1 _ _ e))
      · rw [upd_ne (ne_of_none e f4D)]
        exact x4.s _ _ e
      · rcases x4.n b u e with z | z
        · rcases x3.n b u z with z | z
          · exact n2 b u z
          · exact .inr (t1.free z)
        · exact .inr ((t1.trans x3.h).free z)
      · have et : ds.take (i + 1) = ds.take i ++ [ds[i]] := by rw [List.take_succ, gd]; rfl
        rw [et]
        refine NIs.keep (H := H4) (Same.refl _) (fun q _ e => e) (fun q m o' e => ?_) (ni4.app (NIs.one hy))
        rw [upd_ne]
        · exact e
        · rcases List.mem_append.mp m with m | m
          · exact (hq q m).2
          · exact nD q (List.mem_singleton.mp m).symm
      · rcases List.mem_append.mp m with m | m
        · exact hq q m
        · have e := (List.mem_singleton.mp m).symm
          exact ⟨(t1.trans x3.h).free (ho q e), nD q e⟩
    simp only [tYes, ↓reduceIte]
    have hd := hi _ (List.getElem_mem hlt)
    by_cases lf : leafD ds[i] = true
    · refine .inl ⟨F3, [none, some ds[i]], ds[i], x3.s, ⟨by rw [List.length_set, lw]; exact sl, fun j d e => ?_⟩, fun j mj d e => ?_, ?_, fun y F4 H4 x4 r4 => ?_⟩
      · match j, e with
        | 0, e => cases e
        | 1, e => cases e; exact ⟨x5, s1', rx.rs x3.s⟩
        | j + 2, e => cases e
      · match j, e with
        | 0, e => cases e
        | 1, e => cases e; exact ⟨x5, s1', rx⟩
        | j + 2, e => cases e
      · show run W.T W.n kc [ds[i]] = some ds[i]
        refine hcopy ?_ _ lf
        unfold ndC at hn
        split at hn <;> omega
      · obtain ⟨F5, x5', _, r5⟩ := r4.plain x4
        exact fin y F5 H4 none x5' ⟨leaf_flat lf, r5⟩ fun q e => by cases e
    · cases hx : ds[i] with
      | lst xs =>
        rw [hx] at hd rx
        have hd : (xs.all leafD && decide (xs.length ≤ LIM)) = true := hd
        rw [Bool.and_eq_true] at hd
        have n4 : ndC ds = 4 := by
          unfold ndC
          rw [if_neg]
          intro z
          exact lf (List.all_eq_true.mp z _ (List.getElem_mem hlt))
        have n3 : ndC xs = 3 := by unfold ndC; rw [if_pos hd.1]
        refine .inr ⟨x5, s1', F3, xs, x5, rfl, x3.s, rx, fun d m => ?_, of_decide_eq_true hd.2, by omega, fun F4 H4 p' qs' x4 nv hp' hq' => ?_⟩
        · have := List.all_eq_true.mp hd.1 d m
          cases d with
          | lst ys => cases this
          | _ => exact this
        · obtain ⟨ws, e1, e2⟩ := nv.ex
          obtain ⟨e3, _⟩ := NIs.flat (leafs_flats hd.1) e2
          refine fin (.ref p') F4 H4 (some p') x4 ?_ fun q e => ?_
          · rw [hx]
            exact ⟨xs, ws, rfl, leafs_flats hd.1, rfl, nv.fp, e1, e3⟩
          · cases e
            exact hp'
      | _ =>
        rw [hx] at hd lf
        exact absurd hd lf
  · have e : i = ds.length := by omega
    refine .inl ⟨Y.stop _ F2 Hc s12 (s.trans t1) s2 (by omega), ?_⟩
    rw [e, List.take_length] at hni
    exact k F2 Hc D qs ⟨s12, t1, s2, n2⟩ ⟨⟨vs, hcD, hni⟩, f2D, fun q m => (hq q m).2, hinj⟩ hD fun q m => (hq q m).1
end
end Nt

set_option Elab.async false
set_option linter.all false
set_option maxRecDepth 100000
set_option maxHeartbeats 4000000
/-! A def by what its body's term reads; a list copied, as a def; lists changed in place to others as long. -/
namespace Nt
open PySem PySem.Spec PyProof.Rows L2 LamX
theorem fn_ts {ca : Nat → Addr} {T : Tb} {P : Program} {w : World} {K : PySem.W.Frag} {mg : Str → Option Value} {base : Heap} {x qual : Str} {st : Stmt} {f : Addr} {fd : FuncData} {N ps : List Str} {n : Nat} {sp : Sp} {t : TS} (Fu : Fun K x qual st f fd) (S : FnScope N ps (defScope st))
    (len : ∀ vs H Q E, sp vs H Q E → vs.length = ps.length)
    (body : ∀ (cdv : Value) (A : Around) (outer : List PySem.Env) (s : Shared) (H : Hp) (E : XK), Gd ⟨ca, { T with lv := n }⟩ (cxOf CX0 P w K mg base N qual (defScope st) f cdv A outer s H E).nox →
      PSs (cxOf CX0 P w K mg base N qual (defScope st) f cdv A outer s H E).nox (defBody st) t)
    (rd : ∀ vs H Q E, sp vs H Q E → t { nx := fun _ H' => Q .non H', rt := Q } (L2.start N vs) H) : FnOk P w K mg base CX0 (n + 1) f fd ps sp :=
  Fu.ok S len fun cdv A outer s H vs Q E hr h => ⟨t, body cdv A outer s H E ⟨rfl, hr, rfl⟩, rd vs H Q E h⟩
theorem fn_none {P : Program} {w : World} {K : PySem.W.Frag} {mg : Str → Option Value} {base : Heap} {f : Addr} {fd : FuncData} {ps : List Str} {sp : Sp} {n : Nat} (no : ∀ vs H Q E, ¬ sp vs H Q E) : FnOk P w K mg base CX0 n f fd ps sp :=
  ⟨fun vs H Q E h => absurd h (no vs H Q E), fun A outer s H args us vs Q E _ _ _ _ h => absurd h (no vs H Q E)⟩
theorem ndC_pos (ds : List D) : 3 ≤ ndC ds := by
  unfold ndC
  split <;> omega
theorem spCL_zero {M : Sm} (vs : List V) (H : Hp) (Q : VK) (E : XK) : ¬ spCL M 0 vs H Q E := fun ⟨F, ds, v, _, _, _, _, _, h, _⟩ => by
  have := ndC_pos ds
  omega
theorem spCL_len {M : Sm} {n : Nat} (vs : List V) (H : Hp) (Q : VK) (E : XK) (h : spCL M n vs H Q E) : vs.length = 1 := by
  obtain ⟨F, ds, v, rfl, _⟩ := h
  rfl
/-- what the body of a copy asks -/
def tCL (M : Sm) (n : Nat) : TS := fun Dn σ H => ∃ v, 2 ≤ σ.length ∧ σ[0]? = some (some v) ∧ spCL M (n + 1) [v] H Dn.rt (fun _ _ _ => False)
theorem cl_ps {W : Wd} {X : Cx} {a lc : Expr} {rest : List Stmt} {p1 p2 : Pos} {kc n : Nat} (hW : W.n = n) (hcopy : 2 ≤ n → ∀ d, leafD d = true → run W.T W.n kc [d] = some d) (ht : DT W X a (.o1 (.ist .lst) (.var 0)))
    (hc : PE X lc (tLc (fun σ H R => tVar 0 σ H fun x H1 => ∃ a, x = .ref a ∧ (((∃ xs, SqL X.K H1 a xs) ∧ R (Itl X.K a) H1) ∨ ((∃ xs, SqT X.K H1 a xs) ∧ R (Itt X.K a) H1))) (gT X.K (.one 1)) tYes
      (fun σ H Q => tD (sm X W) W (.call kc (.cons (.var 1) .nil)) σ H Q ∨ tCall (spCL (sm X W) n) [] (fun _ _ _ => False) (tCons (tVar 1) tNil) σ H Q) [1])) :
    PSs X (.If a [.Return (some lc) p1] [] p2 :: rest) (tCL (sm X W) n) :=
  PSs.imp (pss_cons (ps_if ht (pss_one (ps_ret hc)) pss_nil) (pss_never (sts := rest))) fun Dn σ H ⟨v, sl, h0, F, ds, v', ev, s, r, hi, hl, hn, k⟩ => by
    cases ev
    refine ⟨F, [some (.lst ds)], true, s, ⟨by show 1 ≤ σ.length; omega, fun i d e => ?_⟩, rfl, fun H' t => iteT ?_⟩
    · match i, e with
      | 0, e => cases e; exact ⟨v, h0, r.rs s⟩
      | i + 1, e => cases e
    · refine cl_core (W := W) (X := X) (F := F) hW hcopy sl h0 (s.trans t) r hi hl hn fun F' H2 p qs x nv hp hq => ?_
      exact k F' H2 p qs ⟨x.f, t.trans x.h, x.s, fun a o e => (x.n a o e).imp_right fun z => t.free z⟩ nv (t.free hp) fun q m => t.free (hq q m)
theorem cl_rd {M : Sm} {n : Nat} {N : List Str} (hN : N.length = 2) (vs : List V) (H : Hp) (Q : VK) (E : XK) (h : spCL M (n + 1) vs H Q E) : tCL M n { nx := fun _ H' => Q .non H', rt := Q } (L2.start N vs) H := by
  have hl := spCL_len vs H Q E h
  match vs, hl with
  | [v], _ =>
    refine ⟨v, ?_, rfl, h⟩
    unfold L2.start
    simp [hN]
/-! ### into -/
def sameK : D → D → Bool
  | .lst _, .lst _ => true
  | .lst _, _ => false
  | _, .lst _ => false
  | _, _ => true
def alike : List D → List D → Bool
  | [], [] => true
  | d :: ds, e :: es => sameK d e && alike ds es
  | _, _ => false
theorem alike_len : ∀ {ds es : List D}, alike ds es = true → ds.length = es.length
  | [], [], _ => rfl
  | d :: ds, e :: es, h => by
    unfold alike at h
    rw [Bool.and_eq_true] at h
    rw [List.length_cons, List.length_cons, alike_len h.2]
  | [], _ :: _, h => by cases h
  | _ :: _, [], h => by cases h
theorem alike_get : ∀ {ds es : List D} {i : Nat} {d e : D}, alike ds es = true → ds[i]? = some d → es[i]? = some e → sameK d e = true
  | [], _, _, _, _, _, h, _ => by simp at h
  | _ :: _, [], _, _, _, _, _, h => by simp at h
  | a :: ds, b :: es, 0, d, e, h, h1, h2 => by
    unfold alike at h
    rw [Bool.and_eq_true] at h
    have e1 : a = d := by simpa using h1
    have e2 : b = e := by simpa using h2
    rw [← e1, ← e2]
    exact h.1
  | a :: ds, b :: es, i + 1, d, e, h, h1, h2 => by
    unfold alike at h
    rw [Bool.and_eq_true] at h
    exact alike_get (i := i) h.2 (by simpa using h1) (by simpa using h2)
/-- the promise of into -/
def spIn (M : Sm) (n : Nat) : Sp := fun vs H Q _ => ∃ F p qs ds ns v, vs = [.ref p, v] ∧ Same F H ∧ NV M F H p qs ds ∧ RV M F (.lst ns) v ∧ alike ds ns = true ∧ (∀ d ∈ ns, itmD d = true) ∧ ns.length ≤ LIM ∧ ndC ns ≤ n ∧
  ∀ F' H' qs', Same F F' → Same F' H' → (∀ a o, F' a = some o → F a = some o ∨ H a = none) → (∀ b o, H b = some o → b ≠ p → some b ∉ qs → H' b = some o) → (∀ b, H' b = none → H b = none) → (∀ q, some q ∈ qs' → some q ∈ qs ∨ H q = none) → NV M F' H' p qs' ns → Q .non H'
theorem spIn_zero {M : Sm} (vs : List V) (H : Hp) (Q : VK) (E : XK) : ¬ spIn M 0 vs H Q E := fun ⟨F, p, qs, ds, ns, v, _, _, _, _, _, _, _, h, _⟩ => by
  have := ndC_pos ns
  omega
theorem spIn_len {M : Sm} {n : Nat} (vs : List V) (H : Hp) (Q : VK) (E : XK) (h : spIn M n vs H Q E) : vs.length = 2 := by
  obtain ⟨F, p, qs, ds, ns, v, rfl, _⟩ := h
  rfl
theorem NIs.of_get {M : Sm} {F H : Hp} : ∀ {ds : List D} {vs : List V} {qs : List (Option Addr)}, vs.length = ds.length → qs.length = ds.length → (∀ (j : Nat) (d : D) (v : V) (q : Option Addr), ds[j]? = some d → vs[j]? = some v → qs[j]? = some q → NI M F H d v q) → NIs M F H ds vs qs
  | [], vs, qs, h1, h2, _ => ⟨List.length_eq_zero_iff.mp h1, List.length_eq_zero_iff.mp h2⟩
  | d :: ds, v :: vs, q :: qs, h1, h2, h => ⟨v, vs, q, qs, rfl, rfl, h 0 d v q rfl rfl rfl, NIs.of_get (by simpa using h1) (by simpa using h2) fun j d v q a b c => h (j + 1) d v q (by simpa using a) (by simpa using b) (by simpa using c)⟩
  | d :: ds, [], _, h1, _, _ => by simp at h1
  | d :: ds, _ :: _, [], _, h2, _ => by simp at h2
theorem NIs.at {M : Sm} {F H : Hp} {ds : List D} {vs : List V} {qs : List (Option Addr)} {j : Nat} {d : D} {v : V} {q : Option Addr} (h : NIs M F H ds vs qs) (a : ds[j]? = some d) (b : vs[j]? = some v) (c : qs[j]? = some q) : NI M F H d v q := by
  obtain ⟨v', q', e1, e2, r⟩ := h.get a
  rw [b] at e1
  rw [c] at e2
  cases e1
  cases e2
  exact r
/-- one item put at its place, the others kept -/
theorem NIs.put {M : Sm} {F H F' H' : Hp} {ds : List D} {vs : List V} {qs : List (Option Addr)} {i : Nat} {d : D} {v : V} {q : Option Addr} (h : NIs M F H ds vs qs) (s : Same F F') (hn : ∀ (j : Nat) (q : Addr), j ≠ i → qs[j]? = some (some q) → F' q = none ∧ ∀ o, H q = some o → H' q = some o)
    (li : i < qs.length) (r : NI M F' H' d v q) : NIs M F' H' (ds.set i d) (vs.set i v) (qs.set i q) := by
  obtain ⟨l1, l2⟩ := h.len
  refine NIs.of_get (by simp [l1]) (by simp [l2]) fun j d' v' q' a b c => ?_
  by_cases e : j = i
  · subst e
    rw [List.getElem?_set_self (by omega)] at a b c
    cases a
    cases b
    cases c
    exact r
  · rw [List.getElem?_set_ne (Ne.symm e)] at a b c
    have z := h.at a b c
    cases q' with
    | none => exact ⟨z.1, z.2.mono s⟩
    | some q' =>
      obtain ⟨xs, ws, z1, z2, z3, z4, z5, z6⟩ := z
      obtain ⟨y1, y2⟩ := hn j q' e c
      exact ⟨xs, ws, z1, z2, z3, y1, y2 _ z5, z6.mono s⟩
theorem set_take {α : Type} {ds ns : List α} {i : Nat} {d : α} (l : ds.length = ns.length) (h : ns[i]? = some d) : (ns.take i ++ ds.drop i).set i d = ns.take (i + 1) ++ ds.drop (i + 1) := by
  have li : i < ns.length := (List.getElem?_eq_some_iff.mp h).1
  have e : ns[i] = d := (List.getElem?_eq_some_iff.mp h).2
  have lt : (ns.take i).length = i := by rw [List.length_take]; omega
  rw [List.drop_eq_getElem_cons (l := ds) (by omega), List.set_append_right _ _ (by omega), lt, Nat.sub_self, List.set_cons_zero, List.take_succ, h]
  simp
theorem cur_get {α : Type} {ds ns : List α} {i : Nat} (l : ds.length = ns.length) (h : i < ns.length) : (ns.take i ++ ds.drop i)[i]? = ds[i]? := by
  have lt : (ns.take i).length = i := by rw [List.length_take]; omega
  rw [List.getElem?_append_right (by omega), lt, Nat.sub_self, List.getElem?_drop, Nat.add_zero]
end Nt

set_option Elab.async false
set_option linter.all false
set_option maxRecDepth 100000
set_option maxHeartbeats 4000000
/-! Lists changed in place to others as long: the walk. -/
namespace Nt
open PySem PySem.Spec PyProof.Rows L2 LamX
def pIn : E := .and (.o1 (.ist .lst) (.var 3)) (.o2 .eq (.o1 .len (.ix (.var 0) (.var 2))) (.o1 .len (.var 3)))
theorem eqI (a b : Int) : eqD (.int a) (.int b) = some (decide (a = b)) := by
  unfold eqD deq
  rw [toP, toP, PyData.eqv]
  have e : (ok (.int a) && ok (.int b)) = true := rfl
  rw [if_pos e]
  by_cases h : a = b <;> simp [h]
/-- both lists, as long -/
def lenB : D → D → Bool
  | .lst xs, .lst ys => decide ((xs.length : Int) = (ys.length : Int))
  | _, _ => false
theorem lenB_of {d o : D} (h : lenB d o = true) : ∃ xs ys, d = .lst xs ∧ o = .lst ys ∧ xs.length = ys.length := by
  cases d with
  | lst xs =>
    cases o with
    | lst ys =>
      have h : decide ((xs.length : Int) = (ys.length : Int)) = true := h
      rw [decide_eq_true_eq] at h
      exact ⟨xs, ys, rfl, rfl, by omega⟩
    | _ => cases h
  | _ => cases h
theorem ev_pIn {T : Tb} {cl : Nat → List D → Option D} {cur : List D} {i : Nat} {o d : D} (hc : cur[i]? = some d) (hk : sameK d o = true) (ho : itmD o = true) : ev T cl pIn [some (.lst cur), none, some (.int i), some o] = some (.bl (lenB d o)) := by
  have h1 : ev T cl (.o1 (.ist .lst) (.var 3)) [some (.lst cur), none, some (.int i), some o] = some (.bl (ownL o)) := by
    cases o with
    | lst _ => rfl
    | tup _ => rfl
    | int _ => rfl
    | bl _ => rfl
    | non => rfl
    | _ => cases ho
  show (match ev T cl (.o1 (.ist .lst) (.var 3)) [some (.lst cur), none, some (.int i), some o] with
    | some (.bl true) => ev T cl (.o2 .eq (.o1 .len (.ix (.var 0) (.var 2))) (.o1 .len (.var 3))) [some (.lst cur), none, some (.int i), some o]
    | some (.bl false) => some (.bl false)
    | _ => none) = _
  rw [h1]
  cases o with
  | lst ys =>
    cases d with
    | lst xs =>
      have h2 : ixD (.lst cur) (.int i) = some (.lst xs) := atI_nat hc
      show (match (match ixD (.lst cur) (.int i) with | some x => lenD x | none => none) with | some x => (eqD x (.int ys.length)).map D.bl | none => none) = _
      rw [h2]
      show (eqD (.int xs.length) (.int ys.length)).map D.bl = _
      rw [eqI]
      rfl
    | _ => cases hk
  | tup _ => cases d <;> rfl
  | int _ => cases d <;> rfl
  | bl _ => cases d <;> rfl
  | non => cases d <;> rfl
  | _ => cases ho
theorem enum_get : ∀ (ds : List D) (k i : Nat) (d : D), ds[i]? = some d → (enumD k ds)[i]? = some (.tup [.int ((k + i : Nat) : Int), d])
  | [], _, _, _, h => by simp at h
  | z :: ds, k, 0, d, h => by
    have e : z = d := by simpa using h
    subst e
    rfl
  | z :: ds, k, i + 1, d, h => by
    have := enum_get ds (k + 1) i d (by simpa using h)
    rw [show k + 1 + i = k + (i + 1) by omega] at this
    unfold enumD
    simpa using this
theorem enum_len : ∀ (ds : List D) (k : Nat), (enumD k ds).length = ds.length
  | [], _ => rfl
  | z :: ds, k => by
    unfold enumD
    rw [List.length_cons, List.length_cons, enum_len ds]
theorem set_self {α : Type} {vs : List α} {i : Nat} {v : α} (h : vs[i]? = some v) : vs.set i v = vs := by
  refine List.ext_getElem? fun j => ?_
  by_cases e : j = i
  · subst e
    rw [List.getElem?_set_self (List.getElem?_eq_some_iff.mp h).1, h]
  · rw [List.getElem?_set_ne (Ne.symm e)]
theorem ixN_own {n j : Nat} (hj : j < n) : ixN n (j : Int) = some j := by
  unfold ixN
  rw [if_pos (by omega), if_pos (by omega)]
  simp
theorem leaf_itm {d : D} (h : leafD d = true) : itmD d = true := by
  cases d with
  | lst _ => cases h
  | _ => exact h
theorem flat_notlst {d : D} (h : flat d = true) : ownL d = false := by
  cases d with
  | lst _ => cases h
  | _ => rfl
theorem sameK_flat {d e : D} (h : ownL d = false) (h2 : ownL e = false) : sameK d e = true := by
  cases d with
  | lst _ => cases h
  | _ => cases e with
    | lst _ => cases h2
    | _ => rfl
theorem alike_flat : ∀ {xs ys : List D}, flats xs = true → ys.all leafD = true → xs.length = ys.length → alike xs ys = true
  | [], [], _, _, _ => rfl
  | [], _ :: _, _, _, h => by simp at h
  | _ :: _, [], _, _, h => by simp at h
  | x :: xs, y :: ys, h1, h2, h3 => by
    unfold flats at h1
    rw [Bool.and_eq_true] at h1
    rw [List.all_cons, Bool.and_eq_true] at h2
    unfold alike
    rw [alike_flat h1.2 h2.2 (by simpa using h3), sameK_flat (flat_notlst h1.1) (flat_notlst (leaf_flat h2.1))]
    rfl
/-- where the i-th item stands -/
theorem NIs.addr {M : Sm} {F H : Hp} {ds : List D} {vs : List V} {qs : List (Option Addr)} {j : Nat} {q : Addr} (h : NIs M F H ds vs qs) (c : qs[j]? = some (some q)) : F q = none ∧ ∃ ws, H q = some (.lst ws) := by
  obtain ⟨l1, l2⟩ := h.len
  have lj : j < qs.length := (List.getElem?_eq_some_iff.mp c).1
  obtain ⟨v, q', e1, e2, r⟩ := h.get (List.getElem?_eq_getElem (l := ds) (i := j) (by omega))
  rw [c] at e2
  cases e2
  obtain ⟨xs, ws, z1, z2, z3, z4, z5, z6⟩ := r
  exact ⟨z4, ws, z5⟩
theorem new_none {F H F' : Hp} {a : Addr} (n : ∀ a o, F' a = some o → F a = some o ∨ H a = none) (f : F a = none) (h : H a ≠ none) : F' a = none := by
  cases e : F' a with
  | none => rfl
  | some o =>
    rcases n a o e with z | z
    · rw [f] at z
      cases z
    · exact absurd z h
def tIn (M : Sm) (n : Nat) : TS := fun Dn σ H => ∃ p v, 4 ≤ σ.length ∧ σ[0]? = some (some (.ref p)) ∧ σ[1]? = some (some v) ∧ spIn M (n + 1) [.ref p, v] H (fun _ H' => ∀ σ', Dn.nx σ' H') (fun _ _ _ => False)
theorem in_rd {M : Sm} {n : Nat} {N : List Str} (hN : N.length = 4) (vs : List V) (H : Hp) (Q : VK) (E : XK) (h : spIn M (n + 1) vs H Q E) : tIn M n { nx := fun _ H' => Q .non H', rt := Q } (L2.start N vs) H := by
  obtain ⟨F, p, qs, ds, ns, v, rfl, h⟩ := h
  refine ⟨p, v, ?_, rfl, rfl, F, p, qs, ds, ns, v, rfl, ?_⟩
  · unfold L2.start
    simp [hN]
  · obtain ⟨a1, a2, a3, a4, a5, a6, a7, k⟩ := h
    exact ⟨a1, a2, a3, a4, a5, a6, a7, fun F' H' qs' b1 b2 b3 b4 b5 b7 b6 _ => k F' H' qs' b1 b2 b3 b4 b5 b7 b6⟩
section
variable {W : Wd} {X : Cx}
theorem in_ps {tg iter test callE : Expr} {setSt : Stmt} {pos p2 p3 : Pos} {kc n : Nat} (g : Gd W X) (hW : W.n = n) (hcopy : 2 ≤ n → ∀ d, leafD d = true → run W.T W.n kc [d] = some d)
    (hi : DR W true X tg iter (.en (.var 1))) (hg : PG X tg (gT X.K (.many [2, 3]))) (ht : DT W X test pIn)
    (hc : PE X callE (tCall (spIn (sm X W) n) [] (fun _ _ _ => False) (tCons (tOp (rIx2 X.K) (tVar 0) (tVar 2)) (tCons (tVar 3) tNil))))
    (hs : PS X setSt (tAsg (fun σ H Q => tP (sm X W) W (.call kc (.cons (.var 3) .nil)) σ H Q ∨ tCall (spCL (sm X W) n) [] (fun _ _ _ => False) (tCons (tVar 3) tNil) σ H Q) (gSub (tVar 0) (tB (sm X W) W (.var 2)) rSetL)))
    (hsw : swapsWith callE none p3.line X.env = pure false := by rfl) (hf : ∀ x, foldedSetIterable iter X.env x = pure x := by intro _; rfl) : PSs X [.For tg iter [.If test [.Expr callE p3] [setSt] p2] [] pos] (tIn (sm X W) n) := by
  have hp : PassesOwn (model X.prog X.w) X.A X.env X.xe := by rw [g.nox]; exact PassesOwn.never
  refine PSs.imp (pss_one (ps_for hp g.calm hi hg (pss_one (ps_if ht (pss_one (ps_expr hc hsw)) (pss_one hs))) hf)) fun Dn σ H ⟨p, v, sl, h0, h1, F, p', qs, ds, ns, v', ev, s, nv, rv, al, hit, hl, hn, k⟩ => ?_
  cases ev
  have ll := alike_len al
  refine ⟨F, [none, some (.lst ns)], enumD 0 ns, s, ⟨by show 2 ≤ σ.length; omega, fun i d e => ?_⟩, fun i m d e => ?_, rfl, fun J F1 H1 x1 Y => ?_⟩
  · match i, e with
    | 0, e => cases e
    | 1, e => cases e; exact ⟨v, h1, rv.rs s⟩
    | i + 2, e => cases e
  · match i, e with
    | 0, e => cases e
    | 1, e => cases e; exact ⟨v, h1, rv⟩
    | i + 2, e => cases e
  have nv1 := nv.mono x1
  refine ⟨fun i m σ3 H3 => m = ns.length - i ∧ i ≤ ns.length ∧ 4 ≤ σ3.length ∧ σ3[0]? = some (some (.ref p)) ∧ ∃ F3 qs3, Same F1 F3 ∧ Same F3 H3 ∧ (∀ a o, F3 a = some o → F1 a = some o ∨ H1 a = none) ∧ (∀ b o, H1 b = some o → b ≠ p → some b ∉ qs → H3 b = some o) ∧ (∀ b, H3 b = none → H1 b = none) ∧ (∀ q, some q ∈ qs3 → some q ∈ qs ∨ H1 q = none) ∧ NV (sm X W) F3 H3 p qs3 (ns.take i ++ ds.drop i),
    ⟨ns.length, by simp, Nat.zero_le _, sl, h0, F1, qs, Same.refl _, x1.s, fun a o e => .inl e, fun b o e _ _ => e, fun b e => e, fun q m => .inl m, by rw [List.take_zero, List.drop_zero]; exact nv1⟩, ?_⟩
  rintro i m σ3 H3 ⟨rfl, hle, sl3, s30, F3, qs3, s13, s3, n3, k3, e3, m3, nv3⟩
  by_cases hlt : i < ns.length
  · have gn : ns[i]? = some ns[i] := List.getElem?_eq_getElem hlt
    have gd : ds[i]? = some ds[i] := List.getElem?_eq_getElem (by omega)
    have hk := alike_get al gd gn
    have hio := hit _ (List.getElem_mem hlt)
    have ge := enum_get ns 0 i _ gn
    rw [Nat.zero_add] at ge
    obtain ⟨go, yl⟩ := Y.item i _ F3 H3 s13 (s13.trans s3) s3 ge
    refine .inr ⟨go, fun σ' H' => i + 1 ≤ ns.length ∧ 4 ≤ σ'.length ∧ σ'[0]? = some (some (.ref p)) ∧ ∃ F3 qs3, Same F1 F3 ∧ Same F3 H' ∧ (∀ a o, F3 a = some o → F1 a = some o ∨ H1 a = none) ∧ (∀ b o, H1 b = some o → b ≠ p → some b ∉ qs → H' b = some o) ∧ (∀ b, H' b = none → H1 b = none) ∧ (∀ q, some q ∈ qs3 → some q ∈ qs ∨ H1 q = none) ∧ NV (sm X W) F3 H' p qs3 (ns.take (i + 1) ++ ds.drop (i + 1)),
      fun σ' H' ⟨a1, a2⟩ => ⟨ns.length - (i + 1), by omega, rfl, a1, a2⟩, fun x5 H5 y5 => ?_⟩
    obtain ⟨F5, xx, rx⟩ := yl x5 H5 y5
    obtain ⟨ta, txs, rfl, hta, u1, r1, rfl, hu1, u2, r2, rfl, hu2, hr2⟩ := rx
    obtain rfl : r2 = [] := hr2
    obtain rfl : u1 = V.int i := hu1
    refine ⟨ta, _, rfl, Same.sqt xx.s hta, rfl, ?_⟩
    obtain ⟨σ5, hσ5⟩ : ∃ σ5, (σ3.set 2 (some (V.int i))).set 3 (some u2) = σ5 := ⟨_, rfl⟩
    have l5 : 4 ≤ σ5.length := by rw [← hσ5]; simpa using sl3
    have s50 : σ5[0]? = some (some (.ref p)) := by rw [← hσ5, List.getElem?_set_ne (by decide), List.getElem?_set_ne (by decide)]; exact s30
    have s52 : σ5[2]? = some (some (V.int i)) := by rw [← hσ5, List.getElem?_set_ne (by decide), List.getElem?_set_self (by omega)]
    have s53 : σ5[3]? = some (some u2) := by rw [← hσ5, List.getElem?_set_self (by simpa using (show 3 < σ3.length by omega))]
    show tIfS _ _ _ _ ((σ3.set 2 (some (V.int i))).set 3 (some u2)) H5
    rw [hσ5]
    have nv5 := nv3.mono xx
    have cg : (ns.take i ++ ds.drop i)[i]? = some ds[i] := by rw [cur_get ll hlt]; exact gd
    refine ⟨H5, [some (.lst (ns.take i ++ ds.drop i)), none, some (.int i), some ns[i]], lenB ds[i] ns[i], Same.refl _, ⟨l5, fun j d e => ?_⟩, ev_pIn cg hk hio, fun H6 t6 => ?_⟩
    · match j, e with
      | 0, e => cases e; exact ⟨_, s50, RV.rs (Same.refl _) (nv5.full xx.s)⟩
      | 1, e => cases e
      | 2, e => cases e; exact ⟨_, s52, rfl⟩
      | 3, e => cases e; exact ⟨_, s53, RV.rs (Same.refl _) (hu2.mono xx.s)⟩
      | j + 4, e => cases e
    have nv6 := nv5.mono (Ext.grow xx.s t6)
    have x56 : Ext F3 H3 F5 H6 := xx.trans (Ext.grow xx.s t6)
    obtain ⟨vs, hpv, nis⟩ := nv6.ex
    obtain ⟨lv, lq⟩ := nis.len
    have lc : (ns.take i ++ ds.drop i).length = ns.length := by rw [List.length_append, List.length_take, List.length_drop]; omega
    obtain ⟨w, qo, gw, gq, hni⟩ := nis.get cg
    have base : ∀ F7 H7 (vi : V) (q7 : Option Addr), Same F5 F7 → Same F7 H7 → (∀ a o, F7 a = some o → F5 a = some o ∨ H6 a = none) → (∀ b o, H6 b = some o → b ≠ p → qo ≠ some b → H7 b = some o) → (∀ b, H7 b = none → H6 b = none) → H7 p = some (.lst (vs.set i vi)) → (∀ q, q7 = some q → qo = some q ∨ H6 q = none) → NI (sm X W) F7 H7 ns[i] vi q7 →
        i + 1 ≤ ns.length ∧ 4 ≤ σ5.length ∧ σ5[0]? = some (some (.ref p)) ∧ ∃ F3 qs3, Same F1 F3 ∧ Same F3 H7 ∧ (∀ a o, F3 a = some o → F1 a = some o ∨ H1 a = none) ∧ (∀ b o, H1 b = some o → b ≠ p → some b ∉ qs → H7 b = some o) ∧ (∀ b, H7 b = none → H1 b = none) ∧ (∀ q, some q ∈ qs3 → some q ∈ qs ∨ H1 q = none) ∧ NV (sm X W) F3 H7 p qs3 (ns.take (i + 1) ++ ds.drop (i + 1)) := by
      intro F7 H7 vi q7 a1 a2 a3 a4 a5 a6 a8 a7
      have h61 : ∀ b, H6 b = none → H1 b = none := fun b z => e3 _ (x56.h.free z)
      have mo : ∀ q, qo = some q → some q ∈ qs3 := fun q z => by rw [← z]; exact List.mem_of_getElem? gq
      have li : i < qs3.length := (List.getElem?_eq_some_iff.mp gq).1
      have old : ∀ (j : Nat) (q : Addr), qs3[j]? = some (some q) → H6 q ≠ none := fun j q c => by
        obtain ⟨_, ws, z⟩ := nis.addr c
        rw [z]
        exact fun z => by cases z
      refine ⟨hlt, l5, s50, F7, qs3.set i q7, (s13.trans x56.f).trans a1, a2, fun a o e => ?_, fun b o e b1 b2 => ?_, fun b e => h61 _ (a5 b e), fun q m => ?_, ⟨vs.set i vi, a6, ?_⟩, ?_, fun q m => ?_, fun j k q c1 c2 => ?_⟩
      · rcases a3 a o e with z | z
        · rcases x56.n a o z with z | z
          · exact n3 a o z
          · exact .inr (e3 _ z)
        · exact .inr (h61 _ z)
      · refine a4 b o (x56.h _ _ (k3 b o e b1 b2)) b1 fun z => ?_
        rcases m3 b (mo b z) with z | z
        · exact b2 z
        · rw [z] at e
          cases e
      · rcases List.mem_or_eq_of_mem_set m with m | m
        · exact m3 q m
        · rcases a8 q m.symm with z | z
          · exact m3 q (mo q z)
          · exact .inr (h61 _ z)
      · rw [← set_take ll gn]
        refine NIs.put nis a1 (fun j q nj gj => ?_) li a7
        obtain ⟨z1, ws, z2⟩ := nis.addr gj
        refine ⟨new_none a3 z1 (by rw [z2]; exact fun z => by cases z), fun o e => a4 q o e (nv6.ne q (List.mem_of_getElem? gj)) fun z => nj (nv6.inj j i q gj (by rw [gq, z]))⟩
      · exact new_none a3 nv6.fp (by rw [hpv]; exact fun z => by cases z)
      · rcases List.mem_or_eq_of_mem_set m with m | m
        · exact nv6.ne q m
        · rcases a8 q m.symm with z | z
          · exact nv6.ne q (mo q z)
          · exact fun y => by rw [y, hpv] at z; cases z
      · have key : ∀ (j : Nat), j ≠ i → qs3[j]? = some (some q) → q7 = some q → False := fun j nj c z => by
          rcases a8 q z with z | z
          · exact nj (nv6.inj j i q c (by rw [gq, z]))
          · exact old j q c z
        by_cases ej : j = i <;> by_cases ek : k = i
        · rw [ej, ek]
        · rw [ej, List.getElem?_set_self li] at c1
          rw [List.getElem?_set_ne (Ne.symm ek)] at c2
          exact (key k ek c2 (Option.some.inj c1)).elim
        · rw [ek, List.getElem?_set_self li] at c2
          rw [List.getElem?_set_ne (Ne.symm ej)] at c1
          exact (key j ej c1 (Option.some.inj c2)).elim
        · rw [List.getElem?_set_ne (Ne.symm ej)] at c1
          rw [List.getElem?_set_ne (Ne.symm ek)] at c2
          exact nv6.inj j k q c1 c2
    have n4 : ∀ ys, ns[i] = .lst ys → ndC ns = 4 := fun ys hns => by
      unfold ndC
      rw [if_neg]
      intro z
      have := List.all_eq_true.mp z _ (List.getElem_mem hlt)
      rw [hns] at this
      cases this
    have env2 : ∀ (F H : Hp) (H' : Hp), EnvS (sm X W) F H [none, none, some (.int i)] σ5 := fun F H H' => ⟨by show 3 ≤ σ5.length; omega, fun j d e => by
      match j, e with
      | 0, e => cases e
      | 1, e => cases e
      | 2, e => cases e; exact ⟨_, s52, rfl⟩
      | j + 3, e => cases e⟩
    -- a value put at its place
    have put : ∀ F7 H7 (y : V) (q7 : Option Addr) w8 H8, Ext F5 H6 F7 H7 → Same H7 H8 → (∀ q, q7 = some q → H6 q = none) → (∀ H9, (∀ b o, b ≠ p → H8 b = some o → H9 b = some o) → NI (sm X W) F7 H9 ns[i] y q7) → w8 = V.int i →
        ∃ (q : Addr) (us : List V) (z : Int) (j : Nat), V.ref p = V.ref q ∧ w8 = .int z ∧ H8 q = some (.lst us) ∧ ixN us.length z = some j ∧ (i + 1 ≤ ns.length ∧ 4 ≤ σ5.length ∧ σ5[0]? = some (some (.ref p)) ∧ ∃ F3 qs3, Same F1 F3 ∧ Same F3 (upd H8 q (.lst (us.set j y))) ∧ (∀ a o, F3 a = some o → F1 a = some o ∨ H1 a = none) ∧ (∀ b o, H1 b = some o → b ≠ p → some b ∉ qs → (upd H8 q (.lst (us.set j y))) b = some o) ∧ (∀ b, (upd H8 q (.lst (us.set j y))) b = none → H1 b = none) ∧ (∀ q, some q ∈ qs3 → some q ∈ qs ∨ H1 q = none) ∧ NV (sm X W) F3 (upd H8 q (.lst (us.set j y))) p qs3 (ns.take (i + 1) ++ ds.drop (i + 1))) := by
      intro F7 H7 y q7 w8 H8 x7 t8 hq7 hni7 hw
      have hp8 : H8 p = some (.lst vs) := t8 _ _ (x7.h _ _ hpv)
      have f7p : F7 p = none := new_none x7.n nv6.fp (by rw [hpv]; exact fun z => by cases z)
      refine ⟨p, vs, i, i, rfl, hw, hp8, ixN_own (by omega), base F7 (upd H8 p (.lst (vs.set i y))) y q7 x7.f (fun b o e => ?_) x7.n (fun b o e b1 _ => ?_) (fun b e => ?_) upd_same (fun q z => .inr (hq7 q z)) (hni7 _ fun b o b1 e => by rw [upd_ne b1]; exact e)⟩
      · rw [upd_ne (ne_of_none e f7p)]
        exact t8 _ _ (x7.s _ _ e)
      · rw [upd_ne b1]
        exact t8 _ _ (x7.h _ _ e)
      · by_cases z : b = p
        · rw [z, upd_same] at e
          cases e
        · rw [upd_ne z] at e
          exact x7.h.free (t8.free e)
    by_cases ol : lenB ds[i] ns[i] = true
    · rw [ol]
      refine iteT ?_
      obtain ⟨xs, ys, hds, hns, hxy⟩ := lenB_of ol
      rw [hns] at hk hio hu2
      rw [hds] at hk hni
      have hio : (ys.all leafD && decide (ys.length ≤ LIM)) = true := hio
      rw [Bool.and_eq_true] at hio
      cases qo with
      | none => exact absurd hni.1 (by intro z; cases z)
      | some q =>
        obtain ⟨xs', ws, z1, z2, rfl, z4, z5, z6⟩ := hni
        cases z1
        have n4 := n4 ys hns
        have n3' : ndC ys = 3 := by unfold ndC; rw [if_pos hio.1]
        have npq : p ≠ q := fun z => nv6.ne q (List.mem_of_getElem? gq) z.symm
        refine ⟨.ref p, s50, .int i, s52, .inl ⟨p, vs, i, .ref q, rfl, rfl, SqL.of hpv, atI_nat gw, u2, s53, F5, q, xs.map fun _ => none, xs, ys, u2, rfl, x56.s, ⟨⟨ws, z5, NIs.of_flat z2 z6⟩, z4, fun q m => ?_, fun i j q h => ?_⟩, hu2, alike_flat z2 hio.1 hxy, fun d m => leaf_itm (List.all_eq_true.mp hio.1 d m), of_decide_eq_true hio.2, by omega, fun F7 H7 qs7 a1 a2 a3 a4 a5 a8 a6 => ?_⟩⟩
        · obtain ⟨_, _, z⟩ := List.mem_map.mp m
          cases z
        · rw [List.getElem?_map] at h
          obtain ⟨_, _, z⟩ := Option.map_eq_some_iff.mp h
          cases z
        · obtain ⟨ws7, y1, y2⟩ := a6.ex
          obtain ⟨y3, _⟩ := NIs.flat (leafs_flats hio.1) y2
          have nm : ∀ b, some b ∉ xs.map fun _ => (none : Option Addr) := fun b m => by
            obtain ⟨_, _, z⟩ := List.mem_map.mp m
            cases z
          refine base F7 H7 (.ref q) (some q) a1 a2 a3 (fun b o e b1 b2 => a4 b o e (fun z => b2 (by rw [z])) (nm b)) a5 (by rw [set_self gw]; exact a4 p _ hpv npq (nm p)) (fun q z => .inl z) ?_
          rw [hns]
          exact ⟨ys, ws7, rfl, leafs_flats hio.1, rfl, a6.fp, y1, y3⟩
    · have ol : lenB ds[i] ns[i] = false := by simpa using ol
      rw [ol]
      refine iteF ?_
      by_cases ow : ownL ns[i] = true
      · cases hns : ns[i] with
        | lst ys =>
          rw [hns] at hio hu2
          have hio : (ys.all leafD && decide (ys.length ≤ LIM)) = true := hio
          rw [Bool.and_eq_true] at hio
          have n4 := n4 ys hns
          have n3' : ndC ys = 3 := by unfold ndC; rw [if_pos hio.1]
          refine .inr ⟨u2, s53, F5, ys, u2, rfl, x56.s, hu2, fun d m => leaf_itm (List.all_eq_true.mp hio.1 d m), of_decide_eq_true hio.2, by omega, fun F7 H7 q7 qs7 x7 nv7 hq7 _ => ⟨.ref p, s50, F7, [none, none, some (.int i)], .int i, x7.s, env2 F7 H7 H7, rfl, fun w8 H8 t8 r8 => put F7 H7 (.ref q7) (some q7) w8 H8 x7 t8 (fun q z => by cases z; exact hq7) (fun H9 k9 => ?_) r8⟩⟩
          obtain ⟨ws7, y1, y2⟩ := nv7.ex
          obtain ⟨y3, _⟩ := NIs.flat (leafs_flats hio.1) y2
          rw [hns]
          exact ⟨ys, ws7, rfl, leafs_flats hio.1, rfl, nv7.fp, k9 _ _ (fun z => by rw [z, hpv] at hq7; cases hq7) (t8 _ _ y1), y3⟩
        | _ =>
          rw [hns] at ow
          cases ow
      · have ow : ownL ns[i] = false := by simpa using ow
        have lf : leafD ns[i] = true := by
          cases hns : ns[i] with
          | lst ys => rw [hns] at ow; cases ow
          | _ => rw [hns] at hio; exact hio
        have h2 : 2 ≤ n := by
          have := ndC_pos ns
          omega
        refine .inl ⟨F5, [none, none, none, some ns[i]], ns[i], x56.s, ⟨l5, fun j d e => ?_⟩, fun j mj d e => ?_, ?_, fun y F7 H7 x7 r7 => ⟨.ref p, s50, F7, [none, none, some (.int i)], .int i, x7.s, env2 F7 H7 H7, rfl, fun w8 H8 t8 r8 => put F7 H7 y none w8 H8 x7 t8 (fun q z => by cases z) (fun H9 k9 => ⟨leaf_flat lf, r7⟩) r8⟩⟩
        · match j, e with
          | 0, e => cases e
          | 1, e => cases e
          | 2, e => cases e
          | 3, e => cases e; exact ⟨u2, s53, hu2.rs x56.s⟩
          | j + 4, e => cases e
        · match j, e with
          | 0, e => cases e
          | 1, e => cases e
          | 2, e => cases e
          | 3, e => cases e; exact ⟨u2, s53, hu2⟩
          | j + 4, e => cases e
        · show run W.T W.n kc [ns[i]] = some ns[i]
          exact hcopy h2 _ lf
  · have e : i = ns.length := by omega
    subst e
    rw [List.take_length, List.drop_eq_nil_of_le (by omega), List.append_nil] at nv3
    refine .inl ⟨Y.stop _ F3 H3 s13 (s13.trans s3) s3 (by rw [enum_len]; exact Nat.le_refl _), ?_⟩
    exact k F3 H3 qs3 (x1.f.trans s13) s3 (fun a o e => (n3 a o e).elim (fun z => (x1.n a o z)) fun z => .inr (x1.h.free z)) (fun b o e b1 b2 => k3 b o (x1.h _ _ e) b1 b2) (fun b e => x1.h.free (e3 b e)) (fun q m => (m3 q m).imp_right fun z => x1.h.free z) nv3 σ3
end
end Nt

set_option Elab.async false
set_option linter.all false
set_option maxRecDepth 100000
set_option maxHeartbeats 4000000
/-! A def whose list is its own from the start. -/
namespace Nt
open PySem PySem.Spec PyProof.Rows L2 LamX
/-- the promise of a def that changes its list -/
def spO (M : Sm) (T : Tb) (n k : Nat) : Sp := fun vs H Q _ => ∃ F r xs ws, vs = [.ref r] ∧ Same F H ∧ F r = none ∧ H r = some (.lst ws) ∧ RVs M F xs ws ∧ run T n k [.lst xs] = some .non ∧ ∀ H', (∀ b o, H b = some o → b ≠ r → H' b = some o) → Q .non H'
theorem spO_zero {M : Sm} {T : Tb} {k : Nat} (vs : List V) (H : Hp) (Q : VK) (E : XK) : ¬ spO M T 0 k vs H Q E := fun ⟨F, r, xs, ws, _, _, _, _, _, h, _⟩ => by cases h
theorem spO_len {M : Sm} {T : Tb} {n k : Nat} (vs : List V) (H : Hp) (Q : VK) (E : XK) (h : spO M T n k vs H Q E) : vs.length = 1 := by
  obtain ⟨F, r, xs, ws, rfl, _⟩ := h
  rfl
open Classical in
noncomputable def mn1 (H : Hp) (r : Addr) : Hp := fun a => if a = r then none else H a
theorem mn1_same {H : Hp} {r : Addr} : Same (mn1 H r) H := fun a o e => by
  unfold mn1 at e
  split at e
  · cases e
  · exact e
theorem mn1_at {H : Hp} {r : Addr} : mn1 H r r = none := if_pos rfl
theorem mn1_ne {H : Hp} {r a : Addr} (h : a ≠ r) : mn1 H r a = H a := if_neg h
theorem fn_okO {ca : Nat → Addr} {T : Tb} {P : Program} {w : World} {K : PySem.W.Frag} {mg : Str → Option Value} {base : Heap} {x qual : Str} {st : Stmt} {f : Addr} {fd : FuncData} {N ps : List Str} {n k : Nat} {fn : Fn} {own' : List Nat} (Fu : Fun K x qual st f fd) (S : FnScope N ps (defScope st))
    (hfn : T.fns[k]? = some fn) (hps : ps.length = 1) (hnp : fn.np = 1) (hns : decide (fn.ns ≤ N.length ∧ fn.np ≤ fn.ns) = true)
    (body : ∀ (cdv : Value) (A : Around) (outer : List PySem.Env) (s : Shared) (H : Hp) (E : XK), Gd ⟨ca, { T with lv := n }⟩ (cxOf CX0 P w K mg base N qual (defScope st) f cdv A outer s H E).nox →
      DSs ⟨ca, { T with lv := n }⟩ (cxOf CX0 P w K mg base N qual (defScope st) f cdv A outer s H E).nox fn.fr [0] own' (defBody st) fn.body) : FnOk P w K mg base CX0 (n + 1) f fd ps (spO ⟨K, ca, T.cn⟩ T (n + 1) k) := by
  refine Fu.ok S (fun vs H Q E h => (spO_len vs H Q E h).trans hps.symm) fun cdv A outer s H vs Q E hr h => ⟨_, body cdv A outer s H E ⟨rfl, hr, rfl⟩, ?_⟩
  obtain ⟨F, r, xs, ws, rfl, s1, fr, hrr, rv, ev, q⟩ := h
  have hns := of_decide_eq_true hns
  unfold run at ev
  rw [hfn] at ev
  have e1 : ([D.lst xs] : List D).length = fn.np := hnp.symm
  simp only [e1, if_true] at ev
  have hlv : run { T with lv := n } n = run T n := by funext k ds; exact run_lv T n n k ds
  have g0 : ∀ i d, gt (([D.lst xs] : List D).map some ++ List.replicate (fn.ns - fn.np) none) i = some d → i = 0 ∧ d = .lst xs := fun i d e => by
    cases i with
    | zero => cases e; exact ⟨rfl, rfl⟩
    | succ i =>
      unfold gt at e
      rw [List.getElem?_append_right (by simp), List.getElem?_replicate] at e
      split at e
      · rename_i o hx
        split at hx
        · cases hx; cases e
        · cases hx
      · cases e
  have J : SJ ⟨K, ca, T.cn⟩ F F (mn1 H r) (fun _ => some r) F [0] (([D.lst xs] : List D).map some ++ List.replicate (fn.ns - fn.np) none) (L2.start N [V.ref r]) H := by
    refine ⟨Same.refl _, ⟨Same.refl _, mn1_same, s1, fun _ _ e => .inl e⟩, fun j m p e => ?_, fun i mi j mj n => ?_, ?_, fun i d e m => ?_, fun i d e m => ?_⟩
    · cases e
      exact ⟨fr, mn1_at, by rw [hrr]; exact fun z => by cases z⟩
    · rw [List.mem_singleton.mp mi, List.mem_singleton.mp mj] at n
      exact absurd rfl n
    · unfold L2.start
      simp only [List.length_append, List.length_map, List.length_replicate, List.length_cons, List.length_nil]
      omega
    · exact absurd (List.mem_singleton.mpr (g0 i d e).1) m
    · obtain ⟨rfl, rfl⟩ := g0 i d e
      exact ⟨.ref r, rfl, rfl, ws, hrr, rv⟩
  have fin : ∀ H', Same (mn1 H r) H' → Q .non H' := fun H' t => q H' fun b o e nb => t b o (by rw [mn1_ne nb]; exact e)
  cases hx : exs { T with lv := n } (run T n) fn.body (([D.lst xs] : List D).map some ++ List.replicate (fn.ns - fn.np) none) with
  | none => rw [hx] at ev; cases ev
  | some fl =>
    rw [hx] at ev
    refine ⟨F, F, mn1 H r, fun _ => some r, F, _, fl, J, by show exs { T with lv := n } (run { T with lv := n } n) fn.body _ = _; rw [hlv]; exact hx, ?_⟩
    cases fl with
    | nx env' =>
      intro O' F' σ' H' j'
      exact fin H' j'.x.h
    | rt d' =>
      cases ev
      intro v F' H' xx rr
      obtain ⟨F2, _, _, r2⟩ := rr.plain xx
      obtain rfl : v = V.non := r2
      exact fin H' xx.h
end Nt

set_option Elab.async false
set_option linter.all false
set_option maxRecDepth 100000
set_option maxHeartbeats 4000000
/-! One door asked behind changes in place: the walk. -/
namespace Nt
open PySem PySem.Spec PyProof.Rows L2 LamX
abbrev E0 : XK := fun _ _ _ => False
/-- what is asked of one row at a door -/
structure okA (T : Tb) (n kc ks ko : Nat) (l : LmD) (d : List D) (r : D) : Prop where
  it : ∀ x ∈ d, itmD x = true
  ln : d.length ≤ LIM
  nd : ndC d ≤ n
  cp : run T n kc [.lst d] = some (.lst d)
  eq : eqD (.lst d) (.lst d) = some true
  fn : ∃ fn, T.fns[l.k]? = some fn ∧ fn.np = 1 ∧ (fn.fr = true ∨ notL r = true)
  rn : run T n l.k [.lst d] = some r
  rc : run T n kc [r] = some r
  re : eqD r r = some true
  sp : (∃ xs, r = .lst xs ∧ run T n ko [r] = some .non) ∨ (notL r = true ∧ run T n ks [r] = some .non)
theorem okA.lv {T : Tb} {n kc ks ko : Nat} {l : LmD} {d : List D} {r : D} (h : okA T n kc ks ko l d r) : okA { T with lv := n } n kc ks ko l d r :=
  ⟨h.it, h.ln, h.nd, by rw [run_lv]; exact h.cp, h.eq, h.fn, by rw [run_lv]; exact h.rn, by rw [run_lv]; exact h.rc, h.re, by simp only [run_lv]; exact h.sp⟩
/-- the lambda of slot i, asked -/
def tAsk (M : Sm) (T : Tb) (n : Nat) (ls : List LmD) (i : Nat) (te : TE) : TE := fun σ H Q => ∃ l ∈ ls, ∃ f c, σ[i]? = some (some (.ref f)) ∧ H f = some (LmO f c l) ∧ te σ H fun v H1 => H1 f = some (LmO f c l) ∧ H1 c = some (CodeO c l.qual) ∧ spD M T n l.k [v] H1 Q E0
theorem pe_asks {X : Cx} {ca : Nat → Addr} {T : Tb} {ls : List LmD} {n i : Nat} {xn : Str} {e : Expr} {te : TE} {pp pos : Pos} (LA : ∀ l ∈ ls, LmAt ca T X.prog X.w X.K X.mg X.base n l) (hr : Room n X.A) (hN : X.N[i]? = some xn) (hv : Vis X.env.scope xn) (he : PE X e te) (hd : (xn == ("__debug__" : Str)) = false := by decide) (hcd : (xn == ("__classdict__" : Str)) = false := by decide)
    (hst : starEach [e] X.env = (false, eval e X.env) :: starEach [] X.env := by rfl) (hpl : (backTo pos (starEach [] X.env)).any (·.1) = false := by rfl) :
    PE X (.Call (.Name xn pp) [e] [] pos) (tAsk ⟨X.K, ca, T.cn⟩ T n ls i te) :=
  ⟨fun pins s σ H Q I ⟨l, m, h⟩ => (pe_ask (LA l m) hr hN hv he hd hcd hst hpl).run pins s σ H Q I h⟩
/-- how things stand at the door -/
structure DrS (M : Sm) (H0 : Hp) (l : LmD) (d1 d2 : List D) (f c p t : Addr) (qs : List (Option Addr)) (v1 v2 : V) (cur dl : List D) (F : Hp) (σ : L2.St) (H : Hp) : Prop where
  s : Same F H
  h0 : Same H0 H
  len : 9 ≤ σ.length
  s0 : σ[0]? = some (some (.ref f))
  s1 : σ[1]? = some (some v1)
  s2 : σ[2]? = some (some v2)
  s4 : σ[4]? = some (some (.ref p))
  s5 : σ[5]? = some (some (.ref t))
  lf : F f = some (LmO f c l)
  lc : F c = some (CodeO c l.qual)
  r1 : RV M F (.lst d1) v1
  r2 : RV M F (.lst d2) v2
  nv : NV M F H p qs cur
  tl : ∃ vs, H t = some (.lst vs) ∧ RVs M F dl vs
  ft : F t = none
  tp : t ≠ p
  tq : some t ∉ qs
  p0 : H0 p = none
  q0 : ∀ q, some q ∈ qs → H0 q = none
  t0 : H0 t = none
section
variable {M : Sm} {H0 : Hp} {l : LmD} {d1 d2 : List D} {f c p t : Addr} {qs : List (Option Addr)} {v1 v2 : V} {cur cur' dl : List D} {F F' : Hp} {σ σ' : L2.St} {H H' : Hp}
theorem DrS.mv {qs' : List (Option Addr)} (h : DrS M H0 l d1 d2 f c p t qs v1 v2 cur dl F σ H) (s : Same F F') (s' : Same F' H') (n : ∀ a o, F' a = some o → F a = some o ∨ H a = none) (k : ∀ b o, H b = some o → b ≠ p → some b ∉ qs → H' b = some o) (m : ∀ q, some q ∈ qs' → some q ∈ qs ∨ H q = none) (nv : NV M F' H' p qs' cur') :
    DrS M H0 l d1 d2 f c p t qs' v1 v2 cur' dl F' σ H' := by
  obtain ⟨vs, e1, e2⟩ := h.tl
  exact ⟨s', fun b o e => k b o (h.h0 _ _ e) (fun z => by rw [z, h.p0] at e; cases e) (fun z => by rw [h.q0 b z] at e; cases e), h.len, h.s0, h.s1, h.s2, h.s4, h.s5, s _ _ h.lf, s _ _ h.lc, h.r1.mono s, h.r2.mono s, nv,
    ⟨vs, k t _ e1 h.tp h.tq, e2.mono s⟩, new_none n h.ft (by rw [e1]; exact fun z => by cases z), h.tp, fun z => (m t z).elim h.tq (fun y => by rw [e1] at y; cases y), h.p0, fun q z => (m q z).elim (h.q0 q) fun y => h.h0.free y, h.t0⟩
theorem DrS.grow (h : DrS M H0 l d1 d2 f c p t qs v1 v2 cur dl F σ H) (x : Ext F H F' H') : DrS M H0 l d1 d2 f c p t qs v1 v2 cur dl F' σ H' := h.mv x.f x.s x.n (fun b o e _ _ => x.h _ _ e) (fun q m => .inl m) (h.nv.mono x)
theorem DrS.keep (h : DrS M H0 l d1 d2 f c p t qs v1 v2 cur dl F σ H) (k : Same H H') : DrS M H0 l d1 d2 f c p t qs v1 v2 cur dl F σ H' := h.grow (Ext.grow h.s k)
theorem DrS.app {d : D} {v : V} (h : DrS M H0 l d1 d2 f c p t qs v1 v2 cur dl F σ H) (r : RV M F d v) : ∃ vs, H t = some (.lst vs) ∧ vs.length = dl.length ∧ DrS M H0 l d1 d2 f c p t qs v1 v2 cur (dl ++ [d]) F σ (upd H t (.lst (vs ++ [v]))) := by
  obtain ⟨vs, e1, e2⟩ := h.tl
  obtain ⟨ws, n1, n2⟩ := h.nv.ex
  refine ⟨vs, e1, e2.len, fun b o e => ?_, fun b o e => ?_, h.len, h.s0, h.s1, h.s2, h.s4, h.s5, h.lf, h.lc, h.r1, h.r2, ⟨⟨ws, by rw [upd_ne (Ne.symm h.tp)]; exact n1, NIs.keep (Same.refl _) (fun q _ e => e) (fun q m o e => ?_) n2⟩, h.nv.fp, h.nv.ne, h.nv.inj⟩, ⟨_, upd_same, e2.append (RVs.cons r RVs.nil)⟩, h.ft, h.tp, h.tq, h.p0, h.q0, h.t0⟩
  · rw [upd_ne (ne_of_none e h.ft)]
    exact h.s _ _ e
  · rw [upd_ne (ne_of_none e h.t0)]
    exact h.h0 _ _ e
  · rw [upd_ne (fun z => h.tq (by rw [← z]; exact m))]
    exact e
theorem DrS.st (h : DrS M H0 l d1 d2 f c p t qs v1 v2 cur dl F σ H) (e : σ'.length = σ.length) (k : ∀ i, i ≤ 5 → i ≠ 3 → σ'[i]? = σ[i]?) : DrS M H0 l d1 d2 f c p t qs v1 v2 cur dl F σ' H :=
  ⟨h.s, h.h0, by rw [e]; exact h.len, by rw [k 0 (by decide) (by decide)]; exact h.s0, by rw [k 1 (by decide) (by decide)]; exact h.s1, by rw [k 2 (by decide) (by decide)]; exact h.s2, by rw [k 4 (by decide) (by decide)]; exact h.s4, by rw [k 5 (by decide) (by decide)]; exact h.s5,
    h.lf, h.lc, h.r1, h.r2, h.nv, h.tl, h.ft, h.tp, h.tq, h.p0, h.q0, h.t0⟩
theorem DrS.set3 (h : DrS M H0 l d1 d2 f c p t qs v1 v2 cur dl F σ H) (v : Option V) : DrS M H0 l d1 d2 f c p t qs v1 v2 cur dl F (σ.set 3 v) H := h.st (List.length_set ..) fun i _ n => List.getElem?_set_ne (Ne.symm n)
theorem DrS.setN {i : Nat} (h : DrS M H0 l d1 d2 f c p t qs v1 v2 cur dl F σ H) (hi : 5 < i) (v : Option V) : DrS M H0 l d1 d2 f c p t qs v1 v2 cur dl F (σ.set i v) H := h.st (List.length_set ..) fun j a _ => List.getElem?_set_ne (by omega)
end
theorem gName_i {i : Nat} {v : V} {σ : L2.St} {H : Hp} {Q : L2.St → Hp → Prop} (h : Q (σ.set i (some v)) H) : gName i v σ H Q := h
theorem gT_one {K : PySem.W.Frag} {i : Nat} {v : V} {σ : L2.St} {H : Hp} {Q : L2.St → Hp → Prop} (h : Q (σ.set i (some v)) H) : gT K (.one i) v σ H Q := h
section
variable {W : Wd} {X : Cx} {kc ks ko : Nat} {ls : List LmD} {H0 : Hp} {l : LmD} {d1 d2 : List D} {r1 r2 : D} {f c p t : Addr} {qs : List (Option Addr)} {v1 v2 : V}
abbrev dueD (d : List D) (r : D) : D := .tup [.lst d, r]
/-- the second statement's turns: what is due -/
theorem dr_s2 {tg iter : Expr} {st : Stmt} {pos : Pos} (g : Gd W X) (hi : DR W true X tg iter (.sq (.tup (.cons (.var 1) (.cons (.var 2) .nil))))) (hg : PG X tg (gT X.K (.one 3)))
    (hb : PS X st (tDrop (tBM X.K "list" rAppend (tVar 5) (tCons (tTup (tCons (tVar 3) (tCons (tCall (spD (sm X W) W.T W.n kc) [] E0 (tCons (tAsk (sm X W) W.T W.n ls 0 (tD (sm X W) W (.call kc (.cons (.var 3) .nil)))) tNil)) tNil))) tNil))))
    (hm : l ∈ ls) (a1 : okA W.T W.n kc ks ko l d1 r1) (a2 : okA W.T W.n kc ks ko l d2 r2) (hf : ∀ x, foldedSetIterable iter X.env x = pure x := by intro _; rfl) :
    PS X (.For tg iter [st] [] pos) (fun Dn σ H => (∃ F, DrS (sm X W) H0 l d1 d2 f c p t qs v1 v2 d1 [] F σ H) ∧ ∀ F σ' H', DrS (sm X W) H0 l d1 d2 f c p t qs v1 v2 d1 [dueD d1 r1, dueD d2 r2] F σ' H' → Dn.nx σ' H') := by
  have hp : PassesOwn (model X.prog X.w) X.A X.env X.xe := by rw [g.nox]; exact PassesOwn.never
  refine PS.imp (ps_for hp g.calm hi hg (pss_one hb) hf) fun Dn σ H ⟨⟨F, D0⟩, k⟩ => ?_
  have env12 : ∀ j d, gt [none, some (.lst d1), some (.lst d2)] j = some d → ∃ v, σ[j]? = some (some v) ∧ RV (sm X W) F d v := fun j d e => by
    match j, e with
    | 0, e => cases e
    | 1, e => cases e; exact ⟨v1, D0.s1, D0.r1⟩
    | 2, e => cases e; exact ⟨v2, D0.s2, D0.r2⟩
    | j + 3, e => cases e
  refine ⟨F, [none, some (.lst d1), some (.lst d2)], [.lst d1, .lst d2], D0.s, ⟨by have := D0.len; show 3 ≤ σ.length; omega, fun j d e => ?_⟩, fun j _ d e => env12 j d e, rfl, fun J F1 H1 x1 Y => ?_⟩
  · obtain ⟨v, q1, q2⟩ := env12 j d e
    exact ⟨v, q1, q2.rs D0.s⟩
  have D1 := D0.grow x1
  refine ⟨fun i m σ3 H3 => m = 2 - i ∧ i ≤ 2 ∧ ∃ F3, Same F1 F3 ∧ DrS (sm X W) H0 l d1 d2 f c p t qs v1 v2 d1 (([dueD d1 r1, dueD d2 r2] : List D).take i) F3 σ3 H3, ⟨2, rfl, by omega, F1, Same.refl _, D1⟩, ?_⟩
  rintro i m σ3 H3 ⟨rfl, hle, F3, s13, D3⟩
  by_cases hlt : i < 2
  · -- the item and what is due
    have it : ∃ d r, ([.lst d1, .lst d2] : List D)[i]? = some (.lst d) ∧ okA W.T W.n kc ks ko l d r ∧ ([dueD d1 r1, dueD d2 r2] : List D).take (i + 1) = ([dueD d1 r1, dueD d2 r2] : List D).take i ++ [dueD d r] ∧ (([dueD d1 r1, dueD d2 r2] : List D).take i).length ≤ 2 := by
      have h01 : i = 0 ∨ i = 1 := by omega
      rcases h01 with e | e
      · rw [e]; exact ⟨d1, r1, rfl, a1, rfl, Nat.zero_le _⟩
      · rw [e]; exact ⟨d2, r2, rfl, a2, rfl, Nat.le_succ _⟩
    obtain ⟨d, r, gd, ok, et, le2⟩ := it
    obtain ⟨go, yl⟩ := Y.item i _ F3 H3 s13 (s13.trans D3.s) D3.s gd
    refine .inr ⟨go, fun σ' H' => i + 1 ≤ 2 ∧ ∃ F3, Same F1 F3 ∧ DrS (sm X W) H0 l d1 d2 f c p t qs v1 v2 d1 (([dueD d1 r1, dueD d2 r2] : List D).take (i + 1)) F3 σ' H', fun σ' H' ⟨q1, q2⟩ => ⟨2 - (i + 1), by omega, rfl, q1, q2⟩, fun u H5 y5 => ?_⟩
    obtain ⟨F5, xx, ru⟩ := yl u H5 y5
    have D5 := (D3.grow xx).set3 (some u)
    have s53 : (σ3.set 3 (some u))[3]? = some (some u) := List.getElem?_set_self (by have := D3.len; omega)
    refine gT_one ?_
    obtain ⟨σ5, hσ⟩ : ∃ σ5, σ3.set 3 (some u) = σ5 := ⟨_, rfl⟩
    rw [hσ] at D5 s53 ⊢
    obtain ⟨vs, ht, _⟩ := D5.tl
    refine ⟨_, D5.s5, .inl ⟨rfl, _, SqL.of ht⟩, u, s53, l, hm, f, c, D5.s0, D5.s _ _ D5.lf, F5, [none, none, none, some (.lst d)], .lst d, D5.s, ⟨by have := D5.len; show 4 ≤ σ5.length; omega, fun j d e => ?_⟩, fun j _ d e => ?_, ok.cp, fun v6 F6 H6 x6 r6 => ?_⟩
    · match j, e with
      | 0, e => cases e
      | 1, e => cases e
      | 2, e => cases e
      | 3, e => cases e; exact ⟨u, s53, ru.rs D5.s⟩
      | j + 4, e => cases e
    · match j, e with
      | 0, e => cases e
      | 1, e => cases e
      | 2, e => cases e
      | 3, e => cases e; exact ⟨u, s53, ru⟩
      | j + 4, e => cases e
    obtain ⟨F6, x6, _, r6⟩ := r6.plain x6
    have D6 := D5.grow x6
    obtain ⟨fn, hfn, hnp, _⟩ := ok.fn
    refine ⟨D6.s _ _ D6.lf, D6.s _ _ D6.lc, fn, F6, [.lst d], r, hfn, hnp.symm, x6.s, RVs.cons r6 RVs.nil, ok.rn, fun v7 F7 H7 x7 r7 => ?_⟩
    obtain ⟨F7, x7, _, r7⟩ := r7.plain x7
    obtain ⟨fnc, hfc, hlc⟩ := run_fn_some ok.rc
    refine ⟨fnc, F7, [r], r, hfc, hlc, x7.s, RVs.cons r7 RVs.nil, ok.rc, fun v8 F8 H8 x8 r8 => ?_⟩
    obtain ⟨F8, x8, _, r8⟩ := r8.plain x8
    refine ⟨by rw [sizeLine_eq]; simp, fun tp htp => ?_⟩
    have x9 := Ext.new (o := .tup [u, v8]) x8.s htp
    have D9 := ((D6.grow x7).grow x8).grow x9
    have r9 : RV (sm X W) (upd F8 tp (.tup [u, v8])) (dueD d r) (.ref tp) := ⟨tp, _, rfl, .inl (.inl upd_same), RVs.cons ((((ru.mono x6.f).mono x7.f).mono x8.f).mono x9.f) (RVs.cons (r8.mono x9.f) RVs.nil)⟩
    obtain ⟨ws, h9, l9, D10⟩ := D9.app r9
    refine ⟨t, ws, .ref tp, rfl, rfl, h9, by rw [l9, sizeLine_eq]; omega, hlt, _, ?_, by rw [et]; exact D10⟩
    exact s13.trans (xx.f.trans (x6.f.trans (x7.f.trans (x8.f.trans x9.f))))
  · have e : i = 2 := by omega
    subst e
    exact .inl ⟨Y.stop _ F3 H3 s13 (s13.trans D3.s) D3.s (Nat.le_refl _), k F3 σ3 H3 D3⟩
def tOnce (M : Sm) (H0 : Hp) (l : LmD) (d1 d2 : List D) (f c p t : Addr) (qs : List (Option Addr)) (v1 v2 : V) (dl d : List D) (r : D) : TS := fun Dn σ H => ∃ F u w, DrS M H0 l d1 d2 f c p t qs v1 v2 d dl F σ H ∧ σ[3]? = some (some u) ∧ RV M F (.lst d) u ∧ σ[6]? = some (some w) ∧ RV M F r w ∧ ∀ σ' H', DrS M H0 l d1 d2 f c p t qs v1 v2 d dl F σ' H' → Dn.nx σ' H'
/-- asked once, compared, what is told spoiled -/
theorem dr_once {tg iter tst spE : Expr} {stA : Stmt} {bad : List Stmt} {pos p2 p3 : Pos} (g : Gd W X) (hi : DR W true X tg iter (.r1 (.lit (.int 2)))) (hg : PG X tg (gT X.K (.one 7)))
    (hA : PS X stA (tAsg (tAsk (sm X W) W.T W.n ls 0 (tVar 4)) (gName 8)))
    (hT : DT W X tst (.or (.o2 .ne (.var 4) (.var 3)) (.o2 .ne (.var 8) (.var 6))))
    (hS : PE X spE (fun σ H Q => tCall (spO (sm X W) W.T W.n ko) [] E0 (tCons (tVar 8) tNil) σ H Q ∨ tD (sm X W) W (.call ks (.cons (.var 8) .nil)) σ H Q))
    (hm : l ∈ ls) {d : List D} {r : D} (ok : okA W.T W.n kc ks ko l d r) {dl : List D} (hsw : swapsWith spE none p3.line X.env = pure false := by rfl) (hf : ∀ x, foldedSetIterable iter X.env x = pure x := by intro _; rfl) :
    PS X (.For tg iter [stA, .If tst bad [] p2, .Expr spE p3] [] pos) (tOnce (sm X W) H0 l d1 d2 f c p t qs v1 v2 dl d r) := by
  have hp : PassesOwn (model X.prog X.w) X.A X.env X.xe := by rw [g.nox]; exact PassesOwn.never
  refine PS.imp (ps_for hp g.calm hi hg (pss_cons hA (pss_cons (ps_if hT (pss_never (sts := bad)) pss_nil) (pss_one (ps_expr hS hsw)))) hf) fun Dn σ H ⟨F, u, w, D0, s3, ru, s6, rw', k⟩ => ?_
  refine ⟨F, [], rangeD 0 2, D0.s, ⟨Nat.zero_le _, fun j d e => by simp [gt] at e⟩, (fun j _ d e => by simp [gt] at e), rfl, fun J F1 H1 x1 Y => ?_⟩
  -- the walk's own F is F1; ours stays F
  refine ⟨fun i m σ3 H3 => m = 2 - i ∧ i ≤ 2 ∧ Same F1 H3 ∧ DrS (sm X W) H0 l d1 d2 f c p t qs v1 v2 d dl F σ3 H3 ∧ σ3[3]? = some (some u) ∧ σ3[6]? = some (some w), ⟨2, rfl, by omega, x1.s, D0.keep x1.h, s3, s6⟩, ?_⟩
  rintro i m σ3 H3 ⟨rfl, hle, sH3, D3, s33, s36⟩
  have l2 : (rangeD 0 2).length = 2 := by decide
  by_cases hlt : i < 2
  · have gd : (rangeD 0 2)[i]? = some (rangeD 0 2)[i] := List.getElem?_eq_getElem (by omega)
    obtain ⟨go, yl⟩ := Y.item i _ F1 H3 (Same.refl _) sH3 sH3 gd
    refine .inr ⟨go, fun σ' H' => i + 1 ≤ 2 ∧ Same F1 H' ∧ DrS (sm X W) H0 l d1 d2 f c p t qs v1 v2 d dl F σ' H' ∧ σ'[3]? = some (some u) ∧ σ'[6]? = some (some w), fun σ' H' ⟨q1, q2⟩ => ⟨2 - (i + 1), by omega, rfl, q1, q2⟩, fun y H5 y5 => ?_⟩
    obtain ⟨F5, xx, _⟩ := yl y H5 y5
    have D5 := (D3.keep xx.h).setN (i := 7) (by decide) (some y)
    have s53 : (σ3.set 7 (some y))[3]? = some (some u) := by rw [List.getElem?_set_ne (by decide)]; exact s33
    have s56 : (σ3.set 7 (some y))[6]? = some (some w) := by rw [List.getElem?_set_ne (by decide)]; exact s36
    refine gT_one ?_
    obtain ⟨σ5, hσ⟩ : ∃ σ5, σ3.set 7 (some y) = σ5 := ⟨_, rfl⟩
    rw [hσ] at D5 s53 s56 ⊢
    obtain ⟨fn, hfn, hnp, hfr⟩ := ok.fn
    refine ⟨l, hm, f, c, D5.s0, D5.s _ _ D5.lf, .ref p, D5.s4, D5.s _ _ D5.lf, D5.s _ _ D5.lc, fn, H5, [.lst d], r, hfn, hnp.symm, Same.refl _, RVs.cons (D5.nv.full D5.s) RVs.nil, ok.rn, fun v6 F6 H6 x6 r6 => ?_⟩
    have D6 := (D5.keep x6.h).setN (i := 8) (by decide) (some v6)
    have s63 : (σ5.set 8 (some v6))[3]? = some (some u) := by rw [List.getElem?_set_ne (by decide)]; exact s53
    have s66 : (σ5.set 8 (some v6))[6]? = some (some w) := by rw [List.getElem?_set_ne (by decide)]; exact s56
    have s68 : (σ5.set 8 (some v6))[8]? = some (some v6) := List.getElem?_set_self (by have := D5.len; omega)
    refine gName_i ?_
    obtain ⟨σ6, hσ6⟩ : ∃ σ6, σ5.set 8 (some v6) = σ6 := ⟨_, rfl⟩
    rw [hσ6] at D6 s63 s66 s68 ⊢
    have rv6 : RV (sm X W) H6 r v6 := by
      obtain ⟨F7, x7, _, r7⟩ := r6.plain x6
      exact r7.mono x7.s
    have ne1 : op2 .ne (.lst d) (.lst d) = some (.bl false) := by
      show (eqD (.lst d) (.lst d)).map (fun c => D.bl (!c)) = _
      rw [ok.eq]
      rfl
    have ne2 : op2 .ne r r = some (.bl false) := by
      show (eqD r r).map (fun c => D.bl (!c)) = _
      rw [ok.re]
      rfl
    refine ⟨H6, [none, none, none, some (.lst d), some (.lst d), none, some r, none, some r], false, Same.refl _, ⟨D6.len, fun j dd e => ?_⟩, ?_, fun H7 t7 => iteF ?_⟩
    · match j, e with
      | 0, e => cases e
      | 1, e => cases e
      | 2, e => cases e
      | 3, e => cases e; exact ⟨u, s63, (ru.mono D6.s).rs (Same.refl _)⟩
      | 4, e => cases e; exact ⟨_, D6.s4, (D6.nv.full D6.s).rs (Same.refl _)⟩
      | 5, e => cases e
      | 6, e => cases e; exact ⟨w, s66, (rw'.mono D6.s).rs (Same.refl _)⟩
      | 7, e => cases e
      | 8, e => cases e; exact ⟨v6, s68, rv6.rs (Same.refl _)⟩
      | j + 9, e => cases e
    · show (match op2 .ne (.lst d) (.lst d) with | some (.bl true) => some (D.bl true) | some (.bl false) => op2 .ne r r | _ => none) = _
      rw [ne1]
      exact ne2
    have D7 := D6.keep t7
    have fin : ∀ H8, Same H5 H8 → i + 1 ≤ 2 ∧ Same F1 H8 ∧ DrS (sm X W) H0 l d1 d2 f c p t qs v1 v2 d dl F σ6 H8 ∧ σ6[3]? = some (some u) ∧ σ6[6]? = some (some w) := fun H8 s8 => ⟨hlt, (sH3.trans xx.h).trans s8, by rw [← hσ6]; exact (D5.keep s8).setN (by decide) _, s63, s66⟩
    rcases ok.sp with ⟨xs, er, hr⟩ | ⟨nl, hr⟩
    · subst er
      have fr : fn.fr = true := by
        rcases hfr with z | z
        · exact z
        · cases z
      rw [fr] at r6
      rcases r6 with ⟨q, hq, fq, rfl, ws, hw, rs⟩ | ⟨_, z, _⟩
      · refine .inl ⟨_, s68, F6, q, xs, ws, rfl, x6.s.trans t7, fq, t7 _ _ hw, rs, hr, fun H8 k8 => fin H8 fun b o e => ?_⟩
        exact k8 b o (t7 _ _ (x6.h _ _ e)) (ne_of_none e hq)
      · cases z
    · refine .inr ⟨H7, [none, none, none, none, none, none, none, none, some r], .non, Same.refl _, ⟨D6.len, fun j dd e => ?_⟩, fun j _ dd e => ?_, hr, fun v8 F8 H8 x8 _ => fin H8 ((x6.h.trans t7).trans x8.h)⟩
      · match j, e with
        | 0, e => cases e
        | 1, e => cases e
        | 2, e => cases e
        | 3, e => cases e
        | 4, e => cases e
        | 5, e => cases e
        | 6, e => cases e
        | 7, e => cases e
        | 8, e => cases e; exact ⟨v6, s68, (rv6.mono t7).rs (Same.refl _)⟩
        | j + 9, e => cases e
      · match j, e with
        | 0, e => cases e
        | 1, e => cases e
        | 2, e => cases e
        | 3, e => cases e
        | 4, e => cases e
        | 5, e => cases e
        | 6, e => cases e
        | 7, e => cases e
        | 8, e => cases e; exact ⟨v6, s68, rv6.mono t7⟩
        | j + 9, e => cases e
  · have e : i = 2 := by omega
    subst e
    exact .inl ⟨Y.stop _ F1 H3 (Same.refl _) sH3 sH3 (by rw [l2]; exact Nat.le_refl _), k σ3 H3 D3⟩
theorem PS.ex {st : Stmt} {α : Type} {t : α → TS} (h : ∀ a, PS X st (t a)) : PS X st (fun D σ H => ∃ a, t a D σ H) := ⟨fun pins s σ H D I ⟨a, q⟩ => (h a).run pins s σ H D I q⟩
theorem dr_s3 {tg iter inE : Expr} {stO : Stmt} {pos p4 : Pos} (g : Gd W X) (hi : DR W true X tg iter (.sq (.o2 .add (.var 5) (.var 5)))) (hg : PG X tg (gT X.K (.many [3, 6])))
    (hin : PE X inE (tCall (spIn (sm X W) W.n) [] E0 (tCons (tVar 4) (tCons (tVar 3) tNil))))
    (hO1 : ∀ qs, PS X stO (tOnce (sm X W) H0 l d1 d2 f c p t qs v1 v2 [dueD d1 r1, dueD d2 r2] d1 r1)) (hO2 : ∀ qs, PS X stO (tOnce (sm X W) H0 l d1 d2 f c p t qs v1 v2 [dueD d1 r1, dueD d2 r2] d2 r2))
    (a1 : okA W.T W.n kc ks ko l d1 r1) (a2 : okA W.T W.n kc ks ko l d2 r2) (k11 : alike d1 d1 = true) (k12 : alike d1 d2 = true) (k21 : alike d2 d1 = true) (k22 : alike d2 d2 = true)
    (hsw : swapsWith inE none p4.line X.env = pure false := by rfl) (hf : ∀ x, foldedSetIterable iter X.env x = pure x := by intro _; rfl) :
    PS X (.For tg iter [.Expr inE p4, stO] [] pos) (fun Dn σ H => (∃ F, DrS (sm X W) H0 l d1 d2 f c p t qs v1 v2 d1 [dueD d1 r1, dueD d2 r2] F σ H) ∧ ∀ F qs cur σ' H', DrS (sm X W) H0 l d1 d2 f c p t qs v1 v2 cur [dueD d1 r1, dueD d2 r2] F σ' H' → Dn.nx σ' H') := by
  have hp : PassesOwn (model X.prog X.w) X.A X.env X.xe := by rw [g.nox]; exact PassesOwn.never
  refine PS.imp (ps_for hp g.calm hi hg (pss_cons (ps_expr hin hsw) (pss_one (PS.ex fun qs => PS.or (hO1 qs) (hO2 qs)))) hf) fun Dn σ H ⟨⟨F, D0⟩, k⟩ => ?_
  obtain ⟨dl, hdl⟩ : ∃ dl, [dueD d1 r1, dueD d2 r2] = dl := ⟨_, rfl⟩
  have ldl : dl.length = 2 := by rw [← hdl]; rfl
  have git : ∀ i, i < 4 → ∃ d r, (dl ++ dl)[i]? = some (dueD d r) ∧ ((d = d1 ∧ r = r1) ∨ (d = d2 ∧ r = r2)) := fun i h => by
    have h01 : i = 0 ∨ i = 1 ∨ i = 2 ∨ i = 3 := by omega
    rw [← hdl]
    rcases h01 with e | e | e | e
    · rw [e]; exact ⟨d1, r1, rfl, .inl ⟨rfl, rfl⟩⟩
    · rw [e]; exact ⟨d2, r2, rfl, .inr ⟨rfl, rfl⟩⟩
    · rw [e]; exact ⟨d1, r1, rfl, .inl ⟨rfl, rfl⟩⟩
    · rw [e]; exact ⟨d2, r2, rfl, .inr ⟨rfl, rfl⟩⟩
  rw [hdl] at D0 k ⊢
  obtain ⟨vs0, ht0, hr0⟩ := D0.tl
  refine ⟨F, [none, none, none, none, none, some (.lst dl)], dl ++ dl, D0.s, ⟨by have := D0.len; show 6 ≤ σ.length; omega, fun j d e => ?_⟩, (fun j m d e => by cases m), ?_, fun J F1 H1 x1 Y => ?_⟩
  · match j, e with
    | 0, e => cases e
    | 1, e => cases e
    | 2, e => cases e
    | 3, e => cases e
    | 4, e => cases e
    | 5, e => cases e; exact ⟨_, D0.s5, t, vs0, rfl, ht0, hr0⟩
    | j + 6, e => cases e
  · show (if dl.length + dl.length ≤ LIM then some (D.lst (dl ++ dl)) else none).bind seqD = _
    rw [if_pos (by rw [ldl]; decide)]
    rfl
  refine ⟨fun i m σ3 H3 => m = 4 - i ∧ i ≤ 4 ∧ ∃ F3 qs cur, Same F1 F3 ∧ (cur = d1 ∨ cur = d2) ∧ DrS (sm X W) H0 l d1 d2 f c p t qs v1 v2 cur dl F3 σ3 H3, ⟨4, rfl, by omega, F1, qs, d1, Same.refl _, .inl rfl, D0.grow x1⟩, ?_⟩
  rintro i m σ3 H3 ⟨rfl, hle, F3, qs, cur, s13, hcur, D3⟩
  by_cases hlt : i < 4
  · obtain ⟨d, r, gd, hd⟩ := git i hlt
    obtain ⟨go, yl⟩ := Y.item i _ F3 H3 s13 (s13.trans D3.s) D3.s gd
    refine .inr ⟨go, fun σ' H' => i + 1 ≤ 4 ∧ ∃ F3 qs cur, Same F1 F3 ∧ (cur = d1 ∨ cur = d2) ∧ DrS (sm X W) H0 l d1 d2 f c p t qs v1 v2 cur dl F3 σ' H', fun σ' H' ⟨q1, q2⟩ => ⟨4 - (i + 1), by omega, rfl, q1, q2⟩, fun x5 H5 y5 => ?_⟩
    obtain ⟨F5, xx, rx⟩ := yl x5 H5 y5
    obtain ⟨ta, txs, rfl, hta, u, q1, rfl, hu, w, q2, rfl, hw, hq⟩ := rx
    obtain rfl : q2 = [] := hq
    refine ⟨ta, _, rfl, Same.sqt xx.s hta, rfl, ?_⟩
    have D5 := ((D3.grow xx).set3 (some u)).setN (i := 6) (by decide) (some w)
    have s53 : ((σ3.set 3 (some u)).set 6 (some w))[3]? = some (some u) := by rw [List.getElem?_set_ne (by decide)]; exact List.getElem?_set_self (by have := D3.len; omega)
    have s56 : ((σ3.set 3 (some u)).set 6 (some w))[6]? = some (some w) := List.getElem?_set_self (by rw [List.length_set]; have := D3.len; omega)
    show tSeq _ _ _ ((σ3.set 3 (some u)).set 6 (some w)) H5
    obtain ⟨σ5, hσ⟩ : ∃ σ5, (σ3.set 3 (some u)).set 6 (some w) = σ5 := ⟨_, rfl⟩
    rw [hσ] at D5 s53 s56 ⊢
    have ak : alike cur d = true := by
      rcases hcur with e | e <;> rcases hd with ⟨e2, _⟩ | ⟨e2, _⟩ <;> rw [e, e2]
      · exact k11
      · exact k12
      · exact k21
      · exact k22
    have it : (∀ x ∈ d, itmD x = true) ∧ d.length ≤ LIM ∧ ndC d ≤ W.n := by
      rcases hd with ⟨e2, _⟩ | ⟨e2, _⟩ <;> rw [e2]
      · exact ⟨a1.it, a1.ln, a1.nd⟩
      · exact ⟨a2.it, a2.ln, a2.nd⟩
    refine ⟨.ref p, D5.s4, u, s53, F5, p, qs, cur, d, u, rfl, D5.s, D5.nv, hu, ak, it.1, it.2.1, it.2.2, fun F7 H7 qs7 b1 b2 b3 b4 b5 b7 b6 => ?_⟩
    have D7 := D5.mv b1 b2 b3 b4 b7 b6
    have fin : ∀ σ' H', DrS (sm X W) H0 l d1 d2 f c p t qs7 v1 v2 d dl F7 σ' H' → i + 1 ≤ 4 ∧ ∃ F3 qs cur, Same F1 F3 ∧ (cur = d1 ∨ cur = d2) ∧ DrS (sm X W) H0 l d1 d2 f c p t qs v1 v2 cur dl F3 σ' H' := fun σ' H' D' => ⟨hlt, F7, qs7, d, s13.trans (xx.f.trans b1), by rcases hd with ⟨e2, _⟩ | ⟨e2, _⟩; exact .inl e2; exact .inr e2, D'⟩
    rcases hd with ⟨e2, e3⟩ | ⟨e2, e3⟩
    · subst e2 e3
      exact ⟨qs7, .inl ⟨F7, u, w, D7, s53, hu.mono b1, s56, hw.mono b1, fin⟩⟩
    · subst e2 e3
      exact ⟨qs7, .inr ⟨F7, u, w, D7, s53, hu.mono b1, s56, hw.mono b1, fin⟩⟩
  · have e : i = 4 := by omega
    subst e
    exact .inl ⟨Y.stop _ F3 H3 s13 (s13.trans D3.s) D3.s (by rw [List.length_append, ldl]; exact Nat.le_refl _), k F3 qs cur σ3 H3 D3⟩
theorem PSs.ex {sts : List Stmt} {α : Type} {t : α → TS} (h : ∀ a, PSs X sts (t a)) : PSs X sts (fun D σ H => ∃ a, t a D σ H) := ⟨fun pins s σ H D I ⟨a, q⟩ => (h a).run pins s σ H D I q⟩
theorem PSs.pr {sts : List Stmt} {p : Prop} {t : TS} (h : p → PSs X sts t) : PSs X sts (fun D σ H => p ∧ t D σ H) := ⟨fun pins s σ H D I ⟨a, q⟩ => (h a).run pins s σ H D I q⟩
/-- what is asked of a door's two rows -/
structure okD (T : Tb) (n kc ks ko : Nat) (ls : List LmD) (l : LmD) (d1 d2 : List D) (r1 r2 : D) : Prop where
  m : l ∈ ls
  a1 : okA T n kc ks ko l d1 r1
  a2 : okA T n kc ks ko l d2 r2
  k11 : alike d1 d1 = true
  k12 : alike d1 d2 = true
  k21 : alike d2 d1 = true
  k22 : alike d2 d2 = true
theorem okD.lv {T : Tb} {n kc ks ko : Nat} {ls : List LmD} {l : LmD} {d1 d2 : List D} {r1 r2 : D} (h : okD T n kc ks ko ls l d1 d2 r1 r2) : okD { T with lv := n } n kc ks ko ls l d1 d2 r1 r2 := ⟨h.m, h.a1.lv, h.a2.lv, h.k11, h.k12, h.k21, h.k22⟩
abbrev DrP := ((LmD × List D × List D) × (D × D)) × ((Addr × Addr) × (V × V) × Hp)
def tDr1 (M : Sm) (T : Tb) (n kc ks ko : Nat) (ls : List LmD) (l : LmD) (d1 d2 : List D) (r1 r2 : D) (f c : Addr) (v1 v2 : V) (H0 : Hp) : TS := fun Dn σ H => H = H0 ∧ 9 ≤ σ.length ∧ σ[0]? = some (some (.ref f)) ∧ σ[1]? = some (some v1) ∧ σ[2]? = some (some v2) ∧
  ∃ F, Same F H ∧ F f = some (LmO f c l) ∧ F c = some (CodeO c l.qual) ∧ RV M F (.lst d1) v1 ∧ RV M F (.lst d2) v2 ∧ ∀ H', Same H0 H' → Dn.rt (.bl true) H'
def tDoor (M : Sm) (T : Tb) (n kc ks ko : Nat) (ls : List LmD) : TS := fun Dn σ H => ∃ l d1 d2 r1 r2 f c v1 v2 H0, okD T n kc ks ko ls l d1 d2 r1 r2 ∧ tDr1 M T n kc ks ko ls l d1 d2 r1 r2 f c v1 v2 H0 Dn σ H
/-- the whole body -/
theorem dr_ps {tg2 it2 tg3 it3 tg4 it4 inE tst spE re : Expr} {st1 st2 stA : Stmt} {bad : List Stmt} {q1 q2 q3 q4 q5 q6 q7 : Pos} (g : Gd W X)
    (h1 : PS X st1 (tPar 4 5 (tCons (tCall (spCL (sm X W) W.n) [] E0 (tCons (tVar 1) tNil)) (tCons (tLst tNil) tNil))))
    (hi2 : DR W true X tg2 it2 (.sq (.tup (.cons (.var 1) (.cons (.var 2) .nil))))) (hg2 : PG X tg2 (gT X.K (.one 3)))
    (hb2 : PS X st2 (tDrop (tBM X.K "list" rAppend (tVar 5) (tCons (tTup (tCons (tVar 3) (tCons (tCall (spD (sm X W) W.T W.n kc) [] E0 (tCons (tAsk (sm X W) W.T W.n ls 0 (tD (sm X W) W (.call kc (.cons (.var 3) .nil)))) tNil)) tNil))) tNil))))
    (hi3 : DR W true X tg3 it3 (.sq (.o2 .add (.var 5) (.var 5)))) (hg3 : PG X tg3 (gT X.K (.many [3, 6])))
    (hin : PE X inE (tCall (spIn (sm X W) W.n) [] E0 (tCons (tVar 4) (tCons (tVar 3) tNil))))
    (hi4 : DR W true X tg4 it4 (.r1 (.lit (.int 2)))) (hg4 : PG X tg4 (gT X.K (.one 7)))
    (hA : PS X stA (tAsg (tAsk (sm X W) W.T W.n ls 0 (tVar 4)) (gName 8)))
    (hT : DT W X tst (.or (.o2 .ne (.var 4) (.var 3)) (.o2 .ne (.var 8) (.var 6))))
    (hS : PE X spE (fun σ H Q => tCall (spO (sm X W) W.T W.n ko) [] E0 (tCons (tVar 8) tNil) σ H Q ∨ tD (sm X W) W (.call ks (.cons (.var 8) .nil)) σ H Q))
    (hr : PE X re (tC (.bl true)))
    (w1 : swapsWith spE none q4.line X.env = pure false := by rfl) (w2 : swapsWith inE none q3.line X.env = pure false := by rfl) (f2 : ∀ x, foldedSetIterable it2 X.env x = pure x := by intro _; rfl) (f3 : ∀ x, foldedSetIterable it3 X.env x = pure x := by intro _; rfl) (f4 : ∀ x, foldedSetIterable it4 X.env x = pure x := by intro _; rfl) :
    PSs X [st1, .For tg2 it2 [st2] [] q1, .For tg3 it3 [.Expr inE q3, .For tg4 it4 [stA, .If tst bad [] q5, .Expr spE q4] [] q6] [] q2, .Return (some re) q7] (tDoor (sm X W) W.T W.n kc ks ko ls) := by
  refine PSs.ex fun l => PSs.ex fun d1 => PSs.ex fun d2 => PSs.ex fun r1 => PSs.ex fun r2 => PSs.ex fun f => PSs.ex fun c => PSs.ex fun v1 => PSs.ex fun v2 => PSs.ex fun H0 => PSs.pr fun ok => ?_
  refine PSs.imp (pss_cons h1 (pss_cons (PS.ex fun p => PS.ex fun t => PS.ex fun qs => dr_s2 (kc := kc) (ks := ks) (ko := ko) (H0 := H0) (f := f) (c := c) (p := p) (t := t) (qs := qs) (v1 := v1) (v2 := v2) g hi2 hg2 hb2 ok.m ok.a1 ok.a2 f2)
    (pss_cons (PS.ex fun p => PS.ex fun t => PS.ex fun qs => dr_s3 (kc := kc) (ks := ks) (ko := ko) (H0 := H0) (f := f) (c := c) (p := p) (t := t) (qs := qs) (v1 := v1) (v2 := v2) g hi3 hg3 hin
      (fun _ => dr_once (kc := kc) (ks := ks) (ko := ko) (ls := ls) g hi4 hg4 hA hT hS ok.m ok.a1 w1 f4) (fun _ => dr_once (kc := kc) (ks := ks) (ko := ko) (ls := ls) g hi4 hg4 hA hT hS ok.m ok.a2 w1 f4) ok.a1 ok.a2 ok.k11 ok.k12 ok.k21 ok.k22 w2 f3) (pss_one (ps_ret hr)))))
    fun Dn σ H ⟨eH, sl, s0, s1, s2, F, s, lf, lc, b1, b2, k⟩ => ?_
  subst eH
  refine ⟨v1, s1, F, d1, v1, rfl, s, b1, ok.a1.it, ok.a1.ln, ok.a1.nd, fun F' H' p qs x nv hp hq => ⟨by rw [sizeLine_eq]; simp, fun t ht => ⟨_, _, rfl, p, t, qs, ⟨F', ?_⟩, fun F2 σ2 H2 D2 => ⟨p, t, qs, ⟨F2, D2⟩, fun F3 _ cur σ3 H3 D3 => k H3 D3.h0⟩⟩⟩⟩
  obtain ⟨vs, e1, e2⟩ := nv.ex
  have ft : F' t = none := x.s.free ht
  have ntp : t ≠ p := fun z => by rw [← z, ht] at e1; cases e1
  have nq : some t ∉ qs := fun m => by
    obtain ⟨j, hj⟩ := List.mem_iff_getElem?.mp m
    obtain ⟨_, ws, z⟩ := e2.addr hj
    rw [ht] at z
    cases z
  have x2 := Ext.hid (o := .lst []) x.s ht
  refine ⟨x2.s, x.h.trans x2.h, by simpa using sl, by rw [List.getElem?_set_ne (by decide), List.getElem?_set_ne (by decide)]; exact s0, by rw [List.getElem?_set_ne (by decide), List.getElem?_set_ne (by decide)]; exact s1, by rw [List.getElem?_set_ne (by decide), List.getElem?_set_ne (by decide)]; exact s2,
    by rw [List.getElem?_set_ne (by decide)]; exact List.getElem?_set_self (by omega), List.getElem?_set_self (by rw [List.length_set]; omega), x.f _ _ lf, x.f _ _ lc, b1.mono x.f, b2.mono x.f, nv.mono x2, ⟨[], upd_same, RVs.nil⟩, ft, ntp, nq, hp, hq, x.h.free ht⟩
end
/-- the promise of the door -/
def spDr (M : Sm) (T : Tb) (n kc ks ko : Nat) (ls : List LmD) : Sp := fun vs H Q _ => ∃ F l d1 d2 r1 r2 f v1 v2, vs = [f, v1, v2] ∧ Same F H ∧ RV M F (.lam l) f ∧ RV M F (.lst d1) v1 ∧ RV M F (.lst d2) v2 ∧ okD T n kc ks ko ls l d1 d2 r1 r2 ∧ ∀ H', Same H H' → Q (.bl true) H'
theorem spDr_len {M : Sm} {T : Tb} {n kc ks ko : Nat} {ls : List LmD} (vs : List V) (H : Hp) (Q : VK) (E : XK) (h : spDr M T n kc ks ko ls vs H Q E) : vs.length = 3 := by
  obtain ⟨F, l, d1, d2, r1, r2, f, v1, v2, rfl, _⟩ := h
  rfl
theorem dr_rd {M : Sm} {T : Tb} {n kc ks ko : Nat} {ls : List LmD} {N : List Str} (hN : N.length = 9) (vs : List V) (H : Hp) (Q : VK) (E : XK) (h : spDr M T n kc ks ko ls vs H Q E) : tDoor M { T with lv := n } n kc ks ko ls { nx := fun _ H' => Q .non H', rt := Q } (L2.start N vs) H := by
  obtain ⟨F, l, d1, d2, r1, r2, f, v1, v2, rfl, s, ⟨fa, c, rfl, lf, lc⟩, b1, b2, ok, k⟩ := h
  refine ⟨l, d1, d2, r1, r2, fa, c, v1, v2, H, ok.lv, rfl, ?_, rfl, rfl, rfl, F, s, lf, lc, b1, b2, k⟩
  unfold L2.start
  simp [hN]
end Nt

set_option Elab.async false
set_option linter.all false
set_option maxRecDepth 100000
set_option maxHeartbeats 4000000
/-! Rows of lambdas, made; the law's walk. -/
namespace Nt
open PySem PySem.Spec PyProof.Rows L2 LamX
theorem tabs_lst {tbs : List (Addr × Str)} {H : Hp} {p : Addr} {vs us : List V} (h : H p = some (.lst vs)) (t : Tabs tbs H) : Tabs tbs (upd H p (.lst us)) := fun q hq => by
  obtain ⟨ps, e1, e2, e3⟩ := t q hq
  have n1 : q.1 ≠ p := fun z => by rw [z, h] at e1; cases e1
  refine ⟨ps, (upd_ne n1).trans e1, e2, fun pos cv hc => ?_⟩
  obtain ⟨c, z1, z2⟩ := e3 pos cv hc
  have n2 : c ≠ p := fun z => by rw [z, h] at z2; cases z2
  exact ⟨c, z1, (upd_ne n2).trans z2⟩
/-- the rows made so far -/
structure RwS (M : Sm) (tbs : List (Addr × Str)) (p : Addr) (ds : List D) (F : Hp) (σ : L2.St) (H : Hp) : Prop where
  s : Same F H
  nt : NT F
  tb : Tabs tbs H
  s0 : σ[0]? = some (some (.ref p))
  pl : ∃ vs, H p = some (.lst vs) ∧ RVs M F ds vs
  fp : F p = none
/-- what the rest of such a def asks -/
def tRows (M : Sm) (tbs : List (Addr × Str)) (rest : List D) : TS := fun Dn σ H => ∃ p F ds, RwS M tbs p ds F σ H ∧ ds.length + rest.length ≤ 1000 ∧ ∀ F' H' v, Same F F' → Same F' H' → NT F' → Tabs tbs H' → RV M F' (.lst (ds ++ rest)) v → Dn.rt v H'
/-- the promise of such a def -/
def spRw (M : Sm) (tbs : List (Addr × Str)) (rows : List D) : Sp := fun vs H Q _ => vs = [] ∧ ∃ F, NT F ∧ Same F H ∧ Tabs tbs H ∧ ∀ F' H' v, Same F F' → Same F' H' → NT F' → Tabs tbs H' → RV M F' (.lst rows) v → Q v H'
def tRw0 (M : Sm) (tbs : List (Addr × Str)) (rows : List D) : TS := fun Dn σ H => 1 ≤ σ.length ∧ spRw M tbs rows [] H Dn.rt E0
section
variable {W : Wd} {X : Cx} {tbs : List (Addr × Str)}
theorem rw_end {re : Expr} {pos : Pos} (g : Gd W X) (h : PE X re (tVar 0)) : PSs X [.Return (some re) pos] (tRows (sm X W) tbs []) := PSs.imp (pss_one (ps_ret h)) fun Dn σ H ⟨p, F, ds, S, hl, k⟩ => by
  obtain ⟨vs, e1, e2⟩ := S.pl
  refine ⟨.ref p, S.s0, k (upd F p (.lst vs)) H (.ref p) (Nt.same_new S.fp) (fun b o e => ?_) (fun b ps e => ?_) S.tb ⟨p, vs, rfl, upd_same, ?_⟩⟩
  · by_cases z : b = p
    · rw [z, upd_same] at e
      rw [z, e1]
      exact e
    · rw [upd_ne z] at e
      exact S.s _ _ e
  · by_cases z : b = p
    · rw [z, upd_same] at e
      cases e
    · rw [upd_ne z] at e
      exact S.nt _ _ e
  · rw [List.append_nil]
    exact e2.mono (Nt.same_new S.fp)
theorem unT_pn {F : Hp} {p : Addr} (h : F p = none) : unT F p = none := unT_none h
theorem rw_app {st : Stmt} {rest : List Stmt} {l : LmD} {d1 d2 : List D} {p1 p2 : E} {more : List D} (g : Gd W X)
    (h : PS X st (tDrop (tBM X.K "list" rAppend (tVar 0) (tCons (tTup (tCons (tMkL tbs l) (tCons (tD (sm X W) W p1) (tCons (tD (sm X W) W p2) tNil)))) tNil))))
    (e1 : W.ev p1 [] = some (.lst d1)) (e2 : W.ev p2 [] = some (.lst d2)) (hr : PSs X rest (tRows (sm X W) tbs more)) :
    PSs X (st :: rest) (tRows (sm X W) tbs (.tup [.lam l, .lst d1, .lst d2] :: more)) := PSs.imp (pss_cons h hr) fun Dn σ H ⟨p, F, ds, S, hl, k⟩ => by
  obtain ⟨vs, hp, rs⟩ := S.pl
  have en : ∀ (F : Hp) (l : List Nat), EnvF (sm X W) F l [] σ := fun F l j _ d e => by simp [gt] at e
  have es : ∀ (F H : Hp), EnvS (sm X W) F H [] σ := fun F H => ⟨Nat.zero_le _, fun j d e => by simp [gt] at e⟩
  refine ⟨.ref p, S.s0, .inl ⟨rfl, _, SqL.of hp⟩, S.tb, fun f c H1 eN tb1 hf hlf hlc => ?_⟩
  obtain ⟨F1, hF1⟩ : ∃ F1 : Hp, ∀ a, F1 a = if a = f ∨ a = c then H1 a else F a := ⟨fun a => if a = f ∨ a = c then H1 a else F a, fun a => rfl⟩
  have ff : F f = none := S.s.free hf
  have sFH1 : Same F H1 := nt_same S.nt S.s eN
  have s01 : Same F F1 := fun a o e => by
    rw [hF1]
    by_cases z : a = f ∨ a = c
    · rw [if_pos z]
      exact sFH1 _ _ e
    · rw [if_neg z]
      exact e
  have s1 : Same F1 H1 := fun a o e => by
    rw [hF1] at e
    by_cases z : a = f ∨ a = c
    · rw [if_pos z] at e
      exact e
    · rw [if_neg z] at e
      exact sFH1 _ _ e
  have hp1 : H1 p = some (.lst vs) := eN _ _ hp fun ps z => by cases z
  have npf : p ≠ f := fun z => by rw [z, hf] at hp; cases hp
  have npc : p ≠ c := fun z => by rw [z, hlc] at hp1; cases hp1
  have f1p : F1 p = none := by rw [hF1, if_neg (by rintro (z | z); exact npf z; exact npc z)]; exact S.fp
  have rl : RV (sm X W) F1 (.lam l) (.ref f) := ⟨f, c, rfl, by rw [hF1, if_pos (.inl rfl)]; exact hlf, by rw [hF1, if_pos (.inr rfl)]; exact hlc⟩
  refine ⟨F1, [], .lst d1, s1, es F1 H1, en _ _, e1, fun w1 F2 H2 x2 t2 => ?_⟩
  obtain ⟨F2, x2, _, q2⟩ := t2.plain x2
  refine ⟨F2, [], .lst d2, x2.s, es F2 H2, en _ _, e2, fun w2 F3 H3 x3 t3 => ?_⟩
  obtain ⟨F3, x3, _, q3⟩ := t3.plain x3
  refine ⟨by rw [sizeLine_eq]; simp, fun tp htp => ?_⟩
  have x4 := Ext.new (o := .tup [.ref f, w1, w2]) x3.s htp
  have x14 := (x2.trans x3).trans x4
  obtain ⟨f4p, h4p⟩ := fresh_grow x14 f1p (by rw [hp1]; exact fun z => by cases z)
  have hp4 : (upd H3 tp (.tup [.ref f, w1, w2])) p = some (.lst vs) := x14.h _ _ hp1
  obtain ⟨F4, hF4⟩ : ∃ F4, upd F3 tp (.tup [.ref f, w1, w2]) = F4 := ⟨_, rfl⟩
  obtain ⟨H4, hH4⟩ : ∃ H4, upd H3 tp (.tup [.ref f, w1, w2]) = H4 := ⟨_, rfl⟩
  have r4 : RV (sm X W) F4 (.tup [.lam l, .lst d1, .lst d2]) (.ref tp) := by
    rw [← hF4]
    exact ⟨tp, _, rfl, .inl (.inl upd_same), RVs.cons (rl.mono x14.f) (RVs.cons ((q2.mono x3.f).mono x4.f) (RVs.cons (q3.mono x4.f) RVs.nil))⟩
  rw [hF4, hH4] at x14
  rw [hF4] at f4p
  rw [hH4] at hp4 ⊢
  have s05 : Same F (unT F4) := fun a o e => unT_some (x14.f _ _ (s01 _ _ e)) fun ps z => S.nt a ps (by rw [e, z])
  have len := rs.len
  have hl : ds.length + (more.length + 1) ≤ 1000 := hl
  refine ⟨p, vs, .ref tp, rfl, rfl, hp4, by rw [len, sizeLine_eq]; omega, p, unT F4, ds ++ [.tup [.lam l, .lst d1, .lst d2]], ⟨fun b o e => ?_, unT_NT _, tabs_lst hp4 (tabs_s tb1 x14.h), S.s0, ⟨_, upd_same, ?_⟩, unT_none f4p⟩, by rw [List.length_append]; show ds.length + 1 + more.length ≤ 1000; omega, fun F' H' v a1 a2 a3 a4 a5 => ?_⟩
  · rw [upd_ne (ne_of_none e (unT_none f4p))]
    exact x14.s _ _ (unT_of e)
  · exact rvs_n unT_ext ((rs.mono (s01.trans x14.f)).append (RVs.cons r4 RVs.nil))
  · exact k F' H' v (s05.trans a1) a2 a3 a4 (by rw [List.append_assoc] at a5; exact a5)
theorem rw_ps {st : Stmt} {rest : List Stmt} {rows : List D} (g : Gd W X) (h : PS X st (tAsg (tLst tNil) (gName 0))) (hr : PSs X rest (tRows (sm X W) tbs rows)) (hl : rows.length ≤ 1000) : PSs X (st :: rest) (tRw0 (sm X W) tbs rows) := PSs.imp (pss_cons h hr) fun Dn σ H ⟨sl, _, F, nt, s, tb, k⟩ => by
  refine ⟨by rw [sizeLine_eq]; simp, fun p hp => ?_⟩
  refine ⟨p, F, [], ⟨(Ext.hid s hp).s, nt, tabs_s tb (Nt.same_new hp), List.getElem?_set_self (by omega), ⟨[], upd_same, RVs.nil⟩, s.free hp⟩, by simpa using hl, k⟩
end
theorem rw_fn {ca : Nat → Addr} {T : Tb} {tbs : List (Addr × Str)} {P : Program} {w : World} {K : PySem.W.Frag} {mg : Str → Option Value} {base : Heap} {x qual : Str} {st : Stmt} {f c : Addr} {fd : FuncData} {N : List Str} {n : Nat} {rows : List D} (Fu : FunC K x qual st f fd c) (S : FnScope N [] (defScope st)) (hN : N.length = 1)
    (hb : ∀ (A : Around) (outer : List PySem.Env) (s : Shared) (H : Hp) (E : XK), Gd ⟨ca, { T with lv := n }⟩ (cxOf CX0 P w K mg base N qual (defScope st) f (.ref c) A outer s H E).nox →
      PSs (cxOf CX0 P w K mg base N qual (defScope st) f (.ref c) A outer s H E).nox (defBody st) (tRw0 ⟨K, ca, T.cn⟩ tbs rows)) : FnOk P w K mg base CX0 (n + 1) f fd [] (spRw ⟨K, ca, T.cn⟩ tbs rows) := by
  obtain ⟨oc, od, kV, doc, pm, an, ct, osl, rfl, lk, hcd⟩ := Fu.ex
  refine fn_of lk hcd S (fun vs H Q E h => by rw [h.1]; rfl) fun A outer s H vs Q E hr hsp => ?_
  refine ⟨_, (hb A outer s H E ⟨rfl, hr, rfl⟩).nox, ?_⟩
  obtain ⟨rfl, h⟩ := hsp
  refine ⟨?_, rfl, h⟩
  unfold L2.start
  simp [hN]
/-! ### the law -/
def p3L (k : Nat) : E := .o2 .mod (.o1 .abs (.call k (.cons (.var 0) (.cons (.lit (.int 0)) .nil)))) (.o1 .len (.var 1))
def s4L : Sr := .sq (.o2 .add (.slL (.var 1) (.var 2)) (.slH (.var 1) (.var 2)))
/-- what the law asks, in plain words -/
structure okLaw (T : Tb) (n : Nat) (T0 : Tb) (nd kl kc ks ko : Nat) (ls : List LmD) (rows : List D) (ns : List Int) : Prop where
  ex : ∃ d1 b rs, ev T (run T n) (.slH (.var 0) (.lit (.int 63))) [some (.frl ns)] = some d1 ∧ ev T (run T n) (p3L kl) [some d1, some (.lst rows)] = some b ∧ evr T (run T n) s4L [none, some (.lst rows), some b] = some rs ∧
    ∀ r ∈ rs, ∃ l d1 d2 r1 r2, r = .tup [.lam l, .lst d1, .lst d2] ∧ okD T0 nd kc ks ko ls l d1 d2 r1 r2
def tLaw (M : Sm) (T : Tb) (n : Nat) (T0 : Tb) (nd kl kc ks ko : Nat) (ls : List LmD) (tbs : List (Addr × Str)) (rows : List D) : TS := fun Dn σ H => ∃ a ns, 6 ≤ σ.length ∧ σ[0]? = some (some (.ref a)) ∧ SqL M.K H a (ns.map V.int) ∧ Tabs tbs H ∧ okLaw T n T0 nd kl kc ks ko ls rows ns ∧ ∀ H', Dn.rt (.bl true) H'
section
variable {W : Wd} {X : Cx} {tbs : List (Addr × Str)} {ls : List LmD} {T0 : Tb} {nd kl kc ks ko : Nat} {rows1 rows2 : List D}
theorem law_ps {st1 st2 st3 : Stmt} {tg it de re : Expr} {bad : List Stmt} {q1 q2 q3 q4 : Pos} (g : Gd W X)
    (h1 : PS X st1 (tAsg (tD (sm X W) W (.slH (.var 0) (.lit (.int 63)))) (gName 0)))
    (h2 : PS X st2 (tAsg (tOp (rAdd3 X.K) (tCall (spRw (sm X W) tbs rows1) [] E0 tNil) (tCall (spRw (sm X W) tbs rows2) [] E0 tNil)) (gName 1)))
    (h3 : PS X st3 (tAsg (tD (sm X W) W (p3L kl)) (gName 2)))
    (hi : DR W true X tg it s4L) (hg : PG X tg (gT X.K (.many [3, 4, 5])))
    (hd : PE X de (tCall (spDr (sm X W) T0 nd kc ks ko ls) [] E0 (tCons (tVar 3) (tCons (tVar 4) (tCons (tVar 5) tNil)))))
    (hr : PE X re (tC (.bl true))) (hl : rows1.length + rows2.length ≤ 1000)
    (hde : ∀ whole, isTrue de X.env whole = (do let v ← whole; standAt de.pos; holding [v] (truthy v)) := by intro _; rfl) (hf : ∀ x, foldedSetIterable it X.env x = pure x := by intro _; rfl) :
    PSs X [st1, st2, st3, .For tg it [.If (.UnaryOp .Not de q1) bad [] q2] [] q3, .Return (some re) q4] (tLaw (sm X W) W.T W.n T0 nd kl kc ks ko ls tbs (rows1 ++ rows2)) := by
  have hp : PassesOwn (model X.prog X.w) X.A X.env X.xe := by rw [g.nox]; exact PassesOwn.never
  refine PSs.imp (pss_cons h1 (pss_cons h2 (pss_cons h3 (pss_cons (ps_for hp g.calm hi hg (pss_one (ps_if (pt_not (pt_val hd hde)) (pss_never (sts := bad)) pss_nil)) hf) (pss_one (ps_ret hr)))))) fun Dn σ H ⟨a, ns, sl, s0, hq, tb, ⟨d1, b, rs, e1, e3, e4, hrs⟩, k⟩ => ?_
  have hq' : SqL X.K (unT H) a (ns.map V.int) := hq.elim (fun z => .inl (rd_n unT_ext z fun ps y => by cases y)) .inr
  refine ⟨unT H, [some (.frl ns)], d1, unT_same, ⟨by show 1 ≤ σ.length; omega, fun j d e => ?_⟩, (fun j m d e => by cases m), e1, fun w1 F1 H1 x1 t1 => ?_⟩
  · match j, e with
    | 0, e => cases e; exact ⟨_, s0, a, rfl, hq'⟩
    | j + 1, e => cases e
  obtain ⟨F1, x1, _, q1⟩ := t1.plain x1
  have tb1 : Tabs tbs H1 := tabs_s tb x1.h
  refine gName_i ?_
  refine ⟨rfl, unT F1, unT_NT _, fun b o e => x1.s _ _ (unT_of e), tb1, fun F2 H2 w2 a1 a2 a3 a4 a5 => ?_⟩
  refine ⟨rfl, F2, a3, a2, a4, fun F3 H3 w3 b1 b2 b3 b4 b5 => ?_⟩
  obtain ⟨p1, us1, rfl, hp1, hu1⟩ := a5
  obtain ⟨p2, us2, rfl, hp2, hu2⟩ := b5
  have l1 := hu1.len
  have l2 := hu2.len
  refine .inr (.inr ⟨p1, p2, us1, us2, rfl, rfl, b2 _ _ (b1 _ _ hp1), b2 _ _ hp2, by rw [l1, l2, sizeLine_eq]; omega, fun p hp => ?_⟩)
  have x4 := Ext.new (o := .lst (us1 ++ us2)) b2 hp
  have q1' : RV (sm X W) (unT F1) d1 w1 := rv_n unT_ext q1
  have d14 : RV (sm X W) (upd F3 p (.lst (us1 ++ us2))) d1 w1 := ((q1'.mono a1).mono b1).mono x4.f
  have r4 : RV (sm X W) (upd F3 p (.lst (us1 ++ us2))) (.lst (rows1 ++ rows2)) (.ref p) := ⟨p, _, rfl, upd_same, ((hu1.mono b1).append hu2).mono x4.f⟩
  obtain ⟨F4, hF4⟩ : ∃ F4, upd F3 p (.lst (us1 ++ us2)) = F4 := ⟨_, rfl⟩
  obtain ⟨H4, hH4⟩ : ∃ H4, upd H3 p (.lst (us1 ++ us2)) = H4 := ⟨_, rfl⟩
  have s4 := x4.s
  rw [hF4] at d14 r4 s4
  rw [hH4] at s4 ⊢
  refine gName_i ?_
  obtain ⟨σ4, hσ4⟩ : ∃ σ4, (σ.set 0 (some w1)).set 1 (some (V.ref p)) = σ4 := ⟨_, rfl⟩
  have l4 : 6 ≤ σ4.length := by rw [← hσ4]; simpa using sl
  have g0 : σ4[0]? = some (some w1) := by rw [← hσ4, List.getElem?_set_ne (by decide)]; exact List.getElem?_set_self (by omega)
  have g1 : σ4[1]? = some (some (V.ref p)) := by rw [← hσ4]; exact List.getElem?_set_self (by rw [List.length_set]; omega)
  rw [hσ4]
  have env3 : ∀ j d, gt [some d1, some (.lst (rows1 ++ rows2))] j = some d → ∃ v, σ4[j]? = some (some v) ∧ RV (sm X W) F4 d v := fun j d e => by
    match j, e with
    | 0, e => cases e; exact ⟨_, g0, d14⟩
    | 1, e => cases e; exact ⟨_, g1, r4⟩
    | j + 2, e => cases e
  refine ⟨F4, [some d1, some (.lst (rows1 ++ rows2))], b, s4, ⟨by show 2 ≤ σ4.length; omega, fun j d e => ?_⟩, (fun j m d e => by cases m), e3, fun w5 F5 H5 x5 t5 => ?_⟩
  · obtain ⟨v, z1, z2⟩ := env3 j d e
    exact ⟨v, z1, z2.rs s4⟩
  obtain ⟨F5, x5, _, q5⟩ := t5.plain x5
  refine gName_i ?_
  have g51 : (σ4.set 2 (some w5))[1]? = some (some (V.ref p)) := by rw [List.getElem?_set_ne (by decide)]; exact g1
  have g52 : (σ4.set 2 (some w5))[2]? = some (some w5) := List.getElem?_set_self (by omega)
  have l5 : 6 ≤ (σ4.set 2 (some w5)).length := by rw [List.length_set]; exact l4
  obtain ⟨σ5, hσ5⟩ : ∃ σ5, σ4.set 2 (some w5) = σ5 := ⟨_, rfl⟩
  rw [hσ5] at g51 g52 l5 ⊢
  refine ⟨F5, [none, some (.lst (rows1 ++ rows2)), some b], rs, x5.s, ⟨by show 3 ≤ σ5.length; omega, fun j d e => ?_⟩, (fun j m d e => by cases m), e4, fun J F6 H6 x6 Y => ?_⟩
  · match j, e with
    | 0, e => cases e
    | 1, e => cases e; exact ⟨_, g51, (r4.mono x5.f).rs x5.s⟩
    | 2, e => cases e; exact ⟨_, g52, q5.rs x5.s⟩
    | j + 3, e => cases e
  refine ⟨fun i m σ H => m = rs.length - i ∧ i ≤ rs.length ∧ 6 ≤ σ.length ∧ Same F6 H, ⟨rs.length, by simp, Nat.zero_le _, l5, x6.s⟩, ?_⟩
  rintro i m σ7 H7 ⟨rfl, hle, l7, s7⟩
  by_cases hlt : i < rs.length
  · have gd : rs[i]? = some rs[i] := List.getElem?_eq_getElem hlt
    obtain ⟨go, yl⟩ := Y.item i _ F6 H7 (Same.refl _) s7 s7 gd
    refine .inr ⟨go, fun σ' H' => i + 1 ≤ rs.length ∧ 6 ≤ σ'.length ∧ Same F6 H', fun σ' H' ⟨z1, z2⟩ => ⟨rs.length - (i + 1), by omega, rfl, z1, z2⟩, fun x8 H8 y8 => ?_⟩
    obtain ⟨F8, xx, rx⟩ := yl x8 H8 y8
    obtain ⟨l, dd1, dd2, rr1, rr2, er, ok⟩ := hrs _ (List.getElem_mem hlt)
    rw [er] at rx
    obtain ⟨ta, txs, rfl, hta, u1, y1, rfl, hu1', u2, y2, rfl, hu2', u3, y3, rfl, hu3', hy⟩ := rx
    obtain rfl : y3 = [] := hy
    refine ⟨ta, _, rfl, Same.sqt xx.s hta, rfl, ?_⟩
    have l8 : 6 ≤ (((σ7.set 3 (some u1)).set 4 (some u2)).set 5 (some u3)).length := by simpa using l7
    have k3 : (((σ7.set 3 (some u1)).set 4 (some u2)).set 5 (some u3))[3]? = some (some u1) := by rw [List.getElem?_set_ne (by decide), List.getElem?_set_ne (by decide)]; exact List.getElem?_set_self (by omega)
    have k4 : (((σ7.set 3 (some u1)).set 4 (some u2)).set 5 (some u3))[4]? = some (some u2) := by rw [List.getElem?_set_ne (by decide)]; exact List.getElem?_set_self (by rw [List.length_set]; omega)
    have k5 : (((σ7.set 3 (some u1)).set 4 (some u2)).set 5 (some u3))[5]? = some (some u3) := List.getElem?_set_self (by simp only [List.length_set]; omega)
    refine ⟨u1, k3, u2, k4, u3, k5, ?_⟩
    exact ⟨F8, l, dd1, dd2, rr1, rr2, u1, u2, u3, rfl, xx.s, hu1', hu2', hu3', ok, fun H9 s9 => ⟨true, rfl, iteF ⟨hlt, l8, (xx.f.trans xx.s).trans s9⟩⟩⟩
  · have e : i = rs.length := by omega
    subst e
    exact .inl ⟨Y.stop _ F6 H7 (Same.refl _) s7 s7 (Nat.le_refl _), k H7⟩
end
/-- the promise of the law -/
def spLaw (M : Sm) (T : Tb) (n : Nat) (T0 : Tb) (nd kl kc ks ko : Nat) (ls : List LmD) (tbs : List (Addr × Str)) (rows : List D) : Sp := fun vs H Q _ => ∃ a ns, vs = [.ref a] ∧ SqL M.K H a (ns.map V.int) ∧ Tabs tbs H ∧ okLaw T n T0 nd kl kc ks ko ls rows ns ∧ ∀ H', Q (.bl true) H'
theorem spLaw_len {M : Sm} {T T0 : Tb} {n nd kl kc ks ko : Nat} {ls : List LmD} {tbs : List (Addr × Str)} {rows : List D} (vs : List V) (H : Hp) (Q : VK) (E : XK) (h : spLaw M T n T0 nd kl kc ks ko ls tbs rows vs H Q E) : vs.length = 1 := by
  obtain ⟨a, ns, rfl, _⟩ := h
  rfl
theorem law_rd {M : Sm} {T T0 : Tb} {n nd kl kc ks ko : Nat} {ls : List LmD} {tbs : List (Addr × Str)} {rows : List D} {N : List Str} (hN : N.length = 6) (vs : List V) (H : Hp) (Q : VK) (E : XK) (h : spLaw M T n T0 nd kl kc ks ko ls tbs rows vs H Q E) : tLaw M T n T0 nd kl kc ks ko ls tbs rows { nx := fun _ H' => Q .non H', rt := Q } (L2.start N vs) H := by
  obtain ⟨a, ns, rfl, h⟩ := h
  refine ⟨a, ns, ?_, rfl, h⟩
  unfold L2.start
  simp [hN]
/-! ### for the derivations -/
theorem lm_lv {ca : Nat → Addr} {T : Tb} {P : Program} {w : World} {K : PySem.W.Frag} {mg : Str → Option Value} {base : Heap} {n a : Nat} {l : LmD} (h : LmAt ca T P w K mg base n l) : LmAt ca { T with lv := a } P w K mg base n l :=
  ⟨fun A outer s H f c u v Q h1 h2 h3 h4 h5 hsp => h.run A outer s H f c u v Q h1 h2 h3 h4 h5 (by
    obtain ⟨fn, F, ds, d, e1, e2, s, r, ev, q⟩ := hsp
    exact ⟨fn, F, ds, d, e1, e2, s, r, by rw [← run_lv T a n l.k ds]; exact ev, q⟩)⟩
theorem spO_lv {M : Sm} {T : Tb} {a n k : Nat} (vs : List V) (H : Hp) (Q : VK) (E : XK) (h : spO M { T with lv := a } n k vs H Q E) : spO M T n k vs H Q E := by
  obtain ⟨F, r, xs, ws, e1, e2, e3, e4, e5, e6, e7⟩ := h
  exact ⟨F, r, xs, ws, e1, e2, e3, e4, e5, by rw [← run_lv T a n k]; exact e6, e7⟩
section
variable {W : Wd} {X : Cx} {x : Str} {e : Expr} {es : List Expr} {ta : TA} {k : Nat} {f : Addr} {pos pp : Pos}
theorem pe_callD (g : Gd W X) (F : FnX W X k f) (hm : X.mg x = some (.ref f)) (ha : PA X (e :: es) ta) (hg : Gl X x := by rfl) (hdb : (x == ("__debug__" : Str)) = false := by decide)
    (he : starEach (e :: es) X.env = (false, eval e X.env) :: starEach es X.env := by rfl) (hpl : (backTo pos (starEach es X.env)).any (·.1) = false := by rfl) : PE X (.Call (.Name x pp) (e :: es) [] pos) (tCall (spD (sm X W) W.T W.n k) [] E0 ta) := by
  obtain ⟨fd, pr, kp, hb, ok⟩ := F.ex
  exact pe_call ok g.room hg hm kp hb .nil pass0 ha hdb he hpl
theorem gbP {s : Shared} {H : Hp} {sc : Scope} {env : PySem.Env} {fp : List Addr} {t : TE} (g : Gd W X) (h : Gd W (X.blk s H sc env fp) → PE (X.blk s H sc env fp) e t) : PE (X.blk s H sc env fp) e t := h (gd_blk g)
end
def bodyAt (st : Stmt) (j : Nat) : Stmt := (defBody st).getD j (.Pass ⟨0, 0, 0, 0⟩)
/-- the lambda that such a statement appends, as number k -/
def lamOf (k : Nat) (q : Str) : Stmt → LmD
  | .Expr (.Call _ [.Tuple [.Lambda ps b sc _, _, _] _ _] _ _) _ => ⟨k, q, ps, b, sc⟩
  | _ => ⟨k, q, default, .Constant .none 0 ⟨0, 0, 0, 0⟩, { kind := .function, names := [], isGenerator := false, isCoroutine := false }⟩
theorem lamP_by {l : LmD} {x : Str} (h : NdefX.nscB [x] [x] [] l.scope = true) (h1 : (l.scope.names.all fun y => !decide (y.2 = .free)) = true) (h2 : l.params.defaults = []) (h3 : l.params.kw_defaults = []) (hb : ∀ (pm cv ctv u : Value), bindArgs (PySem.W.kla_fn "<lambda>" l.qual l.params l.body l.scope [] pm cv ctv) ⟨[u], []⟩ = pure [(x, u)]) : LamP l [x] x :=
  ⟨fun y m e => by
    have := List.all_eq_true.mp h1 y m
    simp [e] at this, NdefX.nscope_by h, h2, h3, hb⟩
end Nt

set_option Elab.async false
set_option linter.all false
set_option maxRecDepth 100000
set_option maxHeartbeats 0
namespace Nt_nothrees_k14_whole_handed
open PySem PySem.Spec PyProof.Rows L2 Nt LamX
def topS (i : Nat) : Stmt := PySem.Challenge.pw_nothrees_k14_whole_handed.main.body.getD i (.Pass ⟨0, 0, 0, 0⟩)
abbrev s0 : Stmt := topS 14
def N0 : List Str := ["thing"]
theorem sc0 : FnScope N0 ["thing"] (defScope s0) := ⟨rfl, rfl, rfl, by decide +kernel, rfl, by decide +kernel, by decide +kernel⟩
abbrev s1 : Stmt := topS 15
def N1 : List Str := ["thing"]
theorem sc1 : FnScope N1 ["thing"] (defScope s1) := ⟨rfl, rfl, rfl, by decide +kernel, rfl, by decide +kernel, by decide +kernel⟩
abbrev s2 : Stmt := topS 16
def N2 : List Str := ["field"]
theorem sc2 : FnScope N2 ["field"] (defScope s2) := ⟨rfl, rfl, rfl, by decide +kernel, rfl, by decide +kernel, by decide +kernel⟩
abbrev s3 : Stmt := topS 17
def N3 : List Str := ["field"]
theorem sc3 : FnScope N3 ["field"] (defScope s3) := ⟨rfl, rfl, rfl, by decide +kernel, rfl, by decide +kernel, by decide +kernel⟩
abbrev s4 : Stmt := topS 18
def N4 : List Str := ["field"]
theorem sc4 : FnScope N4 ["field"] (defScope s4) := ⟨rfl, rfl, rfl, by decide +kernel, rfl, by decide +kernel, by decide +kernel⟩
abbrev s5 : Stmt := topS 19
def N5 : List Str := ["field", "found", "place", "longer", "point", "number"]
theorem sc5 : FnScope N5 ["field"] (defScope s5) := ⟨rfl, rfl, rfl, by decide +kernel, rfl, by decide +kernel, by decide +kernel⟩
abbrev s6 : Stmt := topS 20
def N6 : List Str := ["field"]
theorem sc6 : FnScope N6 ["field"] (defScope s6) := ⟨rfl, rfl, rfl, by decide +kernel, rfl, by decide +kernel, by decide +kernel⟩
abbrev s7 : Stmt := topS 21
def N7 : List Str := ["field", "thing", "one"]
theorem sc7 : FnScope N7 ["field", "thing"] (defScope s7) := ⟨rfl, rfl, rfl, by decide +kernel, rfl, by decide +kernel, by decide +kernel⟩
abbrev s8 : Stmt := topS 22
def N8 : List Str := ["field", "thing", "one", "other", "point"]
theorem sc8 : FnScope N8 ["field", "thing"] (defScope s8) := ⟨rfl, rfl, rfl, by decide +kernel, rfl, by decide +kernel, by decide +kernel⟩
abbrev s9 : Stmt := topS 23
def N9 : List Str := ["field", "points"]
theorem sc9 : FnScope N9 ["field", "points"] (defScope s9) := ⟨rfl, rfl, rfl, by decide +kernel, rfl, by decide +kernel, by decide +kernel⟩
abbrev s10 : Stmt := topS 24
def N10 : List Str := ["field", "one", "two", "three", "span", "first", "second", "figures"]
theorem sc10 : FnScope N10 ["field", "one", "two", "three"] (defScope s10) := ⟨rfl, rfl, rfl, by decide +kernel, rfl, by decide +kernel, by decide +kernel⟩
abbrev s11 : Stmt := topS 25
def N11 : List Str := ["field", "points"]
theorem sc11 : FnScope N11 ["field", "points"] (defScope s11) := ⟨rfl, rfl, rfl, by decide +kernel, rfl, by decide +kernel, by decide +kernel⟩
abbrev s21 : Stmt := topS 28
def N21 : List Str := ["field", "points", "point", "at", "one", "two"]
theorem sc21 : FnScope N21 ["field", "points", "point"] (defScope s21) := ⟨rfl, rfl, rfl, by decide +kernel, rfl, by decide +kernel, by decide +kernel⟩
abbrev s22 : Stmt := topS 29
def N22 : List Str := ["field", "points", "at", "one", "spot", "three"]
theorem sc22 : FnScope N22 ["field", "points"] (defScope s22) := ⟨rfl, rfl, rfl, by decide +kernel, rfl, by decide +kernel, by decide +kernel⟩
abbrev s23 : Stmt := topS 30
def N23 : List Str := ["field", "points", "point"]
theorem sc23 : FnScope N23 ["field", "points"] (defScope s23) := ⟨rfl, rfl, rfl, by decide +kernel, rfl, by decide +kernel, by decide +kernel⟩
abbrev s24 : Stmt := topS 31
def N24 : List Str := ["field", "many", "tree", "chosen", "asked", "point", "more", "three"]
theorem sc24 : FnScope N24 ["field", "many", "tree", "chosen", "asked"] (defScope s24) := ⟨rfl, rfl, rfl, by decide +kernel, rfl, by decide +kernel, by decide +kernel⟩
abbrev s31 : Stmt := topS 39
def N31 : List Str := ["field", "points", "found"]
theorem sc31 : FnScope N31 ["field", "points"] (defScope s31) := ⟨rfl, rfl, rfl, by decide +kernel, rfl, by decide +kernel, by decide +kernel⟩
abbrev s32 : Stmt := topS 40
def N32 : List Str := ["field", "points", "found", "at", "one", "spot", "three"]
theorem sc32 : FnScope N32 ["field", "points"] (defScope s32) := ⟨rfl, rfl, rfl, by decide +kernel, rfl, by decide +kernel, by decide +kernel⟩
abbrev s39 : Stmt := topS 41
def N39 : List Str := ["field", "points"]
theorem sc39 : FnScope N39 ["field", "points"] (defScope s39) := ⟨rfl, rfl, rfl, by decide +kernel, rfl, by decide +kernel, by decide +kernel⟩
abbrev s40 : Stmt := topS 42
def N40 : List Str := ["field", "points", "found"]
theorem sc40 : FnScope N40 ["field", "points"] (defScope s40) := ⟨rfl, rfl, rfl, by decide +kernel, rfl, by decide +kernel, by decide +kernel⟩
abbrev s41 : Stmt := topS 43
def N41 : List Str := ["field", "points", "found", "more"]
theorem sc41 : FnScope N41 ["field", "points"] (defScope s41) := ⟨rfl, rfl, rfl, by decide +kernel, rfl, by decide +kernel, by decide +kernel⟩
abbrev s65 : Stmt := topS 45
def N65 : List Str := ["field", "x"]
theorem sc65 : FnScope N65 ["field"] (defScope s65) := ⟨rfl, rfl, rfl, by decide +kernel, rfl, by decide +kernel, by decide +kernel⟩
abbrev s66 : Stmt := topS 46
def N66 : List Str := ["x", "y", "z"]
theorem sc66 : FnScope N66 [] (defScope s66) := ⟨rfl, rfl, rfl, by decide +kernel, rfl, by decide +kernel, by decide +kernel⟩
abbrev s67 : Stmt := topS 47
def N67 : List Str := ["field", "points"]
theorem sc67 : FnScope N67 ["field", "points"] (defScope s67) := ⟨rfl, rfl, rfl, by decide +kernel, rfl, by decide +kernel, by decide +kernel⟩
abbrev s68 : Stmt := topS 48
def N68 : List Str := ["first", "points", "second", "others", "found", "one", "other"]
theorem sc68 : FnScope N68 ["first", "points", "second", "others"] (defScope s68) := ⟨rfl, rfl, rfl, by decide +kernel, rfl, by decide +kernel, by decide +kernel⟩
abbrev s71 : Stmt := topS 49
def N71 : List Str := ["field", "thing"]
theorem sc71 : FnScope N71 ["field", "thing"] (defScope s71) := ⟨rfl, rfl, rfl, by decide +kernel, rfl, by decide +kernel, by decide +kernel⟩
abbrev s72 : Stmt := topS 50
def N72 : List Str := ["field", "point", "move", "many", "at", "one", "more"]
theorem sc72 : FnScope N72 ["field", "point", "move"] (defScope s72) := ⟨rfl, rfl, rfl, by decide +kernel, rfl, by decide +kernel, by decide +kernel⟩
abbrev s73 : Stmt := topS 51
def N73 : List Str := ["field", "points", "move", "point"]
theorem sc73 : FnScope N73 ["field", "points", "move"] (defScope s73) := ⟨rfl, rfl, rfl, by decide +kernel, rfl, by decide +kernel, by decide +kernel⟩
abbrev s47 : Stmt := topS 54
def N47 : List Str := ["field"]
theorem sc47 : FnScope N47 ["field"] (defScope s47) := ⟨rfl, rfl, rfl, by decide +kernel, rfl, by decide +kernel, by decide +kernel⟩
abbrev s48 : Stmt := topS 55
def N48 : List Str := ["field", "many"]
theorem sc48 : FnScope N48 ["field", "many"] (defScope s48) := ⟨rfl, rfl, rfl, by decide +kernel, rfl, by decide +kernel, by decide +kernel⟩
abbrev s49 : Stmt := topS 56
def N49 : List Str := ["field", "many", "chosen", "left", "at", "point", "found"]
theorem sc49 : FnScope N49 ["field", "many", "chosen", "left"] (defScope s49) := ⟨rfl, rfl, rfl, by decide +kernel, rfl, by decide +kernel, by decide +kernel⟩
abbrev s50 : Stmt := topS 57
def N50 : List Str := ["field", "chosen", "three"]
theorem sc50 : FnScope N50 ["field", "chosen"] (defScope s50) := ⟨rfl, rfl, rfl, by decide +kernel, rfl, by decide +kernel, by decide +kernel⟩
abbrev s51 : Stmt := topS 58
def N51 : List Str := ["field", "many", "chosen", "left", "found", "point", "rest"]
theorem sc51 : FnScope N51 ["field", "many", "chosen", "left"] (defScope s51) := ⟨rfl, rfl, rfl, by decide +kernel, rfl, by decide +kernel, by decide +kernel⟩
abbrev s52 : Stmt := topS 59
def N52 : List Str := ["field", "many", "points", "found"]
theorem sc52 : FnScope N52 ["field", "many"] (defScope s52) := ⟨rfl, rfl, rfl, by decide +kernel, rfl, by decide +kernel, by decide +kernel⟩
abbrev s61 : Stmt := topS 60
def N61 : List Str := ["field", "many", "chosen", "left", "found", "at", "point"]
theorem sc61 : FnScope N61 ["field", "many", "chosen", "left"] (defScope s61) := ⟨rfl, rfl, rfl, by decide +kernel, rfl, by decide +kernel, by decide +kernel⟩
abbrev s63 : Stmt := topS 61
def N63 : List Str := ["field", "many", "number", "left", "chosen", "ways", "point"]
theorem sc63 : FnScope N63 ["field", "many", "number"] (defScope s63) := ⟨rfl, rfl, rfl, by decide +kernel, rfl, by decide +kernel, by decide +kernel⟩
abbrev s64 : Stmt := topS 62
def N64 : List Str := ["field", "points", "point", "found", "chosen", "left"]
theorem sc64 : FnScope N64 ["field", "points"] (defScope s64) := ⟨rfl, rfl, rfl, by decide +kernel, rfl, by decide +kernel, by decide +kernel⟩
abbrev s12 : Stmt := topS 64
def N12 : List Str := ["_law_script", "_law_k"]
theorem sc12 : FnScope N12 ["_law_script", "_law_k"] (defScope s12) := ⟨rfl, rfl, rfl, by decide +kernel, rfl, by decide +kernel, by decide +kernel⟩
abbrev s97 : Stmt := topS 65
def N97 : List Str := ["_law_thing", "_law_one"]
theorem sc97 : FnScope N97 ["_law_thing"] (defScope s97) := ⟨rfl, rfl, rfl, by decide +kernel, rfl, by decide +kernel, by decide +kernel⟩
abbrev s98 : Stmt := topS 66
def N98 : List Str := ["_law_handed", "_law_new", "_law_at", "_law_one"]
theorem sc98 : FnScope N98 ["_law_handed", "_law_new"] (defScope s98) := ⟨rfl, rfl, rfl, by decide +kernel, rfl, by decide +kernel, by decide +kernel⟩
abbrev s99 : Stmt := topS 67
def N99 : List Str := ["_law_found", "_law_one"]
theorem sc99 : FnScope N99 ["_law_found"] (defScope s99) := ⟨rfl, rfl, rfl, by decide +kernel, rfl, by decide +kernel, by decide +kernel⟩
abbrev s100 : Stmt := topS 68
def N100 : List Str := ["_law_ask", "_law_first", "_law_second", "_law_some", "_law_handed", "_law_dues", "_law_due", "_law_again", "_law_found"]
theorem sc100 : FnScope N100 ["_law_ask", "_law_first", "_law_second"] (defScope s100) := ⟨rfl, rfl, rfl, by decide +kernel, rfl, by decide +kernel, by decide +kernel⟩
abbrev s101 : Stmt := topS 69
def N101 : List Str := ["_law_rows"]
theorem sc101 : FnScope N101 [] (defScope s101) := ⟨rfl, rfl, rfl, by decide +kernel, rfl, by decide +kernel, by decide +kernel⟩
abbrev s102 : Stmt := topS 70
def N102 : List Str := ["_law_rows"]
theorem sc102 : FnScope N102 [] (defScope s102) := ⟨rfl, rfl, rfl, by decide +kernel, rfl, by decide +kernel, by decide +kernel⟩
abbrev s20 : Stmt := topS 71
def N20 : List Str := ["_law_script", "_law_rows", "_law_begin", "_law_ask", "_law_first", "_law_second"]
theorem sc20 : FnScope N20 ["_law_script"] (defScope s20) := ⟨rfl, rfl, rfl, by decide +kernel, rfl, by decide +kernel, by decide +kernel⟩
abbrev s25 : Stmt := inClass (topS 32) 0
def N25 : List Str := ["self", "field", "points"]
theorem sc25 : FnScope N25 ["self", "field", "points"] (defScope s25) := ⟨rfl, rfl, rfl, by decide +kernel, rfl, by decide +kernel, by decide +kernel⟩
abbrev s26 : Stmt := inClass (topS 33) 1
def N26 : List Str := ["self", "field", "points", "three", "point"]
theorem sc26 : FnScope N26 ["self", "field", "points"] (defScope s26) := ⟨rfl, rfl, rfl, by decide +kernel, rfl, by decide +kernel, by decide +kernel⟩
abbrev s27 : Stmt := inClass (topS 34) 0
def N27 : List Str := ["self", "field", "points"]
theorem sc27 : FnScope N27 ["self", "field", "points"] (defScope s27) := ⟨rfl, rfl, rfl, by decide +kernel, rfl, by decide +kernel, by decide +kernel⟩
abbrev s28 : Stmt := inClass (topS 35) 1
def N28 : List Str := ["self", "field", "points"]
theorem sc28 : FnScope N28 ["self", "field", "points"] (defScope s28) := ⟨rfl, rfl, rfl, by decide +kernel, rfl, by decide +kernel, by decide +kernel⟩
abbrev s29 : Stmt := inClass (topS 36) 1
def N29 : List Str := ["self", "field", "many"]
theorem sc29 : FnScope N29 ["self", "field", "many"] (defScope s29) := ⟨rfl, rfl, rfl, by decide +kernel, rfl, by decide +kernel, by decide +kernel⟩
abbrev s30 : Stmt := inClass (topS 37) 1
def N30 : List Str := ["self", "field", "many"]
theorem sc30 : FnScope N30 ["self", "field", "many"] (defScope s30) := ⟨rfl, rfl, rfl, by decide +kernel, rfl, by decide +kernel, by decide +kernel⟩
/-- is_whole -/
def b0 : Ss := (.cons (.ret (.and (.o1 (.ist .int) (.var 0)) (.o1 .not (.o1 (.ist .bool) (.var 0))))) .nil)
/-- is_field -/
def b1 : Ss := (.cons (.ifs (.or (.o1 .not (.o1 (.ist .tup) (.var 0))) (.or (.o2 .ne (.o1 .len (.var 0)) (.lit (.int 2))) (.or (.o1 .not (.o1 (.ist .str) (.ix (.var 0) (.lit (.int 0))))) (.o1 .not (.call 0 (.cons (.ix (.var 0) (.lit (.int 1))) .nil)))))) (.cons (.ret (.lit (.bl false))) .nil) .nil) (.cons (.ifs (.o2 .eq (.ix (.var 0) (.lit (.int 0))) (.lit (.str "space"))) (.cons (.ret (.ch .le .le (.lit (.int 1)) (.ix (.var 0) (.lit (.int 1))) (.lit (.int 4)))) .nil) .nil) (.cons (.ifs (.o2 .eq (.ix (.var 0) (.lit (.int 0))) (.lit (.str "plane"))) (.cons (.ret (.o2 .mem (.ix (.var 0) (.lit (.int 1))) (.lit (.tup [(.int 2), (.int 3), (.int 5), (.int 7), (.int 11), (.int 13)])))) .nil) .nil) (.cons (.ret (.and (.o2 .eq (.ix (.var 0) (.lit (.int 0))) (.lit (.str "floor"))) (.ch .le .le (.lit (.int 1)) (.ix (.var 0) (.lit (.int 1))) (.lit (.int 12))))) .nil))))
/-- check_field -/
def b2 : Ss := (.cons (.ifs (.o1 .not (.call 1 (.cons (.var 0) .nil))) (.cons .fail .nil) .nil) .nil)
/-- places_of -/
def b3 : Ss := (.cons (.ret (.ite (.o2 .eq (.ix (.var 0) (.lit (.int 0))) (.lit (.str "space"))) (.ix (.var 0) (.lit (.int 1))) (.lit (.int 2)))) .nil)
/-- numbers_of -/
def b4 : Ss := (.cons (.ret (.ite (.o2 .eq (.ix (.var 0) (.lit (.int 0))) (.lit (.str "space"))) (.lit (.int 3)) (.ix (.var 0) (.lit (.int 1))))) .nil)
/-- points_of -/
def b5 : Ss := (.cons (.asg 1 (.lst (.cons (.tup .nil) .nil))) (.cons (.for (.one 2) (.r1 (.call 3 (.cons (.var 0) .nil))) (.cons (.asg 3 (.lst .nil)) (.cons (.for (.one 4) (.sq (.var 1)) (.cons (.ext 3 (.comp (.r1 (.call 4 (.cons (.var 0) .nil))) (.one 5) (.o2 .add (.var 4) (.tup (.cons (.var 5) .nil))))) .nil)) (.cons (.mov 1 3) .nil)))) (.cons (.ret (.var 1)) .nil)))
/-- all_points -/
def b6 : Ss := (.cons (.ex (.call 2 (.cons (.var 0) .nil))) (.cons (.ret (.call 5 (.cons (.var 0) .nil))) .nil))
/-- is_point -/
def b7 : Ss := (.cons (.ifs (.or (.o1 .not (.o1 (.ist .tup) (.var 1))) (.o2 .ne (.o1 .len (.var 1)) (.call 3 (.cons (.var 0) .nil)))) (.cons (.ret (.lit (.bl false))) .nil) .nil) (.cons (.ret (.o1 .all (.comp (.sq (.var 1)) (.one 2) (.and (.call 0 (.cons (.var 2) .nil)) (.ch .le .lt (.lit (.int 0)) (.var 2) (.call 4 (.cons (.var 0) .nil))))))) .nil))
/-- are_points -/
def b8 : Ss := (.cons (.ifs (.or (.o1 .not (.o1 (.ist .lst) (.var 1))) (.o1 .not (.o1 .all (.comp (.sq (.var 1)) (.one 4) (.call 7 (.cons (.var 0) (.cons (.var 4) .nil))))))) (.cons (.ret (.lit (.bl false))) .nil) .nil) (.cons (.ret (.o1 .all (.comp (.zp (.var 1) (.slL (.var 1) (.lit (.int 1)))) (.many [2, 3]) (.o2 .lt (.var 2) (.var 3))))) .nil))
/-- check_points -/
def b9 : Ss := (.cons (.ifs (.o1 .not (.call 8 (.cons (.var 0) (.cons (.var 1) .nil)))) (.cons .fail .nil) .nil) .nil)
/-- lined -/
def b10 : Ss := (.cons (.ifs (.o2 .eq (.ix (.var 0) (.lit (.int 0))) (.lit (.str "space"))) (.cons (.ret (.o1 .all (.comp (.zp3 (.var 1) (.var 2) (.var 3)) (.one 7) (.o2 .eq (.o2 .mod (.o1 .sum (.var 7)) (.lit (.int 3))) (.lit (.int 0)))))) .nil) .nil) (.cons (.par 5 6 (.tup (.cons (.o2 .sub (.ix (.var 2) (.lit (.int 0))) (.ix (.var 1) (.lit (.int 0)))) (.cons (.o2 .sub (.ix (.var 2) (.lit (.int 1))) (.ix (.var 1) (.lit (.int 1)))) .nil))) (.tup (.cons (.o2 .sub (.ix (.var 3) (.lit (.int 0))) (.ix (.var 1) (.lit (.int 0)))) (.cons (.o2 .sub (.ix (.var 3) (.lit (.int 1))) (.ix (.var 1) (.lit (.int 1)))) .nil)))) (.cons (.asg 4 (.o2 .sub (.o2 .mul (.ix (.var 5) (.lit (.int 0))) (.ix (.var 6) (.lit (.int 1)))) (.o2 .mul (.ix (.var 5) (.lit (.int 1))) (.ix (.var 6) (.lit (.int 0)))))) (.cons (.ret (.ite (.o2 .eq (.ix (.var 0) (.lit (.int 0))) (.lit (.str "floor"))) (.o2 .eq (.var 4) (.lit (.int 0))) (.o2 .eq (.o2 .mod (.var 4) (.ix (.var 0) (.lit (.int 1)))) (.lit (.int 0))))) .nil))))
/-- in_line -/
def b11 : Ss := (.cons (.ex (.call 2 (.cons (.var 0) .nil))) (.cons (.ex (.call 9 (.cons (.var 0) (.cons (.var 1) .nil)))) (.cons (.ifs (.o2 .ne (.o1 .len (.var 1)) (.lit (.int 3))) (.cons .fail .nil) .nil) (.cons (.ret (.call 10 (.cons (.var 0) (.cons (.ix (.var 1) (.lit (.int 0))) (.cons (.ix (.var 1) (.lit (.int 1))) (.cons (.ix (.var 1) (.lit (.int 2))) .nil)))))) .nil))))
/-- lines_with -/
def b21 : Ss := (.cons (.for (.many [3, 4]) (.en (.var 1)) (.cons (.ifs (.o1 .any (.comp (.sq (.slH (.var 1) (.var 3))) (.one 5) (.call 10 (.cons (.var 0) (.cons (.var 4) (.cons (.var 5) (.cons (.var 2) .nil))))))) (.cons (.ret (.lit (.bl true))) .nil) .nil) .nil)) (.cons (.ret (.lit (.bl false))) .nil))
/-- first_line -/
def b22 : Ss := (.cons (.for (.many [2, 3]) (.en (.var 1)) (.cons (.for (.one 4) (.r2 (.o2 .add (.var 2) (.lit (.int 1))) (.o1 .len (.var 1))) (.cons (.for (.one 5) (.sq (.slL (.var 1) (.o2 .add (.var 4) (.lit (.int 1))))) (.cons (.ifs (.call 10 (.cons (.var 0) (.cons (.var 3) (.cons (.ix (.var 1) (.var 4)) (.cons (.var 5) .nil))))) (.cons (.ret (.lst (.cons (.var 3) (.cons (.ix (.var 1) (.var 4)) (.cons (.var 5) .nil))))) .nil) .nil) .nil)) .nil)) .nil)) (.cons (.ret (.lit .non)) .nil))
/-- first_more -/
def b23 : Ss := (.cons (.for (.one 2) (.sq (.call 5 (.cons (.var 0) .nil))) (.cons (.ifs (.and (.o2 .nmem (.var 2) (.var 1)) (.o1 .not (.call 21 (.cons (.var 0) (.cons (.var 1) (.cons (.var 2) .nil)))))) (.cons (.ret (.var 2)) .nil) .nil) .nil)) (.cons (.ret (.lit .non)) .nil))
/-- bars -/
def b24 : Ss := (.cons (.ifs (.o2 .eq (.ix (.var 2) (.lit (.int 0))) (.lit (.str "few"))) (.cons (.ret (.o2 .lt (.o2 .add (.o2 .sub (.o1 .len (.call 5 (.cons (.var 0) .nil))) (.o1 .len (.var 4))) (.o1 .len (.var 3))) (.var 1))) .nil) .nil) (.cons (.ifs (.o2 .eq (.ix (.var 2) (.lit (.int 0))) (.lit (.str "line"))) (.cons (.asg 7 (.o1 .sort (.slL (.var 2) (.lit (.int 1))))) (.cons (.ifs (.or (.o1 .not (.o1 .all (.comp (.sq (.var 7)) (.one 5) (.o2 .mem (.var 5) (.var 3))))) (.or (.o2 .eq (.ix (.var 7) (.lit (.int 0))) (.ix (.var 7) (.lit (.int 1)))) (.o2 .eq (.ix (.var 7) (.lit (.int 1))) (.ix (.var 7) (.lit (.int 2)))))) (.cons (.ret (.lit (.bl false))) .nil) .nil) (.cons (.ret (.call 10 (.cons (.var 0) (.cons (.ix (.var 7) (.lit (.int 0))) (.cons (.ix (.var 7) (.lit (.int 1))) (.cons (.ix (.var 7) (.lit (.int 2))) .nil)))))) .nil))) .nil) (.cons (.asg 5 (.ix (.var 2) (.lit (.int 1)))) (.cons (.ifs (.or (.o1 .not (.call 7 (.cons (.var 0) (.cons (.var 5) .nil)))) (.o2 .mem (.var 5) (.var 4))) (.cons (.ret (.lit (.bl false))) .nil) .nil) (.cons (.asg 6 (.o2 .add (.var 4) (.lst (.cons (.var 5) .nil)))) (.cons (.ret (.and (.call 24 (.cons (.var 0) (.cons (.var 1) (.cons (.ix (.var 2) (.lit (.int 2))) (.cons (.var 3) (.cons (.var 6) .nil)))))) (.call 24 (.cons (.var 0) (.cons (.var 1) (.cons (.ix (.var 2) (.lit (.int 3))) (.cons (.o2 .add (.var 3) (.lst (.cons (.var 5) .nil))) (.cons (.var 6) .nil)))))))) .nil))))))
/-- judged -/
def b31 : Ss := (.cons (.ex (.call 2 (.cons (.var 0) .nil))) (.cons (.ex (.call 9 (.cons (.var 0) (.cons (.var 1) .nil)))) (.cons (.asg 2 (.call 22 (.cons (.var 0) (.cons (.var 1) .nil)))) (.cons (.ret (.ite (.o2 .is (.var 2) (.lit .non)) (.mk 1 .nil) (.mk 2 (.cons (.var 2) .nil)))) .nil))))
/-- threes -/
def b32 : Ss := (.cons (.ex (.call 2 (.cons (.var 0) .nil))) (.cons (.ex (.call 9 (.cons (.var 0) (.cons (.var 1) .nil)))) (.cons (.asg 2 (.lit (.int 0))) (.cons (.for (.many [3, 4]) (.en (.var 1)) (.cons (.for (.one 5) (.r2 (.o2 .add (.var 3) (.lit (.int 1))) (.o1 .len (.var 1))) (.cons (.asg 2 (.o2 .adi (.var 2) (.o1 .len (.compI (.sq (.slL (.var 1) (.o2 .add (.var 5) (.lit (.int 1))))) (.one 6) (.call 10 (.cons (.var 0) (.cons (.var 4) (.cons (.ix (.var 1) (.var 5)) (.cons (.var 6) .nil))))) (.var 6))))) .nil)) .nil)) (.cons (.ret (.var 2)) .nil)))))
/-- check_clear -/
def b39 : Ss := (.cons (.ex (.call 2 (.cons (.var 0) .nil))) (.cons (.ex (.call 9 (.cons (.var 0) (.cons (.var 1) .nil)))) (.cons (.ifs (.o2 .isn (.call 22 (.cons (.var 0) (.cons (.var 1) .nil))) (.lit .non)) (.cons .fail .nil) .nil) .nil)))
/-- closed -/
def b40 : Ss := (.cons (.ex (.call 39 (.cons (.var 0) (.cons (.var 1) .nil)))) (.cons (.asg 2 (.call 23 (.cons (.var 0) (.cons (.var 1) .nil)))) (.cons (.ret (.ite (.o2 .is (.var 2) (.lit .non)) (.mk 3 .nil) (.mk 4 (.cons (.var 2) .nil)))) .nil)))
/-- closed_up -/
def b41 : Ss := (.cons (.ex (.call 39 (.cons (.var 0) (.cons (.var 1) .nil)))) (.cons (.par 2 3 (.o1 .lst (.var 1)) (.call 23 (.cons (.var 0) (.cons (.var 1) .nil)))) (.cons (.whl (.o2 .isn (.var 3) (.lit .non)) (.cons (.asg 2 (.o1 .sort (.o2 .add (.var 2) (.lst (.cons (.var 3) .nil))))) (.cons (.asgF 3 (.call 23 (.cons (.var 0) (.cons (.var 2) .nil)))) .nil))) (.cons (.ret (.var 2)) .nil))))
/-- parabola -/
def b65 : Ss := (.cons (.ex (.call 2 (.cons (.var 0) .nil))) (.cons (.ifs (.o2 .ne (.ix (.var 0) (.lit (.int 0))) (.lit (.str "plane"))) (.cons .fail .nil) .nil) (.cons (.ret (.comp (.r1 (.ix (.var 0) (.lit (.int 1)))) (.one 1) (.tup (.cons (.var 1) (.cons (.o2 .mod (.o2 .mul (.var 1) (.var 1)) (.ix (.var 0) (.lit (.int 1)))) .nil))))) .nil)))
/-- bowl -/
def b66 : Ss := (.cons (.ret (.compI (.sq (.call 5 (.cons (.tup (.cons (.lit (.str "space")) (.cons (.lit (.int 3)) .nil))) .nil))) (.many [0, 1, 2]) (.o2 .eq (.o2 .mod (.o2 .sub (.o2 .sub (.var 2) (.o2 .mul (.var 0) (.var 0))) (.o2 .mul (.var 1) (.var 1))) (.lit (.int 3))) (.lit (.int 0))) (.tup (.cons (.var 0) (.cons (.var 1) (.cons (.var 2) .nil)))))) .nil)
/-- check_space -/
def b67 : Ss := (.cons (.ex (.call 2 (.cons (.var 0) .nil))) (.cons (.ifs (.o2 .ne (.ix (.var 0) (.lit (.int 0))) (.lit (.str "space"))) (.cons .fail .nil) .nil) (.cons (.ex (.call 9 (.cons (.var 0) (.cons (.var 1) .nil)))) .nil)))
/-- crossed -/
def b68 : Ss := (.cons (.ex (.call 67 (.cons (.var 0) (.cons (.var 1) .nil)))) (.cons (.ex (.call 67 (.cons (.var 2) (.cons (.var 3) .nil)))) (.cons (.ifs (.o2 .gt (.o2 .add (.ix (.var 0) (.lit (.int 1))) (.ix (.var 2) (.lit (.int 1)))) (.lit (.int 4))) (.cons .fail .nil) .nil) (.cons (.asg 4 (.lst .nil)) (.cons (.for (.one 5) (.sq (.var 1)) (.cons (.ext 4 (.comp (.sq (.var 3)) (.one 6) (.o2 .add (.var 5) (.var 6)))) .nil)) (.cons (.ret (.var 4)) .nil))))))
/-- is_move -/
def b71 : Ss := (.cons (.ifs (.or (.o1 .not (.o1 (.ist .tup) (.var 1))) (.or (.o2 .eq (.o1 .len (.var 1)) (.lit (.int 0))) (.o1 .not (.o1 (.ist .str) (.ix (.var 1) (.lit (.int 0))))))) (.cons (.ret (.lit (.bl false))) .nil) .nil) (.cons (.ifs (.o2 .eq (.ix (.var 1) (.lit (.int 0))) (.lit (.str "mirror"))) (.cons (.ret (.and (.o2 .eq (.o1 .len (.var 1)) (.lit (.int 1))) (.o2 .eq (.ix (.var 0) (.lit (.int 0))) (.lit (.str "floor"))))) .nil) .nil) (.cons (.ifs (.o2 .ne (.o1 .len (.var 1)) (.lit (.int 2))) (.cons (.ret (.lit (.bl false))) .nil) .nil) (.cons (.ifs (.o2 .eq (.ix (.var 1) (.lit (.int 0))) (.lit (.str "swap"))) (.cons (.ret (.and (.call 0 (.cons (.ix (.var 1) (.lit (.int 1))) .nil)) (.ch .le .lt (.lit (.int 0)) (.ix (.var 1) (.lit (.int 1))) (.o2 .sub (.call 3 (.cons (.var 0) .nil)) (.lit (.int 1)))))) .nil) .nil) (.cons (.ifs (.o2 .eq (.ix (.var 0) (.lit (.int 0))) (.lit (.str "floor"))) (.cons (.ret (.lit (.bl false))) .nil) .nil) (.cons (.ifs (.o2 .eq (.ix (.var 1) (.lit (.int 0))) (.lit (.str "shift"))) (.cons (.ret (.call 7 (.cons (.var 0) (.cons (.ix (.var 1) (.lit (.int 1))) .nil)))) .nil) .nil) (.cons (.ret (.and (.o2 .eq (.ix (.var 1) (.lit (.int 0))) (.lit (.str "times"))) (.and (.call 0 (.cons (.ix (.var 1) (.lit (.int 1))) .nil)) (.ch .le .lt (.lit (.int 1)) (.ix (.var 1) (.lit (.int 1))) (.call 4 (.cons (.var 0) .nil)))))) .nil)))))))
/-- moved_point -/
def b72 : Ss := (.cons (.ifs (.o2 .eq (.ix (.var 2) (.lit (.int 0))) (.lit (.str "mirror"))) (.cons (.ret (.tup (.cons (.o2 .sub (.o2 .sub (.ix (.var 0) (.lit (.int 1))) (.lit (.int 1))) (.ix (.var 1) (.lit (.int 0)))) (.cons (.ix (.var 1) (.lit (.int 1))) .nil)))) .nil) .nil) (.cons (.ifs (.o2 .eq (.ix (.var 2) (.lit (.int 0))) (.lit (.str "swap"))) (.cons (.asg 4 (.ix (.var 2) (.lit (.int 1)))) (.cons (.ret (.o2 .add (.o2 .add (.slH (.var 1) (.var 4)) (.tup (.cons (.ix (.var 1) (.o2 .add (.var 4) (.lit (.int 1)))) (.cons (.ix (.var 1) (.var 4)) .nil)))) (.slL (.var 1) (.o2 .add (.var 4) (.lit (.int 2)))))) .nil)) .nil) (.cons (.asg 3 (.call 4 (.cons (.var 0) .nil))) (.cons (.ifs (.o2 .eq (.ix (.var 2) (.lit (.int 0))) (.lit (.str "shift"))) (.cons (.ret (.o1 .tup (.comp (.zp (.var 1) (.ix (.var 2) (.lit (.int 1)))) (.many [5, 6]) (.o2 .mod (.o2 .add (.var 5) (.var 6)) (.var 3))))) .nil) .nil) (.cons (.ret (.o1 .tup (.comp (.sq (.var 1)) (.one 5) (.o2 .mod (.o2 .mul (.var 5) (.ix (.var 2) (.lit (.int 1)))) (.var 3))))) .nil)))))
/-- moved -/
def b73 : Ss := (.cons (.ex (.call 2 (.cons (.var 0) .nil))) (.cons (.ex (.call 9 (.cons (.var 0) (.cons (.var 1) .nil)))) (.cons (.ifs (.o1 .not (.call 71 (.cons (.var 0) (.cons (.var 2) .nil)))) (.cons .fail .nil) .nil) (.cons (.ret (.o1 .sort (.comp (.sq (.var 1)) (.one 3) (.call 72 (.cons (.var 0) (.cons (.var 3) (.cons (.var 2) .nil))))))) .nil))))
/-- check_small -/
def b47 : Ss := (.cons (.ex (.call 2 (.cons (.var 0) .nil))) (.cons (.ifs (.o2 .gt (.o1 .len (.call 5 (.cons (.var 0) .nil))) (.lit (.int 16))) (.cons .fail .nil) .nil) .nil))
/-- check_many -/
def b48 : Ss := (.cons (.ex (.call 47 (.cons (.var 0) .nil))) (.cons (.ifs (.or (.o1 .not (.call 0 (.cons (.var 1) .nil))) (.o1 .not (.ch .le .le (.lit (.int 0)) (.var 1) (.lit (.int 16))))) (.cons .fail .nil) .nil) .nil))
/-- first_so -/
def b49 : Ss := (.cons (.ifs (.o2 .eq (.o1 .len (.var 2)) (.var 1)) (.cons (.ret (.var 2)) .nil) .nil) (.cons (.ifs (.o2 .lt (.o2 .add (.o1 .len (.var 2)) (.o1 .len (.var 3))) (.var 1)) (.cons (.ret (.lit .non)) .nil) .nil) (.cons (.for (.many [4, 5]) (.en (.var 3)) (.cons (.ifs (.o1 .not (.call 21 (.cons (.var 0) (.cons (.var 2) (.cons (.var 5) .nil))))) (.cons (.asg 6 (.call 49 (.cons (.var 0) (.cons (.var 1) (.cons (.o2 .add (.var 2) (.lst (.cons (.var 5) .nil))) (.cons (.slL (.var 3) (.o2 .add (.var 4) (.lit (.int 1)))) .nil)))))) (.cons (.ifs (.o2 .isn (.var 6) (.lit .non)) (.cons (.ret (.var 6)) .nil) .nil) .nil)) .nil) .nil)) (.cons (.ret (.lit .non)) .nil))))
/-- line_with -/
def b50 : Ss := (.cons (.asg 2 (.call 22 (.cons (.var 0) (.cons (.var 1) .nil)))) (.cons (.ret (.ite (.o2 .is (.var 2) (.lit .non)) (.lit .non) (.tup (.cons (.lit (.str "line")) (.cons (.ix (.var 2) (.lit (.int 0))) (.cons (.ix (.var 2) (.lit (.int 1))) (.cons (.ix (.var 2) (.lit (.int 2))) .nil))))))) .nil))
/-- tree_of -/
def b51 : Ss := (.cons (.asg 4 (.call 50 (.cons (.var 0) (.cons (.var 2) .nil)))) (.cons (.ifs (.o2 .isn (.var 4) (.lit .non)) (.cons (.ret (.var 4)) .nil) .nil) (.cons (.ifs (.o2 .lt (.o2 .add (.o1 .len (.var 2)) (.o1 .len (.var 3))) (.var 1)) (.cons (.ret (.tup (.cons (.lit (.str "few")) .nil))) .nil) .nil) (.cons (.par 5 6 (.ix (.var 3) (.lit (.int 0))) (.slL (.var 3) (.lit (.int 1)))) (.cons (.ret (.tup (.cons (.lit (.str "ask")) (.cons (.var 5) (.cons (.call 51 (.cons (.var 0) (.cons (.var 1) (.cons (.var 2) (.cons (.var 6) .nil))))) (.cons (.call 51 (.cons (.var 0) (.cons (.var 1) (.cons (.o2 .add (.var 2) (.lst (.cons (.var 5) .nil))) (.cons (.var 6) .nil))))) .nil)))))) .nil)))))
/-- so_many -/
def b52 : Ss := (.cons (.ex (.call 48 (.cons (.var 0) (.cons (.var 1) .nil)))) (.cons (.asg 2 (.call 5 (.cons (.var 0) .nil))) (.cons (.asg 3 (.call 49 (.cons (.var 0) (.cons (.var 1) (.cons (.lst .nil) (.cons (.var 2) .nil)))))) (.cons (.ret (.ite (.o2 .is (.var 3) (.lit .non)) (.mk 6 (.cons (.call 51 (.cons (.var 0) (.cons (.var 1) (.cons (.lst .nil) (.cons (.var 2) .nil))))) .nil)) (.mk 5 (.cons (.var 3) .nil)))) .nil))))
/-- ways_of -/
def b61 : Ss := (.cons (.ifs (.o2 .eq (.o1 .len (.var 2)) (.var 1)) (.cons (.ret (.lit (.int 1))) .nil) .nil) (.cons (.ifs (.o2 .lt (.o2 .add (.o1 .len (.var 2)) (.o1 .len (.var 3))) (.var 1)) (.cons (.ret (.lit (.int 0))) .nil) .nil) (.cons (.asg 4 (.lit (.int 0))) (.cons (.for (.many [5, 6]) (.en (.var 3)) (.cons (.ifs (.o1 .not (.call 21 (.cons (.var 0) (.cons (.var 2) (.cons (.var 6) .nil))))) (.cons (.asg 4 (.o2 .adi (.var 4) (.call 61 (.cons (.var 0) (.cons (.var 1) (.cons (.o2 .add (.var 2) (.lst (.cons (.var 6) .nil))) (.cons (.slL (.var 3) (.o2 .add (.var 5) (.lit (.int 1)))) .nil))))))) .nil) .nil) .nil)) (.cons (.ret (.var 4)) .nil)))))
/-- points_by -/
def b63 : Ss := (.cons (.ex (.call 48 (.cons (.var 0) (.cons (.var 1) .nil)))) (.cons (.asg 3 (.call 5 (.cons (.var 0) .nil))) (.cons (.ifs (.or (.o1 .not (.call 0 (.cons (.var 2) .nil))) (.o1 .not (.ch .le .lt (.lit (.int 0)) (.var 2) (.call 61 (.cons (.var 0) (.cons (.var 1) (.cons (.lst .nil) (.cons (.var 3) .nil)))))))) (.cons .fail .nil) .nil) (.cons (.asg 4 (.lst .nil)) (.cons (.whl (.o2 .lt (.o1 .len (.var 4)) (.var 1)) (.cons (.par 6 3 (.ix (.var 3) (.lit (.int 0))) (.slL (.var 3) (.lit (.int 1)))) (.cons (.asg 5 (.ite (.call 21 (.cons (.var 0) (.cons (.var 4) (.cons (.var 6) .nil)))) (.lit (.int 0)) (.call 61 (.cons (.var 0) (.cons (.var 1) (.cons (.o2 .add (.var 4) (.lst (.cons (.var 6) .nil))) (.cons (.var 3) .nil))))))) (.cons (.ifs (.o2 .lt (.var 2) (.var 5)) (.cons (.asg 4 (.o2 .add (.var 4) (.lst (.cons (.var 6) .nil)))) .nil) (.cons (.asg 2 (.o2 .sub (.var 2) (.var 5))) .nil)) .nil)))) (.cons (.ret (.var 4)) .nil))))))
/-- number_of -/
def b64 : Ss := (.cons (.ex (.call 47 (.cons (.var 0) .nil))) (.cons (.ex (.call 9 (.cons (.var 0) (.cons (.var 1) .nil)))) (.cons (.ifs (.o2 .isn (.call 22 (.cons (.var 0) (.cons (.var 1) .nil))) (.lit .non)) (.cons .fail .nil) .nil) (.cons (.unp [3, 4, 5] (.tup (.cons (.lit (.int 0)) (.cons (.lst .nil) (.cons (.call 5 (.cons (.var 0) .nil)) .nil))))) (.cons (.for (.one 2) (.sq (.var 1)) (.cons (.whl (.o2 .ne (.ix (.var 5) (.lit (.int 0))) (.var 2)) (.cons (.ifs (.o1 .not (.call 21 (.cons (.var 0) (.cons (.var 4) (.cons (.ix (.var 5) (.lit (.int 0))) .nil))))) (.cons (.asg 3 (.o2 .adi (.var 3) (.call 61 (.cons (.var 0) (.cons (.o1 .len (.var 1)) (.cons (.o2 .add (.var 4) (.lst (.cons (.ix (.var 5) (.lit (.int 0))) .nil))) (.cons (.slL (.var 5) (.lit (.int 1))) .nil))))))) .nil) .nil) (.cons (.asg 5 (.slL (.var 5) (.lit (.int 1)))) .nil))) (.cons (.par 4 5 (.o2 .add (.var 4) (.lst (.cons (.var 2) .nil))) (.slL (.var 5) (.lit (.int 1)))) .nil))) (.cons (.ret (.var 3)) .nil))))))
/-- _law_cell_at -/
def b12 : Ss := (.cons (.ifs (.o2 .lt (.var 1) (.o1 .len (.var 0))) (.cons (.ret (.ix (.var 0) (.var 1))) .nil) .nil) (.cons (.ret (.lit (.int 0))) .nil))
/-- _law_copy -/
def b97 : Ss := (.cons (.ifs (.o1 (.ist .lst) (.var 0)) (.cons (.ret (.comp (.sq (.var 0)) (.one 1) (.call 97 (.cons (.var 1) .nil)))) .nil) .nil) (.cons (.ifs (.o1 (.ist .tup) (.var 0)) (.cons (.ret (.o1 .tup (.comp (.sq (.var 0)) (.one 1) (.call 97 (.cons (.var 1) .nil))))) .nil) .nil) (.cons (.ret (.var 0)) .nil)))
/-- _law_spoil -/
def b99 : Ss := (.cons (.ifs (.or (.o1 (.ist .lst) (.var 0)) (.o1 (.ist .tup) (.var 0))) (.cons (.for (.one 1) (.sq (.o1 .lst (.var 0))) (.cons (.ex (.call 99 (.cons (.var 1) .nil))) .nil)) .nil) .nil) (.cons (.ifs (.o1 (.ist .lst) (.var 0)) (.cons .fail .nil) .nil) .nil))
/-- Clear.shows -/
def b25 : Ss := (.cons (.ret (.o2 .is (.call 22 (.cons (.var 1) (.cons (.var 2) .nil))) (.lit .non))) .nil)
/-- Line.shows -/
def b26 : Ss := (.cons (.asg 3 (.fld (.var 0) "points")) (.cons (.ifs (.or (.o2 .ne (.o1 .len (.var 3)) (.lit (.int 3))) (.or (.o1 .not (.call 8 (.cons (.var 1) (.cons (.var 3) .nil)))) (.o1 .not (.o1 .all (.comp (.sq (.var 3)) (.one 4) (.o2 .mem (.var 4) (.var 2))))))) (.cons (.ret (.lit (.bl false))) .nil) .nil) (.cons (.ret (.call 10 (.cons (.var 1) (.cons (.ix (.var 3) (.lit (.int 0))) (.cons (.ix (.var 3) (.lit (.int 1))) (.cons (.ix (.var 3) (.lit (.int 2))) .nil)))))) .nil)))
/-- Closed.shows -/
def b27 : Ss := (.cons (.ret (.o2 .is (.call 23 (.cons (.var 1) (.cons (.var 2) .nil))) (.lit .non))) .nil)
/-- More.shows -/
def b28 : Ss := (.cons (.ifs (.or (.o1 .not (.call 7 (.cons (.var 1) (.cons (.fld (.var 0) "point") .nil)))) (.o2 .mem (.fld (.var 0) "point") (.var 2))) (.cons (.ret (.lit (.bl false))) .nil) .nil) (.cons (.ret (.o1 .not (.call 21 (.cons (.var 1) (.cons (.var 2) (.cons (.fld (.var 0) "point") .nil)))))) .nil))
/-- So.shows -/
def b29 : Ss := (.cons (.ifs (.or (.o2 .ne (.o1 .len (.fld (.var 0) "points")) (.var 2)) (.o1 .not (.call 8 (.cons (.var 1) (.cons (.fld (.var 0) "points") .nil))))) (.cons (.ret (.lit (.bl false))) .nil) .nil) (.cons (.ret (.o2 .is (.call 22 (.cons (.var 1) (.cons (.fld (.var 0) "points") .nil))) (.lit .non))) .nil))
/-- Cases.shows -/
def b30 : Ss := (.cons (.ret (.call 24 (.cons (.var 1) (.cons (.var 2) (.cons (.fld (.var 0) "tree") (.cons (.lst .nil) (.cons (.lst .nil) .nil))))))) .nil)
/-- _law_spoil of a list of its own -/
def b129 : Ss := (.cons (.ifs (.or (.o1 (.ist .lst) (.var 0)) (.o1 (.ist .tup) (.var 0))) (.cons (.for (.one 1) (.sq (.o1 .lst (.var 0))) (.cons (.ex (.call 99 (.cons (.var 1) .nil))) .nil)) .nil) .nil) (.cons (.ifs (.o1 (.ist .lst) (.var 0)) (.cons (.app 0 (.lit .non)) .nil) .nil) .nil))
def e110 : E := (.call 11 (.cons (.tup (.cons (.lit (.str "floor")) (.cons (.lit (.int 3)) .nil))) (.cons (.ix (.var 0) (.lit (.int 0))) .nil)))
def e111 : E := (.o1 (.ist (.cls 1)) (.call 31 (.cons (.tup (.cons (.lit (.str "floor")) (.cons (.lit (.int 3)) .nil))) (.cons (.ix (.var 0) (.lit (.int 0))) .nil))))
def e112 : E := (.fldN (.call 31 (.cons (.tup (.cons (.lit (.str "floor")) (.cons (.lit (.int 3)) .nil))) (.cons (.ix (.var 0) (.lit (.int 0))) .nil))) "points")
def e113 : E := (.call 32 (.cons (.tup (.cons (.lit (.str "floor")) (.cons (.lit (.int 3)) .nil))) (.cons (.ix (.var 0) (.lit (.int 0))) .nil)))
def e114 : E := (.fldN (.call 40 (.cons (.tup (.cons (.lit (.str "floor")) (.cons (.lit (.int 3)) .nil))) (.cons (.ix (.var 0) (.lit (.int 0))) .nil))) "point")
def e115 : E := (.call 41 (.cons (.tup (.cons (.lit (.str "floor")) (.cons (.lit (.int 3)) .nil))) (.cons (.ix (.var 0) (.lit (.int 0))) .nil)))
def e116 : E := (.call 64 (.cons (.tup (.cons (.lit (.str "floor")) (.cons (.lit (.int 3)) .nil))) (.cons (.ix (.var 0) (.lit (.int 0))) .nil)))
def e117 : E := (.call 68 (.cons (.tup (.cons (.lit (.str "space")) (.cons (.lit (.int 1)) .nil))) (.cons (.ix (.var 0) (.lit (.int 0))) (.cons (.tup (.cons (.lit (.str "space")) (.cons (.lit (.int 1)) .nil))) (.cons (.ix (.var 0) (.lit (.int 1))) .nil)))))
def e118 : E := (.call 68 (.cons (.tup (.cons (.lit (.str "space")) (.cons (.lit (.int 1)) .nil))) (.cons (.ix (.var 0) (.lit (.int 0))) (.cons (.tup (.cons (.lit (.str "space")) (.cons (.lit (.int 1)) .nil))) (.cons (.ix (.var 0) (.lit (.int 1))) .nil)))))
def e119 : E := (.call 73 (.cons (.tup (.cons (.lit (.str "floor")) (.cons (.lit (.int 3)) .nil))) (.cons (.ix (.var 0) (.lit (.int 0))) (.cons (.tup (.cons (.lit (.str "mirror")) .nil)) .nil))))
def e120 : E := (.call 6 (.cons (.tup (.cons (.lit (.str "floor")) (.cons (.ix (.var 0) (.lit (.int 0))) .nil))) .nil))
def e121 : E := (.call 65 (.cons (.tup (.cons (.lit (.str "plane")) (.cons (.ix (.var 0) (.lit (.int 0))) .nil))) .nil))
def e122 : E := (.call 66 .nil)
def e123 : E := (.call 63 (.cons (.tup (.cons (.lit (.str "floor")) (.cons (.lit (.int 3)) .nil))) (.cons (.lit (.int 1)) (.cons (.ix (.var 0) (.lit (.int 0))) .nil))))
def e124 : E := (.fldN (.call 52 (.cons (.tup (.cons (.lit (.str "floor")) (.cons (.lit (.int 2)) .nil))) (.cons (.ix (.var 0) (.lit (.int 0))) .nil))) "points")
def e125 : E := (.shows (.mk 1 .nil) (.cons (.tup (.cons (.lit (.str "floor")) (.cons (.lit (.int 3)) .nil))) (.cons (.ix (.var 0) (.lit (.int 0))) .nil)))
def e126 : E := (.shows (.mk 2 (.cons (.lst (.cons (.tup (.cons (.lit (.int 0)) (.cons (.lit (.int 0)) .nil))) (.cons (.tup (.cons (.lit (.int 1)) (.cons (.lit (.int 1)) .nil))) (.cons (.tup (.cons (.lit (.int 2)) (.cons (.lit (.int 2)) .nil))) .nil)))) .nil)) (.cons (.tup (.cons (.lit (.str "floor")) (.cons (.lit (.int 3)) .nil))) (.cons (.ix (.var 0) (.lit (.int 0))) .nil)))
def e127 : E := (.shows (.mk 4 (.cons (.tup (.cons (.lit (.int 0)) (.cons (.lit (.int 1)) .nil))) .nil)) (.cons (.tup (.cons (.lit (.str "floor")) (.cons (.lit (.int 3)) .nil))) (.cons (.ix (.var 0) (.lit (.int 0))) .nil)))
def e128 : E := (.shows (.mk 3 .nil) (.cons (.tup (.cons (.lit (.str "floor")) (.cons (.lit (.int 2)) .nil))) (.cons (.ix (.var 0) (.lit (.int 0))) .nil)))
def fns : List Fn := [⟨1, 1, false, b0⟩, ⟨1, 1, false, b1⟩, ⟨1, 1, true, b2⟩, ⟨1, 1, false, b3⟩, ⟨1, 1, false, b4⟩, ⟨1, 6, true, b5⟩, ⟨1, 1, true, b6⟩, ⟨2, 3, false, b7⟩, ⟨2, 5, false, b8⟩, ⟨2, 2, true, b9⟩, ⟨4, 8, false, b10⟩, ⟨2, 2, false, b11⟩, ⟨2, 2, false, b12⟩, ⟨0, 0, false, .nil⟩, ⟨0, 0, false, .nil⟩, ⟨0, 0, false, .nil⟩, ⟨0, 0, false, .nil⟩, ⟨0, 0, false, .nil⟩, ⟨0, 0, false, .nil⟩, ⟨0, 0, false, .nil⟩, ⟨0, 0, false, .nil⟩, ⟨3, 6, true, b21⟩, ⟨2, 6, true, b22⟩, ⟨2, 3, false, b23⟩, ⟨5, 8, false, b24⟩, ⟨3, 3, false, b25⟩, ⟨3, 5, false, b26⟩, ⟨3, 3, false, b27⟩, ⟨3, 3, false, b28⟩, ⟨3, 3, false, b29⟩, ⟨3, 3, false, b30⟩, ⟨2, 3, true, b31⟩, ⟨2, 7, false, b32⟩, ⟨0, 0, false, .nil⟩, ⟨0, 0, false, .nil⟩, ⟨0, 0, false, .nil⟩, ⟨0, 0, false, .nil⟩, ⟨0, 0, false, .nil⟩, ⟨0, 0, false, .nil⟩, ⟨2, 2, true, b39⟩, ⟨2, 3, true, b40⟩, ⟨2, 4, true, b41⟩, ⟨0, 0, false, .nil⟩, ⟨0, 0, false, .nil⟩, ⟨0, 0, false, .nil⟩, ⟨0, 0, false, .nil⟩, ⟨0, 0, false, .nil⟩, ⟨1, 1, true, b47⟩, ⟨2, 2, true, b48⟩, ⟨4, 7, false, b49⟩, ⟨2, 3, false, b50⟩, ⟨4, 7, false, b51⟩, ⟨2, 4, true, b52⟩, ⟨0, 0, false, .nil⟩, ⟨0, 0, false, .nil⟩, ⟨0, 0, false, .nil⟩, ⟨0, 0, false, .nil⟩, ⟨0, 0, false, .nil⟩, ⟨0, 0, false, .nil⟩, ⟨0, 0, false, .nil⟩, ⟨0, 0, false, .nil⟩, ⟨4, 7, false, b61⟩, ⟨0, 0, false, .nil⟩, ⟨3, 7, true, b63⟩, ⟨2, 6, false, b64⟩, ⟨1, 2, true, b65⟩, ⟨0, 3, true, b66⟩, ⟨2, 2, true, b67⟩, ⟨4, 7, true, b68⟩, ⟨0, 0, false, .nil⟩, ⟨0, 0, false, .nil⟩, ⟨2, 2, false, b71⟩, ⟨3, 7, false, b72⟩, ⟨3, 4, true, b73⟩, ⟨0, 0, false, .nil⟩, ⟨0, 0, false, .nil⟩, ⟨0, 0, false, .nil⟩, ⟨0, 0, false, .nil⟩, ⟨0, 0, false, .nil⟩, ⟨0, 0, false, .nil⟩, ⟨0, 0, false, .nil⟩, ⟨0, 0, false, .nil⟩, ⟨0, 0, false, .nil⟩, ⟨0, 0, false, .nil⟩, ⟨0, 0, false, .nil⟩, ⟨0, 0, false, .nil⟩, ⟨0, 0, false, .nil⟩, ⟨0, 0, false, .nil⟩, ⟨0, 0, false, .nil⟩, ⟨0, 0, false, .nil⟩, ⟨0, 0, false, .nil⟩, ⟨0, 0, false, .nil⟩, ⟨0, 0, false, .nil⟩, ⟨0, 0, false, .nil⟩, ⟨0, 0, false, .nil⟩, ⟨0, 0, false, .nil⟩, ⟨0, 0, false, .nil⟩, ⟨1, 2, false, b97⟩, ⟨0, 0, false, .nil⟩, ⟨1, 2, true, b99⟩, ⟨0, 0, false, .nil⟩, ⟨0, 0, false, .nil⟩, ⟨0, 0, false, .nil⟩, ⟨0, 0, false, .nil⟩, ⟨0, 0, false, .nil⟩, ⟨0, 0, false, .nil⟩, ⟨0, 0, false, .nil⟩, ⟨0, 0, false, .nil⟩, ⟨0, 0, false, .nil⟩, ⟨0, 0, false, .nil⟩, ⟨1, 1, false, .cons (.ret e110) .nil⟩, ⟨1, 1, false, .cons (.ret e111) .nil⟩, ⟨1, 1, true, .cons (.ret e112) .nil⟩, ⟨1, 1, false, .cons (.ret e113) .nil⟩, ⟨1, 1, true, .cons (.ret e114) .nil⟩, ⟨1, 1, true, .cons (.ret e115) .nil⟩, ⟨1, 1, false, .cons (.ret e116) .nil⟩, ⟨1, 1, true, .cons (.ret e117) .nil⟩, ⟨1, 1, true, .cons (.ret e118) .nil⟩, ⟨1, 1, true, .cons (.ret e119) .nil⟩, ⟨1, 1, true, .cons (.ret e120) .nil⟩, ⟨1, 1, true, .cons (.ret e121) .nil⟩, ⟨1, 1, true, .cons (.ret e122) .nil⟩, ⟨1, 1, true, .cons (.ret e123) .nil⟩, ⟨1, 1, true, .cons (.ret e124) .nil⟩, ⟨1, 1, false, .cons (.ret e125) .nil⟩, ⟨1, 1, false, .cons (.ret e126) .nil⟩, ⟨1, 1, false, .cons (.ret e127) .nil⟩, ⟨1, 1, false, .cons (.ret e128) .nil⟩, ⟨1, 2, true, b129⟩]
def T : Tb := ⟨fns, fun a b => match a, b with | 1, 0 => some true | 1, 1 => some true | 1, 2 => some false | 1, 3 => some false | 1, 4 => some false | 1, 5 => some false | 1, 6 => some false | 2, 0 => some true | 2, 1 => some false | 2, 2 => some true | 2, 3 => some false | 2, 4 => some false | 2, 5 => some false | 2, 6 => some false | 3, 0 => some true | 3, 1 => some false | 3, 2 => some false | 3, 3 => some true | 3, 4 => some false | 3, 5 => some false | 3, 6 => some false | 4, 0 => some true | 4, 1 => some false | 4, 2 => some false | 4, 3 => some false | 4, 4 => some true | 4, 5 => some false | 4, 6 => some false | 5, 0 => some true | 5, 1 => some false | 5, 2 => some false | 5, 3 => some false | 5, 4 => some false | 5, 5 => some true | 5, 6 => some false | 6, 0 => some true | 6, 1 => some false | 6, 2 => some false | 6, 3 => some false | 6, 4 => some false | 6, 5 => some false | 6, 6 => some true | _, _ => none, fun a => match a with | 1 => some 25 | 2 => some 26 | 3 => some 27 | 4 => some 28 | 5 => some 29 | 6 => some 30 | _ => none, fun a => match a with | 1 => some [] | 2 => some [true] | 3 => some [] | 4 => some [false] | 5 => some [true] | 6 => some [false] | _ => none, fun a => match a with | 1 => [] | 2 => ["points"] | 3 => [] | 4 => ["point"] | 5 => ["points"] | 6 => ["tree"] | _ => [], 0⟩
def L110 : LmD := lamOf 110 (lamQ "_law_rows_one") (bodyAt s101 1)
theorem LP110 : LamP L110 ["_law_some"] "_law_some" := lamP_by (by decide +kernel) (by decide +kernel) rfl rfl (by intros; rfl)
def L111 : LmD := lamOf 111 (lamQ "_law_rows_one") (bodyAt s101 2)
theorem LP111 : LamP L111 ["_law_some"] "_law_some" := lamP_by (by decide +kernel) (by decide +kernel) rfl rfl (by intros; rfl)
def L112 : LmD := lamOf 112 (lamQ "_law_rows_one") (bodyAt s101 3)
theorem LP112 : LamP L112 ["_law_some"] "_law_some" := lamP_by (by decide +kernel) (by decide +kernel) rfl rfl (by intros; rfl)
def L113 : LmD := lamOf 113 (lamQ "_law_rows_one") (bodyAt s101 4)
theorem LP113 : LamP L113 ["_law_some"] "_law_some" := lamP_by (by decide +kernel) (by decide +kernel) rfl rfl (by intros; rfl)
def L114 : LmD := lamOf 114 (lamQ "_law_rows_one") (bodyAt s101 5)
theorem LP114 : LamP L114 ["_law_some"] "_law_some" := lamP_by (by decide +kernel) (by decide +kernel) rfl rfl (by intros; rfl)
def L115 : LmD := lamOf 115 (lamQ "_law_rows_one") (bodyAt s101 6)
theorem LP115 : LamP L115 ["_law_some"] "_law_some" := lamP_by (by decide +kernel) (by decide +kernel) rfl rfl (by intros; rfl)
def L116 : LmD := lamOf 116 (lamQ "_law_rows_one") (bodyAt s101 7)
theorem LP116 : LamP L116 ["_law_some"] "_law_some" := lamP_by (by decide +kernel) (by decide +kernel) rfl rfl (by intros; rfl)
def L117 : LmD := lamOf 117 (lamQ "_law_rows_one") (bodyAt s101 8)
theorem LP117 : LamP L117 ["_law_some"] "_law_some" := lamP_by (by decide +kernel) (by decide +kernel) rfl rfl (by intros; rfl)
def L118 : LmD := lamOf 118 (lamQ "_law_rows_one") (bodyAt s101 9)
theorem LP118 : LamP L118 ["_law_some"] "_law_some" := lamP_by (by decide +kernel) (by decide +kernel) rfl rfl (by intros; rfl)
def L119 : LmD := lamOf 119 (lamQ "_law_rows_one") (bodyAt s101 10)
theorem LP119 : LamP L119 ["_law_some"] "_law_some" := lamP_by (by decide +kernel) (by decide +kernel) rfl rfl (by intros; rfl)
def L120 : LmD := lamOf 120 (lamQ "_law_rows_one") (bodyAt s101 11)
theorem LP120 : LamP L120 ["_law_some"] "_law_some" := lamP_by (by decide +kernel) (by decide +kernel) rfl rfl (by intros; rfl)
def L121 : LmD := lamOf 121 (lamQ "_law_rows_one") (bodyAt s101 12)
theorem LP121 : LamP L121 ["_law_some"] "_law_some" := lamP_by (by decide +kernel) (by decide +kernel) rfl rfl (by intros; rfl)
def L122 : LmD := lamOf 122 (lamQ "_law_rows_one") (bodyAt s101 13)
theorem LP122 : LamP L122 ["_law_some"] "_law_some" := lamP_by (by decide +kernel) (by decide +kernel) rfl rfl (by intros; rfl)
def L123 : LmD := lamOf 123 (lamQ "_law_rows_one") (bodyAt s101 14)
theorem LP123 : LamP L123 ["_law_some"] "_law_some" := lamP_by (by decide +kernel) (by decide +kernel) rfl rfl (by intros; rfl)
def L124 : LmD := lamOf 124 (lamQ "_law_rows_one") (bodyAt s101 15)
theorem LP124 : LamP L124 ["_law_some"] "_law_some" := lamP_by (by decide +kernel) (by decide +kernel) rfl rfl (by intros; rfl)
def L125 : LmD := lamOf 125 (lamQ "_law_rows_one") (bodyAt s101 16)
theorem LP125 : LamP L125 ["_law_some"] "_law_some" := lamP_by (by decide +kernel) (by decide +kernel) rfl rfl (by intros; rfl)
def L126 : LmD := lamOf 126 (lamQ "_law_rows_one") (bodyAt s101 17)
theorem LP126 : LamP L126 ["_law_some"] "_law_some" := lamP_by (by decide +kernel) (by decide +kernel) rfl rfl (by intros; rfl)
def L127 : LmD := lamOf 127 (lamQ "_law_rows_two") (bodyAt s102 1)
theorem LP127 : LamP L127 ["_law_some"] "_law_some" := lamP_by (by decide +kernel) (by decide +kernel) rfl rfl (by intros; rfl)
def L128 : LmD := lamOf 128 (lamQ "_law_rows_two") (bodyAt s102 2)
theorem LP128 : LamP L128 ["_law_some"] "_law_some" := lamP_by (by decide +kernel) (by decide +kernel) rfl rfl (by intros; rfl)
def ls : List LmD := [L110, L111, L112, L113, L114, L115, L116, L117, L118, L119, L120, L121, L122, L123, L124, L125, L126, L127, L128]
def rows101 : List D := [.tup [.lam L110, (.lst [(.lst [(.tup [(.int 0), (.int 0)]), (.tup [(.int 1), (.int 1)]), (.tup [(.int 2), (.int 2)])])]), (.lst [(.lst [(.tup [(.int 0), (.int 0)]), (.tup [(.int 1), (.int 1)]), (.tup [(.int 2), (.int 1)])])])], .tup [.lam L111, (.lst [(.lst [(.tup [(.int 0), (.int 0)]), (.tup [(.int 1), (.int 1)]), (.tup [(.int 2), (.int 1)])])]), (.lst [(.lst [(.tup [(.int 0), (.int 0)]), (.tup [(.int 1), (.int 1)]), (.tup [(.int 2), (.int 2)])])])], .tup [.lam L112, (.lst [(.lst [(.tup [(.int 0), (.int 0)]), (.tup [(.int 1), (.int 1)]), (.tup [(.int 2), (.int 2)])])]), (.lst [(.lst [(.tup [(.int 0), (.int 0)]), (.tup [(.int 0), (.int 1)]), (.tup [(.int 0), (.int 2)])])])], .tup [.lam L113, (.lst [(.lst [(.tup [(.int 0), (.int 0)]), (.tup [(.int 1), (.int 1)]), (.tup [(.int 2), (.int 2)])])]), (.lst [(.lst [(.tup [(.int 0), (.int 0)]), (.tup [(.int 1), (.int 1)]), (.tup [(.int 2), (.int 1)])])])], .tup [.lam L114, (.lst [(.lst [(.tup [(.int 0), (.int 0)])])]), (.lst [(.lst [(.tup [(.int 0), (.int 1)])])])], .tup [.lam L115, (.lst [(.lst [(.tup [(.int 0), (.int 0)])])]), (.lst [(.lst [(.tup [(.int 2), (.int 2)])])])], .tup [.lam L116, (.lst [(.lst [(.tup [(.int 0), (.int 0)])])]), (.lst [(.lst [(.tup [(.int 0), (.int 1)])])])], .tup [.lam L117, (.lst [(.lst [(.tup [(.int 0)])]), (.lst [(.tup [(.int 1)])])]), (.lst [(.lst [(.tup [(.int 0)])]), (.lst [(.tup [(.int 2)])])])], .tup [.lam L118, (.lst [(.lst [(.tup [(.int 0)])]), (.lst [(.tup [(.int 1)])])]), (.lst [(.lst [(.tup [(.int 2)])]), (.lst [(.tup [(.int 1)])])])], .tup [.lam L119, (.lst [(.lst [(.tup [(.int 0), (.int 0)])])]), (.lst [(.lst [(.tup [(.int 1), (.int 1)])])])], .tup [.lam L120, (.lst [(.int 2)]), (.lst [(.int 3)])], .tup [.lam L121, (.lst [(.int 2)]), (.lst [(.int 3)])], .tup [.lam L122, (.lst [(.int 1)]), (.lst [(.int 2)])], .tup [.lam L123, (.lst [(.int 0)]), (.lst [(.int 1)])], .tup [.lam L124, (.lst [(.int 3)]), (.lst [(.int 2)])], .tup [.lam L125, (.lst [(.lst [(.tup [(.int 0), (.int 0)]), (.tup [(.int 1), (.int 1)]), (.tup [(.int 2), (.int 1)])])]), (.lst [(.lst [(.tup [(.int 0), (.int 0)]), (.tup [(.int 1), (.int 1)]), (.tup [(.int 2), (.int 2)])])])], .tup [.lam L126, (.lst [(.lst [(.tup [(.int 0), (.int 0)]), (.tup [(.int 1), (.int 1)]), (.tup [(.int 2), (.int 2)])])]), (.lst [(.lst [(.tup [(.int 0), (.int 0)]), (.tup [(.int 1), (.int 1)]), (.tup [(.int 2), (.int 1)])])])]]
def rows102 : List D := [.tup [.lam L127, (.lst [(.lst [(.tup [(.int 0), (.int 0)]), (.tup [(.int 1), (.int 2)])])]), (.lst [(.lst [(.tup [(.int 0), (.int 0)]), (.tup [(.int 0), (.int 2)])])])], .tup [.lam L128, (.lst [(.lst [(.tup [(.int 0), (.int 0)]), (.tup [(.int 0), (.int 1)]), (.tup [(.int 1), (.int 0)]), (.tup [(.int 1), (.int 1)])])]), (.lst [(.lst [(.tup [(.int 0), (.int 0)]), (.tup [(.int 0), (.int 1)]), (.tup [(.int 1), (.int 0)])])])]]
def tbs (P101 P102 : Addr) : List (Addr × Str) := [(P101, lamQ "_law_rows_one"), (P102, lamQ "_law_rows_two")]
section
variable {P : Program} {w : World} {K : PySem.W.Frag} {mg : Str → Option Value} {base : Heap} {ca : Nat → Addr}
abbrev sI2 : Stmt := inClass (topS 33) 0
theorem scI2 : FnScope ["self", "points"] ["self", "points"] (defScope sI2) := ⟨rfl, rfl, rfl, by decide +kernel, rfl, by decide +kernel, by decide +kernel⟩
abbrev sI4 : Stmt := inClass (topS 35) 0
theorem scI4 : FnScope ["self", "point"] ["self", "point"] (defScope sI4) := ⟨rfl, rfl, rfl, by decide +kernel, rfl, by decide +kernel, by decide +kernel⟩
abbrev sI5 : Stmt := inClass (topS 36) 0
theorem scI5 : FnScope ["self", "points"] ["self", "points"] (defScope sI5) := ⟨rfl, rfl, rfl, by decide +kernel, rfl, by decide +kernel, by decide +kernel⟩
abbrev sI6 : Stmt := inClass (topS 37) 0
theorem scI6 : FnScope ["self", "tree"] ["self", "tree"] (defScope sI6) := ⟨rfl, rfl, rfl, by decide +kernel, rfl, by decide +kernel, by decide +kernel⟩
structure Txt (K : PySem.W.Frag) (mg : Str → Option Value) (f0 f1 f2 f3 f4 f5 f6 f7 f8 f9 f10 f11 f21 f22 f23 f24 f31 f32 f39 f40 f41 f65 f66 f67 f68 f71 f72 f73 f47 f48 f49 f50 f51 f52 f61 f63 f64 f12 f97 f98 f99 f100 f101 f102 f20 f25 f26 f27 f28 f29 f30 : Addr) (d0 d1 d2 d3 d4 d5 d6 d7 d8 d9 d10 d11 d21 d22 d23 d24 d31 d32 d39 d40 d41 d65 d66 d67 d68 d71 d72 d73 d47 d48 d49 d50 d51 d52 d61 d63 d64 d12 d97 d98 d99 d100 d101 d102 d20 d25 d26 d27 d28 d29 d30 : FuncData) (cc101 cc102 : Addr) (ca : Nat → Addr) : Prop where
  F0 : Fun K "is_whole" "is_whole" s0 f0 d0
  B0 : Binds K d0 ["thing"] []
  m0 : mg "is_whole" = some (.ref f0)
  F1 : Fun K "is_field" "is_field" s1 f1 d1
  B1 : Binds K d1 ["thing"] []
  m1 : mg "is_field" = some (.ref f1)
  F2 : Fun K "check_field" "check_field" s2 f2 d2
  B2 : Binds K d2 ["field"] []
  m2 : mg "check_field" = some (.ref f2)
  F3 : Fun K "places_of" "places_of" s3 f3 d3
  B3 : Binds K d3 ["field"] []
  m3 : mg "places_of" = some (.ref f3)
  F4 : Fun K "numbers_of" "numbers_of" s4 f4 d4
  B4 : Binds K d4 ["field"] []
  m4 : mg "numbers_of" = some (.ref f4)
  F5 : Fun K "points_of" "points_of" s5 f5 d5
  B5 : Binds K d5 ["field"] []
  m5 : mg "points_of" = some (.ref f5)
  F6 : Fun K "all_points" "all_points" s6 f6 d6
  B6 : Binds K d6 ["field"] []
  m6 : mg "all_points" = some (.ref f6)
  F7 : Fun K "is_point" "is_point" s7 f7 d7
  B7 : Binds K d7 ["field", "thing"] []
  m7 : mg "is_point" = some (.ref f7)
  F8 : Fun K "are_points" "are_points" s8 f8 d8
  B8 : Binds K d8 ["field", "thing"] []
  m8 : mg "are_points" = some (.ref f8)
  F9 : Fun K "check_points" "check_points" s9 f9 d9
  B9 : Binds K d9 ["field", "points"] []
  m9 : mg "check_points" = some (.ref f9)
  F10 : Fun K "lined" "lined" s10 f10 d10
  B10 : Binds K d10 ["field", "one", "two", "three"] []
  m10 : mg "lined" = some (.ref f10)
  F11 : Fun K "in_line" "in_line" s11 f11 d11
  B11 : Binds K d11 ["field", "points"] []
  m11 : mg "in_line" = some (.ref f11)
  F21 : Fun K "lines_with" "lines_with" s21 f21 d21
  B21 : Binds K d21 ["field", "points", "point"] []
  m21 : mg "lines_with" = some (.ref f21)
  F22 : Fun K "first_line" "first_line" s22 f22 d22
  B22 : Binds K d22 ["field", "points"] []
  m22 : mg "first_line" = some (.ref f22)
  F23 : Fun K "first_more" "first_more" s23 f23 d23
  B23 : Binds K d23 ["field", "points"] []
  m23 : mg "first_more" = some (.ref f23)
  F24 : Fun K "bars" "bars" s24 f24 d24
  B24 : Binds K d24 ["field", "many", "tree", "chosen", "asked"] []
  m24 : mg "bars" = some (.ref f24)
  F31 : Fun K "judged" "judged" s31 f31 d31
  B31 : Binds K d31 ["field", "points"] []
  m31 : mg "judged" = some (.ref f31)
  F32 : Fun K "threes" "threes" s32 f32 d32
  B32 : Binds K d32 ["field", "points"] []
  m32 : mg "threes" = some (.ref f32)
  F39 : Fun K "check_clear" "check_clear" s39 f39 d39
  B39 : Binds K d39 ["field", "points"] []
  m39 : mg "check_clear" = some (.ref f39)
  F40 : Fun K "closed" "closed" s40 f40 d40
  B40 : Binds K d40 ["field", "points"] []
  m40 : mg "closed" = some (.ref f40)
  F41 : Fun K "closed_up" "closed_up" s41 f41 d41
  B41 : Binds K d41 ["field", "points"] []
  m41 : mg "closed_up" = some (.ref f41)
  F65 : Fun K "parabola" "parabola" s65 f65 d65
  B65 : Binds K d65 ["field"] []
  m65 : mg "parabola" = some (.ref f65)
  F66 : Fun K "bowl" "bowl" s66 f66 d66
  B66 : Binds K d66 [] []
  m66 : mg "bowl" = some (.ref f66)
  F67 : Fun K "check_space" "check_space" s67 f67 d67
  B67 : Binds K d67 ["field", "points"] []
  m67 : mg "check_space" = some (.ref f67)
  F68 : Fun K "crossed" "crossed" s68 f68 d68
  B68 : Binds K d68 ["first", "points", "second", "others"] []
  m68 : mg "crossed" = some (.ref f68)
  F71 : Fun K "is_move" "is_move" s71 f71 d71
  B71 : Binds K d71 ["field", "thing"] []
  m71 : mg "is_move" = some (.ref f71)
  F72 : Fun K "moved_point" "moved_point" s72 f72 d72
  B72 : Binds K d72 ["field", "point", "move"] []
  m72 : mg "moved_point" = some (.ref f72)
  F73 : Fun K "moved" "moved" s73 f73 d73
  B73 : Binds K d73 ["field", "points", "move"] []
  m73 : mg "moved" = some (.ref f73)
  F47 : Fun K "check_small" "check_small" s47 f47 d47
  B47 : Binds K d47 ["field"] []
  m47 : mg "check_small" = some (.ref f47)
  F48 : Fun K "check_many" "check_many" s48 f48 d48
  B48 : Binds K d48 ["field", "many"] []
  m48 : mg "check_many" = some (.ref f48)
  F49 : Fun K "first_so" "first_so" s49 f49 d49
  B49 : Binds K d49 ["field", "many", "chosen", "left"] []
  m49 : mg "first_so" = some (.ref f49)
  F50 : Fun K "line_with" "line_with" s50 f50 d50
  B50 : Binds K d50 ["field", "chosen"] []
  m50 : mg "line_with" = some (.ref f50)
  F51 : Fun K "tree_of" "tree_of" s51 f51 d51
  B51 : Binds K d51 ["field", "many", "chosen", "left"] []
  m51 : mg "tree_of" = some (.ref f51)
  F52 : Fun K "so_many" "so_many" s52 f52 d52
  B52 : Binds K d52 ["field", "many"] []
  m52 : mg "so_many" = some (.ref f52)
  F61 : Fun K "ways_of" "ways_of" s61 f61 d61
  B61 : Binds K d61 ["field", "many", "chosen", "left"] []
  m61 : mg "ways_of" = some (.ref f61)
  F63 : Fun K "points_by" "points_by" s63 f63 d63
  B63 : Binds K d63 ["field", "many", "number"] []
  m63 : mg "points_by" = some (.ref f63)
  F64 : Fun K "number_of" "number_of" s64 f64 d64
  B64 : Binds K d64 ["field", "points"] []
  m64 : mg "number_of" = some (.ref f64)
  F12 : Fun K "_law_cell_at" "_law_cell_at" s12 f12 d12
  B12 : Binds K d12 ["_law_script", "_law_k"] []
  m12 : mg "_law_cell_at" = some (.ref f12)
  F97 : Fun K "_law_copy" "_law_copy" s97 f97 d97
  B97 : Binds K d97 ["_law_thing"] []
  m97 : mg "_law_copy" = some (.ref f97)
  F98 : Fun K "_law_into" "_law_into" s98 f98 d98
  B98 : Binds K d98 ["_law_handed", "_law_new"] []
  m98 : mg "_law_into" = some (.ref f98)
  F99 : Fun K "_law_spoil" "_law_spoil" s99 f99 d99
  B99 : Binds K d99 ["_law_found"] []
  m99 : mg "_law_spoil" = some (.ref f99)
  F100 : Fun K "_law_door_right" "_law_door_right" s100 f100 d100
  B100 : Binds K d100 ["_law_ask", "_law_first", "_law_second"] []
  m100 : mg "_law_door_right" = some (.ref f100)
  F101 : FunC K "_law_rows_one" "_law_rows_one" s101 f101 d101 cc101
  B101 : Binds K d101 [] []
  m101 : mg "_law_rows_one" = some (.ref f101)
  F102 : FunC K "_law_rows_two" "_law_rows_two" s102 f102 d102 cc102
  B102 : Binds K d102 [] []
  m102 : mg "_law_rows_two" = some (.ref f102)
  F20 : Fun K "law" "law" s20 f20 d20
  B20 : Binds K d20 ["_law_script"] []
  m20 : mg "law" = some (.ref f20)
  F25 : Fun K "shows" "Clear.shows" s25 f25 d25
  B25 : Binds K d25 ["self", "field", "points"] []
  F26 : Fun K "shows" "Line.shows" s26 f26 d26
  B26 : Binds K d26 ["self", "field", "points"] []
  F27 : Fun K "shows" "Closed.shows" s27 f27 d27
  B27 : Binds K d27 ["self", "field", "points"] []
  F28 : Fun K "shows" "More.shows" s28 f28 d28
  B28 : Binds K d28 ["self", "field", "points"] []
  F29 : Fun K "shows" "So.shows" s29 f29 d29
  B29 : Binds K d29 ["self", "field", "many"] []
  F30 : Fun K "shows" "Cases.shows" s30 f30 d30
  B30 : Binds K d30 ["self", "field", "many"] []
  n_abs : mg "abs" = none
  n_all : mg "all" = none
  n_any : mg "any" = none
  n_bool : mg "bool" = none
  n_enumerate : mg "enumerate" = none
  n_int : mg "int" = none
  n_isinstance : mg "isinstance" = none
  n_len : mg "len" = none
  n_list : mg "list" = none
  n_range : mg "range" = none
  n_sorted : mg "sorted" = none
  n_str : mg "str" = none
  n_sum : mg "sum" = none
  n_tuple : mg "tuple" = none
  n_zip : mg "zip" = none
  c_GREATEST_FLOOR : ∃ t, mg "GREATEST_FLOOR" = some (.int 12 t)
  c_GREATEST_SPACE : ∃ t, mg "GREATEST_SPACE" = some (.int 4 t)
  c_PRIMES : TupAt K mg "PRIMES" [2, 3, 5, 7, 11, 13]
  c_SMALL : ∃ t, mg "SMALL" = some (.int 16 t)
  mc0 : mg "Answer" = some (.ref (ca 0))
  mc1 : mg "Clear" = some (.ref (ca 1))
  mc2 : mg "Line" = some (.ref (ca 2))
  mc3 : mg "Closed" = some (.ref (ca 3))
  mc4 : mg "More" = some (.ref (ca 4))
  mc5 : mg "So" = some (.ref (ca 5))
  mc6 : mg "Cases" = some (.ref (ca 6))
  ok1 : ClOk K (ca 1)
  ms1 : Meth K (ca 1) "shows" f25
  s1_0 : PySem.W.kitOne K (.ref (ca 1)) (.ref (ca 0)) = some true
  s1_1 : PySem.W.kitOne K (.ref (ca 1)) (.ref (ca 1)) = some true
  s1_2 : PySem.W.kitOne K (.ref (ca 1)) (.ref (ca 2)) = some false
  s1_3 : PySem.W.kitOne K (.ref (ca 1)) (.ref (ca 3)) = some false
  s1_4 : PySem.W.kitOne K (.ref (ca 1)) (.ref (ca 4)) = some false
  s1_5 : PySem.W.kitOne K (.ref (ca 1)) (.ref (ca 5)) = some false
  s1_6 : PySem.W.kitOne K (.ref (ca 1)) (.ref (ca 6)) = some false
  mk1 : PySem.W.makesIn K (ca 1) = true
  mi1 : PySem.W.findIn K (.ref (ca 1)) "__init__" = some (some (.builtin "object.__init__"))
  mp1 : PySem.W.keepIn K (.ref (ca 1)) = true
  ok2 : ClOk K (ca 2)
  ms2 : Meth K (ca 2) "shows" f26
  s2_0 : PySem.W.kitOne K (.ref (ca 2)) (.ref (ca 0)) = some true
  s2_1 : PySem.W.kitOne K (.ref (ca 2)) (.ref (ca 1)) = some false
  s2_2 : PySem.W.kitOne K (.ref (ca 2)) (.ref (ca 2)) = some true
  s2_3 : PySem.W.kitOne K (.ref (ca 2)) (.ref (ca 3)) = some false
  s2_4 : PySem.W.kitOne K (.ref (ca 2)) (.ref (ca 4)) = some false
  s2_5 : PySem.W.kitOne K (.ref (ca 2)) (.ref (ca 5)) = some false
  s2_6 : PySem.W.kitOne K (.ref (ca 2)) (.ref (ca 6)) = some false
  na2 : NoAttr K (ca 2) "points"
  mk2 : ∃ fi fd, Mk K (ca 2) fi ∧ Fun K "__init__" "Line.__init__" sI2 fi fd ∧ Binds K fd ["self", "points"] []
  ok3 : ClOk K (ca 3)
  ms3 : Meth K (ca 3) "shows" f27
  s3_0 : PySem.W.kitOne K (.ref (ca 3)) (.ref (ca 0)) = some true
  s3_1 : PySem.W.kitOne K (.ref (ca 3)) (.ref (ca 1)) = some false
  s3_2 : PySem.W.kitOne K (.ref (ca 3)) (.ref (ca 2)) = some false
  s3_3 : PySem.W.kitOne K (.ref (ca 3)) (.ref (ca 3)) = some true
  s3_4 : PySem.W.kitOne K (.ref (ca 3)) (.ref (ca 4)) = some false
  s3_5 : PySem.W.kitOne K (.ref (ca 3)) (.ref (ca 5)) = some false
  s3_6 : PySem.W.kitOne K (.ref (ca 3)) (.ref (ca 6)) = some false
  mk3 : PySem.W.makesIn K (ca 3) = true
  mi3 : PySem.W.findIn K (.ref (ca 3)) "__init__" = some (some (.builtin "object.__init__"))
  mp3 : PySem.W.keepIn K (.ref (ca 3)) = true
  ok4 : ClOk K (ca 4)
  ms4 : Meth K (ca 4) "shows" f28
  s4_0 : PySem.W.kitOne K (.ref (ca 4)) (.ref (ca 0)) = some true
  s4_1 : PySem.W.kitOne K (.ref (ca 4)) (.ref (ca 1)) = some false
  s4_2 : PySem.W.kitOne K (.ref (ca 4)) (.ref (ca 2)) = some false
  s4_3 : PySem.W.kitOne K (.ref (ca 4)) (.ref (ca 3)) = some false
  s4_4 : PySem.W.kitOne K (.ref (ca 4)) (.ref (ca 4)) = some true
  s4_5 : PySem.W.kitOne K (.ref (ca 4)) (.ref (ca 5)) = some false
  s4_6 : PySem.W.kitOne K (.ref (ca 4)) (.ref (ca 6)) = some false
  na4 : NoAttr K (ca 4) "point"
  mk4 : ∃ fi fd, Mk K (ca 4) fi ∧ Fun K "__init__" "More.__init__" sI4 fi fd ∧ Binds K fd ["self", "point"] []
  ok5 : ClOk K (ca 5)
  ms5 : Meth K (ca 5) "shows" f29
  s5_0 : PySem.W.kitOne K (.ref (ca 5)) (.ref (ca 0)) = some true
  s5_1 : PySem.W.kitOne K (.ref (ca 5)) (.ref (ca 1)) = some false
  s5_2 : PySem.W.kitOne K (.ref (ca 5)) (.ref (ca 2)) = some false
  s5_3 : PySem.W.kitOne K (.ref (ca 5)) (.ref (ca 3)) = some false
  s5_4 : PySem.W.kitOne K (.ref (ca 5)) (.ref (ca 4)) = some false
  s5_5 : PySem.W.kitOne K (.ref (ca 5)) (.ref (ca 5)) = some true
  s5_6 : PySem.W.kitOne K (.ref (ca 5)) (.ref (ca 6)) = some false
  na5 : NoAttr K (ca 5) "points"
  mk5 : ∃ fi fd, Mk K (ca 5) fi ∧ Fun K "__init__" "So.__init__" sI5 fi fd ∧ Binds K fd ["self", "points"] []
  ok6 : ClOk K (ca 6)
  ms6 : Meth K (ca 6) "shows" f30
  s6_0 : PySem.W.kitOne K (.ref (ca 6)) (.ref (ca 0)) = some true
  s6_1 : PySem.W.kitOne K (.ref (ca 6)) (.ref (ca 1)) = some false
  s6_2 : PySem.W.kitOne K (.ref (ca 6)) (.ref (ca 2)) = some false
  s6_3 : PySem.W.kitOne K (.ref (ca 6)) (.ref (ca 3)) = some false
  s6_4 : PySem.W.kitOne K (.ref (ca 6)) (.ref (ca 4)) = some false
  s6_5 : PySem.W.kitOne K (.ref (ca 6)) (.ref (ca 5)) = some false
  s6_6 : PySem.W.kitOne K (.ref (ca 6)) (.ref (ca 6)) = some true
  na6 : NoAttr K (ca 6) "tree"
  mk6 : ∃ fi fd, Mk K (ca 6) fi ∧ Fun K "__init__" "Cases.__init__" sI6 fi fd ∧ Binds K fd ["self", "tree"] []
variable {f0 f1 f2 f3 f4 f5 f6 f7 f8 f9 f10 f11 f21 f22 f23 f24 f31 f32 f39 f40 f41 f65 f66 f67 f68 f71 f72 f73 f47 f48 f49 f50 f51 f52 f61 f63 f64 f12 f97 f98 f99 f100 f101 f102 f20 f25 f26 f27 f28 f29 f30 : Addr} {d0 d1 d2 d3 d4 d5 d6 d7 d8 d9 d10 d11 d21 d22 d23 d24 d31 d32 d39 d40 d41 d65 d66 d67 d68 d71 d72 d73 d47 d48 d49 d50 d51 d52 d61 d63 d64 d12 d97 d98 d99 d100 d101 d102 d20 d25 d26 d27 d28 d29 d30 : FuncData} {cc101 cc102 P101 P102 : Addr}
structure All (P : Program) (w : World) (K : PySem.W.Frag) (mg : Str → Option Value) (base : Heap) (ca : Nat → Addr) (n : Nat) (f0 f1 f2 f3 f4 f5 f6 f7 f8 f9 f10 f11 f21 f22 f23 f24 f31 f32 f39 f40 f41 f65 f66 f67 f68 f71 f72 f73 f47 f48 f49 f50 f51 f52 f61 f63 f64 f12 f97 f98 f99 f100 f101 f102 f20 f25 f26 f27 f28 f29 f30 : Addr) : Prop where
  f0 : FnAt ⟨ca, T⟩ P w K mg base n 0 f0
  f1 : FnAt ⟨ca, T⟩ P w K mg base n 1 f1
  f2 : FnAt ⟨ca, T⟩ P w K mg base n 2 f2
  f3 : FnAt ⟨ca, T⟩ P w K mg base n 3 f3
  f4 : FnAt ⟨ca, T⟩ P w K mg base n 4 f4
  f5 : FnAt ⟨ca, T⟩ P w K mg base n 5 f5
  f6 : FnAt ⟨ca, T⟩ P w K mg base n 6 f6
  f7 : FnAt ⟨ca, T⟩ P w K mg base n 7 f7
  f8 : FnAt ⟨ca, T⟩ P w K mg base n 8 f8
  f9 : FnAt ⟨ca, T⟩ P w K mg base n 9 f9
  f10 : FnAt ⟨ca, T⟩ P w K mg base n 10 f10
  f11 : FnAt ⟨ca, T⟩ P w K mg base n 11 f11
  f21 : FnAt ⟨ca, T⟩ P w K mg base n 21 f21
  f22 : FnAt ⟨ca, T⟩ P w K mg base n 22 f22
  f23 : FnAt ⟨ca, T⟩ P w K mg base n 23 f23
  f24 : FnAt ⟨ca, T⟩ P w K mg base n 24 f24
  f31 : FnAt ⟨ca, T⟩ P w K mg base n 31 f31
  f32 : FnAt ⟨ca, T⟩ P w K mg base n 32 f32
  f39 : FnAt ⟨ca, T⟩ P w K mg base n 39 f39
  f40 : FnAt ⟨ca, T⟩ P w K mg base n 40 f40
  f41 : FnAt ⟨ca, T⟩ P w K mg base n 41 f41
  f65 : FnAt ⟨ca, T⟩ P w K mg base n 65 f65
  f66 : FnAt ⟨ca, T⟩ P w K mg base n 66 f66
  f67 : FnAt ⟨ca, T⟩ P w K mg base n 67 f67
  f68 : FnAt ⟨ca, T⟩ P w K mg base n 68 f68
  f71 : FnAt ⟨ca, T⟩ P w K mg base n 71 f71
  f72 : FnAt ⟨ca, T⟩ P w K mg base n 72 f72
  f73 : FnAt ⟨ca, T⟩ P w K mg base n 73 f73
  f47 : FnAt ⟨ca, T⟩ P w K mg base n 47 f47
  f48 : FnAt ⟨ca, T⟩ P w K mg base n 48 f48
  f49 : FnAt ⟨ca, T⟩ P w K mg base n 49 f49
  f50 : FnAt ⟨ca, T⟩ P w K mg base n 50 f50
  f51 : FnAt ⟨ca, T⟩ P w K mg base n 51 f51
  f52 : FnAt ⟨ca, T⟩ P w K mg base n 52 f52
  f61 : FnAt ⟨ca, T⟩ P w K mg base n 61 f61
  f63 : FnAt ⟨ca, T⟩ P w K mg base n 63 f63
  f64 : FnAt ⟨ca, T⟩ P w K mg base n 64 f64
  f12 : FnAt ⟨ca, T⟩ P w K mg base n 12 f12
  f97 : FnAt ⟨ca, T⟩ P w K mg base n 97 f97
  f99 : FnAt ⟨ca, T⟩ P w K mg base n 99 f99
  f25 : FnAt ⟨ca, T⟩ P w K mg base n 25 f25
  f26 : FnAt ⟨ca, T⟩ P w K mg base n 26 f26
  f27 : FnAt ⟨ca, T⟩ P w K mg base n 27 f27
  f28 : FnAt ⟨ca, T⟩ P w K mg base n 28 f28
  f29 : FnAt ⟨ca, T⟩ P w K mg base n 29 f29
  f30 : FnAt ⟨ca, T⟩ P w K mg base n 30 f30
theorem cmk1 {n : Nat} (Tx : Txt K mg f0 f1 f2 f3 f4 f5 f6 f7 f8 f9 f10 f11 f21 f22 f23 f24 f31 f32 f39 f40 f41 f65 f66 f67 f68 f71 f72 f73 f47 f48 f49 f50 f51 f52 f61 f63 f64 f12 f97 f98 f99 f100 f101 f102 f20 f25 f26 f27 f28 f29 f30 d0 d1 d2 d3 d4 d5 d6 d7 d8 d9 d10 d11 d21 d22 d23 d24 d31 d32 d39 d40 d41 d65 d66 d67 d68 d71 d72 d73 d47 d48 d49 d50 d51 d52 d61 d63 d64 d12 d97 d98 d99 d100 d101 d102 d20 d25 d26 d27 d28 d29 d30 cc101 cc102 ca) {X : Cx} (e : X.K = K ∧ X.mg = mg) : MkAt0 ⟨ca, { T with lv := n }⟩ X 1 := by
  obtain ⟨rfl, rfl⟩ := e
  exact ⟨Tx.mk1, Tx.mi1, Tx.mp1, rfl, rfl⟩
theorem cmk2 {n : Nat} (Tx : Txt K mg f0 f1 f2 f3 f4 f5 f6 f7 f8 f9 f10 f11 f21 f22 f23 f24 f31 f32 f39 f40 f41 f65 f66 f67 f68 f71 f72 f73 f47 f48 f49 f50 f51 f52 f61 f63 f64 f12 f97 f98 f99 f100 f101 f102 f20 f25 f26 f27 f28 f29 f30 d0 d1 d2 d3 d4 d5 d6 d7 d8 d9 d10 d11 d21 d22 d23 d24 d31 d32 d39 d40 d41 d65 d66 d67 d68 d71 d72 d73 d47 d48 d49 d50 d51 d52 d61 d63 d64 d12 d97 d98 d99 d100 d101 d102 d20 d25 d26 d27 d28 d29 d30 cc101 cc102 ca) {X : Cx} (e : X.K = K ∧ X.mg = mg ∧ X.base = base ∧ X.prog = P ∧ X.w = w) : MkAt ⟨ca, { T with lv := n }⟩ X 2 true "points" := by
  obtain ⟨rfl, rfl, rfl, rfl, rfl⟩ := e
  obtain ⟨fi, fd, mk, Fu, hb⟩ := Tx.mk2
  exact ⟨Tx.ok2.cls, Tx.na2, rfl, rfl, fi, fd, _, mk, hb, init_l Fu scI2 rfl fun cdv A outer s H E => pss_one (ps_fld (pv 0) (pe_callTy call_list_of rfl Tx.n_list PyProof.Rows.boot_list (pa_cons (pv 1) pa_nil) (by decide) (by decide) rfl rfl) rfl)⟩
theorem cmk3 {n : Nat} (Tx : Txt K mg f0 f1 f2 f3 f4 f5 f6 f7 f8 f9 f10 f11 f21 f22 f23 f24 f31 f32 f39 f40 f41 f65 f66 f67 f68 f71 f72 f73 f47 f48 f49 f50 f51 f52 f61 f63 f64 f12 f97 f98 f99 f100 f101 f102 f20 f25 f26 f27 f28 f29 f30 d0 d1 d2 d3 d4 d5 d6 d7 d8 d9 d10 d11 d21 d22 d23 d24 d31 d32 d39 d40 d41 d65 d66 d67 d68 d71 d72 d73 d47 d48 d49 d50 d51 d52 d61 d63 d64 d12 d97 d98 d99 d100 d101 d102 d20 d25 d26 d27 d28 d29 d30 cc101 cc102 ca) {X : Cx} (e : X.K = K ∧ X.mg = mg) : MkAt0 ⟨ca, { T with lv := n }⟩ X 3 := by
  obtain ⟨rfl, rfl⟩ := e
  exact ⟨Tx.mk3, Tx.mi3, Tx.mp3, rfl, rfl⟩
theorem cmk4 {n : Nat} (Tx : Txt K mg f0 f1 f2 f3 f4 f5 f6 f7 f8 f9 f10 f11 f21 f22 f23 f24 f31 f32 f39 f40 f41 f65 f66 f67 f68 f71 f72 f73 f47 f48 f49 f50 f51 f52 f61 f63 f64 f12 f97 f98 f99 f100 f101 f102 f20 f25 f26 f27 f28 f29 f30 d0 d1 d2 d3 d4 d5 d6 d7 d8 d9 d10 d11 d21 d22 d23 d24 d31 d32 d39 d40 d41 d65 d66 d67 d68 d71 d72 d73 d47 d48 d49 d50 d51 d52 d61 d63 d64 d12 d97 d98 d99 d100 d101 d102 d20 d25 d26 d27 d28 d29 d30 cc101 cc102 ca) {X : Cx} (e : X.K = K ∧ X.mg = mg ∧ X.base = base ∧ X.prog = P ∧ X.w = w) : MkAt ⟨ca, { T with lv := n }⟩ X 4 false "point" := by
  obtain ⟨rfl, rfl, rfl, rfl, rfl⟩ := e
  obtain ⟨fi, fd, mk, Fu, hb⟩ := Tx.mk4
  exact ⟨Tx.ok4.cls, Tx.na4, rfl, rfl, fi, fd, _, mk, hb, init_v Fu scI4 rfl fun cdv A outer s H E => pss_one (ps_fld (pv 0) (pv 1) rfl)⟩
theorem cmk5 {n : Nat} (Tx : Txt K mg f0 f1 f2 f3 f4 f5 f6 f7 f8 f9 f10 f11 f21 f22 f23 f24 f31 f32 f39 f40 f41 f65 f66 f67 f68 f71 f72 f73 f47 f48 f49 f50 f51 f52 f61 f63 f64 f12 f97 f98 f99 f100 f101 f102 f20 f25 f26 f27 f28 f29 f30 d0 d1 d2 d3 d4 d5 d6 d7 d8 d9 d10 d11 d21 d22 d23 d24 d31 d32 d39 d40 d41 d65 d66 d67 d68 d71 d72 d73 d47 d48 d49 d50 d51 d52 d61 d63 d64 d12 d97 d98 d99 d100 d101 d102 d20 d25 d26 d27 d28 d29 d30 cc101 cc102 ca) {X : Cx} (e : X.K = K ∧ X.mg = mg ∧ X.base = base ∧ X.prog = P ∧ X.w = w) : MkAt ⟨ca, { T with lv := n }⟩ X 5 true "points" := by
  obtain ⟨rfl, rfl, rfl, rfl, rfl⟩ := e
  obtain ⟨fi, fd, mk, Fu, hb⟩ := Tx.mk5
  exact ⟨Tx.ok5.cls, Tx.na5, rfl, rfl, fi, fd, _, mk, hb, init_l Fu scI5 rfl fun cdv A outer s H E => pss_one (ps_fld (pv 0) (pe_callTy call_list_of rfl Tx.n_list PyProof.Rows.boot_list (pa_cons (pv 1) pa_nil) (by decide) (by decide) rfl rfl) rfl)⟩
theorem cmk6 {n : Nat} (Tx : Txt K mg f0 f1 f2 f3 f4 f5 f6 f7 f8 f9 f10 f11 f21 f22 f23 f24 f31 f32 f39 f40 f41 f65 f66 f67 f68 f71 f72 f73 f47 f48 f49 f50 f51 f52 f61 f63 f64 f12 f97 f98 f99 f100 f101 f102 f20 f25 f26 f27 f28 f29 f30 d0 d1 d2 d3 d4 d5 d6 d7 d8 d9 d10 d11 d21 d22 d23 d24 d31 d32 d39 d40 d41 d65 d66 d67 d68 d71 d72 d73 d47 d48 d49 d50 d51 d52 d61 d63 d64 d12 d97 d98 d99 d100 d101 d102 d20 d25 d26 d27 d28 d29 d30 cc101 cc102 ca) {X : Cx} (e : X.K = K ∧ X.mg = mg ∧ X.base = base ∧ X.prog = P ∧ X.w = w) : MkAt ⟨ca, { T with lv := n }⟩ X 6 false "tree" := by
  obtain ⟨rfl, rfl, rfl, rfl, rfl⟩ := e
  obtain ⟨fi, fd, mk, Fu, hb⟩ := Tx.mk6
  exact ⟨Tx.ok6.cls, Tx.na6, rfl, rfl, fi, fd, _, mk, hb, init_v Fu scI6 rfl fun cdv A outer s H E => pss_one (ps_fld (pv 0) (pv 1) rfl)⟩
theorem csub0 (Tx : Txt K mg f0 f1 f2 f3 f4 f5 f6 f7 f8 f9 f10 f11 f21 f22 f23 f24 f31 f32 f39 f40 f41 f65 f66 f67 f68 f71 f72 f73 f47 f48 f49 f50 f51 f52 f61 f63 f64 f12 f97 f98 f99 f100 f101 f102 f20 f25 f26 f27 f28 f29 f30 d0 d1 d2 d3 d4 d5 d6 d7 d8 d9 d10 d11 d21 d22 d23 d24 d31 d32 d39 d40 d41 d65 d66 d67 d68 d71 d72 d73 d47 d48 d49 d50 d51 d52 d61 d63 d64 d12 d97 d98 d99 d100 d101 d102 d20 d25 d26 d27 d28 d29 d30 cc101 cc102 ca) : ∀ c' b, T.sub c' 0 = some b → ClOk K (ca c') ∧ PySem.W.kitOne K (.ref (ca c')) (.ref (ca 0)) = some b
  | 0, b, h => by cases (show (none : Option Bool) = some b from h)
  | 1, _, h => (Option.some.inj (show some true = some _ from h)) ▸ ⟨Tx.ok1, Tx.s1_0⟩
  | 2, _, h => (Option.some.inj (show some true = some _ from h)) ▸ ⟨Tx.ok2, Tx.s2_0⟩
  | 3, _, h => (Option.some.inj (show some true = some _ from h)) ▸ ⟨Tx.ok3, Tx.s3_0⟩
  | 4, _, h => (Option.some.inj (show some true = some _ from h)) ▸ ⟨Tx.ok4, Tx.s4_0⟩
  | 5, _, h => (Option.some.inj (show some true = some _ from h)) ▸ ⟨Tx.ok5, Tx.s5_0⟩
  | 6, _, h => (Option.some.inj (show some true = some _ from h)) ▸ ⟨Tx.ok6, Tx.s6_0⟩
  | _ + 7, b, h => by cases (show (none : Option Bool) = some b from h)
theorem csub1 (Tx : Txt K mg f0 f1 f2 f3 f4 f5 f6 f7 f8 f9 f10 f11 f21 f22 f23 f24 f31 f32 f39 f40 f41 f65 f66 f67 f68 f71 f72 f73 f47 f48 f49 f50 f51 f52 f61 f63 f64 f12 f97 f98 f99 f100 f101 f102 f20 f25 f26 f27 f28 f29 f30 d0 d1 d2 d3 d4 d5 d6 d7 d8 d9 d10 d11 d21 d22 d23 d24 d31 d32 d39 d40 d41 d65 d66 d67 d68 d71 d72 d73 d47 d48 d49 d50 d51 d52 d61 d63 d64 d12 d97 d98 d99 d100 d101 d102 d20 d25 d26 d27 d28 d29 d30 cc101 cc102 ca) : ∀ c' b, T.sub c' 1 = some b → ClOk K (ca c') ∧ PySem.W.kitOne K (.ref (ca c')) (.ref (ca 1)) = some b
  | 0, b, h => by cases (show (none : Option Bool) = some b from h)
  | 1, _, h => (Option.some.inj (show some true = some _ from h)) ▸ ⟨Tx.ok1, Tx.s1_1⟩
  | 2, _, h => (Option.some.inj (show some false = some _ from h)) ▸ ⟨Tx.ok2, Tx.s2_1⟩
  | 3, _, h => (Option.some.inj (show some false = some _ from h)) ▸ ⟨Tx.ok3, Tx.s3_1⟩
  | 4, _, h => (Option.some.inj (show some false = some _ from h)) ▸ ⟨Tx.ok4, Tx.s4_1⟩
  | 5, _, h => (Option.some.inj (show some false = some _ from h)) ▸ ⟨Tx.ok5, Tx.s5_1⟩
  | 6, _, h => (Option.some.inj (show some false = some _ from h)) ▸ ⟨Tx.ok6, Tx.s6_1⟩
  | _ + 7, b, h => by cases (show (none : Option Bool) = some b from h)
theorem csub2 (Tx : Txt K mg f0 f1 f2 f3 f4 f5 f6 f7 f8 f9 f10 f11 f21 f22 f23 f24 f31 f32 f39 f40 f41 f65 f66 f67 f68 f71 f72 f73 f47 f48 f49 f50 f51 f52 f61 f63 f64 f12 f97 f98 f99 f100 f101 f102 f20 f25 f26 f27 f28 f29 f30 d0 d1 d2 d3 d4 d5 d6 d7 d8 d9 d10 d11 d21 d22 d23 d24 d31 d32 d39 d40 d41 d65 d66 d67 d68 d71 d72 d73 d47 d48 d49 d50 d51 d52 d61 d63 d64 d12 d97 d98 d99 d100 d101 d102 d20 d25 d26 d27 d28 d29 d30 cc101 cc102 ca) : ∀ c' b, T.sub c' 2 = some b → ClOk K (ca c') ∧ PySem.W.kitOne K (.ref (ca c')) (.ref (ca 2)) = some b
  | 0, b, h => by cases (show (none : Option Bool) = some b from h)
  | 1, _, h => (Option.some.inj (show some false = some _ from h)) ▸ ⟨Tx.ok1, Tx.s1_2⟩
  | 2, _, h => (Option.some.inj (show some true = some _ from h)) ▸ ⟨Tx.ok2, Tx.s2_2⟩
  | 3, _, h => (Option.some.inj (show some false = some _ from h)) ▸ ⟨Tx.ok3, Tx.s3_2⟩
  | 4, _, h => (Option.some.inj (show some false = some _ from h)) ▸ ⟨Tx.ok4, Tx.s4_2⟩
  | 5, _, h => (Option.some.inj (show some false = some _ from h)) ▸ ⟨Tx.ok5, Tx.s5_2⟩
  | 6, _, h => (Option.some.inj (show some false = some _ from h)) ▸ ⟨Tx.ok6, Tx.s6_2⟩
  | _ + 7, b, h => by cases (show (none : Option Bool) = some b from h)
theorem csub3 (Tx : Txt K mg f0 f1 f2 f3 f4 f5 f6 f7 f8 f9 f10 f11 f21 f22 f23 f24 f31 f32 f39 f40 f41 f65 f66 f67 f68 f71 f72 f73 f47 f48 f49 f50 f51 f52 f61 f63 f64 f12 f97 f98 f99 f100 f101 f102 f20 f25 f26 f27 f28 f29 f30 d0 d1 d2 d3 d4 d5 d6 d7 d8 d9 d10 d11 d21 d22 d23 d24 d31 d32 d39 d40 d41 d65 d66 d67 d68 d71 d72 d73 d47 d48 d49 d50 d51 d52 d61 d63 d64 d12 d97 d98 d99 d100 d101 d102 d20 d25 d26 d27 d28 d29 d30 cc101 cc102 ca) : ∀ c' b, T.sub c' 3 = some b → ClOk K (ca c') ∧ PySem.W.kitOne K (.ref (ca c')) (.ref (ca 3)) = some b
  | 0, b, h => by cases (show (none : Option Bool) = some b from h)
  | 1, _, h => (Option.some.inj (show some false = some _ from h)) ▸ ⟨Tx.ok1, Tx.s1_3⟩
  | 2, _, h => (Option.some.inj (show some false = some _ from h)) ▸ ⟨Tx.ok2, Tx.s2_3⟩
  | 3, _, h => (Option.some.inj (show some true = some _ from h)) ▸ ⟨Tx.ok3, Tx.s3_3⟩
  | 4, _, h => (Option.some.inj (show some false = some _ from h)) ▸ ⟨Tx.ok4, Tx.s4_3⟩
  | 5, _, h => (Option.some.inj (show some false = some _ from h)) ▸ ⟨Tx.ok5, Tx.s5_3⟩
  | 6, _, h => (Option.some.inj (show some false = some _ from h)) ▸ ⟨Tx.ok6, Tx.s6_3⟩
  | _ + 7, b, h => by cases (show (none : Option Bool) = some b from h)
theorem csub4 (Tx : Txt K mg f0 f1 f2 f3 f4 f5 f6 f7 f8 f9 f10 f11 f21 f22 f23 f24 f31 f32 f39 f40 f41 f65 f66 f67 f68 f71 f72 f73 f47 f48 f49 f50 f51 f52 f61 f63 f64 f12 f97 f98 f99 f100 f101 f102 f20 f25 f26 f27 f28 f29 f30 d0 d1 d2 d3 d4 d5 d6 d7 d8 d9 d10 d11 d21 d22 d23 d24 d31 d32 d39 d40 d41 d65 d66 d67 d68 d71 d72 d73 d47 d48 d49 d50 d51 d52 d61 d63 d64 d12 d97 d98 d99 d100 d101 d102 d20 d25 d26 d27 d28 d29 d30 cc101 cc102 ca) : ∀ c' b, T.sub c' 4 = some b → ClOk K (ca c') ∧ PySem.W.kitOne K (.ref (ca c')) (.ref (ca 4)) = some b
  | 0, b, h => by cases (show (none : Option Bool) = some b from h)
  | 1, _, h => (Option.some.inj (show some false = some _ from h)) ▸ ⟨Tx.ok1, Tx.s1_4⟩
  | 2, _, h => (Option.some.inj (show some false = some _ from h)) ▸ ⟨Tx.ok2, Tx.s2_4⟩
  | 3, _, h => (Option.some.inj (show some false = some _ from h)) ▸ ⟨Tx.ok3, Tx.s3_4⟩
  | 4, _, h => (Option.some.inj (show some true = some _ from h)) ▸ ⟨Tx.ok4, Tx.s4_4⟩
  | 5, _, h => (Option.some.inj (show some false = some _ from h)) ▸ ⟨Tx.ok5, Tx.s5_4⟩
  | 6, _, h => (Option.some.inj (show some false = some _ from h)) ▸ ⟨Tx.ok6, Tx.s6_4⟩
  | _ + 7, b, h => by cases (show (none : Option Bool) = some b from h)
theorem csub5 (Tx : Txt K mg f0 f1 f2 f3 f4 f5 f6 f7 f8 f9 f10 f11 f21 f22 f23 f24 f31 f32 f39 f40 f41 f65 f66 f67 f68 f71 f72 f73 f47 f48 f49 f50 f51 f52 f61 f63 f64 f12 f97 f98 f99 f100 f101 f102 f20 f25 f26 f27 f28 f29 f30 d0 d1 d2 d3 d4 d5 d6 d7 d8 d9 d10 d11 d21 d22 d23 d24 d31 d32 d39 d40 d41 d65 d66 d67 d68 d71 d72 d73 d47 d48 d49 d50 d51 d52 d61 d63 d64 d12 d97 d98 d99 d100 d101 d102 d20 d25 d26 d27 d28 d29 d30 cc101 cc102 ca) : ∀ c' b, T.sub c' 5 = some b → ClOk K (ca c') ∧ PySem.W.kitOne K (.ref (ca c')) (.ref (ca 5)) = some b
  | 0, b, h => by cases (show (none : Option Bool) = some b from h)
  | 1, _, h => (Option.some.inj (show some false = some _ from h)) ▸ ⟨Tx.ok1, Tx.s1_5⟩
  | 2, _, h => (Option.some.inj (show some false = some _ from h)) ▸ ⟨Tx.ok2, Tx.s2_5⟩
  | 3, _, h => (Option.some.inj (show some false = some _ from h)) ▸ ⟨Tx.ok3, Tx.s3_5⟩
  | 4, _, h => (Option.some.inj (show some false = some _ from h)) ▸ ⟨Tx.ok4, Tx.s4_5⟩
  | 5, _, h => (Option.some.inj (show some true = some _ from h)) ▸ ⟨Tx.ok5, Tx.s5_5⟩
  | 6, _, h => (Option.some.inj (show some false = some _ from h)) ▸ ⟨Tx.ok6, Tx.s6_5⟩
  | _ + 7, b, h => by cases (show (none : Option Bool) = some b from h)
theorem csub6 (Tx : Txt K mg f0 f1 f2 f3 f4 f5 f6 f7 f8 f9 f10 f11 f21 f22 f23 f24 f31 f32 f39 f40 f41 f65 f66 f67 f68 f71 f72 f73 f47 f48 f49 f50 f51 f52 f61 f63 f64 f12 f97 f98 f99 f100 f101 f102 f20 f25 f26 f27 f28 f29 f30 d0 d1 d2 d3 d4 d5 d6 d7 d8 d9 d10 d11 d21 d22 d23 d24 d31 d32 d39 d40 d41 d65 d66 d67 d68 d71 d72 d73 d47 d48 d49 d50 d51 d52 d61 d63 d64 d12 d97 d98 d99 d100 d101 d102 d20 d25 d26 d27 d28 d29 d30 cc101 cc102 ca) : ∀ c' b, T.sub c' 6 = some b → ClOk K (ca c') ∧ PySem.W.kitOne K (.ref (ca c')) (.ref (ca 6)) = some b
  | 0, b, h => by cases (show (none : Option Bool) = some b from h)
  | 1, _, h => (Option.some.inj (show some false = some _ from h)) ▸ ⟨Tx.ok1, Tx.s1_6⟩
  | 2, _, h => (Option.some.inj (show some false = some _ from h)) ▸ ⟨Tx.ok2, Tx.s2_6⟩
  | 3, _, h => (Option.some.inj (show some false = some _ from h)) ▸ ⟨Tx.ok3, Tx.s3_6⟩
  | 4, _, h => (Option.some.inj (show some false = some _ from h)) ▸ ⟨Tx.ok4, Tx.s4_6⟩
  | 5, _, h => (Option.some.inj (show some false = some _ from h)) ▸ ⟨Tx.ok5, Tx.s5_6⟩
  | 6, _, h => (Option.some.inj (show some true = some _ from h)) ▸ ⟨Tx.ok6, Tx.s6_6⟩
  | _ + 7, b, h => by cases (show (none : Option Bool) = some b from h)
theorem csh {n : Nat} (Tx : Txt K mg f0 f1 f2 f3 f4 f5 f6 f7 f8 f9 f10 f11 f21 f22 f23 f24 f31 f32 f39 f40 f41 f65 f66 f67 f68 f71 f72 f73 f47 f48 f49 f50 f51 f52 f61 f63 f64 f12 f97 f98 f99 f100 f101 f102 f20 f25 f26 f27 f28 f29 f30 d0 d1 d2 d3 d4 d5 d6 d7 d8 d9 d10 d11 d21 d22 d23 d24 d31 d32 d39 d40 d41 d65 d66 d67 d68 d71 d72 d73 d47 d48 d49 d50 d51 d52 d61 d63 d64 d12 d97 d98 d99 d100 d101 d102 d20 d25 d26 d27 d28 d29 d30 cc101 cc102 ca) (A : All P w K mg base ca n f0 f1 f2 f3 f4 f5 f6 f7 f8 f9 f10 f11 f21 f22 f23 f24 f31 f32 f39 f40 f41 f65 f66 f67 f68 f71 f72 f73 f47 f48 f49 f50 f51 f52 f61 f63 f64 f12 f97 f98 f99 f100 f101 f102 f20 f25 f26 f27 f28 f29 f30) : ∀ c k, T.sh c = some k → ("shows" : Str) ∉ T.cn c ∧ ∃ f, Cls K (ca c) ∧ Meth K (ca c) "shows" f ∧ FnAt ⟨ca, { T with lv := n }⟩ P w K mg base n k f
  | 0, b, h => by cases (show (none : Option Nat) = some b from h)
  | 1, _, h => (Option.some.inj (show some 25 = some _ from h)) ▸ ⟨by decide, _, Tx.ok1.cls, Tx.ms1, fnat_lv A.f25⟩
  | 2, _, h => (Option.some.inj (show some 26 = some _ from h)) ▸ ⟨by decide, _, Tx.ok2.cls, Tx.ms2, fnat_lv A.f26⟩
  | 3, _, h => (Option.some.inj (show some 27 = some _ from h)) ▸ ⟨by decide, _, Tx.ok3.cls, Tx.ms3, fnat_lv A.f27⟩
  | 4, _, h => (Option.some.inj (show some 28 = some _ from h)) ▸ ⟨by decide, _, Tx.ok4.cls, Tx.ms4, fnat_lv A.f28⟩
  | 5, _, h => (Option.some.inj (show some 29 = some _ from h)) ▸ ⟨by decide, _, Tx.ok5.cls, Tx.ms5, fnat_lv A.f29⟩
  | 6, _, h => (Option.some.inj (show some 30 = some _ from h)) ▸ ⟨by decide, _, Tx.ok6.cls, Tx.ms6, fnat_lv A.f30⟩
  | _ + 7, b, h => by cases (show (none : Option Nat) = some b from h)
theorem cfl_point (Tx : Txt K mg f0 f1 f2 f3 f4 f5 f6 f7 f8 f9 f10 f11 f21 f22 f23 f24 f31 f32 f39 f40 f41 f65 f66 f67 f68 f71 f72 f73 f47 f48 f49 f50 f51 f52 f61 f63 f64 f12 f97 f98 f99 f100 f101 f102 f20 f25 f26 f27 f28 f29 f30 d0 d1 d2 d3 d4 d5 d6 d7 d8 d9 d10 d11 d21 d22 d23 d24 d31 d32 d39 d40 d41 d65 d66 d67 d68 d71 d72 d73 d47 d48 d49 d50 d51 d52 d61 d63 d64 d12 d97 d98 d99 d100 d101 d102 d20 d25 d26 d27 d28 d29 d30 cc101 cc102 ca) : ∀ c, ("point" : Str) ∈ T.cn c → Cls K (ca c) ∧ NoAttr K (ca c) "point"
  | 0, h => absurd h (by decide)
  | 1, h => absurd h (by decide)
  | 2, h => absurd h (by decide)
  | 3, h => absurd h (by decide)
  | 4, _ => ⟨Tx.ok4.cls, Tx.na4⟩
  | 5, h => absurd h (by decide)
  | 6, h => absurd h (by decide)
  | _ + 7, h => absurd (show ("point" : Str) ∈ ([] : List Str) from h) (by decide)
theorem cfl_points (Tx : Txt K mg f0 f1 f2 f3 f4 f5 f6 f7 f8 f9 f10 f11 f21 f22 f23 f24 f31 f32 f39 f40 f41 f65 f66 f67 f68 f71 f72 f73 f47 f48 f49 f50 f51 f52 f61 f63 f64 f12 f97 f98 f99 f100 f101 f102 f20 f25 f26 f27 f28 f29 f30 d0 d1 d2 d3 d4 d5 d6 d7 d8 d9 d10 d11 d21 d22 d23 d24 d31 d32 d39 d40 d41 d65 d66 d67 d68 d71 d72 d73 d47 d48 d49 d50 d51 d52 d61 d63 d64 d12 d97 d98 d99 d100 d101 d102 d20 d25 d26 d27 d28 d29 d30 cc101 cc102 ca) : ∀ c, ("points" : Str) ∈ T.cn c → Cls K (ca c) ∧ NoAttr K (ca c) "points"
  | 0, h => absurd h (by decide)
  | 1, h => absurd h (by decide)
  | 2, _ => ⟨Tx.ok2.cls, Tx.na2⟩
  | 3, h => absurd h (by decide)
  | 4, h => absurd h (by decide)
  | 5, _ => ⟨Tx.ok5.cls, Tx.na5⟩
  | 6, h => absurd h (by decide)
  | _ + 7, h => absurd (show ("points" : Str) ∈ ([] : List Str) from h) (by decide)
theorem cfl_tree (Tx : Txt K mg f0 f1 f2 f3 f4 f5 f6 f7 f8 f9 f10 f11 f21 f22 f23 f24 f31 f32 f39 f40 f41 f65 f66 f67 f68 f71 f72 f73 f47 f48 f49 f50 f51 f52 f61 f63 f64 f12 f97 f98 f99 f100 f101 f102 f20 f25 f26 f27 f28 f29 f30 d0 d1 d2 d3 d4 d5 d6 d7 d8 d9 d10 d11 d21 d22 d23 d24 d31 d32 d39 d40 d41 d65 d66 d67 d68 d71 d72 d73 d47 d48 d49 d50 d51 d52 d61 d63 d64 d12 d97 d98 d99 d100 d101 d102 d20 d25 d26 d27 d28 d29 d30 cc101 cc102 ca) : ∀ c, ("tree" : Str) ∈ T.cn c → Cls K (ca c) ∧ NoAttr K (ca c) "tree"
  | 0, h => absurd h (by decide)
  | 1, h => absurd h (by decide)
  | 2, h => absurd h (by decide)
  | 3, h => absurd h (by decide)
  | 4, h => absurd h (by decide)
  | 5, h => absurd h (by decide)
  | 6, _ => ⟨Tx.ok6.cls, Tx.na6⟩
  | _ + 7, h => absurd (show ("tree" : Str) ∈ ([] : List Str) from h) (by decide)
theorem o0 {n : Nat} (Tx : Txt K mg f0 f1 f2 f3 f4 f5 f6 f7 f8 f9 f10 f11 f21 f22 f23 f24 f31 f32 f39 f40 f41 f65 f66 f67 f68 f71 f72 f73 f47 f48 f49 f50 f51 f52 f61 f63 f64 f12 f97 f98 f99 f100 f101 f102 f20 f25 f26 f27 f28 f29 f30 d0 d1 d2 d3 d4 d5 d6 d7 d8 d9 d10 d11 d21 d22 d23 d24 d31 d32 d39 d40 d41 d65 d66 d67 d68 d71 d72 d73 d47 d48 d49 d50 d51 d52 d61 d63 d64 d12 d97 d98 d99 d100 d101 d102 d20 d25 d26 d27 d28 d29 d30 cc101 cc102 ca) (A : All P w K mg base ca n f0 f1 f2 f3 f4 f5 f6 f7 f8 f9 f10 f11 f21 f22 f23 f24 f31 f32 f39 f40 f41 f65 f66 f67 f68 f71 f72 f73 f47 f48 f49 f50 f51 f52 f61 f63 f64 f12 f97 f98 f99 f100 f101 f102 f20 f25 f26 f27 f28 f29 f30) : FnOk P w K mg base CX0 (n + 1) f0 d0 ["thing"] (spD ⟨K, ca, T.cn⟩ T (n + 1) 0) :=
  fn_okX (N := N0) (fn := ⟨1, 1, false, b0⟩) (own' := []) Tx.F0 sc0 rfl rfl rfl fun cdv A' outer s H E g =>
    ((ds_cons (ds_ret (own1 := []) (de_and (deB (de_isi (t := .int) (deB (de_var (i := 0))) PyProof.Rows.boot_int (hm := Tx.n_isinstance) (hm2 := Tx.n_int))) (de_one (de_not (deB (de_isi (t := .bool) (deB (de_var (i := 0))) PyProof.Rows.boot_bool (hm := Tx.n_isinstance) (hm2 := Tx.n_bool))))))) ds_nil))
theorem o1 {n : Nat} (Tx : Txt K mg f0 f1 f2 f3 f4 f5 f6 f7 f8 f9 f10 f11 f21 f22 f23 f24 f31 f32 f39 f40 f41 f65 f66 f67 f68 f71 f72 f73 f47 f48 f49 f50 f51 f52 f61 f63 f64 f12 f97 f98 f99 f100 f101 f102 f20 f25 f26 f27 f28 f29 f30 d0 d1 d2 d3 d4 d5 d6 d7 d8 d9 d10 d11 d21 d22 d23 d24 d31 d32 d39 d40 d41 d65 d66 d67 d68 d71 d72 d73 d47 d48 d49 d50 d51 d52 d61 d63 d64 d12 d97 d98 d99 d100 d101 d102 d20 d25 d26 d27 d28 d29 d30 cc101 cc102 ca) (A : All P w K mg base ca n f0 f1 f2 f3 f4 f5 f6 f7 f8 f9 f10 f11 f21 f22 f23 f24 f31 f32 f39 f40 f41 f65 f66 f67 f68 f71 f72 f73 f47 f48 f49 f50 f51 f52 f61 f63 f64 f12 f97 f98 f99 f100 f101 f102 f20 f25 f26 f27 f28 f29 f30) : FnOk P w K mg base CX0 (n + 1) f1 d1 ["thing"] (spD ⟨K, ca, T.cn⟩ T (n + 1) 1) :=
  fn_okX (N := N1) (fn := ⟨1, 1, false, b1⟩) (own' := []) Tx.F1 sc1 rfl rfl rfl fun cdv A' outer s H E g =>
    ((ds_cons (ds_if (dwT (dw_or (dt_not (dbT (deB (de_isi (t := .tup) (deB (de_var (i := 0))) PyProof.Rows.boot_tuple (hm := Tx.n_isinstance) (hm2 := Tx.n_tuple))))) (dw_or (dt_cmp (op_neD g.room.units) os_ne (deB (de_len (deB (de_var (i := 0))) (hm := Tx.n_len))) (deB de_int)) (dw_or (dt_not (dbT (deB (de_isi (t := .str) (deB (de_ix (di_var (i := 0)) (deB de_int))) PyProof.Rows.boot_str (hm := Tx.n_isinstance) (hm2 := Tx.n_str))))) (dw_or1 (dt_not (dbT (deB (de_call g (fnat_lv A.f0) Tx.m0 (da_cons (de_ix (di_var (i := 0)) (deB de_int)) da_nil)))))))))) (ds_cons (ds_ret (own1 := []) de_bl) ds_nil) ds_nil) (ds_cons (ds_if (dt_cmp (op_eqD g.room.units) os_eq (deB (de_ix (di_var (i := 0)) (deB de_int))) (deB de_str)) (ds_cons (ds_ret (own1 := []) (de_ch2 op_le os_le op_le os_le (deB de_int) (deB (de_ix (di_var (i := 0)) (deB de_int))) (deB (de_gint Tx.c_GREATEST_SPACE)))) ds_nil) ds_nil) (ds_cons (ds_if (dt_cmp (op_eqD g.room.units) os_eq (deB (de_ix (di_var (i := 0)) (deB de_int))) (deB de_str)) (ds_cons (ds_ret (own1 := []) (de_cmp (or_mem (room65 g.room)) os_mem (deB (de_ix (di_var (i := 0)) (deB de_int))) (deB (de_gtup (ns := [2, 3, 5, 7, 11, 13]) Tx.c_PRIMES)))) ds_nil) ds_nil) (ds_cons (ds_ret (own1 := []) (de_and (deB (de_cmp (op_eqD g.room.units) os_eq (deB (de_ix (di_var (i := 0)) (deB de_int))) (deB de_str))) (de_one (de_ch2 op_le os_le op_le os_le (deB de_int) (deB (de_ix (di_var (i := 0)) (deB de_int))) (deB (de_gint Tx.c_GREATEST_FLOOR)))))) ds_nil)))))
theorem o2 {n : Nat} (Tx : Txt K mg f0 f1 f2 f3 f4 f5 f6 f7 f8 f9 f10 f11 f21 f22 f23 f24 f31 f32 f39 f40 f41 f65 f66 f67 f68 f71 f72 f73 f47 f48 f49 f50 f51 f52 f61 f63 f64 f12 f97 f98 f99 f100 f101 f102 f20 f25 f26 f27 f28 f29 f30 d0 d1 d2 d3 d4 d5 d6 d7 d8 d9 d10 d11 d21 d22 d23 d24 d31 d32 d39 d40 d41 d65 d66 d67 d68 d71 d72 d73 d47 d48 d49 d50 d51 d52 d61 d63 d64 d12 d97 d98 d99 d100 d101 d102 d20 d25 d26 d27 d28 d29 d30 cc101 cc102 ca) (A : All P w K mg base ca n f0 f1 f2 f3 f4 f5 f6 f7 f8 f9 f10 f11 f21 f22 f23 f24 f31 f32 f39 f40 f41 f65 f66 f67 f68 f71 f72 f73 f47 f48 f49 f50 f51 f52 f61 f63 f64 f12 f97 f98 f99 f100 f101 f102 f20 f25 f26 f27 f28 f29 f30) : FnOk P w K mg base CX0 (n + 1) f2 d2 ["field"] (spD ⟨K, ca, T.cn⟩ T (n + 1) 2) :=
  fn_okX (N := N2) (fn := ⟨1, 1, true, b2⟩) (own' := []) Tx.F2 sc2 rfl rfl rfl fun cdv A' outer s H E g =>
    ((ds_cons (ds_if (dt_not (dbT (deB (de_call g (fnat_lv A.f1) Tx.m1 (da_cons (de_var (i := 0)) da_nil))))) (ds_cons (ds_failTo (own1 := [])) ds_nil) ds_nil) ds_nil))
theorem o3 {n : Nat} (Tx : Txt K mg f0 f1 f2 f3 f4 f5 f6 f7 f8 f9 f10 f11 f21 f22 f23 f24 f31 f32 f39 f40 f41 f65 f66 f67 f68 f71 f72 f73 f47 f48 f49 f50 f51 f52 f61 f63 f64 f12 f97 f98 f99 f100 f101 f102 f20 f25 f26 f27 f28 f29 f30 d0 d1 d2 d3 d4 d5 d6 d7 d8 d9 d10 d11 d21 d22 d23 d24 d31 d32 d39 d40 d41 d65 d66 d67 d68 d71 d72 d73 d47 d48 d49 d50 d51 d52 d61 d63 d64 d12 d97 d98 d99 d100 d101 d102 d20 d25 d26 d27 d28 d29 d30 cc101 cc102 ca) (A : All P w K mg base ca n f0 f1 f2 f3 f4 f5 f6 f7 f8 f9 f10 f11 f21 f22 f23 f24 f31 f32 f39 f40 f41 f65 f66 f67 f68 f71 f72 f73 f47 f48 f49 f50 f51 f52 f61 f63 f64 f12 f97 f98 f99 f100 f101 f102 f20 f25 f26 f27 f28 f29 f30) : FnOk P w K mg base CX0 (n + 1) f3 d3 ["field"] (spD ⟨K, ca, T.cn⟩ T (n + 1) 3) :=
  fn_okX (N := N3) (fn := ⟨1, 1, false, b3⟩) (own' := []) Tx.F3 sc3 rfl rfl rfl fun cdv A' outer s H E g =>
    ((ds_cons (ds_ret (own1 := []) (de_ite (dt_cmp (op_eqD g.room.units) os_eq (deB (de_ix (di_var (i := 0)) (deB de_int))) (deB de_str)) (de_ix (di_var (i := 0)) (deB de_int)) de_int)) ds_nil))
theorem o4 {n : Nat} (Tx : Txt K mg f0 f1 f2 f3 f4 f5 f6 f7 f8 f9 f10 f11 f21 f22 f23 f24 f31 f32 f39 f40 f41 f65 f66 f67 f68 f71 f72 f73 f47 f48 f49 f50 f51 f52 f61 f63 f64 f12 f97 f98 f99 f100 f101 f102 f20 f25 f26 f27 f28 f29 f30 d0 d1 d2 d3 d4 d5 d6 d7 d8 d9 d10 d11 d21 d22 d23 d24 d31 d32 d39 d40 d41 d65 d66 d67 d68 d71 d72 d73 d47 d48 d49 d50 d51 d52 d61 d63 d64 d12 d97 d98 d99 d100 d101 d102 d20 d25 d26 d27 d28 d29 d30 cc101 cc102 ca) (A : All P w K mg base ca n f0 f1 f2 f3 f4 f5 f6 f7 f8 f9 f10 f11 f21 f22 f23 f24 f31 f32 f39 f40 f41 f65 f66 f67 f68 f71 f72 f73 f47 f48 f49 f50 f51 f52 f61 f63 f64 f12 f97 f98 f99 f100 f101 f102 f20 f25 f26 f27 f28 f29 f30) : FnOk P w K mg base CX0 (n + 1) f4 d4 ["field"] (spD ⟨K, ca, T.cn⟩ T (n + 1) 4) :=
  fn_okX (N := N4) (fn := ⟨1, 1, false, b4⟩) (own' := []) Tx.F4 sc4 rfl rfl rfl fun cdv A' outer s H E g =>
    ((ds_cons (ds_ret (own1 := []) (de_ite (dt_cmp (op_eqD g.room.units) os_eq (deB (de_ix (di_var (i := 0)) (deB de_int))) (deB de_str)) de_int (de_ix (di_var (i := 0)) (deB de_int)))) ds_nil))
theorem o5 {n : Nat} (Tx : Txt K mg f0 f1 f2 f3 f4 f5 f6 f7 f8 f9 f10 f11 f21 f22 f23 f24 f31 f32 f39 f40 f41 f65 f66 f67 f68 f71 f72 f73 f47 f48 f49 f50 f51 f52 f61 f63 f64 f12 f97 f98 f99 f100 f101 f102 f20 f25 f26 f27 f28 f29 f30 d0 d1 d2 d3 d4 d5 d6 d7 d8 d9 d10 d11 d21 d22 d23 d24 d31 d32 d39 d40 d41 d65 d66 d67 d68 d71 d72 d73 d47 d48 d49 d50 d51 d52 d61 d63 d64 d12 d97 d98 d99 d100 d101 d102 d20 d25 d26 d27 d28 d29 d30 cc101 cc102 ca) (A : All P w K mg base ca n f0 f1 f2 f3 f4 f5 f6 f7 f8 f9 f10 f11 f21 f22 f23 f24 f31 f32 f39 f40 f41 f65 f66 f67 f68 f71 f72 f73 f47 f48 f49 f50 f51 f52 f61 f63 f64 f12 f97 f98 f99 f100 f101 f102 f20 f25 f26 f27 f28 f29 f30) : FnOk P w K mg base CX0 (n + 1) f5 d5 ["field"] (spD ⟨K, ca, T.cn⟩ T (n + 1) 5) :=
  fn_okX (N := N5) (fn := ⟨1, 6, true, b5⟩) (own' := []) Tx.F5 sc5 rfl rfl rfl fun cdv A' outer s H E g =>
    ((ds_cons (ds_asgO (own1 := []) (ps_set (i := 1) sc5.nd rfl (.inl rfl) (de_lst (da_cons (de_tup da_nil) da_nil)))) (ds_cons (ds_for (own1 := [1]) g (dr_r1 (deB (de_call g (fnat_lv A.f3) Tx.m3 (da_cons (de_var (i := 0)) da_nil))) (hm := Tx.n_range)) (dg_one (pg_name (i := 2) sc5.nd rfl (.inl rfl))) (ds_cons (ds_asgO (own1 := [1]) (ps_set (i := 3) sc5.nd rfl (.inl rfl) (de_lst da_nil))) (ds_cons (ds_for (own1 := [3]) g (dr_sq (dz_t (de_var (i := 1)))) (dg_one (pg_name (i := 4) sc5.nd rfl (.inr rfl))) (ds_cons (ds_ext (own1 := [3]) (ps_expr (pe_bm PySem.F.plainAttrs_list PySem.F.slot_list_extend PySem.F.type_list_extend mt_extend (pv 3) (pa_cons (deI (de_comp g.calm sc5.nd (dr_r1 (deB (de_call g (fnat_lv A.f4) Tx.m4 (da_cons (de_var (i := 0)) da_nil))) (hm := Tx.n_range)) (blkOk_by (own := [("number", 5)]) (N := N5) (sc := defScope s5) (by decide +kernel)) rfl (fun _ _ _ _ _ => gbG g fun g => (dg_one (pg_name (i := 5) sc5.nd rfl (.inl rfl)))) (fun _ _ _ _ _ => gbE g fun g => (de_add (di_var (i := 4)) (deI (de_tup (da_cons (de_var (i := 5)) da_nil))))))) pa_nil)))) ds_nil)) (ds_cons (ds_mov (own1 := []) (ps_set (i := 1) sc5.nd rfl (.inl rfl) (pv 3))) ds_nil)))) (ds_cons (ds_retO (own1 := []) (i := 1) (ps_ret (pv 1))) ds_nil))))
theorem o6 {n : Nat} (Tx : Txt K mg f0 f1 f2 f3 f4 f5 f6 f7 f8 f9 f10 f11 f21 f22 f23 f24 f31 f32 f39 f40 f41 f65 f66 f67 f68 f71 f72 f73 f47 f48 f49 f50 f51 f52 f61 f63 f64 f12 f97 f98 f99 f100 f101 f102 f20 f25 f26 f27 f28 f29 f30 d0 d1 d2 d3 d4 d5 d6 d7 d8 d9 d10 d11 d21 d22 d23 d24 d31 d32 d39 d40 d41 d65 d66 d67 d68 d71 d72 d73 d47 d48 d49 d50 d51 d52 d61 d63 d64 d12 d97 d98 d99 d100 d101 d102 d20 d25 d26 d27 d28 d29 d30 cc101 cc102 ca) (A : All P w K mg base ca n f0 f1 f2 f3 f4 f5 f6 f7 f8 f9 f10 f11 f21 f22 f23 f24 f31 f32 f39 f40 f41 f65 f66 f67 f68 f71 f72 f73 f47 f48 f49 f50 f51 f52 f61 f63 f64 f12 f97 f98 f99 f100 f101 f102 f20 f25 f26 f27 f28 f29 f30) : FnOk P w K mg base CX0 (n + 1) f6 d6 ["field"] (spD ⟨K, ca, T.cn⟩ T (n + 1) 6) :=
  fn_okX (N := N6) (fn := ⟨1, 1, true, b6⟩) (own' := []) Tx.F6 sc6 rfl rfl rfl fun cdv A' outer s H E g =>
    ((ds_cons (ds_ex (de_call g (fnat_lv A.f2) Tx.m2 (da_cons (de_var (i := 0)) da_nil))) (ds_cons (ds_ret (own1 := []) (de_call g (fnat_lv A.f5) Tx.m5 (da_cons (de_var (i := 0)) da_nil))) ds_nil)))
theorem o7 {n : Nat} (Tx : Txt K mg f0 f1 f2 f3 f4 f5 f6 f7 f8 f9 f10 f11 f21 f22 f23 f24 f31 f32 f39 f40 f41 f65 f66 f67 f68 f71 f72 f73 f47 f48 f49 f50 f51 f52 f61 f63 f64 f12 f97 f98 f99 f100 f101 f102 f20 f25 f26 f27 f28 f29 f30 d0 d1 d2 d3 d4 d5 d6 d7 d8 d9 d10 d11 d21 d22 d23 d24 d31 d32 d39 d40 d41 d65 d66 d67 d68 d71 d72 d73 d47 d48 d49 d50 d51 d52 d61 d63 d64 d12 d97 d98 d99 d100 d101 d102 d20 d25 d26 d27 d28 d29 d30 cc101 cc102 ca) (A : All P w K mg base ca n f0 f1 f2 f3 f4 f5 f6 f7 f8 f9 f10 f11 f21 f22 f23 f24 f31 f32 f39 f40 f41 f65 f66 f67 f68 f71 f72 f73 f47 f48 f49 f50 f51 f52 f61 f63 f64 f12 f97 f98 f99 f100 f101 f102 f20 f25 f26 f27 f28 f29 f30) : FnOk P w K mg base CX0 (n + 1) f7 d7 ["field", "thing"] (spD ⟨K, ca, T.cn⟩ T (n + 1) 7) :=
  fn_okX (N := N7) (fn := ⟨2, 3, false, b7⟩) (own' := []) Tx.F7 sc7 rfl rfl rfl fun cdv A' outer s H E g =>
    ((ds_cons (ds_if (dwT (dw_or (dt_not (dbT (deB (de_isi (t := .tup) (deB (de_var (i := 1))) PyProof.Rows.boot_tuple (hm := Tx.n_isinstance) (hm2 := Tx.n_tuple))))) (dw_or1 (dt_cmp (op_neD g.room.units) os_ne (deB (de_len (deB (de_var (i := 1))) (hm := Tx.n_len))) (deB (de_call g (fnat_lv A.f3) Tx.m3 (da_cons (de_var (i := 0)) da_nil))))))) (ds_cons (ds_ret (own1 := []) de_bl) ds_nil) ds_nil) (ds_cons (ds_ret (own1 := []) (de_all g.calm (deB (de_comp g.calm sc7.nd (dr_sq (dz_f (di_var (i := 1)))) (blkOk_by (own := [("one", 2)]) (N := N7) (sc := defScope s7) (by decide +kernel)) rfl (fun _ _ _ _ _ => gbG g fun g => (dg_one (pg_name (i := 2) sc7.nd rfl (.inl rfl)))) (fun _ _ _ _ _ => gbE g fun g => (de_and (deB (de_call g (fnat_lv A.f0) Tx.m0 (da_cons (de_var (i := 2)) da_nil))) (de_one (de_ch2 op_le os_le (or_lt g.room.units0) os_lt (deB de_int) (deB (de_var (i := 2))) (deB (de_call g (fnat_lv A.f4) Tx.m4 (da_cons (de_var (i := 0)) da_nil))))))))) (hm := Tx.n_all))) ds_nil)))
theorem o8 {n : Nat} (Tx : Txt K mg f0 f1 f2 f3 f4 f5 f6 f7 f8 f9 f10 f11 f21 f22 f23 f24 f31 f32 f39 f40 f41 f65 f66 f67 f68 f71 f72 f73 f47 f48 f49 f50 f51 f52 f61 f63 f64 f12 f97 f98 f99 f100 f101 f102 f20 f25 f26 f27 f28 f29 f30 d0 d1 d2 d3 d4 d5 d6 d7 d8 d9 d10 d11 d21 d22 d23 d24 d31 d32 d39 d40 d41 d65 d66 d67 d68 d71 d72 d73 d47 d48 d49 d50 d51 d52 d61 d63 d64 d12 d97 d98 d99 d100 d101 d102 d20 d25 d26 d27 d28 d29 d30 cc101 cc102 ca) (A : All P w K mg base ca n f0 f1 f2 f3 f4 f5 f6 f7 f8 f9 f10 f11 f21 f22 f23 f24 f31 f32 f39 f40 f41 f65 f66 f67 f68 f71 f72 f73 f47 f48 f49 f50 f51 f52 f61 f63 f64 f12 f97 f98 f99 f100 f101 f102 f20 f25 f26 f27 f28 f29 f30) : FnOk P w K mg base CX0 (n + 1) f8 d8 ["field", "thing"] (spD ⟨K, ca, T.cn⟩ T (n + 1) 8) :=
  fn_okX (N := N8) (fn := ⟨2, 5, false, b8⟩) (own' := []) Tx.F8 sc8 rfl rfl rfl fun cdv A' outer s H E g =>
    ((ds_cons (ds_if (dwT (dw_or (dt_not (dbT (deB (de_isi (t := .lst) (deB (de_var (i := 1))) PyProof.Rows.boot_list (hm := Tx.n_isinstance) (hm2 := Tx.n_list))))) (dw_or1 (dt_not (dbT (deB (de_all g.calm (deB (de_comp g.calm sc8.nd (dr_sq (dz_f (di_var (i := 1)))) (blkOk_by (own := [("point", 4)]) (N := N8) (sc := defScope s8) (by decide +kernel)) rfl (fun _ _ _ _ _ => gbG g fun g => (dg_one (pg_name (i := 4) sc8.nd rfl (.inl rfl)))) (fun _ _ _ _ _ => gbE g fun g => (de_call g (fnat_lv A.f7) Tx.m7 (da_cons (de_var (i := 0)) (da_cons (de_var (i := 4)) da_nil)))))) (hm := Tx.n_all)))))))) (ds_cons (ds_ret (own1 := []) de_bl) ds_nil) ds_nil) (ds_cons (ds_ret (own1 := []) (de_all g.calm (deB (de_comp g.calm sc8.nd (dr_zp (dz_f (di_var (i := 1))) (dz_f (deI (de_slL (di_var (i := 1)) (deB de_int)))) (hm := Tx.n_zip)) (blkOk_by (own := [("one", 2), ("other", 3)]) (N := N8) (sc := defScope s8) (by decide +kernel)) rfl (fun _ _ _ _ _ => gbG g fun g => (dg_many (is := [2, 3]) (pg_tup g.calm (pgs_cons (pg_name (i := 2) sc8.nd rfl (.inl rfl)) (pgs_cons (pg_name (i := 3) sc8.nd rfl (.inl rfl)) pgs_nil))))) (fun _ _ _ _ _ => gbE g fun g => (de_cmp (or_lt g.room.units0) os_lt (deB (de_var (i := 2))) (deB (de_var (i := 3))))))) (hm := Tx.n_all))) ds_nil)))
theorem o9 {n : Nat} (Tx : Txt K mg f0 f1 f2 f3 f4 f5 f6 f7 f8 f9 f10 f11 f21 f22 f23 f24 f31 f32 f39 f40 f41 f65 f66 f67 f68 f71 f72 f73 f47 f48 f49 f50 f51 f52 f61 f63 f64 f12 f97 f98 f99 f100 f101 f102 f20 f25 f26 f27 f28 f29 f30 d0 d1 d2 d3 d4 d5 d6 d7 d8 d9 d10 d11 d21 d22 d23 d24 d31 d32 d39 d40 d41 d65 d66 d67 d68 d71 d72 d73 d47 d48 d49 d50 d51 d52 d61 d63 d64 d12 d97 d98 d99 d100 d101 d102 d20 d25 d26 d27 d28 d29 d30 cc101 cc102 ca) (A : All P w K mg base ca n f0 f1 f2 f3 f4 f5 f6 f7 f8 f9 f10 f11 f21 f22 f23 f24 f31 f32 f39 f40 f41 f65 f66 f67 f68 f71 f72 f73 f47 f48 f49 f50 f51 f52 f61 f63 f64 f12 f97 f98 f99 f100 f101 f102 f20 f25 f26 f27 f28 f29 f30) : FnOk P w K mg base CX0 (n + 1) f9 d9 ["field", "points"] (spD ⟨K, ca, T.cn⟩ T (n + 1) 9) :=
  fn_okX (N := N9) (fn := ⟨2, 2, true, b9⟩) (own' := []) Tx.F9 sc9 rfl rfl rfl fun cdv A' outer s H E g =>
    ((ds_cons (ds_if (dt_not (dbT (deB (de_call g (fnat_lv A.f8) Tx.m8 (da_cons (de_var (i := 0)) (da_cons (de_var (i := 1)) da_nil)))))) (ds_cons (ds_failTo (own1 := [])) ds_nil) ds_nil) ds_nil))
theorem o10 {n : Nat} (Tx : Txt K mg f0 f1 f2 f3 f4 f5 f6 f7 f8 f9 f10 f11 f21 f22 f23 f24 f31 f32 f39 f40 f41 f65 f66 f67 f68 f71 f72 f73 f47 f48 f49 f50 f51 f52 f61 f63 f64 f12 f97 f98 f99 f100 f101 f102 f20 f25 f26 f27 f28 f29 f30 d0 d1 d2 d3 d4 d5 d6 d7 d8 d9 d10 d11 d21 d22 d23 d24 d31 d32 d39 d40 d41 d65 d66 d67 d68 d71 d72 d73 d47 d48 d49 d50 d51 d52 d61 d63 d64 d12 d97 d98 d99 d100 d101 d102 d20 d25 d26 d27 d28 d29 d30 cc101 cc102 ca) (A : All P w K mg base ca n f0 f1 f2 f3 f4 f5 f6 f7 f8 f9 f10 f11 f21 f22 f23 f24 f31 f32 f39 f40 f41 f65 f66 f67 f68 f71 f72 f73 f47 f48 f49 f50 f51 f52 f61 f63 f64 f12 f97 f98 f99 f100 f101 f102 f20 f25 f26 f27 f28 f29 f30) : FnOk P w K mg base CX0 (n + 1) f10 d10 ["field", "one", "two", "three"] (spD ⟨K, ca, T.cn⟩ T (n + 1) 10) :=
  fn_okX (N := N10) (fn := ⟨4, 8, false, b10⟩) (own' := []) Tx.F10 sc10 rfl rfl rfl fun cdv A' outer s H E g =>
    ((ds_cons (ds_if (dt_cmp (op_eqD g.room.units) os_eq (deB (de_ix (di_var (i := 0)) (deB de_int))) (deB de_str)) (ds_cons (ds_ret (own1 := []) (de_all g.calm (deB (de_comp g.calm sc10.nd (dr_zp3 (dz_f (di_var (i := 1))) (dz_f (di_var (i := 2))) (dz_f (di_var (i := 3))) (hm := Tx.n_zip)) (blkOk_by (own := [("figures", 7)]) (N := N10) (sc := defScope s10) (by decide +kernel)) rfl (fun _ _ _ _ _ => gbG g fun g => (dg_one (pg_name (i := 7) sc10.nd rfl (.inl rfl)))) (fun _ _ _ _ _ => gbE g fun g => (de_cmp (op_eqD g.room.units) os_eq (deB (de_o2 op_modN os_mod (deB (de_sum g.calm (deB (de_var (i := 7))) (hm := Tx.n_sum))) (deB de_int))) (deB de_int))))) (hm := Tx.n_all))) ds_nil) ds_nil) (ds_cons (ds_par (own1 := []) false false (ps_par g.calm sc10.nd rfl rfl (by decide) rfl rfl (pa_cons (de_tup (da_cons (de_o2 op_sub os_sub (deB (de_ix (di_var (i := 2)) (deB de_int))) (deB (de_ix (di_var (i := 1)) (deB de_int)))) (da_cons (de_o2 op_sub os_sub (deB (de_ix (di_var (i := 2)) (deB de_int))) (deB (de_ix (di_var (i := 1)) (deB de_int)))) da_nil))) (pa_cons (de_tup (da_cons (de_o2 op_sub os_sub (deB (de_ix (di_var (i := 3)) (deB de_int))) (deB (de_ix (di_var (i := 1)) (deB de_int)))) (da_cons (de_o2 op_sub os_sub (deB (de_ix (di_var (i := 3)) (deB de_int))) (deB (de_ix (di_var (i := 1)) (deB de_int)))) da_nil))) pa_nil)) (by rfl))) (ds_cons (ds_asg (own1 := []) (ps_set (i := 4) sc10.nd rfl (.inl rfl) (de_o2 op_sub os_sub (deB (de_o2 op_mul os_mul (deB (de_ix (di_var (i := 5)) (deB de_int))) (deB (de_ix (di_var (i := 6)) (deB de_int))))) (deB (de_o2 op_mul os_mul (deB (de_ix (di_var (i := 5)) (deB de_int))) (deB (de_ix (di_var (i := 6)) (deB de_int)))))))) (ds_cons (ds_ret (own1 := []) (de_ite (dt_cmp (op_eqD g.room.units) os_eq (deB (de_ix (di_var (i := 0)) (deB de_int))) (deB de_str)) (de_cmp (op_eqD g.room.units) os_eq (deB (de_var (i := 4))) (deB de_int)) (de_cmp (op_eqD g.room.units) os_eq (deB (de_o2 op_modN os_mod (deB (de_var (i := 4))) (deB (de_ix (di_var (i := 0)) (deB de_int))))) (deB de_int)))) ds_nil)))))
theorem o11 {n : Nat} (Tx : Txt K mg f0 f1 f2 f3 f4 f5 f6 f7 f8 f9 f10 f11 f21 f22 f23 f24 f31 f32 f39 f40 f41 f65 f66 f67 f68 f71 f72 f73 f47 f48 f49 f50 f51 f52 f61 f63 f64 f12 f97 f98 f99 f100 f101 f102 f20 f25 f26 f27 f28 f29 f30 d0 d1 d2 d3 d4 d5 d6 d7 d8 d9 d10 d11 d21 d22 d23 d24 d31 d32 d39 d40 d41 d65 d66 d67 d68 d71 d72 d73 d47 d48 d49 d50 d51 d52 d61 d63 d64 d12 d97 d98 d99 d100 d101 d102 d20 d25 d26 d27 d28 d29 d30 cc101 cc102 ca) (A : All P w K mg base ca n f0 f1 f2 f3 f4 f5 f6 f7 f8 f9 f10 f11 f21 f22 f23 f24 f31 f32 f39 f40 f41 f65 f66 f67 f68 f71 f72 f73 f47 f48 f49 f50 f51 f52 f61 f63 f64 f12 f97 f98 f99 f100 f101 f102 f20 f25 f26 f27 f28 f29 f30) : FnOk P w K mg base CX0 (n + 1) f11 d11 ["field", "points"] (spD ⟨K, ca, T.cn⟩ T (n + 1) 11) :=
  fn_okX (N := N11) (fn := ⟨2, 2, false, b11⟩) (own' := []) Tx.F11 sc11 rfl rfl rfl fun cdv A' outer s H E g =>
    ((ds_cons (ds_ex (de_call g (fnat_lv A.f2) Tx.m2 (da_cons (de_var (i := 0)) da_nil))) (ds_cons (ds_ex (de_call g (fnat_lv A.f9) Tx.m9 (da_cons (de_var (i := 0)) (da_cons (de_var (i := 1)) da_nil)))) (ds_cons (ds_if (dt_cmp (op_neD g.room.units) os_ne (deB (de_len (deB (de_var (i := 1))) (hm := Tx.n_len))) (deB de_int)) (ds_cons (ds_failTo (own1 := [])) ds_nil) ds_nil) (ds_cons (ds_ret (own1 := []) (de_call g (fnat_lv A.f10) Tx.m10 (da_cons (de_var (i := 0)) (da_cons (de_ix (di_var (i := 1)) (deB de_int)) (da_cons (de_ix (di_var (i := 1)) (deB de_int)) (da_cons (de_ix (di_var (i := 1)) (deB de_int)) da_nil)))))) ds_nil)))))
theorem o21 {n : Nat} (Tx : Txt K mg f0 f1 f2 f3 f4 f5 f6 f7 f8 f9 f10 f11 f21 f22 f23 f24 f31 f32 f39 f40 f41 f65 f66 f67 f68 f71 f72 f73 f47 f48 f49 f50 f51 f52 f61 f63 f64 f12 f97 f98 f99 f100 f101 f102 f20 f25 f26 f27 f28 f29 f30 d0 d1 d2 d3 d4 d5 d6 d7 d8 d9 d10 d11 d21 d22 d23 d24 d31 d32 d39 d40 d41 d65 d66 d67 d68 d71 d72 d73 d47 d48 d49 d50 d51 d52 d61 d63 d64 d12 d97 d98 d99 d100 d101 d102 d20 d25 d26 d27 d28 d29 d30 cc101 cc102 ca) (A : All P w K mg base ca n f0 f1 f2 f3 f4 f5 f6 f7 f8 f9 f10 f11 f21 f22 f23 f24 f31 f32 f39 f40 f41 f65 f66 f67 f68 f71 f72 f73 f47 f48 f49 f50 f51 f52 f61 f63 f64 f12 f97 f98 f99 f100 f101 f102 f20 f25 f26 f27 f28 f29 f30) : FnOk P w K mg base CX0 (n + 1) f21 d21 ["field", "points", "point"] (spD ⟨K, ca, T.cn⟩ T (n + 1) 21) :=
  fn_okX (N := N21) (fn := ⟨3, 6, true, b21⟩) (own' := []) Tx.F21 sc21 rfl rfl rfl fun cdv A' outer s H E g =>
    ((ds_cons (ds_for (own1 := []) g (dr_en (dz_t (de_var (i := 1))) (hm := Tx.n_enumerate)) (dg_many (is := [3, 4]) (pg_tup g.calm (pgs_cons (pg_name (i := 3) sc21.nd rfl (.inl rfl)) (pgs_cons (pg_name (i := 4) sc21.nd rfl (.inr rfl)) pgs_nil)))) (ds_cons (ds_if (dbT (deB (de_any g.calm (deB (de_comp g.calm sc21.nd (dr_sq (dz_f (deI (de_slH (di_var (i := 1)) (deB (de_var (i := 3))))))) (blkOk_by (own := [("two", 5)]) (N := N21) (sc := defScope s21) (by decide +kernel)) rfl (fun _ _ _ _ _ => gbG g fun g => (dg_one (pg_name (i := 5) sc21.nd rfl (.inl rfl)))) (fun _ _ _ _ _ => gbE g fun g => (de_call g (fnat_lv A.f10) Tx.m10 (da_cons (de_var (i := 0)) (da_cons (de_var (i := 4)) (da_cons (de_var (i := 5)) (da_cons (de_var (i := 2)) da_nil)))))))) (hm := Tx.n_any)))) (ds_cons (ds_ret (own1 := []) de_bl) ds_nil) ds_nil) ds_nil)) (ds_cons (ds_ret (own1 := []) de_bl) ds_nil)))
theorem o22 {n : Nat} (Tx : Txt K mg f0 f1 f2 f3 f4 f5 f6 f7 f8 f9 f10 f11 f21 f22 f23 f24 f31 f32 f39 f40 f41 f65 f66 f67 f68 f71 f72 f73 f47 f48 f49 f50 f51 f52 f61 f63 f64 f12 f97 f98 f99 f100 f101 f102 f20 f25 f26 f27 f28 f29 f30 d0 d1 d2 d3 d4 d5 d6 d7 d8 d9 d10 d11 d21 d22 d23 d24 d31 d32 d39 d40 d41 d65 d66 d67 d68 d71 d72 d73 d47 d48 d49 d50 d51 d52 d61 d63 d64 d12 d97 d98 d99 d100 d101 d102 d20 d25 d26 d27 d28 d29 d30 cc101 cc102 ca) (A : All P w K mg base ca n f0 f1 f2 f3 f4 f5 f6 f7 f8 f9 f10 f11 f21 f22 f23 f24 f31 f32 f39 f40 f41 f65 f66 f67 f68 f71 f72 f73 f47 f48 f49 f50 f51 f52 f61 f63 f64 f12 f97 f98 f99 f100 f101 f102 f20 f25 f26 f27 f28 f29 f30) : FnOk P w K mg base CX0 (n + 1) f22 d22 ["field", "points"] (spD ⟨K, ca, T.cn⟩ T (n + 1) 22) :=
  fn_okX (N := N22) (fn := ⟨2, 6, true, b22⟩) (own' := []) Tx.F22 sc22 rfl rfl rfl fun cdv A' outer s H E g =>
    ((ds_cons (ds_for (own1 := []) g (dr_en (dz_t (de_var (i := 1))) (hm := Tx.n_enumerate)) (dg_many (is := [2, 3]) (pg_tup g.calm (pgs_cons (pg_name (i := 2) sc22.nd rfl (.inl rfl)) (pgs_cons (pg_name (i := 3) sc22.nd rfl (.inl rfl)) pgs_nil)))) (ds_cons (ds_for (own1 := []) g (dr_r2 (deB (de_add (di_var (i := 2)) (deI de_int))) (deB (de_len (deB (de_var (i := 1))) (hm := Tx.n_len))) (hm := Tx.n_range)) (dg_one (pg_name (i := 4) sc22.nd rfl (.inl rfl))) (ds_cons (ds_for (own1 := []) g (dr_sq (dz_t (de_slL (di_var (i := 1)) (deB (de_add (di_var (i := 4)) (deI de_int)))))) (dg_one (pg_name (i := 5) sc22.nd rfl (.inl rfl))) (ds_cons (ds_if (dbT (deB (de_call g (fnat_lv A.f10) Tx.m10 (da_cons (de_var (i := 0)) (da_cons (de_var (i := 3)) (da_cons (de_ix (di_var (i := 1)) (deB (de_var (i := 4)))) (da_cons (de_var (i := 5)) da_nil))))))) (ds_cons (ds_ret (own1 := []) (de_lst (da_cons (de_var (i := 3)) (da_cons (de_ix (di_var (i := 1)) (deB (de_var (i := 4)))) (da_cons (de_var (i := 5)) da_nil))))) ds_nil) ds_nil) ds_nil)) ds_nil)) ds_nil)) (ds_cons (ds_ret (own1 := []) de_non) ds_nil)))
theorem o23 {n : Nat} (Tx : Txt K mg f0 f1 f2 f3 f4 f5 f6 f7 f8 f9 f10 f11 f21 f22 f23 f24 f31 f32 f39 f40 f41 f65 f66 f67 f68 f71 f72 f73 f47 f48 f49 f50 f51 f52 f61 f63 f64 f12 f97 f98 f99 f100 f101 f102 f20 f25 f26 f27 f28 f29 f30 d0 d1 d2 d3 d4 d5 d6 d7 d8 d9 d10 d11 d21 d22 d23 d24 d31 d32 d39 d40 d41 d65 d66 d67 d68 d71 d72 d73 d47 d48 d49 d50 d51 d52 d61 d63 d64 d12 d97 d98 d99 d100 d101 d102 d20 d25 d26 d27 d28 d29 d30 cc101 cc102 ca) (A : All P w K mg base ca n f0 f1 f2 f3 f4 f5 f6 f7 f8 f9 f10 f11 f21 f22 f23 f24 f31 f32 f39 f40 f41 f65 f66 f67 f68 f71 f72 f73 f47 f48 f49 f50 f51 f52 f61 f63 f64 f12 f97 f98 f99 f100 f101 f102 f20 f25 f26 f27 f28 f29 f30) : FnOk P w K mg base CX0 (n + 1) f23 d23 ["field", "points"] (spD ⟨K, ca, T.cn⟩ T (n + 1) 23) :=
  fn_okX (N := N23) (fn := ⟨2, 3, false, b23⟩) (own' := []) Tx.F23 sc23 rfl rfl rfl fun cdv A' outer s H E g =>
    ((ds_cons (ds_for (own1 := []) g (dr_sq (dz_t (de_call g (fnat_lv A.f5) Tx.m5 (da_cons (de_var (i := 0)) da_nil)))) (dg_one (pg_name (i := 2) sc23.nd rfl (.inl rfl))) (ds_cons (ds_if (dwT (dw_and (dt_cmp (or_nmem (room65 g.room)) os_nmem (deB (de_var (i := 2))) (deB (de_var (i := 1)))) (dw_and1 (dt_not (dbT (deB (de_call g (fnat_lv A.f21) Tx.m21 (da_cons (de_var (i := 0)) (da_cons (de_var (i := 1)) (da_cons (de_var (i := 2)) da_nil)))))))))) (ds_cons (ds_ret (own1 := []) (de_var (i := 2))) ds_nil) ds_nil) ds_nil)) (ds_cons (ds_ret (own1 := []) de_non) ds_nil)))
theorem o24 {n : Nat} (Tx : Txt K mg f0 f1 f2 f3 f4 f5 f6 f7 f8 f9 f10 f11 f21 f22 f23 f24 f31 f32 f39 f40 f41 f65 f66 f67 f68 f71 f72 f73 f47 f48 f49 f50 f51 f52 f61 f63 f64 f12 f97 f98 f99 f100 f101 f102 f20 f25 f26 f27 f28 f29 f30 d0 d1 d2 d3 d4 d5 d6 d7 d8 d9 d10 d11 d21 d22 d23 d24 d31 d32 d39 d40 d41 d65 d66 d67 d68 d71 d72 d73 d47 d48 d49 d50 d51 d52 d61 d63 d64 d12 d97 d98 d99 d100 d101 d102 d20 d25 d26 d27 d28 d29 d30 cc101 cc102 ca) (A : All P w K mg base ca n f0 f1 f2 f3 f4 f5 f6 f7 f8 f9 f10 f11 f21 f22 f23 f24 f31 f32 f39 f40 f41 f65 f66 f67 f68 f71 f72 f73 f47 f48 f49 f50 f51 f52 f61 f63 f64 f12 f97 f98 f99 f100 f101 f102 f20 f25 f26 f27 f28 f29 f30) : FnOk P w K mg base CX0 (n + 1) f24 d24 ["field", "many", "tree", "chosen", "asked"] (spD ⟨K, ca, T.cn⟩ T (n + 1) 24) :=
  fn_okX (N := N24) (fn := ⟨5, 8, false, b24⟩) (own' := []) Tx.F24 sc24 rfl rfl rfl fun cdv A' outer s H E g =>
    ((ds_cons (ds_if (dt_cmp (op_eqD g.room.units) os_eq (deB (de_ix (di_var (i := 2)) (deB de_int))) (deB de_str)) (ds_cons (ds_ret (own1 := []) (de_cmp (or_lt g.room.units0) os_lt (deB (de_add (deI (de_o2 op_sub os_sub (deB (de_len (deB (de_call g (fnat_lv A.f5) Tx.m5 (da_cons (de_var (i := 0)) da_nil))) (hm := Tx.n_len))) (deB (de_len (deB (de_var (i := 4))) (hm := Tx.n_len))))) (deI (de_len (deB (de_var (i := 3))) (hm := Tx.n_len))))) (deB (de_var (i := 1))))) ds_nil) ds_nil) (ds_cons (ds_if (dt_cmp (op_eqD g.room.units) os_eq (deB (de_ix (di_var (i := 2)) (deB de_int))) (deB de_str)) (ds_cons (ds_asg (own1 := []) (ps_set (i := 7) sc24.nd rfl (.inl rfl) (de_sort (deI (de_slL (di_var (i := 2)) (deB de_int))) (hm := Tx.n_sorted)))) (ds_cons (ds_if (dwT (dw_or (dt_not (dbT (deB (de_all g.calm (deB (de_comp g.calm sc24.nd (dr_sq (dz_f (di_var (i := 7)))) (blkOk_by (own := [("point", 5)]) (N := N24) (sc := defScope s24) (by decide +kernel)) rfl (fun _ _ _ _ _ => gbG g fun g => (dg_one (pg_name (i := 5) sc24.nd rfl (.inl rfl)))) (fun _ _ _ _ _ => gbE g fun g => (de_cmp (or_mem (room65 g.room)) os_mem (deB (de_var (i := 5))) (deB (de_var (i := 3))))))) (hm := Tx.n_all))))) (dw_or (dt_cmp (op_eqD g.room.units) os_eq (deB (de_ix (di_var (i := 7)) (deB de_int))) (deB (de_ix (di_var (i := 7)) (deB de_int)))) (dw_or1 (dt_cmp (op_eqD g.room.units) os_eq (deB (de_ix (di_var (i := 7)) (deB de_int))) (deB (de_ix (di_var (i := 7)) (deB de_int)))))))) (ds_cons (ds_ret (own1 := []) de_bl) ds_nil) ds_nil) (ds_cons (ds_ret (own1 := []) (de_call g (fnat_lv A.f10) Tx.m10 (da_cons (de_var (i := 0)) (da_cons (de_ix (di_var (i := 7)) (deB de_int)) (da_cons (de_ix (di_var (i := 7)) (deB de_int)) (da_cons (de_ix (di_var (i := 7)) (deB de_int)) da_nil)))))) ds_nil))) ds_nil) (ds_cons (ds_asg (own1 := []) (ps_set (i := 5) sc24.nd rfl (.inl rfl) (de_ix (di_var (i := 2)) (deB de_int)))) (ds_cons (ds_if (dwT (dw_or (dt_not (dbT (deB (de_call g (fnat_lv A.f7) Tx.m7 (da_cons (de_var (i := 0)) (da_cons (de_var (i := 5)) da_nil)))))) (dw_or1 (dt_cmp (or_mem (room65 g.room)) os_mem (deB (de_var (i := 5))) (deB (de_var (i := 4))))))) (ds_cons (ds_ret (own1 := []) de_bl) ds_nil) ds_nil) (ds_cons (ds_asg (own1 := []) (ps_set (i := 6) sc24.nd rfl (.inl rfl) (de_add (di_var (i := 4)) (deI (de_lst (da_cons (de_var (i := 5)) da_nil)))))) (ds_cons (ds_ret (own1 := []) (de_and (deB (de_call g (fnat_lv A.f24) Tx.m24 (da_cons (de_var (i := 0)) (da_cons (de_var (i := 1)) (da_cons (de_ix (di_var (i := 2)) (deB de_int)) (da_cons (de_var (i := 3)) (da_cons (de_var (i := 6)) da_nil))))))) (de_one (de_call g (fnat_lv A.f24) Tx.m24 (da_cons (de_var (i := 0)) (da_cons (de_var (i := 1)) (da_cons (de_ix (di_var (i := 2)) (deB de_int)) (da_cons (de_add (di_var (i := 3)) (deI (de_lst (da_cons (de_var (i := 5)) da_nil)))) (da_cons (de_var (i := 6)) da_nil))))))))) ds_nil)))))))
theorem o31 {n : Nat} (Tx : Txt K mg f0 f1 f2 f3 f4 f5 f6 f7 f8 f9 f10 f11 f21 f22 f23 f24 f31 f32 f39 f40 f41 f65 f66 f67 f68 f71 f72 f73 f47 f48 f49 f50 f51 f52 f61 f63 f64 f12 f97 f98 f99 f100 f101 f102 f20 f25 f26 f27 f28 f29 f30 d0 d1 d2 d3 d4 d5 d6 d7 d8 d9 d10 d11 d21 d22 d23 d24 d31 d32 d39 d40 d41 d65 d66 d67 d68 d71 d72 d73 d47 d48 d49 d50 d51 d52 d61 d63 d64 d12 d97 d98 d99 d100 d101 d102 d20 d25 d26 d27 d28 d29 d30 cc101 cc102 ca) (A : All P w K mg base ca n f0 f1 f2 f3 f4 f5 f6 f7 f8 f9 f10 f11 f21 f22 f23 f24 f31 f32 f39 f40 f41 f65 f66 f67 f68 f71 f72 f73 f47 f48 f49 f50 f51 f52 f61 f63 f64 f12 f97 f98 f99 f100 f101 f102 f20 f25 f26 f27 f28 f29 f30) : FnOk P w K mg base CX0 (n + 1) f31 d31 ["field", "points"] (spD ⟨K, ca, T.cn⟩ T (n + 1) 31) :=
  fn_okX (N := N31) (fn := ⟨2, 3, true, b31⟩) (own' := []) Tx.F31 sc31 rfl rfl rfl fun cdv A' outer s H E g =>
    ((ds_cons (ds_ex (de_call g (fnat_lv A.f2) Tx.m2 (da_cons (de_var (i := 0)) da_nil))) (ds_cons (ds_ex (de_call g (fnat_lv A.f9) Tx.m9 (da_cons (de_var (i := 0)) (da_cons (de_var (i := 1)) da_nil)))) (ds_cons (ds_asg (own1 := []) (ps_set (i := 2) sc31.nd rfl (.inl rfl) (de_call g (fnat_lv A.f22) Tx.m22 (da_cons (de_var (i := 0)) (da_cons (de_var (i := 1)) da_nil))))) (ds_cons (ds_ret (own1 := []) (de_ite (dt_cmp or_is os_is (deB (de_var (i := 2))) (deB de_non)) (de_mk0 g (cmk1 Tx ⟨rfl, rfl⟩) Tx.mc1) (de_mk g (cmk2 Tx ⟨rfl, rfl, rfl, rfl, rfl⟩) Tx.mc2 (dai_cons (di_var (i := 2)) dai_nil)))) ds_nil)))))
theorem o32 {n : Nat} (Tx : Txt K mg f0 f1 f2 f3 f4 f5 f6 f7 f8 f9 f10 f11 f21 f22 f23 f24 f31 f32 f39 f40 f41 f65 f66 f67 f68 f71 f72 f73 f47 f48 f49 f50 f51 f52 f61 f63 f64 f12 f97 f98 f99 f100 f101 f102 f20 f25 f26 f27 f28 f29 f30 d0 d1 d2 d3 d4 d5 d6 d7 d8 d9 d10 d11 d21 d22 d23 d24 d31 d32 d39 d40 d41 d65 d66 d67 d68 d71 d72 d73 d47 d48 d49 d50 d51 d52 d61 d63 d64 d12 d97 d98 d99 d100 d101 d102 d20 d25 d26 d27 d28 d29 d30 cc101 cc102 ca) (A : All P w K mg base ca n f0 f1 f2 f3 f4 f5 f6 f7 f8 f9 f10 f11 f21 f22 f23 f24 f31 f32 f39 f40 f41 f65 f66 f67 f68 f71 f72 f73 f47 f48 f49 f50 f51 f52 f61 f63 f64 f12 f97 f98 f99 f100 f101 f102 f20 f25 f26 f27 f28 f29 f30) : FnOk P w K mg base CX0 (n + 1) f32 d32 ["field", "points"] (spD ⟨K, ca, T.cn⟩ T (n + 1) 32) :=
  fn_okX (N := N32) (fn := ⟨2, 7, false, b32⟩) (own' := []) Tx.F32 sc32 rfl rfl rfl fun cdv A' outer s H E g =>
    ((ds_cons (ds_ex (de_call g (fnat_lv A.f2) Tx.m2 (da_cons (de_var (i := 0)) da_nil))) (ds_cons (ds_ex (de_call g (fnat_lv A.f9) Tx.m9 (da_cons (de_var (i := 0)) (da_cons (de_var (i := 1)) da_nil)))) (ds_cons (ds_asgO (own1 := []) (ps_set (i := 2) sc32.nd rfl (.inl rfl) de_int)) (ds_cons (ds_for (own1 := []) g (dr_en (dz_t (de_var (i := 1))) (hm := Tx.n_enumerate)) (dg_many (is := [3, 4]) (pg_tup g.calm (pgs_cons (pg_name (i := 3) sc32.nd rfl (.inl rfl)) (pgs_cons (pg_name (i := 4) sc32.nd rfl (.inr rfl)) pgs_nil)))) (ds_cons (ds_for (own1 := []) g (dr_r2 (deB (de_add (di_var (i := 3)) (deI de_int))) (deB (de_len (deB (de_var (i := 1))) (hm := Tx.n_len))) (hm := Tx.n_range)) (dg_one (pg_name (i := 5) sc32.nd rfl (.inr rfl))) (ds_cons (ds_augadd (own1 := []) (ps_aug (i := 2) sc32.nd rfl (.inl rfl) (deB (de_len (deB (de_compI g.calm sc32.nd (dr_sq (dz_f (deI (de_slL (di_var (i := 1)) (deB (de_add (di_var (i := 5)) (deI de_int))))))) (blkOk_by (own := [("three", 6)]) (N := N32) (sc := defScope s32) (by decide +kernel)) rfl (fun _ _ _ _ _ => gbG g fun g => (dg_one (pg_name (i := 6) sc32.nd rfl (.inl rfl)))) (fun _ _ _ _ _ => gbT g fun g => (dbT (deB (de_call g (fnat_lv A.f10) Tx.m10 (da_cons (de_var (i := 0)) (da_cons (de_var (i := 4)) (da_cons (de_ix (di_var (i := 1)) (deB (de_var (i := 5)))) (da_cons (de_var (i := 6)) da_nil)))))))) (fun _ _ _ _ _ => gbE g fun g => (de_var (i := 6))))) (hm := Tx.n_len))) ip_add)) ds_nil)) ds_nil)) (ds_cons (ds_ret (own1 := []) (de_var (i := 2))) ds_nil))))))
theorem o39 {n : Nat} (Tx : Txt K mg f0 f1 f2 f3 f4 f5 f6 f7 f8 f9 f10 f11 f21 f22 f23 f24 f31 f32 f39 f40 f41 f65 f66 f67 f68 f71 f72 f73 f47 f48 f49 f50 f51 f52 f61 f63 f64 f12 f97 f98 f99 f100 f101 f102 f20 f25 f26 f27 f28 f29 f30 d0 d1 d2 d3 d4 d5 d6 d7 d8 d9 d10 d11 d21 d22 d23 d24 d31 d32 d39 d40 d41 d65 d66 d67 d68 d71 d72 d73 d47 d48 d49 d50 d51 d52 d61 d63 d64 d12 d97 d98 d99 d100 d101 d102 d20 d25 d26 d27 d28 d29 d30 cc101 cc102 ca) (A : All P w K mg base ca n f0 f1 f2 f3 f4 f5 f6 f7 f8 f9 f10 f11 f21 f22 f23 f24 f31 f32 f39 f40 f41 f65 f66 f67 f68 f71 f72 f73 f47 f48 f49 f50 f51 f52 f61 f63 f64 f12 f97 f98 f99 f100 f101 f102 f20 f25 f26 f27 f28 f29 f30) : FnOk P w K mg base CX0 (n + 1) f39 d39 ["field", "points"] (spD ⟨K, ca, T.cn⟩ T (n + 1) 39) :=
  fn_okX (N := N39) (fn := ⟨2, 2, true, b39⟩) (own' := []) Tx.F39 sc39 rfl rfl rfl fun cdv A' outer s H E g =>
    ((ds_cons (ds_ex (de_call g (fnat_lv A.f2) Tx.m2 (da_cons (de_var (i := 0)) da_nil))) (ds_cons (ds_ex (de_call g (fnat_lv A.f9) Tx.m9 (da_cons (de_var (i := 0)) (da_cons (de_var (i := 1)) da_nil)))) (ds_cons (ds_if (dt_cmp or_isn os_isn (deB (de_call g (fnat_lv A.f22) Tx.m22 (da_cons (de_var (i := 0)) (da_cons (de_var (i := 1)) da_nil)))) (deB de_non)) (ds_cons (ds_failTo (own1 := [])) ds_nil) ds_nil) ds_nil))))
theorem o40 {n : Nat} (Tx : Txt K mg f0 f1 f2 f3 f4 f5 f6 f7 f8 f9 f10 f11 f21 f22 f23 f24 f31 f32 f39 f40 f41 f65 f66 f67 f68 f71 f72 f73 f47 f48 f49 f50 f51 f52 f61 f63 f64 f12 f97 f98 f99 f100 f101 f102 f20 f25 f26 f27 f28 f29 f30 d0 d1 d2 d3 d4 d5 d6 d7 d8 d9 d10 d11 d21 d22 d23 d24 d31 d32 d39 d40 d41 d65 d66 d67 d68 d71 d72 d73 d47 d48 d49 d50 d51 d52 d61 d63 d64 d12 d97 d98 d99 d100 d101 d102 d20 d25 d26 d27 d28 d29 d30 cc101 cc102 ca) (A : All P w K mg base ca n f0 f1 f2 f3 f4 f5 f6 f7 f8 f9 f10 f11 f21 f22 f23 f24 f31 f32 f39 f40 f41 f65 f66 f67 f68 f71 f72 f73 f47 f48 f49 f50 f51 f52 f61 f63 f64 f12 f97 f98 f99 f100 f101 f102 f20 f25 f26 f27 f28 f29 f30) : FnOk P w K mg base CX0 (n + 1) f40 d40 ["field", "points"] (spD ⟨K, ca, T.cn⟩ T (n + 1) 40) :=
  fn_okX (N := N40) (fn := ⟨2, 3, true, b40⟩) (own' := []) Tx.F40 sc40 rfl rfl rfl fun cdv A' outer s H E g =>
    ((ds_cons (ds_ex (de_call g (fnat_lv A.f39) Tx.m39 (da_cons (de_var (i := 0)) (da_cons (de_var (i := 1)) da_nil)))) (ds_cons (ds_asg (own1 := []) (ps_set (i := 2) sc40.nd rfl (.inl rfl) (de_call g (fnat_lv A.f23) Tx.m23 (da_cons (de_var (i := 0)) (da_cons (de_var (i := 1)) da_nil))))) (ds_cons (ds_ret (own1 := []) (de_ite (dt_cmp or_is os_is (deB (de_var (i := 2))) (deB de_non)) (de_mk0 g (cmk3 Tx ⟨rfl, rfl⟩) Tx.mc3) (de_mk g (cmk4 Tx ⟨rfl, rfl, rfl, rfl, rfl⟩) Tx.mc4 (dai_cons (di_var (i := 2)) dai_nil)))) ds_nil))))
theorem o41 {n : Nat} (Tx : Txt K mg f0 f1 f2 f3 f4 f5 f6 f7 f8 f9 f10 f11 f21 f22 f23 f24 f31 f32 f39 f40 f41 f65 f66 f67 f68 f71 f72 f73 f47 f48 f49 f50 f51 f52 f61 f63 f64 f12 f97 f98 f99 f100 f101 f102 f20 f25 f26 f27 f28 f29 f30 d0 d1 d2 d3 d4 d5 d6 d7 d8 d9 d10 d11 d21 d22 d23 d24 d31 d32 d39 d40 d41 d65 d66 d67 d68 d71 d72 d73 d47 d48 d49 d50 d51 d52 d61 d63 d64 d12 d97 d98 d99 d100 d101 d102 d20 d25 d26 d27 d28 d29 d30 cc101 cc102 ca) (A : All P w K mg base ca n f0 f1 f2 f3 f4 f5 f6 f7 f8 f9 f10 f11 f21 f22 f23 f24 f31 f32 f39 f40 f41 f65 f66 f67 f68 f71 f72 f73 f47 f48 f49 f50 f51 f52 f61 f63 f64 f12 f97 f98 f99 f100 f101 f102 f20 f25 f26 f27 f28 f29 f30) : FnOk P w K mg base CX0 (n + 1) f41 d41 ["field", "points"] (spD ⟨K, ca, T.cn⟩ T (n + 1) 41) :=
  fn_okX (N := N41) (fn := ⟨2, 4, true, b41⟩) (own' := []) Tx.F41 sc41 rfl rfl rfl fun cdv A' outer s H E g =>
    ((ds_cons (ds_ex (de_call g (fnat_lv A.f39) Tx.m39 (da_cons (de_var (i := 0)) (da_cons (de_var (i := 1)) da_nil)))) (ds_cons (ds_par (own1 := []) true false (ps_par g.calm sc41.nd rfl rfl (by decide) rfl rfl (pa_cons (de_list (di_var (i := 1)) (hm := Tx.n_list)) (pa_cons (de_call g (fnat_lv A.f23) Tx.m23 (da_cons (de_var (i := 0)) (da_cons (de_var (i := 1)) da_nil))) pa_nil)) (by rfl))) (ds_cons (ds_while (own1 := [2]) g (dt_cmp or_isn os_isn (deB (de_var (i := 3))) (deB de_non)) (ds_cons (ds_asgO (own1 := []) (ps_set (i := 2) sc41.nd rfl (.inl rfl) (de_sort (deI (de_add (di_var (i := 2)) (deI (de_lst (da_cons (de_var (i := 3)) da_nil))))) (hm := Tx.n_sorted)))) (ds_cons (ds_asgF (ps_set (i := 3) sc41.nd rfl (.inl rfl) (de_call g (fnat_lv A.f23) Tx.m23 (da_cons (de_var (i := 0)) (da_cons (de_var (i := 2)) da_nil))))) ds_nil))) (ds_cons (ds_retO (own1 := []) (i := 2) (ps_ret (pv 2))) ds_nil)))))
theorem o65 {n : Nat} (Tx : Txt K mg f0 f1 f2 f3 f4 f5 f6 f7 f8 f9 f10 f11 f21 f22 f23 f24 f31 f32 f39 f40 f41 f65 f66 f67 f68 f71 f72 f73 f47 f48 f49 f50 f51 f52 f61 f63 f64 f12 f97 f98 f99 f100 f101 f102 f20 f25 f26 f27 f28 f29 f30 d0 d1 d2 d3 d4 d5 d6 d7 d8 d9 d10 d11 d21 d22 d23 d24 d31 d32 d39 d40 d41 d65 d66 d67 d68 d71 d72 d73 d47 d48 d49 d50 d51 d52 d61 d63 d64 d12 d97 d98 d99 d100 d101 d102 d20 d25 d26 d27 d28 d29 d30 cc101 cc102 ca) (A : All P w K mg base ca n f0 f1 f2 f3 f4 f5 f6 f7 f8 f9 f10 f11 f21 f22 f23 f24 f31 f32 f39 f40 f41 f65 f66 f67 f68 f71 f72 f73 f47 f48 f49 f50 f51 f52 f61 f63 f64 f12 f97 f98 f99 f100 f101 f102 f20 f25 f26 f27 f28 f29 f30) : FnOk P w K mg base CX0 (n + 1) f65 d65 ["field"] (spD ⟨K, ca, T.cn⟩ T (n + 1) 65) :=
  fn_okX (N := N65) (fn := ⟨1, 2, true, b65⟩) (own' := []) Tx.F65 sc65 rfl rfl rfl fun cdv A' outer s H E g =>
    ((ds_cons (ds_ex (de_call g (fnat_lv A.f2) Tx.m2 (da_cons (de_var (i := 0)) da_nil))) (ds_cons (ds_if (dt_cmp (op_neD g.room.units) os_ne (deB (de_ix (di_var (i := 0)) (deB de_int))) (deB de_str)) (ds_cons (ds_failTo (own1 := [])) ds_nil) ds_nil) (ds_cons (ds_ret (own1 := []) (de_comp g.calm sc65.nd (dr_r1 (deB (de_ix (di_var (i := 0)) (deB de_int))) (hm := Tx.n_range)) (blkOk_by (own := [("x", 1)]) (N := N65) (sc := defScope s65) (by decide +kernel)) rfl (fun _ _ _ _ _ => gbG g fun g => (dg_one (pg_name (i := 1) sc65.nd rfl (.inl rfl)))) (fun _ _ _ _ _ => gbE g fun g => (de_tup (da_cons (de_var (i := 1)) (da_cons (de_o2 op_modN os_mod (deB (de_o2 op_mul os_mul (deB (de_var (i := 1))) (deB (de_var (i := 1))))) (deB (de_ix (di_var (i := 0)) (deB de_int)))) da_nil)))))) ds_nil))))
theorem o66 {n : Nat} (Tx : Txt K mg f0 f1 f2 f3 f4 f5 f6 f7 f8 f9 f10 f11 f21 f22 f23 f24 f31 f32 f39 f40 f41 f65 f66 f67 f68 f71 f72 f73 f47 f48 f49 f50 f51 f52 f61 f63 f64 f12 f97 f98 f99 f100 f101 f102 f20 f25 f26 f27 f28 f29 f30 d0 d1 d2 d3 d4 d5 d6 d7 d8 d9 d10 d11 d21 d22 d23 d24 d31 d32 d39 d40 d41 d65 d66 d67 d68 d71 d72 d73 d47 d48 d49 d50 d51 d52 d61 d63 d64 d12 d97 d98 d99 d100 d101 d102 d20 d25 d26 d27 d28 d29 d30 cc101 cc102 ca) (A : All P w K mg base ca n f0 f1 f2 f3 f4 f5 f6 f7 f8 f9 f10 f11 f21 f22 f23 f24 f31 f32 f39 f40 f41 f65 f66 f67 f68 f71 f72 f73 f47 f48 f49 f50 f51 f52 f61 f63 f64 f12 f97 f98 f99 f100 f101 f102 f20 f25 f26 f27 f28 f29 f30) : FnOk P w K mg base CX0 (n + 1) f66 d66 [] (spD ⟨K, ca, T.cn⟩ T (n + 1) 66) :=
  fn_okX (N := N66) (fn := ⟨0, 3, true, b66⟩) (own' := []) Tx.F66 sc66 rfl rfl rfl fun cdv A' outer s H E g =>
    ((ds_cons (ds_ret (own1 := []) (de_compI g.calm sc66.nd (dr_sq (dz_f (deI (de_call g (fnat_lv A.f5) Tx.m5 (da_cons (de_tup (da_cons de_str (da_cons de_int da_nil))) da_nil))))) (blkOk_by (own := [("x", 0), ("y", 1), ("z", 2)]) (N := N66) (sc := defScope s66) (by decide +kernel)) rfl (fun _ _ _ _ _ => gbG g fun g => (dg_many (is := [0, 1, 2]) (pg_tup g.calm (pgs_cons (pg_name (i := 0) sc66.nd rfl (.inl rfl)) (pgs_cons (pg_name (i := 1) sc66.nd rfl (.inl rfl)) (pgs_cons (pg_name (i := 2) sc66.nd rfl (.inl rfl)) pgs_nil)))))) (fun _ _ _ _ _ => gbT g fun g => (dt_cmp (op_eqD g.room.units) os_eq (deB (de_o2 op_modN os_mod (deB (de_o2 op_sub os_sub (deB (de_o2 op_sub os_sub (deB (de_var (i := 2))) (deB (de_o2 op_mul os_mul (deB (de_var (i := 0))) (deB (de_var (i := 0))))))) (deB (de_o2 op_mul os_mul (deB (de_var (i := 1))) (deB (de_var (i := 1))))))) (deB de_int))) (deB de_int))) (fun _ _ _ _ _ => gbE g fun g => (de_tup (da_cons (de_var (i := 0)) (da_cons (de_var (i := 1)) (da_cons (de_var (i := 2)) da_nil))))))) ds_nil))
theorem o67 {n : Nat} (Tx : Txt K mg f0 f1 f2 f3 f4 f5 f6 f7 f8 f9 f10 f11 f21 f22 f23 f24 f31 f32 f39 f40 f41 f65 f66 f67 f68 f71 f72 f73 f47 f48 f49 f50 f51 f52 f61 f63 f64 f12 f97 f98 f99 f100 f101 f102 f20 f25 f26 f27 f28 f29 f30 d0 d1 d2 d3 d4 d5 d6 d7 d8 d9 d10 d11 d21 d22 d23 d24 d31 d32 d39 d40 d41 d65 d66 d67 d68 d71 d72 d73 d47 d48 d49 d50 d51 d52 d61 d63 d64 d12 d97 d98 d99 d100 d101 d102 d20 d25 d26 d27 d28 d29 d30 cc101 cc102 ca) (A : All P w K mg base ca n f0 f1 f2 f3 f4 f5 f6 f7 f8 f9 f10 f11 f21 f22 f23 f24 f31 f32 f39 f40 f41 f65 f66 f67 f68 f71 f72 f73 f47 f48 f49 f50 f51 f52 f61 f63 f64 f12 f97 f98 f99 f100 f101 f102 f20 f25 f26 f27 f28 f29 f30) : FnOk P w K mg base CX0 (n + 1) f67 d67 ["field", "points"] (spD ⟨K, ca, T.cn⟩ T (n + 1) 67) :=
  fn_okX (N := N67) (fn := ⟨2, 2, true, b67⟩) (own' := []) Tx.F67 sc67 rfl rfl rfl fun cdv A' outer s H E g =>
    ((ds_cons (ds_ex (de_call g (fnat_lv A.f2) Tx.m2 (da_cons (de_var (i := 0)) da_nil))) (ds_cons (ds_if (dt_cmp (op_neD g.room.units) os_ne (deB (de_ix (di_var (i := 0)) (deB de_int))) (deB de_str)) (ds_cons (ds_failTo (own1 := [])) ds_nil) ds_nil) (ds_cons (ds_ex (de_call g (fnat_lv A.f9) Tx.m9 (da_cons (de_var (i := 0)) (da_cons (de_var (i := 1)) da_nil)))) ds_nil))))
theorem o68 {n : Nat} (Tx : Txt K mg f0 f1 f2 f3 f4 f5 f6 f7 f8 f9 f10 f11 f21 f22 f23 f24 f31 f32 f39 f40 f41 f65 f66 f67 f68 f71 f72 f73 f47 f48 f49 f50 f51 f52 f61 f63 f64 f12 f97 f98 f99 f100 f101 f102 f20 f25 f26 f27 f28 f29 f30 d0 d1 d2 d3 d4 d5 d6 d7 d8 d9 d10 d11 d21 d22 d23 d24 d31 d32 d39 d40 d41 d65 d66 d67 d68 d71 d72 d73 d47 d48 d49 d50 d51 d52 d61 d63 d64 d12 d97 d98 d99 d100 d101 d102 d20 d25 d26 d27 d28 d29 d30 cc101 cc102 ca) (A : All P w K mg base ca n f0 f1 f2 f3 f4 f5 f6 f7 f8 f9 f10 f11 f21 f22 f23 f24 f31 f32 f39 f40 f41 f65 f66 f67 f68 f71 f72 f73 f47 f48 f49 f50 f51 f52 f61 f63 f64 f12 f97 f98 f99 f100 f101 f102 f20 f25 f26 f27 f28 f29 f30) : FnOk P w K mg base CX0 (n + 1) f68 d68 ["first", "points", "second", "others"] (spD ⟨K, ca, T.cn⟩ T (n + 1) 68) :=
  fn_okX (N := N68) (fn := ⟨4, 7, true, b68⟩) (own' := []) Tx.F68 sc68 rfl rfl rfl fun cdv A' outer s H E g =>
    ((ds_cons (ds_ex (de_call g (fnat_lv A.f67) Tx.m67 (da_cons (de_var (i := 0)) (da_cons (de_var (i := 1)) da_nil)))) (ds_cons (ds_ex (de_call g (fnat_lv A.f67) Tx.m67 (da_cons (de_var (i := 2)) (da_cons (de_var (i := 3)) da_nil)))) (ds_cons (ds_if (dt_cmp op_gt os_gt (deB (de_add (deI (de_ix (di_var (i := 0)) (deB de_int))) (deI (de_ix (di_var (i := 2)) (deB de_int))))) (deB (de_gint Tx.c_GREATEST_SPACE))) (ds_cons (ds_failTo (own1 := [])) ds_nil) ds_nil) (ds_cons (ds_asgO (own1 := []) (ps_set (i := 4) sc68.nd rfl (.inl rfl) (de_lst da_nil))) (ds_cons (ds_for (own1 := [4]) g (dr_sq (dz_t (de_var (i := 1)))) (dg_one (pg_name (i := 5) sc68.nd rfl (.inr rfl))) (ds_cons (ds_ext (own1 := [4]) (ps_expr (pe_bm PySem.F.plainAttrs_list PySem.F.slot_list_extend PySem.F.type_list_extend mt_extend (pv 4) (pa_cons (deI (de_comp g.calm sc68.nd (dr_sq (dz_f (di_var (i := 3)))) (blkOk_by (own := [("other", 6)]) (N := N68) (sc := defScope s68) (by decide +kernel)) rfl (fun _ _ _ _ _ => gbG g fun g => (dg_one (pg_name (i := 6) sc68.nd rfl (.inl rfl)))) (fun _ _ _ _ _ => gbE g fun g => (de_add (di_var (i := 5)) (di_var (i := 6)))))) pa_nil)))) ds_nil)) (ds_cons (ds_retO (own1 := []) (i := 4) (ps_ret (pv 4))) ds_nil)))))))
theorem o71 {n : Nat} (Tx : Txt K mg f0 f1 f2 f3 f4 f5 f6 f7 f8 f9 f10 f11 f21 f22 f23 f24 f31 f32 f39 f40 f41 f65 f66 f67 f68 f71 f72 f73 f47 f48 f49 f50 f51 f52 f61 f63 f64 f12 f97 f98 f99 f100 f101 f102 f20 f25 f26 f27 f28 f29 f30 d0 d1 d2 d3 d4 d5 d6 d7 d8 d9 d10 d11 d21 d22 d23 d24 d31 d32 d39 d40 d41 d65 d66 d67 d68 d71 d72 d73 d47 d48 d49 d50 d51 d52 d61 d63 d64 d12 d97 d98 d99 d100 d101 d102 d20 d25 d26 d27 d28 d29 d30 cc101 cc102 ca) (A : All P w K mg base ca n f0 f1 f2 f3 f4 f5 f6 f7 f8 f9 f10 f11 f21 f22 f23 f24 f31 f32 f39 f40 f41 f65 f66 f67 f68 f71 f72 f73 f47 f48 f49 f50 f51 f52 f61 f63 f64 f12 f97 f98 f99 f100 f101 f102 f20 f25 f26 f27 f28 f29 f30) : FnOk P w K mg base CX0 (n + 1) f71 d71 ["field", "thing"] (spD ⟨K, ca, T.cn⟩ T (n + 1) 71) :=
  fn_okX (N := N71) (fn := ⟨2, 2, false, b71⟩) (own' := []) Tx.F71 sc71 rfl rfl rfl fun cdv A' outer s H E g =>
    ((ds_cons (ds_if (dwT (dw_or (dt_not (dbT (deB (de_isi (t := .tup) (deB (de_var (i := 1))) PyProof.Rows.boot_tuple (hm := Tx.n_isinstance) (hm2 := Tx.n_tuple))))) (dw_or (dt_cmp (op_eqD g.room.units) os_eq (deB (de_len (deB (de_var (i := 1))) (hm := Tx.n_len))) (deB de_int)) (dw_or1 (dt_not (dbT (deB (de_isi (t := .str) (deB (de_ix (di_var (i := 1)) (deB de_int))) PyProof.Rows.boot_str (hm := Tx.n_isinstance) (hm2 := Tx.n_str))))))))) (ds_cons (ds_ret (own1 := []) de_bl) ds_nil) ds_nil) (ds_cons (ds_if (dt_cmp (op_eqD g.room.units) os_eq (deB (de_ix (di_var (i := 1)) (deB de_int))) (deB de_str)) (ds_cons (ds_ret (own1 := []) (de_and (deB (de_cmp (op_eqD g.room.units) os_eq (deB (de_len (deB (de_var (i := 1))) (hm := Tx.n_len))) (deB de_int))) (de_one (de_cmp (op_eqD g.room.units) os_eq (deB (de_ix (di_var (i := 0)) (deB de_int))) (deB de_str))))) ds_nil) ds_nil) (ds_cons (ds_if (dt_cmp (op_neD g.room.units) os_ne (deB (de_len (deB (de_var (i := 1))) (hm := Tx.n_len))) (deB de_int)) (ds_cons (ds_ret (own1 := []) de_bl) ds_nil) ds_nil) (ds_cons (ds_if (dt_cmp (op_eqD g.room.units) os_eq (deB (de_ix (di_var (i := 1)) (deB de_int))) (deB de_str)) (ds_cons (ds_ret (own1 := []) (de_and (deB (de_call g (fnat_lv A.f0) Tx.m0 (da_cons (de_ix (di_var (i := 1)) (deB de_int)) da_nil))) (de_one (de_ch2 op_le os_le (or_lt g.room.units0) os_lt (deB de_int) (deB (de_ix (di_var (i := 1)) (deB de_int))) (deB (de_o2 op_sub os_sub (deB (de_call g (fnat_lv A.f3) Tx.m3 (da_cons (de_var (i := 0)) da_nil))) (deB de_int))))))) ds_nil) ds_nil) (ds_cons (ds_if (dt_cmp (op_eqD g.room.units) os_eq (deB (de_ix (di_var (i := 0)) (deB de_int))) (deB de_str)) (ds_cons (ds_ret (own1 := []) de_bl) ds_nil) ds_nil) (ds_cons (ds_if (dt_cmp (op_eqD g.room.units) os_eq (deB (de_ix (di_var (i := 1)) (deB de_int))) (deB de_str)) (ds_cons (ds_ret (own1 := []) (de_call g (fnat_lv A.f7) Tx.m7 (da_cons (de_var (i := 0)) (da_cons (de_ix (di_var (i := 1)) (deB de_int)) da_nil)))) ds_nil) ds_nil) (ds_cons (ds_ret (own1 := []) (de_and (deB (de_cmp (op_eqD g.room.units) os_eq (deB (de_ix (di_var (i := 1)) (deB de_int))) (deB de_str))) (de_and (deB (de_call g (fnat_lv A.f0) Tx.m0 (da_cons (de_ix (di_var (i := 1)) (deB de_int)) da_nil))) (de_one (de_ch2 op_le os_le (or_lt g.room.units0) os_lt (deB de_int) (deB (de_ix (di_var (i := 1)) (deB de_int))) (deB (de_call g (fnat_lv A.f4) Tx.m4 (da_cons (de_var (i := 0)) da_nil)))))))) ds_nil))))))))
theorem o72 {n : Nat} (Tx : Txt K mg f0 f1 f2 f3 f4 f5 f6 f7 f8 f9 f10 f11 f21 f22 f23 f24 f31 f32 f39 f40 f41 f65 f66 f67 f68 f71 f72 f73 f47 f48 f49 f50 f51 f52 f61 f63 f64 f12 f97 f98 f99 f100 f101 f102 f20 f25 f26 f27 f28 f29 f30 d0 d1 d2 d3 d4 d5 d6 d7 d8 d9 d10 d11 d21 d22 d23 d24 d31 d32 d39 d40 d41 d65 d66 d67 d68 d71 d72 d73 d47 d48 d49 d50 d51 d52 d61 d63 d64 d12 d97 d98 d99 d100 d101 d102 d20 d25 d26 d27 d28 d29 d30 cc101 cc102 ca) (A : All P w K mg base ca n f0 f1 f2 f3 f4 f5 f6 f7 f8 f9 f10 f11 f21 f22 f23 f24 f31 f32 f39 f40 f41 f65 f66 f67 f68 f71 f72 f73 f47 f48 f49 f50 f51 f52 f61 f63 f64 f12 f97 f98 f99 f100 f101 f102 f20 f25 f26 f27 f28 f29 f30) : FnOk P w K mg base CX0 (n + 1) f72 d72 ["field", "point", "move"] (spD ⟨K, ca, T.cn⟩ T (n + 1) 72) :=
  fn_okX (N := N72) (fn := ⟨3, 7, false, b72⟩) (own' := []) Tx.F72 sc72 rfl rfl rfl fun cdv A' outer s H E g =>
    ((ds_cons (ds_if (dt_cmp (op_eqD g.room.units) os_eq (deB (de_ix (di_var (i := 2)) (deB de_int))) (deB de_str)) (ds_cons (ds_ret (own1 := []) (de_tup (da_cons (de_o2 op_sub os_sub (deB (de_o2 op_sub os_sub (deB (de_ix (di_var (i := 0)) (deB de_int))) (deB de_int))) (deB (de_ix (di_var (i := 1)) (deB de_int)))) (da_cons (de_ix (di_var (i := 1)) (deB de_int)) da_nil)))) ds_nil) ds_nil) (ds_cons (ds_if (dt_cmp (op_eqD g.room.units) os_eq (deB (de_ix (di_var (i := 2)) (deB de_int))) (deB de_str)) (ds_cons (ds_asg (own1 := []) (ps_set (i := 4) sc72.nd rfl (.inl rfl) (de_ix (di_var (i := 2)) (deB de_int)))) (ds_cons (ds_ret (own1 := []) (de_add (deI (de_add (deI (de_slH (di_var (i := 1)) (deB (de_var (i := 4))))) (deI (de_tup (da_cons (de_ix (di_var (i := 1)) (deB (de_add (di_var (i := 4)) (deI de_int)))) (da_cons (de_ix (di_var (i := 1)) (deB (de_var (i := 4)))) da_nil)))))) (deI (de_slL (di_var (i := 1)) (deB (de_add (di_var (i := 4)) (deI de_int))))))) ds_nil)) ds_nil) (ds_cons (ds_asg (own1 := []) (ps_set (i := 3) sc72.nd rfl (.inr rfl) (de_call g (fnat_lv A.f4) Tx.m4 (da_cons (de_var (i := 0)) da_nil)))) (ds_cons (ds_if (dt_cmp (op_eqD g.room.units) os_eq (deB (de_ix (di_var (i := 2)) (deB de_int))) (deB de_str)) (ds_cons (ds_ret (own1 := []) (de_tuple (deI (de_comp g.calm sc72.nd (dr_zp (dz_f (di_var (i := 1))) (dz_f (deI (de_ix (di_var (i := 2)) (deB de_int)))) (hm := Tx.n_zip)) (blkOk_by (own := [("one", 5), ("more", 6)]) (N := N72) (sc := defScope s72) (by decide +kernel)) rfl (fun _ _ _ _ _ => gbG g fun g => (dg_many (is := [5, 6]) (pg_tup g.calm (pgs_cons (pg_name (i := 5) sc72.nd rfl (.inl rfl)) (pgs_cons (pg_name (i := 6) sc72.nd rfl (.inl rfl)) pgs_nil))))) (fun _ _ _ _ _ => gbE g fun g => (de_o2 op_modN os_mod (deB (de_add (di_var (i := 5)) (di_var (i := 6)))) (deB (de_var (i := 3))))))) (hm := Tx.n_tuple))) ds_nil) ds_nil) (ds_cons (ds_ret (own1 := []) (de_tuple (deI (de_comp g.calm sc72.nd (dr_sq (dz_f (di_var (i := 1)))) (blkOk_by (own := [("one", 5)]) (N := N72) (sc := defScope s72) (by decide +kernel)) rfl (fun _ _ _ _ _ => gbG g fun g => (dg_one (pg_name (i := 5) sc72.nd rfl (.inl rfl)))) (fun _ _ _ _ _ => gbE g fun g => (de_o2 op_modN os_mod (deB (de_o2 op_mul os_mul (deB (de_var (i := 5))) (deB (de_ix (di_var (i := 2)) (deB de_int))))) (deB (de_var (i := 3))))))) (hm := Tx.n_tuple))) ds_nil))))))
theorem o73 {n : Nat} (Tx : Txt K mg f0 f1 f2 f3 f4 f5 f6 f7 f8 f9 f10 f11 f21 f22 f23 f24 f31 f32 f39 f40 f41 f65 f66 f67 f68 f71 f72 f73 f47 f48 f49 f50 f51 f52 f61 f63 f64 f12 f97 f98 f99 f100 f101 f102 f20 f25 f26 f27 f28 f29 f30 d0 d1 d2 d3 d4 d5 d6 d7 d8 d9 d10 d11 d21 d22 d23 d24 d31 d32 d39 d40 d41 d65 d66 d67 d68 d71 d72 d73 d47 d48 d49 d50 d51 d52 d61 d63 d64 d12 d97 d98 d99 d100 d101 d102 d20 d25 d26 d27 d28 d29 d30 cc101 cc102 ca) (A : All P w K mg base ca n f0 f1 f2 f3 f4 f5 f6 f7 f8 f9 f10 f11 f21 f22 f23 f24 f31 f32 f39 f40 f41 f65 f66 f67 f68 f71 f72 f73 f47 f48 f49 f50 f51 f52 f61 f63 f64 f12 f97 f98 f99 f100 f101 f102 f20 f25 f26 f27 f28 f29 f30) : FnOk P w K mg base CX0 (n + 1) f73 d73 ["field", "points", "move"] (spD ⟨K, ca, T.cn⟩ T (n + 1) 73) :=
  fn_okX (N := N73) (fn := ⟨3, 4, true, b73⟩) (own' := []) Tx.F73 sc73 rfl rfl rfl fun cdv A' outer s H E g =>
    ((ds_cons (ds_ex (de_call g (fnat_lv A.f2) Tx.m2 (da_cons (de_var (i := 0)) da_nil))) (ds_cons (ds_ex (de_call g (fnat_lv A.f9) Tx.m9 (da_cons (de_var (i := 0)) (da_cons (de_var (i := 1)) da_nil)))) (ds_cons (ds_if (dt_not (dbT (deB (de_call g (fnat_lv A.f71) Tx.m71 (da_cons (de_var (i := 0)) (da_cons (de_var (i := 2)) da_nil)))))) (ds_cons (ds_failTo (own1 := [])) ds_nil) ds_nil) (ds_cons (ds_ret (own1 := []) (de_sort (deI (de_comp g.calm sc73.nd (dr_sq (dz_f (di_var (i := 1)))) (blkOk_by (own := [("point", 3)]) (N := N73) (sc := defScope s73) (by decide +kernel)) rfl (fun _ _ _ _ _ => gbG g fun g => (dg_one (pg_name (i := 3) sc73.nd rfl (.inl rfl)))) (fun _ _ _ _ _ => gbE g fun g => (de_call g (fnat_lv A.f72) Tx.m72 (da_cons (de_var (i := 0)) (da_cons (de_var (i := 3)) (da_cons (de_var (i := 2)) da_nil))))))) (hm := Tx.n_sorted))) ds_nil)))))
theorem o47 {n : Nat} (Tx : Txt K mg f0 f1 f2 f3 f4 f5 f6 f7 f8 f9 f10 f11 f21 f22 f23 f24 f31 f32 f39 f40 f41 f65 f66 f67 f68 f71 f72 f73 f47 f48 f49 f50 f51 f52 f61 f63 f64 f12 f97 f98 f99 f100 f101 f102 f20 f25 f26 f27 f28 f29 f30 d0 d1 d2 d3 d4 d5 d6 d7 d8 d9 d10 d11 d21 d22 d23 d24 d31 d32 d39 d40 d41 d65 d66 d67 d68 d71 d72 d73 d47 d48 d49 d50 d51 d52 d61 d63 d64 d12 d97 d98 d99 d100 d101 d102 d20 d25 d26 d27 d28 d29 d30 cc101 cc102 ca) (A : All P w K mg base ca n f0 f1 f2 f3 f4 f5 f6 f7 f8 f9 f10 f11 f21 f22 f23 f24 f31 f32 f39 f40 f41 f65 f66 f67 f68 f71 f72 f73 f47 f48 f49 f50 f51 f52 f61 f63 f64 f12 f97 f98 f99 f100 f101 f102 f20 f25 f26 f27 f28 f29 f30) : FnOk P w K mg base CX0 (n + 1) f47 d47 ["field"] (spD ⟨K, ca, T.cn⟩ T (n + 1) 47) :=
  fn_okX (N := N47) (fn := ⟨1, 1, true, b47⟩) (own' := []) Tx.F47 sc47 rfl rfl rfl fun cdv A' outer s H E g =>
    ((ds_cons (ds_ex (de_call g (fnat_lv A.f2) Tx.m2 (da_cons (de_var (i := 0)) da_nil))) (ds_cons (ds_if (dt_cmp op_gt os_gt (deB (de_len (deB (de_call g (fnat_lv A.f5) Tx.m5 (da_cons (de_var (i := 0)) da_nil))) (hm := Tx.n_len))) (deB (de_gint Tx.c_SMALL))) (ds_cons (ds_failTo (own1 := [])) ds_nil) ds_nil) ds_nil)))
theorem o48 {n : Nat} (Tx : Txt K mg f0 f1 f2 f3 f4 f5 f6 f7 f8 f9 f10 f11 f21 f22 f23 f24 f31 f32 f39 f40 f41 f65 f66 f67 f68 f71 f72 f73 f47 f48 f49 f50 f51 f52 f61 f63 f64 f12 f97 f98 f99 f100 f101 f102 f20 f25 f26 f27 f28 f29 f30 d0 d1 d2 d3 d4 d5 d6 d7 d8 d9 d10 d11 d21 d22 d23 d24 d31 d32 d39 d40 d41 d65 d66 d67 d68 d71 d72 d73 d47 d48 d49 d50 d51 d52 d61 d63 d64 d12 d97 d98 d99 d100 d101 d102 d20 d25 d26 d27 d28 d29 d30 cc101 cc102 ca) (A : All P w K mg base ca n f0 f1 f2 f3 f4 f5 f6 f7 f8 f9 f10 f11 f21 f22 f23 f24 f31 f32 f39 f40 f41 f65 f66 f67 f68 f71 f72 f73 f47 f48 f49 f50 f51 f52 f61 f63 f64 f12 f97 f98 f99 f100 f101 f102 f20 f25 f26 f27 f28 f29 f30) : FnOk P w K mg base CX0 (n + 1) f48 d48 ["field", "many"] (spD ⟨K, ca, T.cn⟩ T (n + 1) 48) :=
  fn_okX (N := N48) (fn := ⟨2, 2, true, b48⟩) (own' := []) Tx.F48 sc48 rfl rfl rfl fun cdv A' outer s H E g =>
    ((ds_cons (ds_ex (de_call g (fnat_lv A.f47) Tx.m47 (da_cons (de_var (i := 0)) da_nil))) (ds_cons (ds_if (dwT (dw_or (dt_not (dbT (deB (de_call g (fnat_lv A.f0) Tx.m0 (da_cons (de_var (i := 1)) da_nil))))) (dw_or1 (dt_not (dt_ch op_le os_le op_le os_le (deB de_int) (deB (de_var (i := 1))) (deB (de_gint Tx.c_SMALL))))))) (ds_cons (ds_failTo (own1 := [])) ds_nil) ds_nil) ds_nil)))
theorem o49 {n : Nat} (Tx : Txt K mg f0 f1 f2 f3 f4 f5 f6 f7 f8 f9 f10 f11 f21 f22 f23 f24 f31 f32 f39 f40 f41 f65 f66 f67 f68 f71 f72 f73 f47 f48 f49 f50 f51 f52 f61 f63 f64 f12 f97 f98 f99 f100 f101 f102 f20 f25 f26 f27 f28 f29 f30 d0 d1 d2 d3 d4 d5 d6 d7 d8 d9 d10 d11 d21 d22 d23 d24 d31 d32 d39 d40 d41 d65 d66 d67 d68 d71 d72 d73 d47 d48 d49 d50 d51 d52 d61 d63 d64 d12 d97 d98 d99 d100 d101 d102 d20 d25 d26 d27 d28 d29 d30 cc101 cc102 ca) (A : All P w K mg base ca n f0 f1 f2 f3 f4 f5 f6 f7 f8 f9 f10 f11 f21 f22 f23 f24 f31 f32 f39 f40 f41 f65 f66 f67 f68 f71 f72 f73 f47 f48 f49 f50 f51 f52 f61 f63 f64 f12 f97 f98 f99 f100 f101 f102 f20 f25 f26 f27 f28 f29 f30) : FnOk P w K mg base CX0 (n + 1) f49 d49 ["field", "many", "chosen", "left"] (spD ⟨K, ca, T.cn⟩ T (n + 1) 49) :=
  fn_okX (N := N49) (fn := ⟨4, 7, false, b49⟩) (own' := []) Tx.F49 sc49 rfl rfl rfl fun cdv A' outer s H E g =>
    ((ds_cons (ds_if (dt_cmp (op_eqD g.room.units) os_eq (deB (de_len (deB (de_var (i := 2))) (hm := Tx.n_len))) (deB (de_var (i := 1)))) (ds_cons (ds_ret (own1 := []) (de_var (i := 2))) ds_nil) ds_nil) (ds_cons (ds_if (dt_cmp (or_lt g.room.units0) os_lt (deB (de_add (deI (de_len (deB (de_var (i := 2))) (hm := Tx.n_len))) (deI (de_len (deB (de_var (i := 3))) (hm := Tx.n_len))))) (deB (de_var (i := 1)))) (ds_cons (ds_ret (own1 := []) de_non) ds_nil) ds_nil) (ds_cons (ds_for (own1 := []) g (dr_en (dz_t (de_var (i := 3))) (hm := Tx.n_enumerate)) (dg_many (is := [4, 5]) (pg_tup g.calm (pgs_cons (pg_name (i := 4) sc49.nd rfl (.inl rfl)) (pgs_cons (pg_name (i := 5) sc49.nd rfl (.inl rfl)) pgs_nil)))) (ds_cons (ds_if (dt_not (dbT (deB (de_call g (fnat_lv A.f21) Tx.m21 (da_cons (de_var (i := 0)) (da_cons (de_var (i := 2)) (da_cons (de_var (i := 5)) da_nil))))))) (ds_cons (ds_asg (own1 := []) (ps_set (i := 6) sc49.nd rfl (.inl rfl) (de_call g (fnat_lv A.f49) Tx.m49 (da_cons (de_var (i := 0)) (da_cons (de_var (i := 1)) (da_cons (de_add (di_var (i := 2)) (deI (de_lst (da_cons (de_var (i := 5)) da_nil)))) (da_cons (de_slL (di_var (i := 3)) (deB (de_add (di_var (i := 4)) (deI de_int)))) da_nil))))))) (ds_cons (ds_if (dt_cmp or_isn os_isn (deB (de_var (i := 6))) (deB de_non)) (ds_cons (ds_ret (own1 := []) (de_var (i := 6))) ds_nil) ds_nil) ds_nil)) ds_nil) ds_nil)) (ds_cons (ds_ret (own1 := []) de_non) ds_nil)))))
theorem o50 {n : Nat} (Tx : Txt K mg f0 f1 f2 f3 f4 f5 f6 f7 f8 f9 f10 f11 f21 f22 f23 f24 f31 f32 f39 f40 f41 f65 f66 f67 f68 f71 f72 f73 f47 f48 f49 f50 f51 f52 f61 f63 f64 f12 f97 f98 f99 f100 f101 f102 f20 f25 f26 f27 f28 f29 f30 d0 d1 d2 d3 d4 d5 d6 d7 d8 d9 d10 d11 d21 d22 d23 d24 d31 d32 d39 d40 d41 d65 d66 d67 d68 d71 d72 d73 d47 d48 d49 d50 d51 d52 d61 d63 d64 d12 d97 d98 d99 d100 d101 d102 d20 d25 d26 d27 d28 d29 d30 cc101 cc102 ca) (A : All P w K mg base ca n f0 f1 f2 f3 f4 f5 f6 f7 f8 f9 f10 f11 f21 f22 f23 f24 f31 f32 f39 f40 f41 f65 f66 f67 f68 f71 f72 f73 f47 f48 f49 f50 f51 f52 f61 f63 f64 f12 f97 f98 f99 f100 f101 f102 f20 f25 f26 f27 f28 f29 f30) : FnOk P w K mg base CX0 (n + 1) f50 d50 ["field", "chosen"] (spD ⟨K, ca, T.cn⟩ T (n + 1) 50) :=
  fn_okX (N := N50) (fn := ⟨2, 3, false, b50⟩) (own' := []) Tx.F50 sc50 rfl rfl rfl fun cdv A' outer s H E g =>
    ((ds_cons (ds_asg (own1 := []) (ps_set (i := 2) sc50.nd rfl (.inl rfl) (de_call g (fnat_lv A.f22) Tx.m22 (da_cons (de_var (i := 0)) (da_cons (de_var (i := 1)) da_nil))))) (ds_cons (ds_ret (own1 := []) (de_ite (dt_cmp or_is os_is (deB (de_var (i := 2))) (deB de_non)) de_non (de_tup (da_cons de_str (da_cons (de_ix (di_var (i := 2)) (deB de_int)) (da_cons (de_ix (di_var (i := 2)) (deB de_int)) (da_cons (de_ix (di_var (i := 2)) (deB de_int)) da_nil))))))) ds_nil)))
theorem o51 {n : Nat} (Tx : Txt K mg f0 f1 f2 f3 f4 f5 f6 f7 f8 f9 f10 f11 f21 f22 f23 f24 f31 f32 f39 f40 f41 f65 f66 f67 f68 f71 f72 f73 f47 f48 f49 f50 f51 f52 f61 f63 f64 f12 f97 f98 f99 f100 f101 f102 f20 f25 f26 f27 f28 f29 f30 d0 d1 d2 d3 d4 d5 d6 d7 d8 d9 d10 d11 d21 d22 d23 d24 d31 d32 d39 d40 d41 d65 d66 d67 d68 d71 d72 d73 d47 d48 d49 d50 d51 d52 d61 d63 d64 d12 d97 d98 d99 d100 d101 d102 d20 d25 d26 d27 d28 d29 d30 cc101 cc102 ca) (A : All P w K mg base ca n f0 f1 f2 f3 f4 f5 f6 f7 f8 f9 f10 f11 f21 f22 f23 f24 f31 f32 f39 f40 f41 f65 f66 f67 f68 f71 f72 f73 f47 f48 f49 f50 f51 f52 f61 f63 f64 f12 f97 f98 f99 f100 f101 f102 f20 f25 f26 f27 f28 f29 f30) : FnOk P w K mg base CX0 (n + 1) f51 d51 ["field", "many", "chosen", "left"] (spD ⟨K, ca, T.cn⟩ T (n + 1) 51) :=
  fn_okX (N := N51) (fn := ⟨4, 7, false, b51⟩) (own' := []) Tx.F51 sc51 rfl rfl rfl fun cdv A' outer s H E g =>
    ((ds_cons (ds_asg (own1 := []) (ps_set (i := 4) sc51.nd rfl (.inl rfl) (de_call g (fnat_lv A.f50) Tx.m50 (da_cons (de_var (i := 0)) (da_cons (de_var (i := 2)) da_nil))))) (ds_cons (ds_if (dt_cmp or_isn os_isn (deB (de_var (i := 4))) (deB de_non)) (ds_cons (ds_ret (own1 := []) (de_var (i := 4))) ds_nil) ds_nil) (ds_cons (ds_if (dt_cmp (or_lt g.room.units0) os_lt (deB (de_add (deI (de_len (deB (de_var (i := 2))) (hm := Tx.n_len))) (deI (de_len (deB (de_var (i := 3))) (hm := Tx.n_len))))) (deB (de_var (i := 1)))) (ds_cons (ds_ret (own1 := []) (de_tup (da_cons de_str da_nil))) ds_nil) ds_nil) (ds_cons (ds_par (own1 := []) false false (ps_par g.calm sc51.nd rfl rfl (by decide) rfl rfl (pa_cons (de_ix (di_var (i := 3)) (deB de_int)) (pa_cons (de_slL (di_var (i := 3)) (deB de_int)) pa_nil)) (by rfl))) (ds_cons (ds_ret (own1 := []) (de_tup (da_cons de_str (da_cons (de_var (i := 5)) (da_cons (de_call g (fnat_lv A.f51) Tx.m51 (da_cons (de_var (i := 0)) (da_cons (de_var (i := 1)) (da_cons (de_var (i := 2)) (da_cons (de_var (i := 6)) da_nil))))) (da_cons (de_call g (fnat_lv A.f51) Tx.m51 (da_cons (de_var (i := 0)) (da_cons (de_var (i := 1)) (da_cons (de_add (di_var (i := 2)) (deI (de_lst (da_cons (de_var (i := 5)) da_nil)))) (da_cons (de_var (i := 6)) da_nil))))) da_nil)))))) ds_nil))))))
theorem o52 {n : Nat} (Tx : Txt K mg f0 f1 f2 f3 f4 f5 f6 f7 f8 f9 f10 f11 f21 f22 f23 f24 f31 f32 f39 f40 f41 f65 f66 f67 f68 f71 f72 f73 f47 f48 f49 f50 f51 f52 f61 f63 f64 f12 f97 f98 f99 f100 f101 f102 f20 f25 f26 f27 f28 f29 f30 d0 d1 d2 d3 d4 d5 d6 d7 d8 d9 d10 d11 d21 d22 d23 d24 d31 d32 d39 d40 d41 d65 d66 d67 d68 d71 d72 d73 d47 d48 d49 d50 d51 d52 d61 d63 d64 d12 d97 d98 d99 d100 d101 d102 d20 d25 d26 d27 d28 d29 d30 cc101 cc102 ca) (A : All P w K mg base ca n f0 f1 f2 f3 f4 f5 f6 f7 f8 f9 f10 f11 f21 f22 f23 f24 f31 f32 f39 f40 f41 f65 f66 f67 f68 f71 f72 f73 f47 f48 f49 f50 f51 f52 f61 f63 f64 f12 f97 f98 f99 f100 f101 f102 f20 f25 f26 f27 f28 f29 f30) : FnOk P w K mg base CX0 (n + 1) f52 d52 ["field", "many"] (spD ⟨K, ca, T.cn⟩ T (n + 1) 52) :=
  fn_okX (N := N52) (fn := ⟨2, 4, true, b52⟩) (own' := []) Tx.F52 sc52 rfl rfl rfl fun cdv A' outer s H E g =>
    ((ds_cons (ds_ex (de_call g (fnat_lv A.f48) Tx.m48 (da_cons (de_var (i := 0)) (da_cons (de_var (i := 1)) da_nil)))) (ds_cons (ds_asg (own1 := []) (ps_set (i := 2) sc52.nd rfl (.inl rfl) (de_call g (fnat_lv A.f5) Tx.m5 (da_cons (de_var (i := 0)) da_nil)))) (ds_cons (ds_asg (own1 := []) (ps_set (i := 3) sc52.nd rfl (.inl rfl) (de_call g (fnat_lv A.f49) Tx.m49 (da_cons (de_var (i := 0)) (da_cons (de_var (i := 1)) (da_cons (de_lst da_nil) (da_cons (de_var (i := 2)) da_nil))))))) (ds_cons (ds_ret (own1 := []) (de_ite (dt_cmp or_is os_is (deB (de_var (i := 3))) (deB de_non)) (de_mk g (cmk6 Tx ⟨rfl, rfl, rfl, rfl, rfl⟩) Tx.mc6 (dai_cons (deI (de_call g (fnat_lv A.f51) Tx.m51 (da_cons (de_var (i := 0)) (da_cons (de_var (i := 1)) (da_cons (de_lst da_nil) (da_cons (de_var (i := 2)) da_nil)))))) dai_nil)) (de_mk g (cmk5 Tx ⟨rfl, rfl, rfl, rfl, rfl⟩) Tx.mc5 (dai_cons (di_var (i := 3)) dai_nil)))) ds_nil)))))
theorem o61 {n : Nat} (Tx : Txt K mg f0 f1 f2 f3 f4 f5 f6 f7 f8 f9 f10 f11 f21 f22 f23 f24 f31 f32 f39 f40 f41 f65 f66 f67 f68 f71 f72 f73 f47 f48 f49 f50 f51 f52 f61 f63 f64 f12 f97 f98 f99 f100 f101 f102 f20 f25 f26 f27 f28 f29 f30 d0 d1 d2 d3 d4 d5 d6 d7 d8 d9 d10 d11 d21 d22 d23 d24 d31 d32 d39 d40 d41 d65 d66 d67 d68 d71 d72 d73 d47 d48 d49 d50 d51 d52 d61 d63 d64 d12 d97 d98 d99 d100 d101 d102 d20 d25 d26 d27 d28 d29 d30 cc101 cc102 ca) (A : All P w K mg base ca n f0 f1 f2 f3 f4 f5 f6 f7 f8 f9 f10 f11 f21 f22 f23 f24 f31 f32 f39 f40 f41 f65 f66 f67 f68 f71 f72 f73 f47 f48 f49 f50 f51 f52 f61 f63 f64 f12 f97 f98 f99 f100 f101 f102 f20 f25 f26 f27 f28 f29 f30) : FnOk P w K mg base CX0 (n + 1) f61 d61 ["field", "many", "chosen", "left"] (spD ⟨K, ca, T.cn⟩ T (n + 1) 61) :=
  fn_okX (N := N61) (fn := ⟨4, 7, false, b61⟩) (own' := []) Tx.F61 sc61 rfl rfl rfl fun cdv A' outer s H E g =>
    ((ds_cons (ds_if (dt_cmp (op_eqD g.room.units) os_eq (deB (de_len (deB (de_var (i := 2))) (hm := Tx.n_len))) (deB (de_var (i := 1)))) (ds_cons (ds_ret (own1 := []) de_int) ds_nil) ds_nil) (ds_cons (ds_if (dt_cmp (or_lt g.room.units0) os_lt (deB (de_add (deI (de_len (deB (de_var (i := 2))) (hm := Tx.n_len))) (deI (de_len (deB (de_var (i := 3))) (hm := Tx.n_len))))) (deB (de_var (i := 1)))) (ds_cons (ds_ret (own1 := []) de_int) ds_nil) ds_nil) (ds_cons (ds_asgO (own1 := []) (ps_set (i := 4) sc61.nd rfl (.inl rfl) de_int)) (ds_cons (ds_for (own1 := []) g (dr_en (dz_t (de_var (i := 3))) (hm := Tx.n_enumerate)) (dg_many (is := [5, 6]) (pg_tup g.calm (pgs_cons (pg_name (i := 5) sc61.nd rfl (.inl rfl)) (pgs_cons (pg_name (i := 6) sc61.nd rfl (.inl rfl)) pgs_nil)))) (ds_cons (ds_if (dt_not (dbT (deB (de_call g (fnat_lv A.f21) Tx.m21 (da_cons (de_var (i := 0)) (da_cons (de_var (i := 2)) (da_cons (de_var (i := 6)) da_nil))))))) (ds_cons (ds_augadd (own1 := []) (ps_aug (i := 4) sc61.nd rfl (.inl rfl) (deB (de_call g (fnat_lv A.f61) Tx.m61 (da_cons (de_var (i := 0)) (da_cons (de_var (i := 1)) (da_cons (de_add (di_var (i := 2)) (deI (de_lst (da_cons (de_var (i := 6)) da_nil)))) (da_cons (de_slL (di_var (i := 3)) (deB (de_add (di_var (i := 5)) (deI de_int)))) da_nil)))))) ip_add)) ds_nil) ds_nil) ds_nil)) (ds_cons (ds_ret (own1 := []) (de_var (i := 4))) ds_nil))))))
theorem o63 {n : Nat} (Tx : Txt K mg f0 f1 f2 f3 f4 f5 f6 f7 f8 f9 f10 f11 f21 f22 f23 f24 f31 f32 f39 f40 f41 f65 f66 f67 f68 f71 f72 f73 f47 f48 f49 f50 f51 f52 f61 f63 f64 f12 f97 f98 f99 f100 f101 f102 f20 f25 f26 f27 f28 f29 f30 d0 d1 d2 d3 d4 d5 d6 d7 d8 d9 d10 d11 d21 d22 d23 d24 d31 d32 d39 d40 d41 d65 d66 d67 d68 d71 d72 d73 d47 d48 d49 d50 d51 d52 d61 d63 d64 d12 d97 d98 d99 d100 d101 d102 d20 d25 d26 d27 d28 d29 d30 cc101 cc102 ca) (A : All P w K mg base ca n f0 f1 f2 f3 f4 f5 f6 f7 f8 f9 f10 f11 f21 f22 f23 f24 f31 f32 f39 f40 f41 f65 f66 f67 f68 f71 f72 f73 f47 f48 f49 f50 f51 f52 f61 f63 f64 f12 f97 f98 f99 f100 f101 f102 f20 f25 f26 f27 f28 f29 f30) : FnOk P w K mg base CX0 (n + 1) f63 d63 ["field", "many", "number"] (spD ⟨K, ca, T.cn⟩ T (n + 1) 63) :=
  fn_okX (N := N63) (fn := ⟨3, 7, true, b63⟩) (own' := []) Tx.F63 sc63 rfl rfl rfl fun cdv A' outer s H E g =>
    ((ds_cons (ds_ex (de_call g (fnat_lv A.f48) Tx.m48 (da_cons (de_var (i := 0)) (da_cons (de_var (i := 1)) da_nil)))) (ds_cons (ds_asg (own1 := []) (ps_set (i := 3) sc63.nd rfl (.inl rfl) (de_call g (fnat_lv A.f5) Tx.m5 (da_cons (de_var (i := 0)) da_nil)))) (ds_cons (ds_if (dwT (dw_or (dt_not (dbT (deB (de_call g (fnat_lv A.f0) Tx.m0 (da_cons (de_var (i := 2)) da_nil))))) (dw_or1 (dt_not (dt_ch op_le os_le (or_lt g.room.units0) os_lt (deB de_int) (deB (de_var (i := 2))) (deB (de_call g (fnat_lv A.f61) Tx.m61 (da_cons (de_var (i := 0)) (da_cons (de_var (i := 1)) (da_cons (de_lst da_nil) (da_cons (de_var (i := 3)) da_nil))))))))))) (ds_cons (ds_failTo (own1 := [])) ds_nil) ds_nil) (ds_cons (ds_asgO (own1 := []) (ps_set (i := 4) sc63.nd rfl (.inl rfl) (de_lst da_nil))) (ds_cons (ds_while (own1 := [4]) g (dt_cmp (or_lt g.room.units0) os_lt (deB (de_len (deB (de_var (i := 4))) (hm := Tx.n_len))) (deB (de_var (i := 1)))) (ds_cons (ds_par (own1 := [4]) false false (ps_par g.calm sc63.nd rfl rfl (by decide) rfl rfl (pa_cons (de_ix (di_var (i := 3)) (deB de_int)) (pa_cons (de_slL (di_var (i := 3)) (deB de_int)) pa_nil)) (by rfl))) (ds_cons (ds_asg (own1 := [4]) (ps_set (i := 5) sc63.nd rfl (.inl rfl) (de_ite (dbT (deB (de_call g (fnat_lv A.f21) Tx.m21 (da_cons (de_var (i := 0)) (da_cons (de_var (i := 4)) (da_cons (de_var (i := 6)) da_nil)))))) de_int (de_call g (fnat_lv A.f61) Tx.m61 (da_cons (de_var (i := 0)) (da_cons (de_var (i := 1)) (da_cons (de_add (di_var (i := 4)) (deI (de_lst (da_cons (de_var (i := 6)) da_nil)))) (da_cons (de_var (i := 3)) da_nil)))))))) (ds_cons (ds_if (dt_cmp (or_lt g.room.units0) os_lt (deB (de_var (i := 2))) (deB (de_var (i := 5)))) (ds_cons (ds_asgO (own1 := []) (ps_set (i := 4) sc63.nd rfl (.inl rfl) (de_add (di_var (i := 4)) (deI (de_lst (da_cons (de_var (i := 6)) da_nil)))))) ds_nil) (ds_cons (ds_augsub (own1 := [4]) (ps_aug (i := 2) sc63.nd rfl (.inl rfl) (deB (de_var (i := 5))) ip_sub)) ds_nil)) ds_nil)))) (ds_cons (ds_retO (own1 := []) (i := 4) (ps_ret (pv 4))) ds_nil)))))))
theorem o64 {n : Nat} (Tx : Txt K mg f0 f1 f2 f3 f4 f5 f6 f7 f8 f9 f10 f11 f21 f22 f23 f24 f31 f32 f39 f40 f41 f65 f66 f67 f68 f71 f72 f73 f47 f48 f49 f50 f51 f52 f61 f63 f64 f12 f97 f98 f99 f100 f101 f102 f20 f25 f26 f27 f28 f29 f30 d0 d1 d2 d3 d4 d5 d6 d7 d8 d9 d10 d11 d21 d22 d23 d24 d31 d32 d39 d40 d41 d65 d66 d67 d68 d71 d72 d73 d47 d48 d49 d50 d51 d52 d61 d63 d64 d12 d97 d98 d99 d100 d101 d102 d20 d25 d26 d27 d28 d29 d30 cc101 cc102 ca) (A : All P w K mg base ca n f0 f1 f2 f3 f4 f5 f6 f7 f8 f9 f10 f11 f21 f22 f23 f24 f31 f32 f39 f40 f41 f65 f66 f67 f68 f71 f72 f73 f47 f48 f49 f50 f51 f52 f61 f63 f64 f12 f97 f98 f99 f100 f101 f102 f20 f25 f26 f27 f28 f29 f30) : FnOk P w K mg base CX0 (n + 1) f64 d64 ["field", "points"] (spD ⟨K, ca, T.cn⟩ T (n + 1) 64) :=
  fn_okX (N := N64) (fn := ⟨2, 6, false, b64⟩) (own' := []) Tx.F64 sc64 rfl rfl rfl fun cdv A' outer s H E g =>
    ((ds_cons (ds_ex (de_call g (fnat_lv A.f47) Tx.m47 (da_cons (de_var (i := 0)) da_nil))) (ds_cons (ds_ex (de_call g (fnat_lv A.f9) Tx.m9 (da_cons (de_var (i := 0)) (da_cons (de_var (i := 1)) da_nil)))) (ds_cons (ds_if (dt_cmp or_isn os_isn (deB (de_call g (fnat_lv A.f22) Tx.m22 (da_cons (de_var (i := 0)) (da_cons (de_var (i := 1)) da_nil)))) (deB de_non)) (ds_cons (ds_failTo (own1 := [])) ds_nil) ds_nil) (ds_cons (ds_par3 (own1 := []) (ps_par3 g.calm sc64.nd rfl rfl rfl (by decide) (by decide) (by decide) rfl rfl rfl (da_cons de_int (da_cons (de_lst da_nil) (da_cons (de_call g (fnat_lv A.f5) Tx.m5 (da_cons (de_var (i := 0)) da_nil)) da_nil))) (by rfl))) (ds_cons (ds_for (own1 := []) g (dr_sq (dz_t (de_var (i := 1)))) (dg_one (pg_name (i := 2) sc64.nd rfl (.inl rfl))) (ds_cons (ds_while (own1 := []) g (dt_cmp (op_neD g.room.units) os_ne (deB (de_ix (di_var (i := 5)) (deB de_int))) (deB (de_var (i := 2)))) (ds_cons (ds_if (dt_not (dbT (deB (de_call g (fnat_lv A.f21) Tx.m21 (da_cons (de_var (i := 0)) (da_cons (de_var (i := 4)) (da_cons (de_ix (di_var (i := 5)) (deB de_int)) da_nil))))))) (ds_cons (ds_augadd (own1 := []) (ps_aug (i := 3) sc64.nd rfl (.inl rfl) (deB (de_call g (fnat_lv A.f61) Tx.m61 (da_cons (de_var (i := 0)) (da_cons (de_len (deB (de_var (i := 1))) (hm := Tx.n_len)) (da_cons (de_add (di_var (i := 4)) (deI (de_lst (da_cons (de_ix (di_var (i := 5)) (deB de_int)) da_nil)))) (da_cons (de_slL (di_var (i := 5)) (deB de_int)) da_nil)))))) ip_add)) ds_nil) ds_nil) (ds_cons (ds_asg (own1 := []) (ps_set (i := 5) sc64.nd rfl (.inl rfl) (de_slL (di_var (i := 5)) (deB de_int)))) ds_nil))) (ds_cons (ds_par (own1 := []) false false (ps_par g.calm sc64.nd rfl rfl (by decide) rfl rfl (pa_cons (de_add (di_var (i := 4)) (deI (de_lst (da_cons (de_var (i := 2)) da_nil)))) (pa_cons (de_slL (di_var (i := 5)) (deB de_int)) pa_nil)) (by rfl))) ds_nil))) (ds_cons (ds_ret (own1 := []) (de_var (i := 3))) ds_nil)))))))
theorem o12 {n : Nat} (Tx : Txt K mg f0 f1 f2 f3 f4 f5 f6 f7 f8 f9 f10 f11 f21 f22 f23 f24 f31 f32 f39 f40 f41 f65 f66 f67 f68 f71 f72 f73 f47 f48 f49 f50 f51 f52 f61 f63 f64 f12 f97 f98 f99 f100 f101 f102 f20 f25 f26 f27 f28 f29 f30 d0 d1 d2 d3 d4 d5 d6 d7 d8 d9 d10 d11 d21 d22 d23 d24 d31 d32 d39 d40 d41 d65 d66 d67 d68 d71 d72 d73 d47 d48 d49 d50 d51 d52 d61 d63 d64 d12 d97 d98 d99 d100 d101 d102 d20 d25 d26 d27 d28 d29 d30 cc101 cc102 ca) (A : All P w K mg base ca n f0 f1 f2 f3 f4 f5 f6 f7 f8 f9 f10 f11 f21 f22 f23 f24 f31 f32 f39 f40 f41 f65 f66 f67 f68 f71 f72 f73 f47 f48 f49 f50 f51 f52 f61 f63 f64 f12 f97 f98 f99 f100 f101 f102 f20 f25 f26 f27 f28 f29 f30) : FnOk P w K mg base CX0 (n + 1) f12 d12 ["_law_script", "_law_k"] (spD ⟨K, ca, T.cn⟩ T (n + 1) 12) :=
  fn_okX (N := N12) (fn := ⟨2, 2, false, b12⟩) (own' := []) Tx.F12 sc12 rfl rfl rfl fun cdv A' outer s H E g =>
    ((ds_cons (ds_if (dt_cmp (or_lt g.room.units0) os_lt (deB (de_var (i := 1))) (deB (de_len (deB (de_var (i := 0))) (hm := Tx.n_len)))) (ds_cons (ds_ret (own1 := []) (de_ix (di_var (i := 0)) (deB (de_var (i := 1))))) ds_nil) ds_nil) (ds_cons (ds_ret (own1 := []) de_int) ds_nil)))
theorem o97 {n : Nat} (Tx : Txt K mg f0 f1 f2 f3 f4 f5 f6 f7 f8 f9 f10 f11 f21 f22 f23 f24 f31 f32 f39 f40 f41 f65 f66 f67 f68 f71 f72 f73 f47 f48 f49 f50 f51 f52 f61 f63 f64 f12 f97 f98 f99 f100 f101 f102 f20 f25 f26 f27 f28 f29 f30 d0 d1 d2 d3 d4 d5 d6 d7 d8 d9 d10 d11 d21 d22 d23 d24 d31 d32 d39 d40 d41 d65 d66 d67 d68 d71 d72 d73 d47 d48 d49 d50 d51 d52 d61 d63 d64 d12 d97 d98 d99 d100 d101 d102 d20 d25 d26 d27 d28 d29 d30 cc101 cc102 ca) (A : All P w K mg base ca n f0 f1 f2 f3 f4 f5 f6 f7 f8 f9 f10 f11 f21 f22 f23 f24 f31 f32 f39 f40 f41 f65 f66 f67 f68 f71 f72 f73 f47 f48 f49 f50 f51 f52 f61 f63 f64 f12 f97 f98 f99 f100 f101 f102 f20 f25 f26 f27 f28 f29 f30) : FnOk P w K mg base CX0 (n + 1) f97 d97 ["_law_thing"] (spD ⟨K, ca, T.cn⟩ T (n + 1) 97) :=
  fn_okX (N := N97) (fn := ⟨1, 2, false, b97⟩) (own' := []) Tx.F97 sc97 rfl rfl rfl fun cdv A' outer s H E g =>
    ((ds_cons (ds_if (dbT (deB (de_isi (t := .lst) (deB (de_var (i := 0))) PyProof.Rows.boot_list (hm := Tx.n_isinstance) (hm2 := Tx.n_list)))) (ds_cons (ds_ret (own1 := []) (de_comp g.calm sc97.nd (dr_sq (dz_f (di_var (i := 0)))) (blkOk_by (own := [("_law_one", 1)]) (N := N97) (sc := defScope s97) (by decide +kernel)) rfl (fun _ _ _ _ _ => gbG g fun g => (dg_one (pg_name (i := 1) sc97.nd rfl (.inl rfl)))) (fun _ _ _ _ _ => gbE g fun g => (de_call g (fnat_lv A.f97) Tx.m97 (da_cons (de_var (i := 1)) da_nil))))) ds_nil) ds_nil) (ds_cons (ds_if (dbT (deB (de_isi (t := .tup) (deB (de_var (i := 0))) PyProof.Rows.boot_tuple (hm := Tx.n_isinstance) (hm2 := Tx.n_tuple)))) (ds_cons (ds_ret (own1 := []) (de_tuple (deI (de_comp g.calm sc97.nd (dr_sq (dz_f (di_var (i := 0)))) (blkOk_by (own := [("_law_one", 1)]) (N := N97) (sc := defScope s97) (by decide +kernel)) rfl (fun _ _ _ _ _ => gbG g fun g => (dg_one (pg_name (i := 1) sc97.nd rfl (.inl rfl)))) (fun _ _ _ _ _ => gbE g fun g => (de_call g (fnat_lv A.f97) Tx.m97 (da_cons (de_var (i := 1)) da_nil))))) (hm := Tx.n_tuple))) ds_nil) ds_nil) (ds_cons (ds_ret (own1 := []) (de_var (i := 0))) ds_nil))))
theorem o99 {n : Nat} (Tx : Txt K mg f0 f1 f2 f3 f4 f5 f6 f7 f8 f9 f10 f11 f21 f22 f23 f24 f31 f32 f39 f40 f41 f65 f66 f67 f68 f71 f72 f73 f47 f48 f49 f50 f51 f52 f61 f63 f64 f12 f97 f98 f99 f100 f101 f102 f20 f25 f26 f27 f28 f29 f30 d0 d1 d2 d3 d4 d5 d6 d7 d8 d9 d10 d11 d21 d22 d23 d24 d31 d32 d39 d40 d41 d65 d66 d67 d68 d71 d72 d73 d47 d48 d49 d50 d51 d52 d61 d63 d64 d12 d97 d98 d99 d100 d101 d102 d20 d25 d26 d27 d28 d29 d30 cc101 cc102 ca) (A : All P w K mg base ca n f0 f1 f2 f3 f4 f5 f6 f7 f8 f9 f10 f11 f21 f22 f23 f24 f31 f32 f39 f40 f41 f65 f66 f67 f68 f71 f72 f73 f47 f48 f49 f50 f51 f52 f61 f63 f64 f12 f97 f98 f99 f100 f101 f102 f20 f25 f26 f27 f28 f29 f30) : FnOk P w K mg base CX0 (n + 1) f99 d99 ["_law_found"] (spD ⟨K, ca, T.cn⟩ T (n + 1) 99) :=
  fn_okX (N := N99) (fn := ⟨1, 2, true, b99⟩) (own' := []) Tx.F99 sc99 rfl rfl rfl fun cdv A' outer s H E g =>
    ((ds_cons (ds_if (dwT (dw_or (dbT (deB (de_isi (t := .lst) (deB (de_var (i := 0))) PyProof.Rows.boot_list (hm := Tx.n_isinstance) (hm2 := Tx.n_list)))) (dw_or1 (dbT (deB (de_isi (t := .tup) (deB (de_var (i := 0))) PyProof.Rows.boot_tuple (hm := Tx.n_isinstance) (hm2 := Tx.n_tuple))))))) (ds_cons (ds_for (own1 := []) g (dr_sq (dz_t (de_list (di_var (i := 0)) (hm := Tx.n_list)))) (dg_one (pg_name (i := 1) sc99.nd rfl (.inl rfl))) (ds_cons (ds_ex (de_call g (fnat_lv A.f99) Tx.m99 (da_cons (de_var (i := 1)) da_nil))) ds_nil)) ds_nil) ds_nil) (ds_cons (ds_if (dbT (deB (de_isi (t := .lst) (deB (de_var (i := 0))) PyProof.Rows.boot_list (hm := Tx.n_isinstance) (hm2 := Tx.n_list)))) (ds_cons (ds_failTo (own1 := [])) ds_nil) ds_nil) ds_nil)))
theorem o25 {n : Nat} (Tx : Txt K mg f0 f1 f2 f3 f4 f5 f6 f7 f8 f9 f10 f11 f21 f22 f23 f24 f31 f32 f39 f40 f41 f65 f66 f67 f68 f71 f72 f73 f47 f48 f49 f50 f51 f52 f61 f63 f64 f12 f97 f98 f99 f100 f101 f102 f20 f25 f26 f27 f28 f29 f30 d0 d1 d2 d3 d4 d5 d6 d7 d8 d9 d10 d11 d21 d22 d23 d24 d31 d32 d39 d40 d41 d65 d66 d67 d68 d71 d72 d73 d47 d48 d49 d50 d51 d52 d61 d63 d64 d12 d97 d98 d99 d100 d101 d102 d20 d25 d26 d27 d28 d29 d30 cc101 cc102 ca) (A : All P w K mg base ca n f0 f1 f2 f3 f4 f5 f6 f7 f8 f9 f10 f11 f21 f22 f23 f24 f31 f32 f39 f40 f41 f65 f66 f67 f68 f71 f72 f73 f47 f48 f49 f50 f51 f52 f61 f63 f64 f12 f97 f98 f99 f100 f101 f102 f20 f25 f26 f27 f28 f29 f30) : FnOk P w K mg base CX0 (n + 1) f25 d25 ["self", "field", "points"] (spD ⟨K, ca, T.cn⟩ T (n + 1) 25) :=
  fn_okX (N := N25) (fn := ⟨3, 3, false, b25⟩) (own' := []) Tx.F25 sc25 rfl rfl rfl fun cdv A' outer s H E g =>
    ((ds_cons (ds_ret (own1 := []) (de_cmp or_is os_is (deB (de_call g (fnat_lv A.f22) Tx.m22 (da_cons (de_var (i := 1)) (da_cons (de_var (i := 2)) da_nil)))) (deB de_non))) ds_nil))
theorem o26 {n : Nat} (Tx : Txt K mg f0 f1 f2 f3 f4 f5 f6 f7 f8 f9 f10 f11 f21 f22 f23 f24 f31 f32 f39 f40 f41 f65 f66 f67 f68 f71 f72 f73 f47 f48 f49 f50 f51 f52 f61 f63 f64 f12 f97 f98 f99 f100 f101 f102 f20 f25 f26 f27 f28 f29 f30 d0 d1 d2 d3 d4 d5 d6 d7 d8 d9 d10 d11 d21 d22 d23 d24 d31 d32 d39 d40 d41 d65 d66 d67 d68 d71 d72 d73 d47 d48 d49 d50 d51 d52 d61 d63 d64 d12 d97 d98 d99 d100 d101 d102 d20 d25 d26 d27 d28 d29 d30 cc101 cc102 ca) (A : All P w K mg base ca n f0 f1 f2 f3 f4 f5 f6 f7 f8 f9 f10 f11 f21 f22 f23 f24 f31 f32 f39 f40 f41 f65 f66 f67 f68 f71 f72 f73 f47 f48 f49 f50 f51 f52 f61 f63 f64 f12 f97 f98 f99 f100 f101 f102 f20 f25 f26 f27 f28 f29 f30) : FnOk P w K mg base CX0 (n + 1) f26 d26 ["self", "field", "points"] (spD ⟨K, ca, T.cn⟩ T (n + 1) 26) :=
  fn_okX (N := N26) (fn := ⟨3, 5, false, b26⟩) (own' := []) Tx.F26 sc26 rfl rfl rfl fun cdv A' outer s H E g =>
    ((ds_cons (ds_asg (own1 := []) (ps_set (i := 3) sc26.nd rfl (.inl rfl) (de_fld (de_var (i := 0)) (cfl_points Tx)))) (ds_cons (ds_if (dwT (dw_or (dt_cmp (op_neD g.room.units) os_ne (deB (de_len (deB (de_var (i := 3))) (hm := Tx.n_len))) (deB de_int)) (dw_or (dt_not (dbT (deB (de_call g (fnat_lv A.f8) Tx.m8 (da_cons (de_var (i := 1)) (da_cons (de_var (i := 3)) da_nil)))))) (dw_or1 (dt_not (dbT (deB (de_all g.calm (deB (de_comp g.calm sc26.nd (dr_sq (dz_f (di_var (i := 3)))) (blkOk_by (own := [("point", 4)]) (N := N26) (sc := defScope s26) (by decide +kernel)) rfl (fun _ _ _ _ _ => gbG g fun g => (dg_one (pg_name (i := 4) sc26.nd rfl (.inl rfl)))) (fun _ _ _ _ _ => gbE g fun g => (de_cmp (or_mem (room65 g.room)) os_mem (deB (de_var (i := 4))) (deB (de_var (i := 2))))))) (hm := Tx.n_all))))))))) (ds_cons (ds_ret (own1 := []) de_bl) ds_nil) ds_nil) (ds_cons (ds_ret (own1 := []) (de_call g (fnat_lv A.f10) Tx.m10 (da_cons (de_var (i := 1)) (da_cons (de_ix (di_var (i := 3)) (deB de_int)) (da_cons (de_ix (di_var (i := 3)) (deB de_int)) (da_cons (de_ix (di_var (i := 3)) (deB de_int)) da_nil)))))) ds_nil))))
theorem o27 {n : Nat} (Tx : Txt K mg f0 f1 f2 f3 f4 f5 f6 f7 f8 f9 f10 f11 f21 f22 f23 f24 f31 f32 f39 f40 f41 f65 f66 f67 f68 f71 f72 f73 f47 f48 f49 f50 f51 f52 f61 f63 f64 f12 f97 f98 f99 f100 f101 f102 f20 f25 f26 f27 f28 f29 f30 d0 d1 d2 d3 d4 d5 d6 d7 d8 d9 d10 d11 d21 d22 d23 d24 d31 d32 d39 d40 d41 d65 d66 d67 d68 d71 d72 d73 d47 d48 d49 d50 d51 d52 d61 d63 d64 d12 d97 d98 d99 d100 d101 d102 d20 d25 d26 d27 d28 d29 d30 cc101 cc102 ca) (A : All P w K mg base ca n f0 f1 f2 f3 f4 f5 f6 f7 f8 f9 f10 f11 f21 f22 f23 f24 f31 f32 f39 f40 f41 f65 f66 f67 f68 f71 f72 f73 f47 f48 f49 f50 f51 f52 f61 f63 f64 f12 f97 f98 f99 f100 f101 f102 f20 f25 f26 f27 f28 f29 f30) : FnOk P w K mg base CX0 (n + 1) f27 d27 ["self", "field", "points"] (spD ⟨K, ca, T.cn⟩ T (n + 1) 27) :=
  fn_okX (N := N27) (fn := ⟨3, 3, false, b27⟩) (own' := []) Tx.F27 sc27 rfl rfl rfl fun cdv A' outer s H E g =>
    ((ds_cons (ds_ret (own1 := []) (de_cmp or_is os_is (deB (de_call g (fnat_lv A.f23) Tx.m23 (da_cons (de_var (i := 1)) (da_cons (de_var (i := 2)) da_nil)))) (deB de_non))) ds_nil))
theorem o28 {n : Nat} (Tx : Txt K mg f0 f1 f2 f3 f4 f5 f6 f7 f8 f9 f10 f11 f21 f22 f23 f24 f31 f32 f39 f40 f41 f65 f66 f67 f68 f71 f72 f73 f47 f48 f49 f50 f51 f52 f61 f63 f64 f12 f97 f98 f99 f100 f101 f102 f20 f25 f26 f27 f28 f29 f30 d0 d1 d2 d3 d4 d5 d6 d7 d8 d9 d10 d11 d21 d22 d23 d24 d31 d32 d39 d40 d41 d65 d66 d67 d68 d71 d72 d73 d47 d48 d49 d50 d51 d52 d61 d63 d64 d12 d97 d98 d99 d100 d101 d102 d20 d25 d26 d27 d28 d29 d30 cc101 cc102 ca) (A : All P w K mg base ca n f0 f1 f2 f3 f4 f5 f6 f7 f8 f9 f10 f11 f21 f22 f23 f24 f31 f32 f39 f40 f41 f65 f66 f67 f68 f71 f72 f73 f47 f48 f49 f50 f51 f52 f61 f63 f64 f12 f97 f98 f99 f100 f101 f102 f20 f25 f26 f27 f28 f29 f30) : FnOk P w K mg base CX0 (n + 1) f28 d28 ["self", "field", "points"] (spD ⟨K, ca, T.cn⟩ T (n + 1) 28) :=
  fn_okX (N := N28) (fn := ⟨3, 3, false, b28⟩) (own' := []) Tx.F28 sc28 rfl rfl rfl fun cdv A' outer s H E g =>
    ((ds_cons (ds_if (dwT (dw_or (dt_not (dbT (deB (de_call g (fnat_lv A.f7) Tx.m7 (da_cons (de_var (i := 1)) (da_cons (de_fld (de_var (i := 0)) (cfl_point Tx)) da_nil)))))) (dw_or1 (dt_cmp (or_mem (room65 g.room)) os_mem (deB (de_fld (de_var (i := 0)) (cfl_point Tx))) (deB (de_var (i := 2))))))) (ds_cons (ds_ret (own1 := []) de_bl) ds_nil) ds_nil) (ds_cons (ds_ret (own1 := []) (de_not (deB (de_call g (fnat_lv A.f21) Tx.m21 (da_cons (de_var (i := 1)) (da_cons (de_var (i := 2)) (da_cons (de_fld (de_var (i := 0)) (cfl_point Tx)) da_nil))))))) ds_nil)))
theorem o29 {n : Nat} (Tx : Txt K mg f0 f1 f2 f3 f4 f5 f6 f7 f8 f9 f10 f11 f21 f22 f23 f24 f31 f32 f39 f40 f41 f65 f66 f67 f68 f71 f72 f73 f47 f48 f49 f50 f51 f52 f61 f63 f64 f12 f97 f98 f99 f100 f101 f102 f20 f25 f26 f27 f28 f29 f30 d0 d1 d2 d3 d4 d5 d6 d7 d8 d9 d10 d11 d21 d22 d23 d24 d31 d32 d39 d40 d41 d65 d66 d67 d68 d71 d72 d73 d47 d48 d49 d50 d51 d52 d61 d63 d64 d12 d97 d98 d99 d100 d101 d102 d20 d25 d26 d27 d28 d29 d30 cc101 cc102 ca) (A : All P w K mg base ca n f0 f1 f2 f3 f4 f5 f6 f7 f8 f9 f10 f11 f21 f22 f23 f24 f31 f32 f39 f40 f41 f65 f66 f67 f68 f71 f72 f73 f47 f48 f49 f50 f51 f52 f61 f63 f64 f12 f97 f98 f99 f100 f101 f102 f20 f25 f26 f27 f28 f29 f30) : FnOk P w K mg base CX0 (n + 1) f29 d29 ["self", "field", "many"] (spD ⟨K, ca, T.cn⟩ T (n + 1) 29) :=
  fn_okX (N := N29) (fn := ⟨3, 3, false, b29⟩) (own' := []) Tx.F29 sc29 rfl rfl rfl fun cdv A' outer s H E g =>
    ((ds_cons (ds_if (dwT (dw_or (dt_cmp (op_neD g.room.units) os_ne (deB (de_len (deB (de_fld (de_var (i := 0)) (cfl_points Tx))) (hm := Tx.n_len))) (deB (de_var (i := 2)))) (dw_or1 (dt_not (dbT (deB (de_call g (fnat_lv A.f8) Tx.m8 (da_cons (de_var (i := 1)) (da_cons (de_fld (de_var (i := 0)) (cfl_points Tx)) da_nil))))))))) (ds_cons (ds_ret (own1 := []) de_bl) ds_nil) ds_nil) (ds_cons (ds_ret (own1 := []) (de_cmp or_is os_is (deB (de_call g (fnat_lv A.f22) Tx.m22 (da_cons (de_var (i := 1)) (da_cons (de_fld (de_var (i := 0)) (cfl_points Tx)) da_nil)))) (deB de_non))) ds_nil)))
theorem o30 {n : Nat} (Tx : Txt K mg f0 f1 f2 f3 f4 f5 f6 f7 f8 f9 f10 f11 f21 f22 f23 f24 f31 f32 f39 f40 f41 f65 f66 f67 f68 f71 f72 f73 f47 f48 f49 f50 f51 f52 f61 f63 f64 f12 f97 f98 f99 f100 f101 f102 f20 f25 f26 f27 f28 f29 f30 d0 d1 d2 d3 d4 d5 d6 d7 d8 d9 d10 d11 d21 d22 d23 d24 d31 d32 d39 d40 d41 d65 d66 d67 d68 d71 d72 d73 d47 d48 d49 d50 d51 d52 d61 d63 d64 d12 d97 d98 d99 d100 d101 d102 d20 d25 d26 d27 d28 d29 d30 cc101 cc102 ca) (A : All P w K mg base ca n f0 f1 f2 f3 f4 f5 f6 f7 f8 f9 f10 f11 f21 f22 f23 f24 f31 f32 f39 f40 f41 f65 f66 f67 f68 f71 f72 f73 f47 f48 f49 f50 f51 f52 f61 f63 f64 f12 f97 f98 f99 f100 f101 f102 f20 f25 f26 f27 f28 f29 f30) : FnOk P w K mg base CX0 (n + 1) f30 d30 ["self", "field", "many"] (spD ⟨K, ca, T.cn⟩ T (n + 1) 30) :=
  fn_okX (N := N30) (fn := ⟨3, 3, false, b30⟩) (own' := []) Tx.F30 sc30 rfl rfl rfl fun cdv A' outer s H E g =>
    ((ds_cons (ds_ret (own1 := []) (de_call g (fnat_lv A.f24) Tx.m24 (da_cons (de_var (i := 1)) (da_cons (de_var (i := 2)) (da_cons (de_fld (de_var (i := 0)) (cfl_tree Tx)) (da_cons (de_lst da_nil) (da_cons (de_lst da_nil) da_nil))))))) ds_nil))
theorem all (Tx : Txt K mg f0 f1 f2 f3 f4 f5 f6 f7 f8 f9 f10 f11 f21 f22 f23 f24 f31 f32 f39 f40 f41 f65 f66 f67 f68 f71 f72 f73 f47 f48 f49 f50 f51 f52 f61 f63 f64 f12 f97 f98 f99 f100 f101 f102 f20 f25 f26 f27 f28 f29 f30 d0 d1 d2 d3 d4 d5 d6 d7 d8 d9 d10 d11 d21 d22 d23 d24 d31 d32 d39 d40 d41 d65 d66 d67 d68 d71 d72 d73 d47 d48 d49 d50 d51 d52 d61 d63 d64 d12 d97 d98 d99 d100 d101 d102 d20 d25 d26 d27 d28 d29 d30 cc101 cc102 ca) : ∀ n, All P w K mg base ca n f0 f1 f2 f3 f4 f5 f6 f7 f8 f9 f10 f11 f21 f22 f23 f24 f31 f32 f39 f40 f41 f65 f66 f67 f68 f71 f72 f73 f47 f48 f49 f50 f51 f52 f61 f63 f64 f12 f97 f98 f99 f100 f101 f102 f20 f25 f26 f27 f28 f29 f30
  | 0 => ⟨fn_zero Tx.F0.kp Tx.B0, fn_zero Tx.F1.kp Tx.B1, fn_zero Tx.F2.kp Tx.B2, fn_zero Tx.F3.kp Tx.B3, fn_zero Tx.F4.kp Tx.B4, fn_zero Tx.F5.kp Tx.B5, fn_zero Tx.F6.kp Tx.B6, fn_zero Tx.F7.kp Tx.B7, fn_zero Tx.F8.kp Tx.B8, fn_zero Tx.F9.kp Tx.B9, fn_zero Tx.F10.kp Tx.B10, fn_zero Tx.F11.kp Tx.B11, fn_zero Tx.F21.kp Tx.B21, fn_zero Tx.F22.kp Tx.B22, fn_zero Tx.F23.kp Tx.B23, fn_zero Tx.F24.kp Tx.B24, fn_zero Tx.F31.kp Tx.B31, fn_zero Tx.F32.kp Tx.B32, fn_zero Tx.F39.kp Tx.B39, fn_zero Tx.F40.kp Tx.B40, fn_zero Tx.F41.kp Tx.B41, fn_zero Tx.F65.kp Tx.B65, fn_zero Tx.F66.kp Tx.B66, fn_zero Tx.F67.kp Tx.B67, fn_zero Tx.F68.kp Tx.B68, fn_zero Tx.F71.kp Tx.B71, fn_zero Tx.F72.kp Tx.B72, fn_zero Tx.F73.kp Tx.B73, fn_zero Tx.F47.kp Tx.B47, fn_zero Tx.F48.kp Tx.B48, fn_zero Tx.F49.kp Tx.B49, fn_zero Tx.F50.kp Tx.B50, fn_zero Tx.F51.kp Tx.B51, fn_zero Tx.F52.kp Tx.B52, fn_zero Tx.F61.kp Tx.B61, fn_zero Tx.F63.kp Tx.B63, fn_zero Tx.F64.kp Tx.B64, fn_zero Tx.F12.kp Tx.B12, fn_zero Tx.F97.kp Tx.B97, fn_zero Tx.F99.kp Tx.B99, fn_zero Tx.F25.kp Tx.B25, fn_zero Tx.F26.kp Tx.B26, fn_zero Tx.F27.kp Tx.B27, fn_zero Tx.F28.kp Tx.B28, fn_zero Tx.F29.kp Tx.B29, fn_zero Tx.F30.kp Tx.B30⟩
  | n + 1 => have A := all Tx n; ⟨fnat Tx.F0 Tx.B0 (o0 Tx A), fnat Tx.F1 Tx.B1 (o1 Tx A), fnat Tx.F2 Tx.B2 (o2 Tx A), fnat Tx.F3 Tx.B3 (o3 Tx A), fnat Tx.F4 Tx.B4 (o4 Tx A), fnat Tx.F5 Tx.B5 (o5 Tx A), fnat Tx.F6 Tx.B6 (o6 Tx A), fnat Tx.F7 Tx.B7 (o7 Tx A), fnat Tx.F8 Tx.B8 (o8 Tx A), fnat Tx.F9 Tx.B9 (o9 Tx A), fnat Tx.F10 Tx.B10 (o10 Tx A), fnat Tx.F11 Tx.B11 (o11 Tx A), fnat Tx.F21 Tx.B21 (o21 Tx A), fnat Tx.F22 Tx.B22 (o22 Tx A), fnat Tx.F23 Tx.B23 (o23 Tx A), fnat Tx.F24 Tx.B24 (o24 Tx A), fnat Tx.F31 Tx.B31 (o31 Tx A), fnat Tx.F32 Tx.B32 (o32 Tx A), fnat Tx.F39 Tx.B39 (o39 Tx A), fnat Tx.F40 Tx.B40 (o40 Tx A), fnat Tx.F41 Tx.B41 (o41 Tx A), fnat Tx.F65 Tx.B65 (o65 Tx A), fnat Tx.F66 Tx.B66 (o66 Tx A), fnat Tx.F67 Tx.B67 (o67 Tx A), fnat Tx.F68 Tx.B68 (o68 Tx A), fnat Tx.F71 Tx.B71 (o71 Tx A), fnat Tx.F72 Tx.B72 (o72 Tx A), fnat Tx.F73 Tx.B73 (o73 Tx A), fnat Tx.F47 Tx.B47 (o47 Tx A), fnat Tx.F48 Tx.B48 (o48 Tx A), fnat Tx.F49 Tx.B49 (o49 Tx A), fnat Tx.F50 Tx.B50 (o50 Tx A), fnat Tx.F51 Tx.B51 (o51 Tx A), fnat Tx.F52 Tx.B52 (o52 Tx A), fnat Tx.F61 Tx.B61 (o61 Tx A), fnat Tx.F63 Tx.B63 (o63 Tx A), fnat Tx.F64 Tx.B64 (o64 Tx A), fnat Tx.F12 Tx.B12 (o12 Tx A), fnat Tx.F97 Tx.B97 (o97 Tx A), fnat Tx.F99 Tx.B99 (o99 Tx A), fnat Tx.F25 Tx.B25 (o25 Tx A), fnat Tx.F26 Tx.B26 (o26 Tx A), fnat Tx.F27 Tx.B27 (o27 Tx A), fnat Tx.F28 Tx.B28 (o28 Tx A), fnat Tx.F29 Tx.B29 (o29 Tx A), fnat Tx.F30 Tx.B30 (o30 Tx A)⟩
theorem c97 (Tx : Txt K mg f0 f1 f2 f3 f4 f5 f6 f7 f8 f9 f10 f11 f21 f22 f23 f24 f31 f32 f39 f40 f41 f65 f66 f67 f68 f71 f72 f73 f47 f48 f49 f50 f51 f52 f61 f63 f64 f12 f97 f98 f99 f100 f101 f102 f20 f25 f26 f27 f28 f29 f30 d0 d1 d2 d3 d4 d5 d6 d7 d8 d9 d10 d11 d21 d22 d23 d24 d31 d32 d39 d40 d41 d65 d66 d67 d68 d71 d72 d73 d47 d48 d49 d50 d51 d52 d61 d63 d64 d12 d97 d98 d99 d100 d101 d102 d20 d25 d26 d27 d28 d29 d30 cc101 cc102 ca) (hcp : ∀ n, 2 ≤ n → ∀ d, leafD d = true → run T n 97 [d] = some d) : ∀ n, FnOk P w K mg base CX0 n f97 d97 ["_law_thing"] (spCL ⟨K, ca, T.cn⟩ n)
  | 0 => fn_none spCL_zero
  | n + 1 => have A : All P w K mg base ca n f0 f1 f2 f3 f4 f5 f6 f7 f8 f9 f10 f11 f21 f22 f23 f24 f31 f32 f39 f40 f41 f65 f66 f67 f68 f71 f72 f73 f47 f48 f49 f50 f51 f52 f61 f63 f64 f12 f97 f98 f99 f100 f101 f102 f20 f25 f26 f27 f28 f29 f30 := all Tx n; have C := c97 Tx hcp n; fn_ts (N := N97) (t := tCL ⟨K, ca, T.cn⟩ n) Tx.F97 sc97 spCL_len (fun cdv A' outer s H E g =>
    cl_ps (n := n) rfl (fun h d hd => (run_lv T n n 97 [d]).trans (hcp n h d hd)) (dbT (deB (de_isi (t := .lst) (deB (de_var (i := 0))) PyProof.Rows.boot_list (hm := Tx.n_isinstance) (hm2 := Tx.n_list)))) (pe_lc g.calm sc97.nd (pi_seq (pv 0)) (blkOk_by (own := [("_law_one", 1)]) (N := N97) (sc := defScope s97) (by decide +kernel)) (fun _ _ _ _ _ => gbG g fun g => (dg_one (pg_name (i := 1) sc97.nd rfl (.inl rfl)))) (fun _ _ _ _ _ => pts_nil) (fun _ _ _ _ _ => gbP g fun g => PE.or (de_call g (fnat_lv A.f97) Tx.m97 (da_cons (de_var (i := 1)) da_nil)) (pe_call C g.room (by rfl) Tx.m97 Tx.F97.kp Tx.B97 .nil pass0 (pa_cons (pv 1) pa_nil))))) (cl_rd rfl)
theorem i98 (Tx : Txt K mg f0 f1 f2 f3 f4 f5 f6 f7 f8 f9 f10 f11 f21 f22 f23 f24 f31 f32 f39 f40 f41 f65 f66 f67 f68 f71 f72 f73 f47 f48 f49 f50 f51 f52 f61 f63 f64 f12 f97 f98 f99 f100 f101 f102 f20 f25 f26 f27 f28 f29 f30 d0 d1 d2 d3 d4 d5 d6 d7 d8 d9 d10 d11 d21 d22 d23 d24 d31 d32 d39 d40 d41 d65 d66 d67 d68 d71 d72 d73 d47 d48 d49 d50 d51 d52 d61 d63 d64 d12 d97 d98 d99 d100 d101 d102 d20 d25 d26 d27 d28 d29 d30 cc101 cc102 ca) (hcp : ∀ n, 2 ≤ n → ∀ d, leafD d = true → run T n 97 [d] = some d) : ∀ n, FnOk P w K mg base CX0 n f98 d98 ["_law_handed", "_law_new"] (spIn ⟨K, ca, T.cn⟩ n)
  | 0 => fn_none spIn_zero
  | n + 1 => have A : All P w K mg base ca n f0 f1 f2 f3 f4 f5 f6 f7 f8 f9 f10 f11 f21 f22 f23 f24 f31 f32 f39 f40 f41 f65 f66 f67 f68 f71 f72 f73 f47 f48 f49 f50 f51 f52 f61 f63 f64 f12 f97 f98 f99 f100 f101 f102 f20 f25 f26 f27 f28 f29 f30 := all Tx n; have C := i98 Tx hcp n; fn_ts (N := N98) (t := tIn ⟨K, ca, T.cn⟩ n) Tx.F98 sc98 spIn_len (fun cdv A' outer s H E g =>
    in_ps (n := n) (kc := 97) g rfl (fun h d hd => (run_lv T n n 97 [d]).trans (hcp n h d hd)) (dr_en (dz_t (de_var (i := 1))) (hm := Tx.n_enumerate)) (dg_many (is := [2, 3]) (pg_tup g.calm (pgs_cons (pg_name (i := 2) sc98.nd rfl (.inl rfl)) (pgs_cons (pg_name (i := 3) sc98.nd rfl (.inl rfl)) pgs_nil)))) (dwT (dw_and (dbT (deB (de_isi (t := .lst) (deB (de_var (i := 3))) PyProof.Rows.boot_list (hm := Tx.n_isinstance) (hm2 := Tx.n_list)))) (dw_and1 (dt_cmp (op_eqD g.room.units) os_eq (deB (de_len (deB (de_ix (di_var (i := 0)) (deB (de_var (i := 2))))) (hm := Tx.n_len))) (deB (de_len (deB (de_var (i := 3))) (hm := Tx.n_len))))))) (pe_call C g.room (by rfl) Tx.m98 Tx.F98.kp Tx.B98 .nil pass0 (pa_cons (pe_ix ix_two (pv 0) (pv 2) (fun _ _ => rfl)) (pa_cons (pv 3) pa_nil))) (ps_asg (PE.or (deP (de_call g (fnat_lv A.f97) Tx.m97 (da_cons (de_var (i := 3)) da_nil))) (pe_call (c97 Tx hcp n) g.room (by rfl) Tx.m97 Tx.F97.kp Tx.B97 .nil pass0 (pa_cons (pv 3) pa_nil))) (pg_sub (pv 0) (deB (de_var (i := 2))) set_list))) (in_rd rfl)
theorem o129 (Tx : Txt K mg f0 f1 f2 f3 f4 f5 f6 f7 f8 f9 f10 f11 f21 f22 f23 f24 f31 f32 f39 f40 f41 f65 f66 f67 f68 f71 f72 f73 f47 f48 f49 f50 f51 f52 f61 f63 f64 f12 f97 f98 f99 f100 f101 f102 f20 f25 f26 f27 f28 f29 f30 d0 d1 d2 d3 d4 d5 d6 d7 d8 d9 d10 d11 d21 d22 d23 d24 d31 d32 d39 d40 d41 d65 d66 d67 d68 d71 d72 d73 d47 d48 d49 d50 d51 d52 d61 d63 d64 d12 d97 d98 d99 d100 d101 d102 d20 d25 d26 d27 d28 d29 d30 cc101 cc102 ca) : ∀ n, FnOk P w K mg base CX0 n f99 d99 ["_law_found"] (spO ⟨K, ca, T.cn⟩ T n 129)
  | 0 => fn_none spO_zero
  | n + 1 => have A : All P w K mg base ca n f0 f1 f2 f3 f4 f5 f6 f7 f8 f9 f10 f11 f21 f22 f23 f24 f31 f32 f39 f40 f41 f65 f66 f67 f68 f71 f72 f73 f47 f48 f49 f50 f51 f52 f61 f63 f64 f12 f97 f98 f99 f100 f101 f102 f20 f25 f26 f27 f28 f29 f30 := all Tx n; fn_okO (N := N99) (fn := ⟨1, 2, true, b129⟩) (own' := [0]) Tx.F99 sc99 rfl rfl rfl rfl fun cdv A' outer s H E g =>
    ((ds_cons (ds_if (dwT (dw_or (dbT (deB (de_isi (t := .lst) (deB (de_var (i := 0))) PyProof.Rows.boot_list (hm := Tx.n_isinstance) (hm2 := Tx.n_list)))) (dw_or1 (dbT (deB (de_isi (t := .tup) (deB (de_var (i := 0))) PyProof.Rows.boot_tuple (hm := Tx.n_isinstance) (hm2 := Tx.n_tuple))))))) (ds_cons (ds_for (own1 := [0]) g (dr_sq (dz_t (de_list (di_var (i := 0)) (hm := Tx.n_list)))) (dg_one (pg_name (i := 1) sc99.nd rfl (.inl rfl))) (ds_cons (ds_ex (de_call g (fnat_lv A.f99) Tx.m99 (da_cons (de_var (i := 1)) da_nil))) ds_nil)) ds_nil) ds_nil) (ds_cons (ds_if (dbT (deB (de_isi (t := .lst) (deB (de_var (i := 0))) PyProof.Rows.boot_list (hm := Tx.n_isinstance) (hm2 := Tx.n_list)))) (ds_cons (ds_app (own1 := [0]) (ps_expr (pe_bm PySem.F.plainAttrs_list PySem.F.slot_list_append PySem.F.type_list_append mt_append (pv 0) (pa_cons (deP de_non) pa_nil)))) ds_nil) ds_nil) ds_nil)))
theorem lm110 {n : Nat} (Tx : Txt K mg f0 f1 f2 f3 f4 f5 f6 f7 f8 f9 f10 f11 f21 f22 f23 f24 f31 f32 f39 f40 f41 f65 f66 f67 f68 f71 f72 f73 f47 f48 f49 f50 f51 f52 f61 f63 f64 f12 f97 f98 f99 f100 f101 f102 f20 f25 f26 f27 f28 f29 f30 d0 d1 d2 d3 d4 d5 d6 d7 d8 d9 d10 d11 d21 d22 d23 d24 d31 d32 d39 d40 d41 d65 d66 d67 d68 d71 d72 d73 d47 d48 d49 d50 d51 d52 d61 d63 d64 d12 d97 d98 d99 d100 d101 d102 d20 d25 d26 d27 d28 d29 d30 cc101 cc102 ca) (A : All P w K mg base ca n f0 f1 f2 f3 f4 f5 f6 f7 f8 f9 f10 f11 f21 f22 f23 f24 f31 f32 f39 f40 f41 f65 f66 f67 f68 f71 f72 f73 f47 f48 f49 f50 f51 f52 f61 f63 f64 f12 f97 f98 f99 f100 f101 f102 f20 f25 f26 f27 f28 f29 f30) : LmAt ca T P w K mg base (n + 1) L110 := lm_ok (fr := false) (p := e110) LP110 rfl rfl (fun A' outer s H f c g =>
    ((de_call g (fnat_lv A.f11) Tx.m11 (da_cons (de_tup (da_cons de_str (da_cons de_int da_nil))) (da_cons (de_ix (di_var (i := 0)) (deB de_int)) da_nil))))) rfl
theorem lm111 {n : Nat} (Tx : Txt K mg f0 f1 f2 f3 f4 f5 f6 f7 f8 f9 f10 f11 f21 f22 f23 f24 f31 f32 f39 f40 f41 f65 f66 f67 f68 f71 f72 f73 f47 f48 f49 f50 f51 f52 f61 f63 f64 f12 f97 f98 f99 f100 f101 f102 f20 f25 f26 f27 f28 f29 f30 d0 d1 d2 d3 d4 d5 d6 d7 d8 d9 d10 d11 d21 d22 d23 d24 d31 d32 d39 d40 d41 d65 d66 d67 d68 d71 d72 d73 d47 d48 d49 d50 d51 d52 d61 d63 d64 d12 d97 d98 d99 d100 d101 d102 d20 d25 d26 d27 d28 d29 d30 cc101 cc102 ca) (A : All P w K mg base ca n f0 f1 f2 f3 f4 f5 f6 f7 f8 f9 f10 f11 f21 f22 f23 f24 f31 f32 f39 f40 f41 f65 f66 f67 f68 f71 f72 f73 f47 f48 f49 f50 f51 f52 f61 f63 f64 f12 f97 f98 f99 f100 f101 f102 f20 f25 f26 f27 f28 f29 f30) : LmAt ca T P w K mg base (n + 1) L111 := lm_ok (fr := false) (p := e111) LP111 rfl rfl (fun A' outer s H f c g =>
    ((de_isc (deB (de_call g (fnat_lv A.f31) Tx.m31 (da_cons (de_tup (da_cons de_str (da_cons de_int da_nil))) (da_cons (de_ix (di_var (i := 0)) (deB de_int)) da_nil)))) (csub1 Tx) Tx.mc1 (hm := Tx.n_isinstance)))) rfl
theorem lm112 {n : Nat} (Tx : Txt K mg f0 f1 f2 f3 f4 f5 f6 f7 f8 f9 f10 f11 f21 f22 f23 f24 f31 f32 f39 f40 f41 f65 f66 f67 f68 f71 f72 f73 f47 f48 f49 f50 f51 f52 f61 f63 f64 f12 f97 f98 f99 f100 f101 f102 f20 f25 f26 f27 f28 f29 f30 d0 d1 d2 d3 d4 d5 d6 d7 d8 d9 d10 d11 d21 d22 d23 d24 d31 d32 d39 d40 d41 d65 d66 d67 d68 d71 d72 d73 d47 d48 d49 d50 d51 d52 d61 d63 d64 d12 d97 d98 d99 d100 d101 d102 d20 d25 d26 d27 d28 d29 d30 cc101 cc102 ca) (A : All P w K mg base ca n f0 f1 f2 f3 f4 f5 f6 f7 f8 f9 f10 f11 f21 f22 f23 f24 f31 f32 f39 f40 f41 f65 f66 f67 f68 f71 f72 f73 f47 f48 f49 f50 f51 f52 f61 f63 f64 f12 f97 f98 f99 f100 f101 f102 f20 f25 f26 f27 f28 f29 f30) : LmAt ca T P w K mg base (n + 1) L112 := lm_ok (fr := true) (p := e112) LP112 rfl rfl (fun A' outer s H f c g =>
    ((de_fldN (de_call g (fnat_lv A.f31) Tx.m31 (da_cons (de_tup (da_cons de_str (da_cons de_int da_nil))) (da_cons (de_ix (di_var (i := 0)) (deB de_int)) da_nil))) rfl (cfl_points Tx)))) rfl
theorem lm113 {n : Nat} (Tx : Txt K mg f0 f1 f2 f3 f4 f5 f6 f7 f8 f9 f10 f11 f21 f22 f23 f24 f31 f32 f39 f40 f41 f65 f66 f67 f68 f71 f72 f73 f47 f48 f49 f50 f51 f52 f61 f63 f64 f12 f97 f98 f99 f100 f101 f102 f20 f25 f26 f27 f28 f29 f30 d0 d1 d2 d3 d4 d5 d6 d7 d8 d9 d10 d11 d21 d22 d23 d24 d31 d32 d39 d40 d41 d65 d66 d67 d68 d71 d72 d73 d47 d48 d49 d50 d51 d52 d61 d63 d64 d12 d97 d98 d99 d100 d101 d102 d20 d25 d26 d27 d28 d29 d30 cc101 cc102 ca) (A : All P w K mg base ca n f0 f1 f2 f3 f4 f5 f6 f7 f8 f9 f10 f11 f21 f22 f23 f24 f31 f32 f39 f40 f41 f65 f66 f67 f68 f71 f72 f73 f47 f48 f49 f50 f51 f52 f61 f63 f64 f12 f97 f98 f99 f100 f101 f102 f20 f25 f26 f27 f28 f29 f30) : LmAt ca T P w K mg base (n + 1) L113 := lm_ok (fr := false) (p := e113) LP113 rfl rfl (fun A' outer s H f c g =>
    ((de_call g (fnat_lv A.f32) Tx.m32 (da_cons (de_tup (da_cons de_str (da_cons de_int da_nil))) (da_cons (de_ix (di_var (i := 0)) (deB de_int)) da_nil))))) rfl
theorem lm114 {n : Nat} (Tx : Txt K mg f0 f1 f2 f3 f4 f5 f6 f7 f8 f9 f10 f11 f21 f22 f23 f24 f31 f32 f39 f40 f41 f65 f66 f67 f68 f71 f72 f73 f47 f48 f49 f50 f51 f52 f61 f63 f64 f12 f97 f98 f99 f100 f101 f102 f20 f25 f26 f27 f28 f29 f30 d0 d1 d2 d3 d4 d5 d6 d7 d8 d9 d10 d11 d21 d22 d23 d24 d31 d32 d39 d40 d41 d65 d66 d67 d68 d71 d72 d73 d47 d48 d49 d50 d51 d52 d61 d63 d64 d12 d97 d98 d99 d100 d101 d102 d20 d25 d26 d27 d28 d29 d30 cc101 cc102 ca) (A : All P w K mg base ca n f0 f1 f2 f3 f4 f5 f6 f7 f8 f9 f10 f11 f21 f22 f23 f24 f31 f32 f39 f40 f41 f65 f66 f67 f68 f71 f72 f73 f47 f48 f49 f50 f51 f52 f61 f63 f64 f12 f97 f98 f99 f100 f101 f102 f20 f25 f26 f27 f28 f29 f30) : LmAt ca T P w K mg base (n + 1) L114 := lm_ok (fr := true) (p := e114) LP114 rfl rfl (fun A' outer s H f c g =>
    ((de_fldN (de_call g (fnat_lv A.f40) Tx.m40 (da_cons (de_tup (da_cons de_str (da_cons de_int da_nil))) (da_cons (de_ix (di_var (i := 0)) (deB de_int)) da_nil))) rfl (cfl_point Tx)))) rfl
theorem lm115 {n : Nat} (Tx : Txt K mg f0 f1 f2 f3 f4 f5 f6 f7 f8 f9 f10 f11 f21 f22 f23 f24 f31 f32 f39 f40 f41 f65 f66 f67 f68 f71 f72 f73 f47 f48 f49 f50 f51 f52 f61 f63 f64 f12 f97 f98 f99 f100 f101 f102 f20 f25 f26 f27 f28 f29 f30 d0 d1 d2 d3 d4 d5 d6 d7 d8 d9 d10 d11 d21 d22 d23 d24 d31 d32 d39 d40 d41 d65 d66 d67 d68 d71 d72 d73 d47 d48 d49 d50 d51 d52 d61 d63 d64 d12 d97 d98 d99 d100 d101 d102 d20 d25 d26 d27 d28 d29 d30 cc101 cc102 ca) (A : All P w K mg base ca n f0 f1 f2 f3 f4 f5 f6 f7 f8 f9 f10 f11 f21 f22 f23 f24 f31 f32 f39 f40 f41 f65 f66 f67 f68 f71 f72 f73 f47 f48 f49 f50 f51 f52 f61 f63 f64 f12 f97 f98 f99 f100 f101 f102 f20 f25 f26 f27 f28 f29 f30) : LmAt ca T P w K mg base (n + 1) L115 := lm_ok (fr := true) (p := e115) LP115 rfl rfl (fun A' outer s H f c g =>
    ((de_call g (fnat_lv A.f41) Tx.m41 (da_cons (de_tup (da_cons de_str (da_cons de_int da_nil))) (da_cons (de_ix (di_var (i := 0)) (deB de_int)) da_nil))))) rfl
theorem lm116 {n : Nat} (Tx : Txt K mg f0 f1 f2 f3 f4 f5 f6 f7 f8 f9 f10 f11 f21 f22 f23 f24 f31 f32 f39 f40 f41 f65 f66 f67 f68 f71 f72 f73 f47 f48 f49 f50 f51 f52 f61 f63 f64 f12 f97 f98 f99 f100 f101 f102 f20 f25 f26 f27 f28 f29 f30 d0 d1 d2 d3 d4 d5 d6 d7 d8 d9 d10 d11 d21 d22 d23 d24 d31 d32 d39 d40 d41 d65 d66 d67 d68 d71 d72 d73 d47 d48 d49 d50 d51 d52 d61 d63 d64 d12 d97 d98 d99 d100 d101 d102 d20 d25 d26 d27 d28 d29 d30 cc101 cc102 ca) (A : All P w K mg base ca n f0 f1 f2 f3 f4 f5 f6 f7 f8 f9 f10 f11 f21 f22 f23 f24 f31 f32 f39 f40 f41 f65 f66 f67 f68 f71 f72 f73 f47 f48 f49 f50 f51 f52 f61 f63 f64 f12 f97 f98 f99 f100 f101 f102 f20 f25 f26 f27 f28 f29 f30) : LmAt ca T P w K mg base (n + 1) L116 := lm_ok (fr := false) (p := e116) LP116 rfl rfl (fun A' outer s H f c g =>
    ((de_call g (fnat_lv A.f64) Tx.m64 (da_cons (de_tup (da_cons de_str (da_cons de_int da_nil))) (da_cons (de_ix (di_var (i := 0)) (deB de_int)) da_nil))))) rfl
theorem lm117 {n : Nat} (Tx : Txt K mg f0 f1 f2 f3 f4 f5 f6 f7 f8 f9 f10 f11 f21 f22 f23 f24 f31 f32 f39 f40 f41 f65 f66 f67 f68 f71 f72 f73 f47 f48 f49 f50 f51 f52 f61 f63 f64 f12 f97 f98 f99 f100 f101 f102 f20 f25 f26 f27 f28 f29 f30 d0 d1 d2 d3 d4 d5 d6 d7 d8 d9 d10 d11 d21 d22 d23 d24 d31 d32 d39 d40 d41 d65 d66 d67 d68 d71 d72 d73 d47 d48 d49 d50 d51 d52 d61 d63 d64 d12 d97 d98 d99 d100 d101 d102 d20 d25 d26 d27 d28 d29 d30 cc101 cc102 ca) (A : All P w K mg base ca n f0 f1 f2 f3 f4 f5 f6 f7 f8 f9 f10 f11 f21 f22 f23 f24 f31 f32 f39 f40 f41 f65 f66 f67 f68 f71 f72 f73 f47 f48 f49 f50 f51 f52 f61 f63 f64 f12 f97 f98 f99 f100 f101 f102 f20 f25 f26 f27 f28 f29 f30) : LmAt ca T P w K mg base (n + 1) L117 := lm_ok (fr := true) (p := e117) LP117 rfl rfl (fun A' outer s H f c g =>
    ((de_call g (fnat_lv A.f68) Tx.m68 (da_cons (de_tup (da_cons de_str (da_cons de_int da_nil))) (da_cons (de_ix (di_var (i := 0)) (deB de_int)) (da_cons (de_tup (da_cons de_str (da_cons de_int da_nil))) (da_cons (de_ix (di_var (i := 0)) (deB de_int)) da_nil))))))) rfl
theorem lm118 {n : Nat} (Tx : Txt K mg f0 f1 f2 f3 f4 f5 f6 f7 f8 f9 f10 f11 f21 f22 f23 f24 f31 f32 f39 f40 f41 f65 f66 f67 f68 f71 f72 f73 f47 f48 f49 f50 f51 f52 f61 f63 f64 f12 f97 f98 f99 f100 f101 f102 f20 f25 f26 f27 f28 f29 f30 d0 d1 d2 d3 d4 d5 d6 d7 d8 d9 d10 d11 d21 d22 d23 d24 d31 d32 d39 d40 d41 d65 d66 d67 d68 d71 d72 d73 d47 d48 d49 d50 d51 d52 d61 d63 d64 d12 d97 d98 d99 d100 d101 d102 d20 d25 d26 d27 d28 d29 d30 cc101 cc102 ca) (A : All P w K mg base ca n f0 f1 f2 f3 f4 f5 f6 f7 f8 f9 f10 f11 f21 f22 f23 f24 f31 f32 f39 f40 f41 f65 f66 f67 f68 f71 f72 f73 f47 f48 f49 f50 f51 f52 f61 f63 f64 f12 f97 f98 f99 f100 f101 f102 f20 f25 f26 f27 f28 f29 f30) : LmAt ca T P w K mg base (n + 1) L118 := lm_ok (fr := true) (p := e118) LP118 rfl rfl (fun A' outer s H f c g =>
    ((de_call g (fnat_lv A.f68) Tx.m68 (da_cons (de_tup (da_cons de_str (da_cons de_int da_nil))) (da_cons (de_ix (di_var (i := 0)) (deB de_int)) (da_cons (de_tup (da_cons de_str (da_cons de_int da_nil))) (da_cons (de_ix (di_var (i := 0)) (deB de_int)) da_nil))))))) rfl
theorem lm119 {n : Nat} (Tx : Txt K mg f0 f1 f2 f3 f4 f5 f6 f7 f8 f9 f10 f11 f21 f22 f23 f24 f31 f32 f39 f40 f41 f65 f66 f67 f68 f71 f72 f73 f47 f48 f49 f50 f51 f52 f61 f63 f64 f12 f97 f98 f99 f100 f101 f102 f20 f25 f26 f27 f28 f29 f30 d0 d1 d2 d3 d4 d5 d6 d7 d8 d9 d10 d11 d21 d22 d23 d24 d31 d32 d39 d40 d41 d65 d66 d67 d68 d71 d72 d73 d47 d48 d49 d50 d51 d52 d61 d63 d64 d12 d97 d98 d99 d100 d101 d102 d20 d25 d26 d27 d28 d29 d30 cc101 cc102 ca) (A : All P w K mg base ca n f0 f1 f2 f3 f4 f5 f6 f7 f8 f9 f10 f11 f21 f22 f23 f24 f31 f32 f39 f40 f41 f65 f66 f67 f68 f71 f72 f73 f47 f48 f49 f50 f51 f52 f61 f63 f64 f12 f97 f98 f99 f100 f101 f102 f20 f25 f26 f27 f28 f29 f30) : LmAt ca T P w K mg base (n + 1) L119 := lm_ok (fr := true) (p := e119) LP119 rfl rfl (fun A' outer s H f c g =>
    ((de_call g (fnat_lv A.f73) Tx.m73 (da_cons (de_tup (da_cons de_str (da_cons de_int da_nil))) (da_cons (de_ix (di_var (i := 0)) (deB de_int)) (da_cons (de_tup (da_cons de_str da_nil)) da_nil)))))) rfl
theorem lm120 {n : Nat} (Tx : Txt K mg f0 f1 f2 f3 f4 f5 f6 f7 f8 f9 f10 f11 f21 f22 f23 f24 f31 f32 f39 f40 f41 f65 f66 f67 f68 f71 f72 f73 f47 f48 f49 f50 f51 f52 f61 f63 f64 f12 f97 f98 f99 f100 f101 f102 f20 f25 f26 f27 f28 f29 f30 d0 d1 d2 d3 d4 d5 d6 d7 d8 d9 d10 d11 d21 d22 d23 d24 d31 d32 d39 d40 d41 d65 d66 d67 d68 d71 d72 d73 d47 d48 d49 d50 d51 d52 d61 d63 d64 d12 d97 d98 d99 d100 d101 d102 d20 d25 d26 d27 d28 d29 d30 cc101 cc102 ca) (A : All P w K mg base ca n f0 f1 f2 f3 f4 f5 f6 f7 f8 f9 f10 f11 f21 f22 f23 f24 f31 f32 f39 f40 f41 f65 f66 f67 f68 f71 f72 f73 f47 f48 f49 f50 f51 f52 f61 f63 f64 f12 f97 f98 f99 f100 f101 f102 f20 f25 f26 f27 f28 f29 f30) : LmAt ca T P w K mg base (n + 1) L120 := lm_ok (fr := true) (p := e120) LP120 rfl rfl (fun A' outer s H f c g =>
    ((de_call g (fnat_lv A.f6) Tx.m6 (da_cons (de_tup (da_cons de_str (da_cons (de_ix (di_var (i := 0)) (deB de_int)) da_nil))) da_nil)))) rfl
theorem lm121 {n : Nat} (Tx : Txt K mg f0 f1 f2 f3 f4 f5 f6 f7 f8 f9 f10 f11 f21 f22 f23 f24 f31 f32 f39 f40 f41 f65 f66 f67 f68 f71 f72 f73 f47 f48 f49 f50 f51 f52 f61 f63 f64 f12 f97 f98 f99 f100 f101 f102 f20 f25 f26 f27 f28 f29 f30 d0 d1 d2 d3 d4 d5 d6 d7 d8 d9 d10 d11 d21 d22 d23 d24 d31 d32 d39 d40 d41 d65 d66 d67 d68 d71 d72 d73 d47 d48 d49 d50 d51 d52 d61 d63 d64 d12 d97 d98 d99 d100 d101 d102 d20 d25 d26 d27 d28 d29 d30 cc101 cc102 ca) (A : All P w K mg base ca n f0 f1 f2 f3 f4 f5 f6 f7 f8 f9 f10 f11 f21 f22 f23 f24 f31 f32 f39 f40 f41 f65 f66 f67 f68 f71 f72 f73 f47 f48 f49 f50 f51 f52 f61 f63 f64 f12 f97 f98 f99 f100 f101 f102 f20 f25 f26 f27 f28 f29 f30) : LmAt ca T P w K mg base (n + 1) L121 := lm_ok (fr := true) (p := e121) LP121 rfl rfl (fun A' outer s H f c g =>
    ((de_call g (fnat_lv A.f65) Tx.m65 (da_cons (de_tup (da_cons de_str (da_cons (de_ix (di_var (i := 0)) (deB de_int)) da_nil))) da_nil)))) rfl
theorem lm122 {n : Nat} (Tx : Txt K mg f0 f1 f2 f3 f4 f5 f6 f7 f8 f9 f10 f11 f21 f22 f23 f24 f31 f32 f39 f40 f41 f65 f66 f67 f68 f71 f72 f73 f47 f48 f49 f50 f51 f52 f61 f63 f64 f12 f97 f98 f99 f100 f101 f102 f20 f25 f26 f27 f28 f29 f30 d0 d1 d2 d3 d4 d5 d6 d7 d8 d9 d10 d11 d21 d22 d23 d24 d31 d32 d39 d40 d41 d65 d66 d67 d68 d71 d72 d73 d47 d48 d49 d50 d51 d52 d61 d63 d64 d12 d97 d98 d99 d100 d101 d102 d20 d25 d26 d27 d28 d29 d30 cc101 cc102 ca) (A : All P w K mg base ca n f0 f1 f2 f3 f4 f5 f6 f7 f8 f9 f10 f11 f21 f22 f23 f24 f31 f32 f39 f40 f41 f65 f66 f67 f68 f71 f72 f73 f47 f48 f49 f50 f51 f52 f61 f63 f64 f12 f97 f98 f99 f100 f101 f102 f20 f25 f26 f27 f28 f29 f30) : LmAt ca T P w K mg base (n + 1) L122 := lm_ok (fr := true) (p := e122) LP122 rfl rfl (fun A' outer s H f c g =>
    ((de_call0 g (fnat_lv A.f66) Tx.m66))) rfl
theorem lm123 {n : Nat} (Tx : Txt K mg f0 f1 f2 f3 f4 f5 f6 f7 f8 f9 f10 f11 f21 f22 f23 f24 f31 f32 f39 f40 f41 f65 f66 f67 f68 f71 f72 f73 f47 f48 f49 f50 f51 f52 f61 f63 f64 f12 f97 f98 f99 f100 f101 f102 f20 f25 f26 f27 f28 f29 f30 d0 d1 d2 d3 d4 d5 d6 d7 d8 d9 d10 d11 d21 d22 d23 d24 d31 d32 d39 d40 d41 d65 d66 d67 d68 d71 d72 d73 d47 d48 d49 d50 d51 d52 d61 d63 d64 d12 d97 d98 d99 d100 d101 d102 d20 d25 d26 d27 d28 d29 d30 cc101 cc102 ca) (A : All P w K mg base ca n f0 f1 f2 f3 f4 f5 f6 f7 f8 f9 f10 f11 f21 f22 f23 f24 f31 f32 f39 f40 f41 f65 f66 f67 f68 f71 f72 f73 f47 f48 f49 f50 f51 f52 f61 f63 f64 f12 f97 f98 f99 f100 f101 f102 f20 f25 f26 f27 f28 f29 f30) : LmAt ca T P w K mg base (n + 1) L123 := lm_ok (fr := true) (p := e123) LP123 rfl rfl (fun A' outer s H f c g =>
    ((de_call g (fnat_lv A.f63) Tx.m63 (da_cons (de_tup (da_cons de_str (da_cons de_int da_nil))) (da_cons de_int (da_cons (de_ix (di_var (i := 0)) (deB de_int)) da_nil)))))) rfl
theorem lm124 {n : Nat} (Tx : Txt K mg f0 f1 f2 f3 f4 f5 f6 f7 f8 f9 f10 f11 f21 f22 f23 f24 f31 f32 f39 f40 f41 f65 f66 f67 f68 f71 f72 f73 f47 f48 f49 f50 f51 f52 f61 f63 f64 f12 f97 f98 f99 f100 f101 f102 f20 f25 f26 f27 f28 f29 f30 d0 d1 d2 d3 d4 d5 d6 d7 d8 d9 d10 d11 d21 d22 d23 d24 d31 d32 d39 d40 d41 d65 d66 d67 d68 d71 d72 d73 d47 d48 d49 d50 d51 d52 d61 d63 d64 d12 d97 d98 d99 d100 d101 d102 d20 d25 d26 d27 d28 d29 d30 cc101 cc102 ca) (A : All P w K mg base ca n f0 f1 f2 f3 f4 f5 f6 f7 f8 f9 f10 f11 f21 f22 f23 f24 f31 f32 f39 f40 f41 f65 f66 f67 f68 f71 f72 f73 f47 f48 f49 f50 f51 f52 f61 f63 f64 f12 f97 f98 f99 f100 f101 f102 f20 f25 f26 f27 f28 f29 f30) : LmAt ca T P w K mg base (n + 1) L124 := lm_ok (fr := true) (p := e124) LP124 rfl rfl (fun A' outer s H f c g =>
    ((de_fldN (de_call g (fnat_lv A.f52) Tx.m52 (da_cons (de_tup (da_cons de_str (da_cons de_int da_nil))) (da_cons (de_ix (di_var (i := 0)) (deB de_int)) da_nil))) rfl (cfl_points Tx)))) rfl
theorem lm125 {n : Nat} (Tx : Txt K mg f0 f1 f2 f3 f4 f5 f6 f7 f8 f9 f10 f11 f21 f22 f23 f24 f31 f32 f39 f40 f41 f65 f66 f67 f68 f71 f72 f73 f47 f48 f49 f50 f51 f52 f61 f63 f64 f12 f97 f98 f99 f100 f101 f102 f20 f25 f26 f27 f28 f29 f30 d0 d1 d2 d3 d4 d5 d6 d7 d8 d9 d10 d11 d21 d22 d23 d24 d31 d32 d39 d40 d41 d65 d66 d67 d68 d71 d72 d73 d47 d48 d49 d50 d51 d52 d61 d63 d64 d12 d97 d98 d99 d100 d101 d102 d20 d25 d26 d27 d28 d29 d30 cc101 cc102 ca) (A : All P w K mg base ca n f0 f1 f2 f3 f4 f5 f6 f7 f8 f9 f10 f11 f21 f22 f23 f24 f31 f32 f39 f40 f41 f65 f66 f67 f68 f71 f72 f73 f47 f48 f49 f50 f51 f52 f61 f63 f64 f12 f97 f98 f99 f100 f101 f102 f20 f25 f26 f27 f28 f29 f30) : LmAt ca T P w K mg base (n + 1) L125 := lm_ok (fr := false) (p := e125) LP125 rfl rfl (fun A' outer s H f c g =>
    ((de_shows g (de_mk0 g (cmk1 Tx ⟨rfl, rfl⟩) Tx.mc1) (csh Tx A) (da_cons (de_tup (da_cons de_str (da_cons de_int da_nil))) (da_cons (de_ix (di_var (i := 0)) (deB de_int)) da_nil))))) rfl
theorem lm126 {n : Nat} (Tx : Txt K mg f0 f1 f2 f3 f4 f5 f6 f7 f8 f9 f10 f11 f21 f22 f23 f24 f31 f32 f39 f40 f41 f65 f66 f67 f68 f71 f72 f73 f47 f48 f49 f50 f51 f52 f61 f63 f64 f12 f97 f98 f99 f100 f101 f102 f20 f25 f26 f27 f28 f29 f30 d0 d1 d2 d3 d4 d5 d6 d7 d8 d9 d10 d11 d21 d22 d23 d24 d31 d32 d39 d40 d41 d65 d66 d67 d68 d71 d72 d73 d47 d48 d49 d50 d51 d52 d61 d63 d64 d12 d97 d98 d99 d100 d101 d102 d20 d25 d26 d27 d28 d29 d30 cc101 cc102 ca) (A : All P w K mg base ca n f0 f1 f2 f3 f4 f5 f6 f7 f8 f9 f10 f11 f21 f22 f23 f24 f31 f32 f39 f40 f41 f65 f66 f67 f68 f71 f72 f73 f47 f48 f49 f50 f51 f52 f61 f63 f64 f12 f97 f98 f99 f100 f101 f102 f20 f25 f26 f27 f28 f29 f30) : LmAt ca T P w K mg base (n + 1) L126 := lm_ok (fr := false) (p := e126) LP126 rfl rfl (fun A' outer s H f c g =>
    ((de_shows g (de_mk g (cmk2 Tx ⟨rfl, rfl, rfl, rfl, rfl⟩) Tx.mc2 (dai_cons (deI (de_lst (da_cons (de_tup (da_cons de_int (da_cons de_int da_nil))) (da_cons (de_tup (da_cons de_int (da_cons de_int da_nil))) (da_cons (de_tup (da_cons de_int (da_cons de_int da_nil))) da_nil))))) dai_nil)) (csh Tx A) (da_cons (de_tup (da_cons de_str (da_cons de_int da_nil))) (da_cons (de_ix (di_var (i := 0)) (deB de_int)) da_nil))))) rfl
theorem lm127 {n : Nat} (Tx : Txt K mg f0 f1 f2 f3 f4 f5 f6 f7 f8 f9 f10 f11 f21 f22 f23 f24 f31 f32 f39 f40 f41 f65 f66 f67 f68 f71 f72 f73 f47 f48 f49 f50 f51 f52 f61 f63 f64 f12 f97 f98 f99 f100 f101 f102 f20 f25 f26 f27 f28 f29 f30 d0 d1 d2 d3 d4 d5 d6 d7 d8 d9 d10 d11 d21 d22 d23 d24 d31 d32 d39 d40 d41 d65 d66 d67 d68 d71 d72 d73 d47 d48 d49 d50 d51 d52 d61 d63 d64 d12 d97 d98 d99 d100 d101 d102 d20 d25 d26 d27 d28 d29 d30 cc101 cc102 ca) (A : All P w K mg base ca n f0 f1 f2 f3 f4 f5 f6 f7 f8 f9 f10 f11 f21 f22 f23 f24 f31 f32 f39 f40 f41 f65 f66 f67 f68 f71 f72 f73 f47 f48 f49 f50 f51 f52 f61 f63 f64 f12 f97 f98 f99 f100 f101 f102 f20 f25 f26 f27 f28 f29 f30) : LmAt ca T P w K mg base (n + 1) L127 := lm_ok (fr := false) (p := e127) LP127 rfl rfl (fun A' outer s H f c g =>
    ((de_shows g (de_mk g (cmk4 Tx ⟨rfl, rfl, rfl, rfl, rfl⟩) Tx.mc4 (dai_cons (deI (de_tup (da_cons de_int (da_cons de_int da_nil)))) dai_nil)) (csh Tx A) (da_cons (de_tup (da_cons de_str (da_cons de_int da_nil))) (da_cons (de_ix (di_var (i := 0)) (deB de_int)) da_nil))))) rfl
theorem lm128 {n : Nat} (Tx : Txt K mg f0 f1 f2 f3 f4 f5 f6 f7 f8 f9 f10 f11 f21 f22 f23 f24 f31 f32 f39 f40 f41 f65 f66 f67 f68 f71 f72 f73 f47 f48 f49 f50 f51 f52 f61 f63 f64 f12 f97 f98 f99 f100 f101 f102 f20 f25 f26 f27 f28 f29 f30 d0 d1 d2 d3 d4 d5 d6 d7 d8 d9 d10 d11 d21 d22 d23 d24 d31 d32 d39 d40 d41 d65 d66 d67 d68 d71 d72 d73 d47 d48 d49 d50 d51 d52 d61 d63 d64 d12 d97 d98 d99 d100 d101 d102 d20 d25 d26 d27 d28 d29 d30 cc101 cc102 ca) (A : All P w K mg base ca n f0 f1 f2 f3 f4 f5 f6 f7 f8 f9 f10 f11 f21 f22 f23 f24 f31 f32 f39 f40 f41 f65 f66 f67 f68 f71 f72 f73 f47 f48 f49 f50 f51 f52 f61 f63 f64 f12 f97 f98 f99 f100 f101 f102 f20 f25 f26 f27 f28 f29 f30) : LmAt ca T P w K mg base (n + 1) L128 := lm_ok (fr := false) (p := e128) LP128 rfl rfl (fun A' outer s H f c g =>
    ((de_shows g (de_mk0 g (cmk3 Tx ⟨rfl, rfl⟩) Tx.mc3) (csh Tx A) (da_cons (de_tup (da_cons de_str (da_cons de_int da_nil))) (da_cons (de_ix (di_var (i := 0)) (deB de_int)) da_nil))))) rfl
theorem lms {n : Nat} (Tx : Txt K mg f0 f1 f2 f3 f4 f5 f6 f7 f8 f9 f10 f11 f21 f22 f23 f24 f31 f32 f39 f40 f41 f65 f66 f67 f68 f71 f72 f73 f47 f48 f49 f50 f51 f52 f61 f63 f64 f12 f97 f98 f99 f100 f101 f102 f20 f25 f26 f27 f28 f29 f30 d0 d1 d2 d3 d4 d5 d6 d7 d8 d9 d10 d11 d21 d22 d23 d24 d31 d32 d39 d40 d41 d65 d66 d67 d68 d71 d72 d73 d47 d48 d49 d50 d51 d52 d61 d63 d64 d12 d97 d98 d99 d100 d101 d102 d20 d25 d26 d27 d28 d29 d30 cc101 cc102 ca) (A : All P w K mg base ca n f0 f1 f2 f3 f4 f5 f6 f7 f8 f9 f10 f11 f21 f22 f23 f24 f31 f32 f39 f40 f41 f65 f66 f67 f68 f71 f72 f73 f47 f48 f49 f50 f51 f52 f61 f63 f64 f12 f97 f98 f99 f100 f101 f102 f20 f25 f26 f27 f28 f29 f30) : ∀ l ∈ ls, LmAt ca T P w K mg base (n + 1) l := (alls (lm110 Tx A) (alls (lm111 Tx A) (alls (lm112 Tx A) (alls (lm113 Tx A) (alls (lm114 Tx A) (alls (lm115 Tx A) (alls (lm116 Tx A) (alls (lm117 Tx A) (alls (lm118 Tx A) (alls (lm119 Tx A) (alls (lm120 Tx A) (alls (lm121 Tx A) (alls (lm122 Tx A) (alls (lm123 Tx A) (alls (lm124 Tx A) (alls (lm125 Tx A) (alls (lm126 Tx A) (alls (lm127 Tx A) (all1 (lm128 Tx A))))))))))))))))))))
theorem o100 {m : Nat} (Tx : Txt K mg f0 f1 f2 f3 f4 f5 f6 f7 f8 f9 f10 f11 f21 f22 f23 f24 f31 f32 f39 f40 f41 f65 f66 f67 f68 f71 f72 f73 f47 f48 f49 f50 f51 f52 f61 f63 f64 f12 f97 f98 f99 f100 f101 f102 f20 f25 f26 f27 f28 f29 f30 d0 d1 d2 d3 d4 d5 d6 d7 d8 d9 d10 d11 d21 d22 d23 d24 d31 d32 d39 d40 d41 d65 d66 d67 d68 d71 d72 d73 d47 d48 d49 d50 d51 d52 d61 d63 d64 d12 d97 d98 d99 d100 d101 d102 d20 d25 d26 d27 d28 d29 d30 cc101 cc102 ca) (hcp : ∀ n, 2 ≤ n → ∀ d, leafD d = true → run T n 97 [d] = some d) : FnOk P w K mg base CX0 (m + 2) f100 d100 ["_law_ask", "_law_first", "_law_second"] (spDr ⟨K, ca, T.cn⟩ T (m + 1) 97 99 129 ls) :=
  have A : All P w K mg base ca (m + 1) f0 f1 f2 f3 f4 f5 f6 f7 f8 f9 f10 f11 f21 f22 f23 f24 f31 f32 f39 f40 f41 f65 f66 f67 f68 f71 f72 f73 f47 f48 f49 f50 f51 f52 f61 f63 f64 f12 f97 f98 f99 f100 f101 f102 f20 f25 f26 f27 f28 f29 f30 := all Tx (m + 1)
  have A0 : All P w K mg base ca m f0 f1 f2 f3 f4 f5 f6 f7 f8 f9 f10 f11 f21 f22 f23 f24 f31 f32 f39 f40 f41 f65 f66 f67 f68 f71 f72 f73 f47 f48 f49 f50 f51 f52 f61 f63 f64 f12 f97 f98 f99 f100 f101 f102 f20 f25 f26 f27 f28 f29 f30 := all Tx m
  fn_ts (N := N100) (t := tDoor ⟨K, ca, T.cn⟩ { T with lv := m + 1 } (m + 1) 97 99 129 ls) Tx.F100 sc100 spDr_len (fun cdv A' outer s H E g =>
    dr_ps (kc := 97) (ks := 99) (ko := 129) (ls := ls) g (ps_par g.calm sc100.nd rfl rfl (by decide) rfl rfl (pa_cons (pe_call (c97 Tx hcp (m + 1)) g.room rfl Tx.m97 Tx.F97.kp Tx.B97 .nil pass0 (pa_cons (pv 1) pa_nil)) (pa_cons (pe_lst pa_nil) pa_nil)) (by rfl)) (dr_sq (dz_t (de_tup (da_cons (de_var (i := 1)) (da_cons (de_var (i := 2)) da_nil))))) (dg_one (pg_name (i := 3) sc100.nd rfl (.inl rfl))) (ps_expr (pe_bm PySem.F.plainAttrs_list PySem.F.slot_list_append PySem.F.type_list_append mt_append (pv 5) (pa_cons (pe_tup (pa_cons (pv 3) (pa_cons (pe_callD g (fnat_lv A.f97) Tx.m97 (pa_cons (pe_asks (i := 0) (fun l h => lm_lv (lms Tx A0 l h)) g.room rfl (by first | exact Or.inl rfl | exact Or.inr (Or.inl rfl) | exact Or.inr (Or.inr rfl)) (de_call g (fnat_lv A.f97) Tx.m97 (da_cons (de_var (i := 3)) da_nil))) pa_nil)) pa_nil))) pa_nil))) (dr_sq (dz_t (de_add (di_var (i := 5)) (di_var (i := 5))))) (dg_many (is := [3, 6]) (pg_tup g.calm (pgs_cons (pg_name (i := 3) sc100.nd rfl (.inl rfl)) (pgs_cons (pg_name (i := 6) sc100.nd rfl (.inl rfl)) pgs_nil)))) (pe_call (i98 Tx hcp (m + 1)) g.room rfl Tx.m98 Tx.F98.kp Tx.B98 .nil pass0 (pa_cons (pv 4) (pa_cons (pv 3) pa_nil))) (dr_r1 (deB de_int) (hm := Tx.n_range)) (dg_one (pg_name (i := 7) sc100.nd rfl (.inl rfl))) (ps_set (i := 8) sc100.nd rfl (.inl rfl) (pe_asks (i := 0) (fun l h => lm_lv (lms Tx A0 l h)) g.room rfl (by first | exact Or.inl rfl | exact Or.inr (Or.inl rfl) | exact Or.inr (Or.inr rfl)) (pv 4))) (dwT (dw_or (dt_cmp (op_neD g.room.units) os_ne (deB (de_var (i := 4))) (deB (de_var (i := 3)))) (dw_or1 (dt_cmp (op_neD g.room.units) os_ne (deB (de_var (i := 8))) (deB (de_var (i := 6))))))) (PE.or (pe_call (FnOk.imp (o129 Tx (m + 1)) spO_lv) g.room rfl Tx.m99 Tx.F99.kp Tx.B99 .nil pass0 (pa_cons (pv 8) pa_nil)) (de_call g (fnat_lv A.f99) Tx.m99 (da_cons (de_var (i := 8)) da_nil))) pe_bl) (dr_rd rfl)
theorem r101 {n : Nat} (Tx : Txt K mg f0 f1 f2 f3 f4 f5 f6 f7 f8 f9 f10 f11 f21 f22 f23 f24 f31 f32 f39 f40 f41 f65 f66 f67 f68 f71 f72 f73 f47 f48 f49 f50 f51 f52 f61 f63 f64 f12 f97 f98 f99 f100 f101 f102 f20 f25 f26 f27 f28 f29 f30 d0 d1 d2 d3 d4 d5 d6 d7 d8 d9 d10 d11 d21 d22 d23 d24 d31 d32 d39 d40 d41 d65 d66 d67 d68 d71 d72 d73 d47 d48 d49 d50 d51 d52 d61 d63 d64 d12 d97 d98 d99 d100 d101 d102 d20 d25 d26 d27 d28 d29 d30 cc101 cc102 ca) (TB : TabB base mg cc101 P101) (hd : ((tbs P101 P102).map (·.1)).Nodup) : FnOk P w K mg base CX0 (n + 1) f101 d101 [] (spRw ⟨K, ca, T.cn⟩ (tbs P101 P102) rows101) :=
  rw_fn (N := N101) (T := T) Tx.F101 sc101 rfl fun A' outer s H E g =>
    rw_ps g (ps_set (i := 0) sc101.nd rfl (.inl rfl) (pe_lst pa_nil))
      (rw_app (l := L110) g (ps_expr (pe_bm PySem.F.plainAttrs_list PySem.F.slot_list_append PySem.F.type_list_append mt_append (pv 0) (pa_cons (pe_tup (pa_cons (pe_mkl (l := L110) LP110 TB rfl rfl (.head _) (hu_of hd (.head _)) rfl) (pa_cons (de_lst (da_cons (de_lst (da_cons (de_tup (da_cons de_int (da_cons de_int da_nil))) (da_cons (de_tup (da_cons de_int (da_cons de_int da_nil))) (da_cons (de_tup (da_cons de_int (da_cons de_int da_nil))) da_nil)))) da_nil)) (pa_cons (de_lst (da_cons (de_lst (da_cons (de_tup (da_cons de_int (da_cons de_int da_nil))) (da_cons (de_tup (da_cons de_int (da_cons de_int da_nil))) (da_cons (de_tup (da_cons de_int (da_cons de_int da_nil))) da_nil)))) da_nil)) pa_nil)))) pa_nil))) rfl rfl
      (rw_app (l := L111) g (ps_expr (pe_bm PySem.F.plainAttrs_list PySem.F.slot_list_append PySem.F.type_list_append mt_append (pv 0) (pa_cons (pe_tup (pa_cons (pe_mkl (l := L111) LP111 TB rfl rfl (.head _) (hu_of hd (.head _)) rfl) (pa_cons (de_lst (da_cons (de_lst (da_cons (de_tup (da_cons de_int (da_cons de_int da_nil))) (da_cons (de_tup (da_cons de_int (da_cons de_int da_nil))) (da_cons (de_tup (da_cons de_int (da_cons de_int da_nil))) da_nil)))) da_nil)) (pa_cons (de_lst (da_cons (de_lst (da_cons (de_tup (da_cons de_int (da_cons de_int da_nil))) (da_cons (de_tup (da_cons de_int (da_cons de_int da_nil))) (da_cons (de_tup (da_cons de_int (da_cons de_int da_nil))) da_nil)))) da_nil)) pa_nil)))) pa_nil))) rfl rfl
      (rw_app (l := L112) g (ps_expr (pe_bm PySem.F.plainAttrs_list PySem.F.slot_list_append PySem.F.type_list_append mt_append (pv 0) (pa_cons (pe_tup (pa_cons (pe_mkl (l := L112) LP112 TB rfl rfl (.head _) (hu_of hd (.head _)) rfl) (pa_cons (de_lst (da_cons (de_lst (da_cons (de_tup (da_cons de_int (da_cons de_int da_nil))) (da_cons (de_tup (da_cons de_int (da_cons de_int da_nil))) (da_cons (de_tup (da_cons de_int (da_cons de_int da_nil))) da_nil)))) da_nil)) (pa_cons (de_lst (da_cons (de_lst (da_cons (de_tup (da_cons de_int (da_cons de_int da_nil))) (da_cons (de_tup (da_cons de_int (da_cons de_int da_nil))) (da_cons (de_tup (da_cons de_int (da_cons de_int da_nil))) da_nil)))) da_nil)) pa_nil)))) pa_nil))) rfl rfl
      (rw_app (l := L113) g (ps_expr (pe_bm PySem.F.plainAttrs_list PySem.F.slot_list_append PySem.F.type_list_append mt_append (pv 0) (pa_cons (pe_tup (pa_cons (pe_mkl (l := L113) LP113 TB rfl rfl (.head _) (hu_of hd (.head _)) rfl) (pa_cons (de_lst (da_cons (de_lst (da_cons (de_tup (da_cons de_int (da_cons de_int da_nil))) (da_cons (de_tup (da_cons de_int (da_cons de_int da_nil))) (da_cons (de_tup (da_cons de_int (da_cons de_int da_nil))) da_nil)))) da_nil)) (pa_cons (de_lst (da_cons (de_lst (da_cons (de_tup (da_cons de_int (da_cons de_int da_nil))) (da_cons (de_tup (da_cons de_int (da_cons de_int da_nil))) (da_cons (de_tup (da_cons de_int (da_cons de_int da_nil))) da_nil)))) da_nil)) pa_nil)))) pa_nil))) rfl rfl
      (rw_app (l := L114) g (ps_expr (pe_bm PySem.F.plainAttrs_list PySem.F.slot_list_append PySem.F.type_list_append mt_append (pv 0) (pa_cons (pe_tup (pa_cons (pe_mkl (l := L114) LP114 TB rfl rfl (.head _) (hu_of hd (.head _)) rfl) (pa_cons (de_lst (da_cons (de_lst (da_cons (de_tup (da_cons de_int (da_cons de_int da_nil))) da_nil)) da_nil)) (pa_cons (de_lst (da_cons (de_lst (da_cons (de_tup (da_cons de_int (da_cons de_int da_nil))) da_nil)) da_nil)) pa_nil)))) pa_nil))) rfl rfl
      (rw_app (l := L115) g (ps_expr (pe_bm PySem.F.plainAttrs_list PySem.F.slot_list_append PySem.F.type_list_append mt_append (pv 0) (pa_cons (pe_tup (pa_cons (pe_mkl (l := L115) LP115 TB rfl rfl (.head _) (hu_of hd (.head _)) rfl) (pa_cons (de_lst (da_cons (de_lst (da_cons (de_tup (da_cons de_int (da_cons de_int da_nil))) da_nil)) da_nil)) (pa_cons (de_lst (da_cons (de_lst (da_cons (de_tup (da_cons de_int (da_cons de_int da_nil))) da_nil)) da_nil)) pa_nil)))) pa_nil))) rfl rfl
      (rw_app (l := L116) g (ps_expr (pe_bm PySem.F.plainAttrs_list PySem.F.slot_list_append PySem.F.type_list_append mt_append (pv 0) (pa_cons (pe_tup (pa_cons (pe_mkl (l := L116) LP116 TB rfl rfl (.head _) (hu_of hd (.head _)) rfl) (pa_cons (de_lst (da_cons (de_lst (da_cons (de_tup (da_cons de_int (da_cons de_int da_nil))) da_nil)) da_nil)) (pa_cons (de_lst (da_cons (de_lst (da_cons (de_tup (da_cons de_int (da_cons de_int da_nil))) da_nil)) da_nil)) pa_nil)))) pa_nil))) rfl rfl
      (rw_app (l := L117) g (ps_expr (pe_bm PySem.F.plainAttrs_list PySem.F.slot_list_append PySem.F.type_list_append mt_append (pv 0) (pa_cons (pe_tup (pa_cons (pe_mkl (l := L117) LP117 TB rfl rfl (.head _) (hu_of hd (.head _)) rfl) (pa_cons (de_lst (da_cons (de_lst (da_cons (de_tup (da_cons de_int da_nil)) da_nil)) (da_cons (de_lst (da_cons (de_tup (da_cons de_int da_nil)) da_nil)) da_nil))) (pa_cons (de_lst (da_cons (de_lst (da_cons (de_tup (da_cons de_int da_nil)) da_nil)) (da_cons (de_lst (da_cons (de_tup (da_cons de_int da_nil)) da_nil)) da_nil))) pa_nil)))) pa_nil))) rfl rfl
      (rw_app (l := L118) g (ps_expr (pe_bm PySem.F.plainAttrs_list PySem.F.slot_list_append PySem.F.type_list_append mt_append (pv 0) (pa_cons (pe_tup (pa_cons (pe_mkl (l := L118) LP118 TB rfl rfl (.head _) (hu_of hd (.head _)) rfl) (pa_cons (de_lst (da_cons (de_lst (da_cons (de_tup (da_cons de_int da_nil)) da_nil)) (da_cons (de_lst (da_cons (de_tup (da_cons de_int da_nil)) da_nil)) da_nil))) (pa_cons (de_lst (da_cons (de_lst (da_cons (de_tup (da_cons de_int da_nil)) da_nil)) (da_cons (de_lst (da_cons (de_tup (da_cons de_int da_nil)) da_nil)) da_nil))) pa_nil)))) pa_nil))) rfl rfl
      (rw_app (l := L119) g (ps_expr (pe_bm PySem.F.plainAttrs_list PySem.F.slot_list_append PySem.F.type_list_append mt_append (pv 0) (pa_cons (pe_tup (pa_cons (pe_mkl (l := L119) LP119 TB rfl rfl (.head _) (hu_of hd (.head _)) rfl) (pa_cons (de_lst (da_cons (de_lst (da_cons (de_tup (da_cons de_int (da_cons de_int da_nil))) da_nil)) da_nil)) (pa_cons (de_lst (da_cons (de_lst (da_cons (de_tup (da_cons de_int (da_cons de_int da_nil))) da_nil)) da_nil)) pa_nil)))) pa_nil))) rfl rfl
      (rw_app (l := L120) g (ps_expr (pe_bm PySem.F.plainAttrs_list PySem.F.slot_list_append PySem.F.type_list_append mt_append (pv 0) (pa_cons (pe_tup (pa_cons (pe_mkl (l := L120) LP120 TB rfl rfl (.head _) (hu_of hd (.head _)) rfl) (pa_cons (de_lst (da_cons de_int da_nil)) (pa_cons (de_lst (da_cons de_int da_nil)) pa_nil)))) pa_nil))) rfl rfl
      (rw_app (l := L121) g (ps_expr (pe_bm PySem.F.plainAttrs_list PySem.F.slot_list_append PySem.F.type_list_append mt_append (pv 0) (pa_cons (pe_tup (pa_cons (pe_mkl (l := L121) LP121 TB rfl rfl (.head _) (hu_of hd (.head _)) rfl) (pa_cons (de_lst (da_cons de_int da_nil)) (pa_cons (de_lst (da_cons de_int da_nil)) pa_nil)))) pa_nil))) rfl rfl
      (rw_app (l := L122) g (ps_expr (pe_bm PySem.F.plainAttrs_list PySem.F.slot_list_append PySem.F.type_list_append mt_append (pv 0) (pa_cons (pe_tup (pa_cons (pe_mkl (l := L122) LP122 TB rfl rfl (.head _) (hu_of hd (.head _)) rfl) (pa_cons (de_lst (da_cons de_int da_nil)) (pa_cons (de_lst (da_cons de_int da_nil)) pa_nil)))) pa_nil))) rfl rfl
      (rw_app (l := L123) g (ps_expr (pe_bm PySem.F.plainAttrs_list PySem.F.slot_list_append PySem.F.type_list_append mt_append (pv 0) (pa_cons (pe_tup (pa_cons (pe_mkl (l := L123) LP123 TB rfl rfl (.head _) (hu_of hd (.head _)) rfl) (pa_cons (de_lst (da_cons de_int da_nil)) (pa_cons (de_lst (da_cons de_int da_nil)) pa_nil)))) pa_nil))) rfl rfl
      (rw_app (l := L124) g (ps_expr (pe_bm PySem.F.plainAttrs_list PySem.F.slot_list_append PySem.F.type_list_append mt_append (pv 0) (pa_cons (pe_tup (pa_cons (pe_mkl (l := L124) LP124 TB rfl rfl (.head _) (hu_of hd (.head _)) rfl) (pa_cons (de_lst (da_cons de_int da_nil)) (pa_cons (de_lst (da_cons de_int da_nil)) pa_nil)))) pa_nil))) rfl rfl
      (rw_app (l := L125) g (ps_expr (pe_bm PySem.F.plainAttrs_list PySem.F.slot_list_append PySem.F.type_list_append mt_append (pv 0) (pa_cons (pe_tup (pa_cons (pe_mkl (l := L125) LP125 TB rfl rfl (.head _) (hu_of hd (.head _)) rfl) (pa_cons (de_lst (da_cons (de_lst (da_cons (de_tup (da_cons de_int (da_cons de_int da_nil))) (da_cons (de_tup (da_cons de_int (da_cons de_int da_nil))) (da_cons (de_tup (da_cons de_int (da_cons de_int da_nil))) da_nil)))) da_nil)) (pa_cons (de_lst (da_cons (de_lst (da_cons (de_tup (da_cons de_int (da_cons de_int da_nil))) (da_cons (de_tup (da_cons de_int (da_cons de_int da_nil))) (da_cons (de_tup (da_cons de_int (da_cons de_int da_nil))) da_nil)))) da_nil)) pa_nil)))) pa_nil))) rfl rfl
      (rw_app (l := L126) g (ps_expr (pe_bm PySem.F.plainAttrs_list PySem.F.slot_list_append PySem.F.type_list_append mt_append (pv 0) (pa_cons (pe_tup (pa_cons (pe_mkl (l := L126) LP126 TB rfl rfl (.head _) (hu_of hd (.head _)) rfl) (pa_cons (de_lst (da_cons (de_lst (da_cons (de_tup (da_cons de_int (da_cons de_int da_nil))) (da_cons (de_tup (da_cons de_int (da_cons de_int da_nil))) (da_cons (de_tup (da_cons de_int (da_cons de_int da_nil))) da_nil)))) da_nil)) (pa_cons (de_lst (da_cons (de_lst (da_cons (de_tup (da_cons de_int (da_cons de_int da_nil))) (da_cons (de_tup (da_cons de_int (da_cons de_int da_nil))) (da_cons (de_tup (da_cons de_int (da_cons de_int da_nil))) da_nil)))) da_nil)) pa_nil)))) pa_nil))) rfl rfl
      (rw_end g (pv 0))))))))))))))))))) (by decide)
theorem r102 {n : Nat} (Tx : Txt K mg f0 f1 f2 f3 f4 f5 f6 f7 f8 f9 f10 f11 f21 f22 f23 f24 f31 f32 f39 f40 f41 f65 f66 f67 f68 f71 f72 f73 f47 f48 f49 f50 f51 f52 f61 f63 f64 f12 f97 f98 f99 f100 f101 f102 f20 f25 f26 f27 f28 f29 f30 d0 d1 d2 d3 d4 d5 d6 d7 d8 d9 d10 d11 d21 d22 d23 d24 d31 d32 d39 d40 d41 d65 d66 d67 d68 d71 d72 d73 d47 d48 d49 d50 d51 d52 d61 d63 d64 d12 d97 d98 d99 d100 d101 d102 d20 d25 d26 d27 d28 d29 d30 cc101 cc102 ca) (TB : TabB base mg cc102 P102) (hd : ((tbs P101 P102).map (·.1)).Nodup) : FnOk P w K mg base CX0 (n + 1) f102 d102 [] (spRw ⟨K, ca, T.cn⟩ (tbs P101 P102) rows102) :=
  rw_fn (N := N102) (T := T) Tx.F102 sc102 rfl fun A' outer s H E g =>
    rw_ps g (ps_set (i := 0) sc102.nd rfl (.inl rfl) (pe_lst pa_nil))
      (rw_app (l := L127) g (ps_expr (pe_bm PySem.F.plainAttrs_list PySem.F.slot_list_append PySem.F.type_list_append mt_append (pv 0) (pa_cons (pe_tup (pa_cons (pe_mkl (l := L127) LP127 TB rfl rfl (.tail _ (.head _)) (hu_of hd (.tail _ (.head _))) rfl) (pa_cons (de_lst (da_cons (de_lst (da_cons (de_tup (da_cons de_int (da_cons de_int da_nil))) (da_cons (de_tup (da_cons de_int (da_cons de_int da_nil))) da_nil))) da_nil)) (pa_cons (de_lst (da_cons (de_lst (da_cons (de_tup (da_cons de_int (da_cons de_int da_nil))) (da_cons (de_tup (da_cons de_int (da_cons de_int da_nil))) da_nil))) da_nil)) pa_nil)))) pa_nil))) rfl rfl
      (rw_app (l := L128) g (ps_expr (pe_bm PySem.F.plainAttrs_list PySem.F.slot_list_append PySem.F.type_list_append mt_append (pv 0) (pa_cons (pe_tup (pa_cons (pe_mkl (l := L128) LP128 TB rfl rfl (.tail _ (.head _)) (hu_of hd (.tail _ (.head _))) rfl) (pa_cons (de_lst (da_cons (de_lst (da_cons (de_tup (da_cons de_int (da_cons de_int da_nil))) (da_cons (de_tup (da_cons de_int (da_cons de_int da_nil))) (da_cons (de_tup (da_cons de_int (da_cons de_int da_nil))) (da_cons (de_tup (da_cons de_int (da_cons de_int da_nil))) da_nil))))) da_nil)) (pa_cons (de_lst (da_cons (de_lst (da_cons (de_tup (da_cons de_int (da_cons de_int da_nil))) (da_cons (de_tup (da_cons de_int (da_cons de_int da_nil))) (da_cons (de_tup (da_cons de_int (da_cons de_int da_nil))) da_nil)))) da_nil)) pa_nil)))) pa_nil))) rfl rfl
      (rw_end g (pv 0)))) (by decide)
theorem o20 {m : Nat} (Tx : Txt K mg f0 f1 f2 f3 f4 f5 f6 f7 f8 f9 f10 f11 f21 f22 f23 f24 f31 f32 f39 f40 f41 f65 f66 f67 f68 f71 f72 f73 f47 f48 f49 f50 f51 f52 f61 f63 f64 f12 f97 f98 f99 f100 f101 f102 f20 f25 f26 f27 f28 f29 f30 d0 d1 d2 d3 d4 d5 d6 d7 d8 d9 d10 d11 d21 d22 d23 d24 d31 d32 d39 d40 d41 d65 d66 d67 d68 d71 d72 d73 d47 d48 d49 d50 d51 d52 d61 d63 d64 d12 d97 d98 d99 d100 d101 d102 d20 d25 d26 d27 d28 d29 d30 cc101 cc102 ca) (hcp : ∀ n, 2 ≤ n → ∀ d, leafD d = true → run T n 97 [d] = some d) (TB1 : TabB base mg cc101 P101) (TB2 : TabB base mg cc102 P102) (hd : ((tbs P101 P102).map (·.1)).Nodup) : FnOk P w K mg base CX0 (m + 3) f20 d20 ["_law_script"] (spLaw ⟨K, ca, T.cn⟩ { T with lv := m + 2 } (m + 2) T (m + 1) 12 97 99 129 ls (tbs P101 P102) (rows101 ++ rows102)) :=
  have A : All P w K mg base ca (m + 2) f0 f1 f2 f3 f4 f5 f6 f7 f8 f9 f10 f11 f21 f22 f23 f24 f31 f32 f39 f40 f41 f65 f66 f67 f68 f71 f72 f73 f47 f48 f49 f50 f51 f52 f61 f63 f64 f12 f97 f98 f99 f100 f101 f102 f20 f25 f26 f27 f28 f29 f30 := all Tx (m + 2)
  fn_ts (N := N20) (t := tLaw ⟨K, ca, T.cn⟩ { T with lv := m + 2 } (m + 2) T (m + 1) 12 97 99 129 ls (tbs P101 P102) (rows101 ++ rows102)) Tx.F20 sc20 spLaw_len (fun cdv A' outer s H E g =>
    law_ps (T0 := T) (nd := m + 1) (kl := 12) (kc := 97) (ks := 99) (ko := 129) (ls := ls) g (ps_set (i := 0) sc20.nd rfl (.inl rfl) (de_slH (di_var (i := 0)) (deB de_int))) (ps_set (i := 1) sc20.nd rfl (.inl rfl) (pe_op or_add (pe_call0 (r101 Tx TB1 hd) g.room rfl Tx.m101 Tx.F101.kp Tx.B101 .nil pass0) (pe_call0 (r102 Tx TB2 hd) g.room rfl Tx.m102 Tx.F102.kp Tx.B102 .nil pass0))) (ps_set (i := 2) sc20.nd rfl (.inl rfl) (de_o2 op_modN os_mod (deB (de_abs (deB (de_call g (fnat_lv A.f12) Tx.m12 (da_cons (de_var (i := 0)) (da_cons de_int da_nil)))) (hm := Tx.n_abs))) (deB (de_len (deB (de_var (i := 1))) (hm := Tx.n_len))))) (dr_sq (dz_t (de_add (deI (de_slL (di_var (i := 1)) (deB (de_var (i := 2))))) (deI (de_slH (di_var (i := 1)) (deB (de_var (i := 2)))))))) (dg_many (is := [3, 4, 5]) (pg_tup g.calm (pgs_cons (pg_name (i := 3) sc20.nd rfl (.inl rfl)) (pgs_cons (pg_name (i := 4) sc20.nd rfl (.inl rfl)) (pgs_cons (pg_name (i := 5) sc20.nd rfl (.inl rfl)) pgs_nil))))) (pe_call (o100 Tx hcp) g.room rfl Tx.m100 Tx.F100.kp Tx.B100 .nil pass0 (pa_cons (pv 3) (pa_cons (pv 4) (pa_cons (pv 5) pa_nil)))) pe_bl (by decide)) (law_rd rfl)
end
theorem all_mk {l : PySem.W.OpenLaw} {w : World} {K : PySem.W.Frag} {h : Heap} {mg : Str → Option Value} {fa : Addr} {q : Program} (X : K.In h) (G : h.Ns mainGlobals mg) (hfa : mg "law" = some (.ref fa))
    (tabs : ∀ y e c p, (recsOf q).find? (fun e => e.name == y) = some e → PySem.W.tabIn K y = some (c, p) → PySem.W.CodeHd h c p ∧ h.get? p = some (PySem.W.tabObj #[]))
    (hcp : ∀ n, 2 ≤ n → ∀ d, leafD d = true → run T n 97 [d] = some d) (main : ∀ ns : List Int, ns.length ≤ 63 → okLaw { T with lv := 39 } 39 T 38 12 97 99 129 ls (rows101 ++ rows102) ns)
    (zcg : PySem.W.specialIn K (.builtin "object.__class__") "__get__" = some (some (.builtin "getset_descriptor.__get__"))) (zct : PySem.W.takesIn K (.builtin "object.__class__") = some true)
    {D0 D1 D2 D3 D4 D5 D6 f25 f26 f27 f28 f29 f30 fI2 fI4 fI5 fI6 : Addr}
    (aD0 : PySem.W.nsIn K mainGlobals "Answer" = some (some (.ref D0)))
    (aD1 : PySem.W.nsIn K mainGlobals "Clear" = some (some (.ref D1)))
    (aD2 : PySem.W.nsIn K mainGlobals "Line" = some (some (.ref D2)))
    (aD3 : PySem.W.nsIn K mainGlobals "Closed" = some (some (.ref D3)))
    (aD4 : PySem.W.nsIn K mainGlobals "More" = some (some (.ref D4)))
    (aD5 : PySem.W.nsIn K mainGlobals "So" = some (some (.ref D5)))
    (aD6 : PySem.W.nsIn K mainGlobals "Cases" = some (some (.ref D6)))
    (hpg1 : PySem.W.plainGet K D1 Str.empty = true)
    (hhd1 : PySem.W.hasDictIn K D1 = true)
    (hpo1 : PySem.W.plainOver K D1 = true)
    (hsa1 : PySem.W.findIn K (.ref D1) "__setattr__" = some (some (.builtin "object.__setattr__")))
    (hcz1 : PySem.W.findIn K (.ref D1) "__class__" = some (some (.builtin "object.__class__")))
    (hcm1 : PySem.W.mroIn K D1 (.type "object") = some true)
    (hsh1 : PySem.W.findIn K (.ref D1) "shows" = some (some (.ref f25)))
    (hsf1 : PySem.W.isFn K (.ref f25) = true)
    (hmk1 : PySem.W.makesIn K D1 = true)
    (hkC1 : PySem.W.keepIn K (.ref D1) = true)
    (hs0_1 : PySem.W.kitOne K (.ref D1) (.ref D0) = some true)
    (hs1_1 : PySem.W.kitOne K (.ref D1) (.ref D1) = some true)
    (hs2_1 : PySem.W.kitOne K (.ref D1) (.ref D2) = some false)
    (hs3_1 : PySem.W.kitOne K (.ref D1) (.ref D3) = some false)
    (hs4_1 : PySem.W.kitOne K (.ref D1) (.ref D4) = some false)
    (hs5_1 : PySem.W.kitOne K (.ref D1) (.ref D5) = some false)
    (hs6_1 : PySem.W.kitOne K (.ref D1) (.ref D6) = some false)
    (hmi1 : PySem.W.findIn K (.ref D1) "__init__" = some (some (.builtin "object.__init__")))
    (hpg2 : PySem.W.plainGet K D2 Str.empty = true)
    (hhd2 : PySem.W.hasDictIn K D2 = true)
    (hpo2 : PySem.W.plainOver K D2 = true)
    (hsa2 : PySem.W.findIn K (.ref D2) "__setattr__" = some (some (.builtin "object.__setattr__")))
    (hcz2 : PySem.W.findIn K (.ref D2) "__class__" = some (some (.builtin "object.__class__")))
    (hcm2 : PySem.W.mroIn K D2 (.type "object") = some true)
    (hsh2 : PySem.W.findIn K (.ref D2) "shows" = some (some (.ref f26)))
    (hsf2 : PySem.W.isFn K (.ref f26) = true)
    (hmk2 : PySem.W.makesIn K D2 = true)
    (hkC2 : PySem.W.keepIn K (.ref D2) = true)
    (hs0_2 : PySem.W.kitOne K (.ref D2) (.ref D0) = some true)
    (hs1_2 : PySem.W.kitOne K (.ref D2) (.ref D1) = some false)
    (hs2_2 : PySem.W.kitOne K (.ref D2) (.ref D2) = some true)
    (hs3_2 : PySem.W.kitOne K (.ref D2) (.ref D3) = some false)
    (hs4_2 : PySem.W.kitOne K (.ref D2) (.ref D4) = some false)
    (hs5_2 : PySem.W.kitOne K (.ref D2) (.ref D5) = some false)
    (hs6_2 : PySem.W.kitOne K (.ref D2) (.ref D6) = some false)
    (hna2 : PySem.W.findIn K (.ref D2) "points" = some none)
    (hin2 : PySem.W.findIn K (.ref D2) "__init__" = some (some (.ref fI2)))
    (hif2 : PySem.W.isFn K (.ref fI2) = true)
    {odI2 anI2 : Option Addr} {slI2 : Array (Option Value)} {ocI2 kVI2 dcI2 pmI2 cdI2 ctI2 : Value}
    (lI2 : K.lookup fI2 = some ⟨ocI2, odI2, .func (PySem.W.fnOf "__init__" "Line.__init__" (defArgs sI2) (defBody sI2) (defScope sI2) .none kVI2 dcI2 pmI2 anI2 cdI2 ctI2), slI2⟩)
    (cI2 : PySem.W.codeIn K cdI2 "Line.__init__" = true)
    (kI2 : PySem.W.keepIn K (.ref fI2) = true)
    (hpg3 : PySem.W.plainGet K D3 Str.empty = true)
    (hhd3 : PySem.W.hasDictIn K D3 = true)
    (hpo3 : PySem.W.plainOver K D3 = true)
    (hsa3 : PySem.W.findIn K (.ref D3) "__setattr__" = some (some (.builtin "object.__setattr__")))
    (hcz3 : PySem.W.findIn K (.ref D3) "__class__" = some (some (.builtin "object.__class__")))
    (hcm3 : PySem.W.mroIn K D3 (.type "object") = some true)
    (hsh3 : PySem.W.findIn K (.ref D3) "shows" = some (some (.ref f27)))
    (hsf3 : PySem.W.isFn K (.ref f27) = true)
    (hmk3 : PySem.W.makesIn K D3 = true)
    (hkC3 : PySem.W.keepIn K (.ref D3) = true)
    (hs0_3 : PySem.W.kitOne K (.ref D3) (.ref D0) = some true)
    (hs1_3 : PySem.W.kitOne K (.ref D3) (.ref D1) = some false)
    (hs2_3 : PySem.W.kitOne K (.ref D3) (.ref D2) = some false)
    (hs3_3 : PySem.W.kitOne K (.ref D3) (.ref D3) = some true)
    (hs4_3 : PySem.W.kitOne K (.ref D3) (.ref D4) = some false)
    (hs5_3 : PySem.W.kitOne K (.ref D3) (.ref D5) = some false)
    (hs6_3 : PySem.W.kitOne K (.ref D3) (.ref D6) = some false)
    (hmi3 : PySem.W.findIn K (.ref D3) "__init__" = some (some (.builtin "object.__init__")))
    (hpg4 : PySem.W.plainGet K D4 Str.empty = true)
    (hhd4 : PySem.W.hasDictIn K D4 = true)
    (hpo4 : PySem.W.plainOver K D4 = true)
    (hsa4 : PySem.W.findIn K (.ref D4) "__setattr__" = some (some (.builtin "object.__setattr__")))
    (hcz4 : PySem.W.findIn K (.ref D4) "__class__" = some (some (.builtin "object.__class__")))
    (hcm4 : PySem.W.mroIn K D4 (.type "object") = some true)
    (hsh4 : PySem.W.findIn K (.ref D4) "shows" = some (some (.ref f28)))
    (hsf4 : PySem.W.isFn K (.ref f28) = true)
    (hmk4 : PySem.W.makesIn K D4 = true)
    (hkC4 : PySem.W.keepIn K (.ref D4) = true)
    (hs0_4 : PySem.W.kitOne K (.ref D4) (.ref D0) = some true)
    (hs1_4 : PySem.W.kitOne K (.ref D4) (.ref D1) = some false)
    (hs2_4 : PySem.W.kitOne K (.ref D4) (.ref D2) = some false)
    (hs3_4 : PySem.W.kitOne K (.ref D4) (.ref D3) = some false)
    (hs4_4 : PySem.W.kitOne K (.ref D4) (.ref D4) = some true)
    (hs5_4 : PySem.W.kitOne K (.ref D4) (.ref D5) = some false)
    (hs6_4 : PySem.W.kitOne K (.ref D4) (.ref D6) = some false)
    (hna4 : PySem.W.findIn K (.ref D4) "point" = some none)
    (hin4 : PySem.W.findIn K (.ref D4) "__init__" = some (some (.ref fI4)))
    (hif4 : PySem.W.isFn K (.ref fI4) = true)
    {odI4 anI4 : Option Addr} {slI4 : Array (Option Value)} {ocI4 kVI4 dcI4 pmI4 cdI4 ctI4 : Value}
    (lI4 : K.lookup fI4 = some ⟨ocI4, odI4, .func (PySem.W.fnOf "__init__" "More.__init__" (defArgs sI4) (defBody sI4) (defScope sI4) .none kVI4 dcI4 pmI4 anI4 cdI4 ctI4), slI4⟩)
    (cI4 : PySem.W.codeIn K cdI4 "More.__init__" = true)
    (kI4 : PySem.W.keepIn K (.ref fI4) = true)
    (hpg5 : PySem.W.plainGet K D5 Str.empty = true)
    (hhd5 : PySem.W.hasDictIn K D5 = true)
    (hpo5 : PySem.W.plainOver K D5 = true)
    (hsa5 : PySem.W.findIn K (.ref D5) "__setattr__" = some (some (.builtin "object.__setattr__")))
    (hcz5 : PySem.W.findIn K (.ref D5) "__class__" = some (some (.builtin "object.__class__")))
    (hcm5 : PySem.W.mroIn K D5 (.type "object") = some true)
    (hsh5 : PySem.W.findIn K (.ref D5) "shows" = some (some (.ref f29)))
    (hsf5 : PySem.W.isFn K (.ref f29) = true)
    (hmk5 : PySem.W.makesIn K D5 = true)
    (hkC5 : PySem.W.keepIn K (.ref D5) = true)
    (hs0_5 : PySem.W.kitOne K (.ref D5) (.ref D0) = some true)
    (hs1_5 : PySem.W.kitOne K (.ref D5) (.ref D1) = some false)
    (hs2_5 : PySem.W.kitOne K (.ref D5) (.ref D2) = some false)
    (hs3_5 : PySem.W.kitOne K (.ref D5) (.ref D3) = some false)
    (hs4_5 : PySem.W.kitOne K (.ref D5) (.ref D4) = some false)
    (hs5_5 : PySem.W.kitOne K (.ref D5) (.ref D5) = some true)
    (hs6_5 : PySem.W.kitOne K (.ref D5) (.ref D6) = some false)
    (hna5 : PySem.W.findIn K (.ref D5) "points" = some none)
    (hin5 : PySem.W.findIn K (.ref D5) "__init__" = some (some (.ref fI5)))
    (hif5 : PySem.W.isFn K (.ref fI5) = true)
    {odI5 anI5 : Option Addr} {slI5 : Array (Option Value)} {ocI5 kVI5 dcI5 pmI5 cdI5 ctI5 : Value}
    (lI5 : K.lookup fI5 = some ⟨ocI5, odI5, .func (PySem.W.fnOf "__init__" "So.__init__" (defArgs sI5) (defBody sI5) (defScope sI5) .none kVI5 dcI5 pmI5 anI5 cdI5 ctI5), slI5⟩)
    (cI5 : PySem.W.codeIn K cdI5 "So.__init__" = true)
    (kI5 : PySem.W.keepIn K (.ref fI5) = true)
    (hpg6 : PySem.W.plainGet K D6 Str.empty = true)
    (hhd6 : PySem.W.hasDictIn K D6 = true)
    (hpo6 : PySem.W.plainOver K D6 = true)
    (hsa6 : PySem.W.findIn K (.ref D6) "__setattr__" = some (some (.builtin "object.__setattr__")))
    (hcz6 : PySem.W.findIn K (.ref D6) "__class__" = some (some (.builtin "object.__class__")))
    (hcm6 : PySem.W.mroIn K D6 (.type "object") = some true)
    (hsh6 : PySem.W.findIn K (.ref D6) "shows" = some (some (.ref f30)))
    (hsf6 : PySem.W.isFn K (.ref f30) = true)
    (hmk6 : PySem.W.makesIn K D6 = true)
    (hkC6 : PySem.W.keepIn K (.ref D6) = true)
    (hs0_6 : PySem.W.kitOne K (.ref D6) (.ref D0) = some true)
    (hs1_6 : PySem.W.kitOne K (.ref D6) (.ref D1) = some false)
    (hs2_6 : PySem.W.kitOne K (.ref D6) (.ref D2) = some false)
    (hs3_6 : PySem.W.kitOne K (.ref D6) (.ref D3) = some false)
    (hs4_6 : PySem.W.kitOne K (.ref D6) (.ref D4) = some false)
    (hs5_6 : PySem.W.kitOne K (.ref D6) (.ref D5) = some false)
    (hs6_6 : PySem.W.kitOne K (.ref D6) (.ref D6) = some true)
    (hna6 : PySem.W.findIn K (.ref D6) "tree" = some none)
    (hin6 : PySem.W.findIn K (.ref D6) "__init__" = some (some (.ref fI6)))
    (hif6 : PySem.W.isFn K (.ref fI6) = true)
    {odI6 anI6 : Option Addr} {slI6 : Array (Option Value)} {ocI6 kVI6 dcI6 pmI6 cdI6 ctI6 : Value}
    (lI6 : K.lookup fI6 = some ⟨ocI6, odI6, .func (PySem.W.fnOf "__init__" "Cases.__init__" (defArgs sI6) (defBody sI6) (defScope sI6) .none kVI6 dcI6 pmI6 anI6 cdI6 ctI6), slI6⟩)
    (cI6 : PySem.W.codeIn K cdI6 "Cases.__init__" = true)
    (kI6 : PySem.W.keepIn K (.ref fI6) = true)
    {f0 : Addr} {od0 an0 : Option Addr} {sl0 : Array (Option Value)} {oc0 kV0 dc0 pm0 cd0 ct0 : Value}
    (a0 : PySem.W.nsIn K mainGlobals "is_whole" = some (some (.ref f0)))
    (l0 : K.lookup f0 = some ⟨oc0, od0, .func (PySem.W.fnOf "is_whole" "is_whole" (defArgs s0) (defBody s0) (defScope s0) .none kV0 dc0 pm0 an0 cd0 ct0), sl0⟩)
    (c0 : PySem.W.codeIn K cd0 "is_whole" = true)
    (k0 : PySem.W.keepIn K (.ref f0) = true)
    {f1 : Addr} {od1 an1 : Option Addr} {sl1 : Array (Option Value)} {oc1 kV1 dc1 pm1 cd1 ct1 : Value}
    (a1 : PySem.W.nsIn K mainGlobals "is_field" = some (some (.ref f1)))
    (l1 : K.lookup f1 = some ⟨oc1, od1, .func (PySem.W.fnOf "is_field" "is_field" (defArgs s1) (defBody s1) (defScope s1) .none kV1 dc1 pm1 an1 cd1 ct1), sl1⟩)
    (c1 : PySem.W.codeIn K cd1 "is_field" = true)
    (k1 : PySem.W.keepIn K (.ref f1) = true)
    {f2 : Addr} {od2 an2 : Option Addr} {sl2 : Array (Option Value)} {oc2 kV2 dc2 pm2 cd2 ct2 : Value}
    (a2 : PySem.W.nsIn K mainGlobals "check_field" = some (some (.ref f2)))
    (l2 : K.lookup f2 = some ⟨oc2, od2, .func (PySem.W.fnOf "check_field" "check_field" (defArgs s2) (defBody s2) (defScope s2) .none kV2 dc2 pm2 an2 cd2 ct2), sl2⟩)
    (c2 : PySem.W.codeIn K cd2 "check_field" = true)
    (k2 : PySem.W.keepIn K (.ref f2) = true)
    {f3 : Addr} {od3 an3 : Option Addr} {sl3 : Array (Option Value)} {oc3 kV3 dc3 pm3 cd3 ct3 : Value}
    (a3 : PySem.W.nsIn K mainGlobals "places_of" = some (some (.ref f3)))
    (l3 : K.lookup f3 = some ⟨oc3, od3, .func (PySem.W.fnOf "places_of" "places_of" (defArgs s3) (defBody s3) (defScope s3) .none kV3 dc3 pm3 an3 cd3 ct3), sl3⟩)
    (c3 : PySem.W.codeIn K cd3 "places_of" = true)
    (k3 : PySem.W.keepIn K (.ref f3) = true)
    {f4 : Addr} {od4 an4 : Option Addr} {sl4 : Array (Option Value)} {oc4 kV4 dc4 pm4 cd4 ct4 : Value}
    (a4 : PySem.W.nsIn K mainGlobals "numbers_of" = some (some (.ref f4)))
    (l4 : K.lookup f4 = some ⟨oc4, od4, .func (PySem.W.fnOf "numbers_of" "numbers_of" (defArgs s4) (defBody s4) (defScope s4) .none kV4 dc4 pm4 an4 cd4 ct4), sl4⟩)
    (c4 : PySem.W.codeIn K cd4 "numbers_of" = true)
    (k4 : PySem.W.keepIn K (.ref f4) = true)
    {f5 : Addr} {od5 an5 : Option Addr} {sl5 : Array (Option Value)} {oc5 kV5 dc5 pm5 cd5 ct5 : Value}
    (a5 : PySem.W.nsIn K mainGlobals "points_of" = some (some (.ref f5)))
    (l5 : K.lookup f5 = some ⟨oc5, od5, .func (PySem.W.fnOf "points_of" "points_of" (defArgs s5) (defBody s5) (defScope s5) .none kV5 dc5 pm5 an5 cd5 ct5), sl5⟩)
    (c5 : PySem.W.codeIn K cd5 "points_of" = true)
    (k5 : PySem.W.keepIn K (.ref f5) = true)
    {f6 : Addr} {od6 an6 : Option Addr} {sl6 : Array (Option Value)} {oc6 kV6 dc6 pm6 cd6 ct6 : Value}
    (a6 : PySem.W.nsIn K mainGlobals "all_points" = some (some (.ref f6)))
    (l6 : K.lookup f6 = some ⟨oc6, od6, .func (PySem.W.fnOf "all_points" "all_points" (defArgs s6) (defBody s6) (defScope s6) .none kV6 dc6 pm6 an6 cd6 ct6), sl6⟩)
    (c6 : PySem.W.codeIn K cd6 "all_points" = true)
    (k6 : PySem.W.keepIn K (.ref f6) = true)
    {f7 : Addr} {od7 an7 : Option Addr} {sl7 : Array (Option Value)} {oc7 kV7 dc7 pm7 cd7 ct7 : Value}
    (a7 : PySem.W.nsIn K mainGlobals "is_point" = some (some (.ref f7)))
    (l7 : K.lookup f7 = some ⟨oc7, od7, .func (PySem.W.fnOf "is_point" "is_point" (defArgs s7) (defBody s7) (defScope s7) .none kV7 dc7 pm7 an7 cd7 ct7), sl7⟩)
    (c7 : PySem.W.codeIn K cd7 "is_point" = true)
    (k7 : PySem.W.keepIn K (.ref f7) = true)
    {f8 : Addr} {od8 an8 : Option Addr} {sl8 : Array (Option Value)} {oc8 kV8 dc8 pm8 cd8 ct8 : Value}
    (a8 : PySem.W.nsIn K mainGlobals "are_points" = some (some (.ref f8)))
    (l8 : K.lookup f8 = some ⟨oc8, od8, .func (PySem.W.fnOf "are_points" "are_points" (defArgs s8) (defBody s8) (defScope s8) .none kV8 dc8 pm8 an8 cd8 ct8), sl8⟩)
    (c8 : PySem.W.codeIn K cd8 "are_points" = true)
    (k8 : PySem.W.keepIn K (.ref f8) = true)
    {f9 : Addr} {od9 an9 : Option Addr} {sl9 : Array (Option Value)} {oc9 kV9 dc9 pm9 cd9 ct9 : Value}
    (a9 : PySem.W.nsIn K mainGlobals "check_points" = some (some (.ref f9)))
    (l9 : K.lookup f9 = some ⟨oc9, od9, .func (PySem.W.fnOf "check_points" "check_points" (defArgs s9) (defBody s9) (defScope s9) .none kV9 dc9 pm9 an9 cd9 ct9), sl9⟩)
    (c9 : PySem.W.codeIn K cd9 "check_points" = true)
    (k9 : PySem.W.keepIn K (.ref f9) = true)
    {f10 : Addr} {od10 an10 : Option Addr} {sl10 : Array (Option Value)} {oc10 kV10 dc10 pm10 cd10 ct10 : Value}
    (a10 : PySem.W.nsIn K mainGlobals "lined" = some (some (.ref f10)))
    (l10 : K.lookup f10 = some ⟨oc10, od10, .func (PySem.W.fnOf "lined" "lined" (defArgs s10) (defBody s10) (defScope s10) .none kV10 dc10 pm10 an10 cd10 ct10), sl10⟩)
    (c10 : PySem.W.codeIn K cd10 "lined" = true)
    (k10 : PySem.W.keepIn K (.ref f10) = true)
    {f11 : Addr} {od11 an11 : Option Addr} {sl11 : Array (Option Value)} {oc11 kV11 dc11 pm11 cd11 ct11 : Value}
    (a11 : PySem.W.nsIn K mainGlobals "in_line" = some (some (.ref f11)))
    (l11 : K.lookup f11 = some ⟨oc11, od11, .func (PySem.W.fnOf "in_line" "in_line" (defArgs s11) (defBody s11) (defScope s11) .none kV11 dc11 pm11 an11 cd11 ct11), sl11⟩)
    (c11 : PySem.W.codeIn K cd11 "in_line" = true)
    (k11 : PySem.W.keepIn K (.ref f11) = true)
    {f21 : Addr} {od21 an21 : Option Addr} {sl21 : Array (Option Value)} {oc21 kV21 dc21 pm21 cd21 ct21 : Value}
    (a21 : PySem.W.nsIn K mainGlobals "lines_with" = some (some (.ref f21)))
    (l21 : K.lookup f21 = some ⟨oc21, od21, .func (PySem.W.fnOf "lines_with" "lines_with" (defArgs s21) (defBody s21) (defScope s21) .none kV21 dc21 pm21 an21 cd21 ct21), sl21⟩)
    (c21 : PySem.W.codeIn K cd21 "lines_with" = true)
    (k21 : PySem.W.keepIn K (.ref f21) = true)
    {f22 : Addr} {od22 an22 : Option Addr} {sl22 : Array (Option Value)} {oc22 kV22 dc22 pm22 cd22 ct22 : Value}
    (a22 : PySem.W.nsIn K mainGlobals "first_line" = some (some (.ref f22)))
    (l22 : K.lookup f22 = some ⟨oc22, od22, .func (PySem.W.fnOf "first_line" "first_line" (defArgs s22) (defBody s22) (defScope s22) .none kV22 dc22 pm22 an22 cd22 ct22), sl22⟩)
    (c22 : PySem.W.codeIn K cd22 "first_line" = true)
    (k22 : PySem.W.keepIn K (.ref f22) = true)
    {f23 : Addr} {od23 an23 : Option Addr} {sl23 : Array (Option Value)} {oc23 kV23 dc23 pm23 cd23 ct23 : Value}
    (a23 : PySem.W.nsIn K mainGlobals "first_more" = some (some (.ref f23)))
    (l23 : K.lookup f23 = some ⟨oc23, od23, .func (PySem.W.fnOf "first_more" "first_more" (defArgs s23) (defBody s23) (defScope s23) .none kV23 dc23 pm23 an23 cd23 ct23), sl23⟩)
    (c23 : PySem.W.codeIn K cd23 "first_more" = true)
    (k23 : PySem.W.keepIn K (.ref f23) = true)
    {f24 : Addr} {od24 an24 : Option Addr} {sl24 : Array (Option Value)} {oc24 kV24 dc24 pm24 cd24 ct24 : Value}
    (a24 : PySem.W.nsIn K mainGlobals "bars" = some (some (.ref f24)))
    (l24 : K.lookup f24 = some ⟨oc24, od24, .func (PySem.W.fnOf "bars" "bars" (defArgs s24) (defBody s24) (defScope s24) .none kV24 dc24 pm24 an24 cd24 ct24), sl24⟩)
    (c24 : PySem.W.codeIn K cd24 "bars" = true)
    (k24 : PySem.W.keepIn K (.ref f24) = true)
    {f31 : Addr} {od31 an31 : Option Addr} {sl31 : Array (Option Value)} {oc31 kV31 dc31 pm31 cd31 ct31 : Value}
    (a31 : PySem.W.nsIn K mainGlobals "judged" = some (some (.ref f31)))
    (l31 : K.lookup f31 = some ⟨oc31, od31, .func (PySem.W.fnOf "judged" "judged" (defArgs s31) (defBody s31) (defScope s31) .none kV31 dc31 pm31 an31 cd31 ct31), sl31⟩)
    (c31 : PySem.W.codeIn K cd31 "judged" = true)
    (k31 : PySem.W.keepIn K (.ref f31) = true)
    {f32 : Addr} {od32 an32 : Option Addr} {sl32 : Array (Option Value)} {oc32 kV32 dc32 pm32 cd32 ct32 : Value}
    (a32 : PySem.W.nsIn K mainGlobals "threes" = some (some (.ref f32)))
    (l32 : K.lookup f32 = some ⟨oc32, od32, .func (PySem.W.fnOf "threes" "threes" (defArgs s32) (defBody s32) (defScope s32) .none kV32 dc32 pm32 an32 cd32 ct32), sl32⟩)
    (c32 : PySem.W.codeIn K cd32 "threes" = true)
    (k32 : PySem.W.keepIn K (.ref f32) = true)
    {f39 : Addr} {od39 an39 : Option Addr} {sl39 : Array (Option Value)} {oc39 kV39 dc39 pm39 cd39 ct39 : Value}
    (a39 : PySem.W.nsIn K mainGlobals "check_clear" = some (some (.ref f39)))
    (l39 : K.lookup f39 = some ⟨oc39, od39, .func (PySem.W.fnOf "check_clear" "check_clear" (defArgs s39) (defBody s39) (defScope s39) .none kV39 dc39 pm39 an39 cd39 ct39), sl39⟩)
    (c39 : PySem.W.codeIn K cd39 "check_clear" = true)
    (k39 : PySem.W.keepIn K (.ref f39) = true)
    {f40 : Addr} {od40 an40 : Option Addr} {sl40 : Array (Option Value)} {oc40 kV40 dc40 pm40 cd40 ct40 : Value}
    (a40 : PySem.W.nsIn K mainGlobals "closed" = some (some (.ref f40)))
    (l40 : K.lookup f40 = some ⟨oc40, od40, .func (PySem.W.fnOf "closed" "closed" (defArgs s40) (defBody s40) (defScope s40) .none kV40 dc40 pm40 an40 cd40 ct40), sl40⟩)
    (c40 : PySem.W.codeIn K cd40 "closed" = true)
    (k40 : PySem.W.keepIn K (.ref f40) = true)
    {f41 : Addr} {od41 an41 : Option Addr} {sl41 : Array (Option Value)} {oc41 kV41 dc41 pm41 cd41 ct41 : Value}
    (a41 : PySem.W.nsIn K mainGlobals "closed_up" = some (some (.ref f41)))
    (l41 : K.lookup f41 = some ⟨oc41, od41, .func (PySem.W.fnOf "closed_up" "closed_up" (defArgs s41) (defBody s41) (defScope s41) .none kV41 dc41 pm41 an41 cd41 ct41), sl41⟩)
    (c41 : PySem.W.codeIn K cd41 "closed_up" = true)
    (k41 : PySem.W.keepIn K (.ref f41) = true)
    {f65 : Addr} {od65 an65 : Option Addr} {sl65 : Array (Option Value)} {oc65 kV65 dc65 pm65 cd65 ct65 : Value}
    (a65 : PySem.W.nsIn K mainGlobals "parabola" = some (some (.ref f65)))
    (l65 : K.lookup f65 = some ⟨oc65, od65, .func (PySem.W.fnOf "parabola" "parabola" (defArgs s65) (defBody s65) (defScope s65) .none kV65 dc65 pm65 an65 cd65 ct65), sl65⟩)
    (c65 : PySem.W.codeIn K cd65 "parabola" = true)
    (k65 : PySem.W.keepIn K (.ref f65) = true)
    {f66 : Addr} {od66 an66 : Option Addr} {sl66 : Array (Option Value)} {oc66 kV66 dc66 pm66 cd66 ct66 : Value}
    (a66 : PySem.W.nsIn K mainGlobals "bowl" = some (some (.ref f66)))
    (l66 : K.lookup f66 = some ⟨oc66, od66, .func (PySem.W.fnOf "bowl" "bowl" (defArgs s66) (defBody s66) (defScope s66) .none kV66 dc66 pm66 an66 cd66 ct66), sl66⟩)
    (c66 : PySem.W.codeIn K cd66 "bowl" = true)
    (k66 : PySem.W.keepIn K (.ref f66) = true)
    {f67 : Addr} {od67 an67 : Option Addr} {sl67 : Array (Option Value)} {oc67 kV67 dc67 pm67 cd67 ct67 : Value}
    (a67 : PySem.W.nsIn K mainGlobals "check_space" = some (some (.ref f67)))
    (l67 : K.lookup f67 = some ⟨oc67, od67, .func (PySem.W.fnOf "check_space" "check_space" (defArgs s67) (defBody s67) (defScope s67) .none kV67 dc67 pm67 an67 cd67 ct67), sl67⟩)
    (c67 : PySem.W.codeIn K cd67 "check_space" = true)
    (k67 : PySem.W.keepIn K (.ref f67) = true)
    {f68 : Addr} {od68 an68 : Option Addr} {sl68 : Array (Option Value)} {oc68 kV68 dc68 pm68 cd68 ct68 : Value}
    (a68 : PySem.W.nsIn K mainGlobals "crossed" = some (some (.ref f68)))
    (l68 : K.lookup f68 = some ⟨oc68, od68, .func (PySem.W.fnOf "crossed" "crossed" (defArgs s68) (defBody s68) (defScope s68) .none kV68 dc68 pm68 an68 cd68 ct68), sl68⟩)
    (c68 : PySem.W.codeIn K cd68 "crossed" = true)
    (k68 : PySem.W.keepIn K (.ref f68) = true)
    {f71 : Addr} {od71 an71 : Option Addr} {sl71 : Array (Option Value)} {oc71 kV71 dc71 pm71 cd71 ct71 : Value}
    (a71 : PySem.W.nsIn K mainGlobals "is_move" = some (some (.ref f71)))
    (l71 : K.lookup f71 = some ⟨oc71, od71, .func (PySem.W.fnOf "is_move" "is_move" (defArgs s71) (defBody s71) (defScope s71) .none kV71 dc71 pm71 an71 cd71 ct71), sl71⟩)
    (c71 : PySem.W.codeIn K cd71 "is_move" = true)
    (k71 : PySem.W.keepIn K (.ref f71) = true)
    {f72 : Addr} {od72 an72 : Option Addr} {sl72 : Array (Option Value)} {oc72 kV72 dc72 pm72 cd72 ct72 : Value}
    (a72 : PySem.W.nsIn K mainGlobals "moved_point" = some (some (.ref f72)))
    (l72 : K.lookup f72 = some ⟨oc72, od72, .func (PySem.W.fnOf "moved_point" "moved_point" (defArgs s72) (defBody s72) (defScope s72) .none kV72 dc72 pm72 an72 cd72 ct72), sl72⟩)
    (c72 : PySem.W.codeIn K cd72 "moved_point" = true)
    (k72 : PySem.W.keepIn K (.ref f72) = true)
    {f73 : Addr} {od73 an73 : Option Addr} {sl73 : Array (Option Value)} {oc73 kV73 dc73 pm73 cd73 ct73 : Value}
    (a73 : PySem.W.nsIn K mainGlobals "moved" = some (some (.ref f73)))
    (l73 : K.lookup f73 = some ⟨oc73, od73, .func (PySem.W.fnOf "moved" "moved" (defArgs s73) (defBody s73) (defScope s73) .none kV73 dc73 pm73 an73 cd73 ct73), sl73⟩)
    (c73 : PySem.W.codeIn K cd73 "moved" = true)
    (k73 : PySem.W.keepIn K (.ref f73) = true)
    {f47 : Addr} {od47 an47 : Option Addr} {sl47 : Array (Option Value)} {oc47 kV47 dc47 pm47 cd47 ct47 : Value}
    (a47 : PySem.W.nsIn K mainGlobals "check_small" = some (some (.ref f47)))
    (l47 : K.lookup f47 = some ⟨oc47, od47, .func (PySem.W.fnOf "check_small" "check_small" (defArgs s47) (defBody s47) (defScope s47) .none kV47 dc47 pm47 an47 cd47 ct47), sl47⟩)
    (c47 : PySem.W.codeIn K cd47 "check_small" = true)
    (k47 : PySem.W.keepIn K (.ref f47) = true)
    {f48 : Addr} {od48 an48 : Option Addr} {sl48 : Array (Option Value)} {oc48 kV48 dc48 pm48 cd48 ct48 : Value}
    (a48 : PySem.W.nsIn K mainGlobals "check_many" = some (some (.ref f48)))
    (l48 : K.lookup f48 = some ⟨oc48, od48, .func (PySem.W.fnOf "check_many" "check_many" (defArgs s48) (defBody s48) (defScope s48) .none kV48 dc48 pm48 an48 cd48 ct48), sl48⟩)
    (c48 : PySem.W.codeIn K cd48 "check_many" = true)
    (k48 : PySem.W.keepIn K (.ref f48) = true)
    {f49 : Addr} {od49 an49 : Option Addr} {sl49 : Array (Option Value)} {oc49 kV49 dc49 pm49 cd49 ct49 : Value}
    (a49 : PySem.W.nsIn K mainGlobals "first_so" = some (some (.ref f49)))
    (l49 : K.lookup f49 = some ⟨oc49, od49, .func (PySem.W.fnOf "first_so" "first_so" (defArgs s49) (defBody s49) (defScope s49) .none kV49 dc49 pm49 an49 cd49 ct49), sl49⟩)
    (c49 : PySem.W.codeIn K cd49 "first_so" = true)
    (k49 : PySem.W.keepIn K (.ref f49) = true)
    {f50 : Addr} {od50 an50 : Option Addr} {sl50 : Array (Option Value)} {oc50 kV50 dc50 pm50 cd50 ct50 : Value}
    (a50 : PySem.W.nsIn K mainGlobals "line_with" = some (some (.ref f50)))
    (l50 : K.lookup f50 = some ⟨oc50, od50, .func (PySem.W.fnOf "line_with" "line_with" (defArgs s50) (defBody s50) (defScope s50) .none kV50 dc50 pm50 an50 cd50 ct50), sl50⟩)
    (c50 : PySem.W.codeIn K cd50 "line_with" = true)
    (k50 : PySem.W.keepIn K (.ref f50) = true)
    {f51 : Addr} {od51 an51 : Option Addr} {sl51 : Array (Option Value)} {oc51 kV51 dc51 pm51 cd51 ct51 : Value}
    (a51 : PySem.W.nsIn K mainGlobals "tree_of" = some (some (.ref f51)))
    (l51 : K.lookup f51 = some ⟨oc51, od51, .func (PySem.W.fnOf "tree_of" "tree_of" (defArgs s51) (defBody s51) (defScope s51) .none kV51 dc51 pm51 an51 cd51 ct51), sl51⟩)
    (c51 : PySem.W.codeIn K cd51 "tree_of" = true)
    (k51 : PySem.W.keepIn K (.ref f51) = true)
    {f52 : Addr} {od52 an52 : Option Addr} {sl52 : Array (Option Value)} {oc52 kV52 dc52 pm52 cd52 ct52 : Value}
    (a52 : PySem.W.nsIn K mainGlobals "so_many" = some (some (.ref f52)))
    (l52 : K.lookup f52 = some ⟨oc52, od52, .func (PySem.W.fnOf "so_many" "so_many" (defArgs s52) (defBody s52) (defScope s52) .none kV52 dc52 pm52 an52 cd52 ct52), sl52⟩)
    (c52 : PySem.W.codeIn K cd52 "so_many" = true)
    (k52 : PySem.W.keepIn K (.ref f52) = true)
    {f61 : Addr} {od61 an61 : Option Addr} {sl61 : Array (Option Value)} {oc61 kV61 dc61 pm61 cd61 ct61 : Value}
    (a61 : PySem.W.nsIn K mainGlobals "ways_of" = some (some (.ref f61)))
    (l61 : K.lookup f61 = some ⟨oc61, od61, .func (PySem.W.fnOf "ways_of" "ways_of" (defArgs s61) (defBody s61) (defScope s61) .none kV61 dc61 pm61 an61 cd61 ct61), sl61⟩)
    (c61 : PySem.W.codeIn K cd61 "ways_of" = true)
    (k61 : PySem.W.keepIn K (.ref f61) = true)
    {f63 : Addr} {od63 an63 : Option Addr} {sl63 : Array (Option Value)} {oc63 kV63 dc63 pm63 cd63 ct63 : Value}
    (a63 : PySem.W.nsIn K mainGlobals "points_by" = some (some (.ref f63)))
    (l63 : K.lookup f63 = some ⟨oc63, od63, .func (PySem.W.fnOf "points_by" "points_by" (defArgs s63) (defBody s63) (defScope s63) .none kV63 dc63 pm63 an63 cd63 ct63), sl63⟩)
    (c63 : PySem.W.codeIn K cd63 "points_by" = true)
    (k63 : PySem.W.keepIn K (.ref f63) = true)
    {f64 : Addr} {od64 an64 : Option Addr} {sl64 : Array (Option Value)} {oc64 kV64 dc64 pm64 cd64 ct64 : Value}
    (a64 : PySem.W.nsIn K mainGlobals "number_of" = some (some (.ref f64)))
    (l64 : K.lookup f64 = some ⟨oc64, od64, .func (PySem.W.fnOf "number_of" "number_of" (defArgs s64) (defBody s64) (defScope s64) .none kV64 dc64 pm64 an64 cd64 ct64), sl64⟩)
    (c64 : PySem.W.codeIn K cd64 "number_of" = true)
    (k64 : PySem.W.keepIn K (.ref f64) = true)
    {f12 : Addr} {od12 an12 : Option Addr} {sl12 : Array (Option Value)} {oc12 kV12 dc12 pm12 cd12 ct12 : Value}
    (a12 : PySem.W.nsIn K mainGlobals "_law_cell_at" = some (some (.ref f12)))
    (l12 : K.lookup f12 = some ⟨oc12, od12, .func (PySem.W.fnOf "_law_cell_at" "_law_cell_at" (defArgs s12) (defBody s12) (defScope s12) .none kV12 dc12 pm12 an12 cd12 ct12), sl12⟩)
    (c12 : PySem.W.codeIn K cd12 "_law_cell_at" = true)
    (k12 : PySem.W.keepIn K (.ref f12) = true)
    {f97 : Addr} {od97 an97 : Option Addr} {sl97 : Array (Option Value)} {oc97 kV97 dc97 pm97 cd97 ct97 : Value}
    (a97 : PySem.W.nsIn K mainGlobals "_law_copy" = some (some (.ref f97)))
    (l97 : K.lookup f97 = some ⟨oc97, od97, .func (PySem.W.fnOf "_law_copy" "_law_copy" (defArgs s97) (defBody s97) (defScope s97) .none kV97 dc97 pm97 an97 cd97 ct97), sl97⟩)
    (c97 : PySem.W.codeIn K cd97 "_law_copy" = true)
    (k97 : PySem.W.keepIn K (.ref f97) = true)
    {f98 : Addr} {od98 an98 : Option Addr} {sl98 : Array (Option Value)} {oc98 kV98 dc98 pm98 cd98 ct98 : Value}
    (a98 : PySem.W.nsIn K mainGlobals "_law_into" = some (some (.ref f98)))
    (l98 : K.lookup f98 = some ⟨oc98, od98, .func (PySem.W.fnOf "_law_into" "_law_into" (defArgs s98) (defBody s98) (defScope s98) .none kV98 dc98 pm98 an98 cd98 ct98), sl98⟩)
    (c98 : PySem.W.codeIn K cd98 "_law_into" = true)
    (k98 : PySem.W.keepIn K (.ref f98) = true)
    {f99 : Addr} {od99 an99 : Option Addr} {sl99 : Array (Option Value)} {oc99 kV99 dc99 pm99 cd99 ct99 : Value}
    (a99 : PySem.W.nsIn K mainGlobals "_law_spoil" = some (some (.ref f99)))
    (l99 : K.lookup f99 = some ⟨oc99, od99, .func (PySem.W.fnOf "_law_spoil" "_law_spoil" (defArgs s99) (defBody s99) (defScope s99) .none kV99 dc99 pm99 an99 cd99 ct99), sl99⟩)
    (c99 : PySem.W.codeIn K cd99 "_law_spoil" = true)
    (k99 : PySem.W.keepIn K (.ref f99) = true)
    {f100 : Addr} {od100 an100 : Option Addr} {sl100 : Array (Option Value)} {oc100 kV100 dc100 pm100 cd100 ct100 : Value}
    (a100 : PySem.W.nsIn K mainGlobals "_law_door_right" = some (some (.ref f100)))
    (l100 : K.lookup f100 = some ⟨oc100, od100, .func (PySem.W.fnOf "_law_door_right" "_law_door_right" (defArgs s100) (defBody s100) (defScope s100) .none kV100 dc100 pm100 an100 cd100 ct100), sl100⟩)
    (c100 : PySem.W.codeIn K cd100 "_law_door_right" = true)
    (k100 : PySem.W.keepIn K (.ref f100) = true)
    {f101 : Addr} {od101 an101 : Option Addr} {sl101 : Array (Option Value)} {oc101 kV101 dc101 pm101  ct101 : Value} {cc101 : Addr}
    (a101 : PySem.W.nsIn K mainGlobals "_law_rows_one" = some (some (.ref f101)))
    (l101 : K.lookup f101 = some ⟨oc101, od101, .func (PySem.W.fnOf "_law_rows_one" "_law_rows_one" (defArgs s101) (defBody s101) (defScope s101) .none kV101 dc101 pm101 an101 (.ref cc101) ct101), sl101⟩)
    (c101 : PySem.W.codeIn K (.ref cc101) "_law_rows_one" = true)
    (k101 : PySem.W.keepIn K (.ref f101) = true)
    {tv101 : Value} {tw101 : Option Addr} {tx101 : Array Value} {ty101 : Array (Option Value)} {P101 : Addr} {te101 : DefRec}
    (lc101 : K.lookup cc101 = some ⟨tv101, tw101, .fields tx101, ty101⟩)
    (lp101 : tx101[11]? = some (.ref P101))
    (lr101 : (recsOf q).find? (fun e => e.name == ("_law_rows_one" : Str)) = some te101)
    (ln101 : K.lookup P101 = none)
    {f102 : Addr} {od102 an102 : Option Addr} {sl102 : Array (Option Value)} {oc102 kV102 dc102 pm102  ct102 : Value} {cc102 : Addr}
    (a102 : PySem.W.nsIn K mainGlobals "_law_rows_two" = some (some (.ref f102)))
    (l102 : K.lookup f102 = some ⟨oc102, od102, .func (PySem.W.fnOf "_law_rows_two" "_law_rows_two" (defArgs s102) (defBody s102) (defScope s102) .none kV102 dc102 pm102 an102 (.ref cc102) ct102), sl102⟩)
    (c102 : PySem.W.codeIn K (.ref cc102) "_law_rows_two" = true)
    (k102 : PySem.W.keepIn K (.ref f102) = true)
    {tv102 : Value} {tw102 : Option Addr} {tx102 : Array Value} {ty102 : Array (Option Value)} {P102 : Addr} {te102 : DefRec}
    (lc102 : K.lookup cc102 = some ⟨tv102, tw102, .fields tx102, ty102⟩)
    (lp102 : tx102[11]? = some (.ref P102))
    (lr102 : (recsOf q).find? (fun e => e.name == ("_law_rows_two" : Str)) = some te102)
    (ln102 : K.lookup P102 = none)
    {f20 : Addr} {od20 an20 : Option Addr} {sl20 : Array (Option Value)} {oc20 kV20 dc20 pm20 cd20 ct20 : Value}
    (a20 : PySem.W.nsIn K mainGlobals "law" = some (some (.ref f20)))
    (l20 : K.lookup f20 = some ⟨oc20, od20, .func (PySem.W.fnOf "law" "law" (defArgs s20) (defBody s20) (defScope s20) .none kV20 dc20 pm20 an20 cd20 ct20), sl20⟩)
    (c20 : PySem.W.codeIn K cd20 "law" = true)
    (k20 : PySem.W.keepIn K (.ref f20) = true)
    {od25 an25 : Option Addr} {sl25 : Array (Option Value)} {oc25 kV25 dc25 pm25 cd25 ct25 : Value}
    (l25 : K.lookup f25 = some ⟨oc25, od25, .func (PySem.W.fnOf "shows" "Clear.shows" (defArgs s25) (defBody s25) (defScope s25) .none kV25 dc25 pm25 an25 cd25 ct25), sl25⟩)
    (c25 : PySem.W.codeIn K cd25 "Clear.shows" = true)
    (k25 : PySem.W.keepIn K (.ref f25) = true)
    {od26 an26 : Option Addr} {sl26 : Array (Option Value)} {oc26 kV26 dc26 pm26 cd26 ct26 : Value}
    (l26 : K.lookup f26 = some ⟨oc26, od26, .func (PySem.W.fnOf "shows" "Line.shows" (defArgs s26) (defBody s26) (defScope s26) .none kV26 dc26 pm26 an26 cd26 ct26), sl26⟩)
    (c26 : PySem.W.codeIn K cd26 "Line.shows" = true)
    (k26 : PySem.W.keepIn K (.ref f26) = true)
    {od27 an27 : Option Addr} {sl27 : Array (Option Value)} {oc27 kV27 dc27 pm27 cd27 ct27 : Value}
    (l27 : K.lookup f27 = some ⟨oc27, od27, .func (PySem.W.fnOf "shows" "Closed.shows" (defArgs s27) (defBody s27) (defScope s27) .none kV27 dc27 pm27 an27 cd27 ct27), sl27⟩)
    (c27 : PySem.W.codeIn K cd27 "Closed.shows" = true)
    (k27 : PySem.W.keepIn K (.ref f27) = true)
    {od28 an28 : Option Addr} {sl28 : Array (Option Value)} {oc28 kV28 dc28 pm28 cd28 ct28 : Value}
    (l28 : K.lookup f28 = some ⟨oc28, od28, .func (PySem.W.fnOf "shows" "More.shows" (defArgs s28) (defBody s28) (defScope s28) .none kV28 dc28 pm28 an28 cd28 ct28), sl28⟩)
    (c28 : PySem.W.codeIn K cd28 "More.shows" = true)
    (k28 : PySem.W.keepIn K (.ref f28) = true)
    {od29 an29 : Option Addr} {sl29 : Array (Option Value)} {oc29 kV29 dc29 pm29 cd29 ct29 : Value}
    (l29 : K.lookup f29 = some ⟨oc29, od29, .func (PySem.W.fnOf "shows" "So.shows" (defArgs s29) (defBody s29) (defScope s29) .none kV29 dc29 pm29 an29 cd29 ct29), sl29⟩)
    (c29 : PySem.W.codeIn K cd29 "So.shows" = true)
    (k29 : PySem.W.keepIn K (.ref f29) = true)
    {od30 an30 : Option Addr} {sl30 : Array (Option Value)} {oc30 kV30 dc30 pm30 cd30 ct30 : Value}
    (l30 : K.lookup f30 = some ⟨oc30, od30, .func (PySem.W.fnOf "shows" "Cases.shows" (defArgs s30) (defBody s30) (defScope s30) .none kV30 dc30 pm30 an30 cd30 ct30), sl30⟩)
    (c30 : PySem.W.codeIn K cd30 "Cases.shows" = true)
    (k30 : PySem.W.keepIn K (.ref f30) = true)
    (hd : ((tbs P101 P102).map (·.1)).Nodup)
    (z_abs : PySem.W.nsIn K mainGlobals "abs" = some none)
    (z_all : PySem.W.nsIn K mainGlobals "all" = some none)
    (z_any : PySem.W.nsIn K mainGlobals "any" = some none)
    (z_bool : PySem.W.nsIn K mainGlobals "bool" = some none)
    (z_enumerate : PySem.W.nsIn K mainGlobals "enumerate" = some none)
    (z_int : PySem.W.nsIn K mainGlobals "int" = some none)
    (z_isinstance : PySem.W.nsIn K mainGlobals "isinstance" = some none)
    (z_len : PySem.W.nsIn K mainGlobals "len" = some none)
    (z_list : PySem.W.nsIn K mainGlobals "list" = some none)
    (z_range : PySem.W.nsIn K mainGlobals "range" = some none)
    (z_sorted : PySem.W.nsIn K mainGlobals "sorted" = some none)
    (z_str : PySem.W.nsIn K mainGlobals "str" = some none)
    (z_sum : PySem.W.nsIn K mainGlobals "sum" = some none)
    (z_tuple : PySem.W.nsIn K mainGlobals "tuple" = some none)
    (z_zip : PySem.W.nsIn K mainGlobals "zip" = some none)
    {t_GREATEST_FLOOR : Tok}
    (g_GREATEST_FLOOR : PySem.W.nsIn K mainGlobals "GREATEST_FLOOR" = some (some (.int 12 t_GREATEST_FLOOR)))
    {t_GREATEST_SPACE : Tok}
    (g_GREATEST_SPACE : PySem.W.nsIn K mainGlobals "GREATEST_SPACE" = some (some (.int 4 t_GREATEST_SPACE)))
    {p_PRIMES : Addr} {q_PRIMES : Option Addr} {n_PRIMES : Nat} {r_PRIMES : Array (Option Value)} {t_PRIMES_0 t_PRIMES_1 t_PRIMES_2 t_PRIMES_3 t_PRIMES_4 t_PRIMES_5 : Tok}
    (g_PRIMES : PySem.W.nsIn K mainGlobals "PRIMES" = some (some (.ref p_PRIMES)))
    (h_PRIMES : K.lookup p_PRIMES = some ⟨.type "tuple", q_PRIMES, .seq #[.int 2 t_PRIMES_0, .int 3 t_PRIMES_1, .int 5 t_PRIMES_2, .int 7 t_PRIMES_3, .int 11 t_PRIMES_4, .int 13 t_PRIMES_5] n_PRIMES, r_PRIMES⟩)
    {t_SMALL : Tok}
    (g_SMALL : PySem.W.nsIn K mainGlobals "SMALL" = some (some (.int 16 t_SMALL)))
    : LawAtS l w K CX0 40 63 "_law_script" mg fa h := by
  have e := hfa.symm.trans (PySem.W.mg_of X G a20)
  obtain rfl : fa = f20 := by injection (Option.some.inj e)
  let ca : Nat → Addr := (fun i => match i with | 0 => D0 | 1 => D1 | 2 => D2 | 3 => D3 | 4 => D4 | 5 => D5 | 6 => D6 | _ => 0)
  have F0 := fun_mk (st := s0) l0 c0 k0
  have b0 := F0.binds (ps := ["thing"]) fun _ _ _ _ _ _ us hl => match us, hl with | [_], _ => rfl
  have F1 := fun_mk (st := s1) l1 c1 k1
  have b1 := F1.binds (ps := ["thing"]) fun _ _ _ _ _ _ us hl => match us, hl with | [_], _ => rfl
  have F2 := fun_mk (st := s2) l2 c2 k2
  have b2 := F2.binds (ps := ["field"]) fun _ _ _ _ _ _ us hl => match us, hl with | [_], _ => rfl
  have F3 := fun_mk (st := s3) l3 c3 k3
  have b3 := F3.binds (ps := ["field"]) fun _ _ _ _ _ _ us hl => match us, hl with | [_], _ => rfl
  have F4 := fun_mk (st := s4) l4 c4 k4
  have b4 := F4.binds (ps := ["field"]) fun _ _ _ _ _ _ us hl => match us, hl with | [_], _ => rfl
  have F5 := fun_mk (st := s5) l5 c5 k5
  have b5 := F5.binds (ps := ["field"]) fun _ _ _ _ _ _ us hl => match us, hl with | [_], _ => rfl
  have F6 := fun_mk (st := s6) l6 c6 k6
  have b6 := F6.binds (ps := ["field"]) fun _ _ _ _ _ _ us hl => match us, hl with | [_], _ => rfl
  have F7 := fun_mk (st := s7) l7 c7 k7
  have b7 := F7.binds (ps := ["field", "thing"]) fun _ _ _ _ _ _ us hl => match us, hl with | [_, _], _ => rfl
  have F8 := fun_mk (st := s8) l8 c8 k8
  have b8 := F8.binds (ps := ["field", "thing"]) fun _ _ _ _ _ _ us hl => match us, hl with | [_, _], _ => rfl
  have F9 := fun_mk (st := s9) l9 c9 k9
  have b9 := F9.binds (ps := ["field", "points"]) fun _ _ _ _ _ _ us hl => match us, hl with | [_, _], _ => rfl
  have F10 := fun_mk (st := s10) l10 c10 k10
  have b10 := F10.binds (ps := ["field", "one", "two", "three"]) fun _ _ _ _ _ _ us hl => match us, hl with | [_, _, _, _], _ => rfl
  have F11 := fun_mk (st := s11) l11 c11 k11
  have b11 := F11.binds (ps := ["field", "points"]) fun _ _ _ _ _ _ us hl => match us, hl with | [_, _], _ => rfl
  have F21 := fun_mk (st := s21) l21 c21 k21
  have b21 := F21.binds (ps := ["field", "points", "point"]) fun _ _ _ _ _ _ us hl => match us, hl with | [_, _, _], _ => rfl
  have F22 := fun_mk (st := s22) l22 c22 k22
  have b22 := F22.binds (ps := ["field", "points"]) fun _ _ _ _ _ _ us hl => match us, hl with | [_, _], _ => rfl
  have F23 := fun_mk (st := s23) l23 c23 k23
  have b23 := F23.binds (ps := ["field", "points"]) fun _ _ _ _ _ _ us hl => match us, hl with | [_, _], _ => rfl
  have F24 := fun_mk (st := s24) l24 c24 k24
  have b24 := F24.binds (ps := ["field", "many", "tree", "chosen", "asked"]) fun _ _ _ _ _ _ us hl => match us, hl with | [_, _, _, _, _], _ => rfl
  have F31 := fun_mk (st := s31) l31 c31 k31
  have b31 := F31.binds (ps := ["field", "points"]) fun _ _ _ _ _ _ us hl => match us, hl with | [_, _], _ => rfl
  have F32 := fun_mk (st := s32) l32 c32 k32
  have b32 := F32.binds (ps := ["field", "points"]) fun _ _ _ _ _ _ us hl => match us, hl with | [_, _], _ => rfl
  have F39 := fun_mk (st := s39) l39 c39 k39
  have b39 := F39.binds (ps := ["field", "points"]) fun _ _ _ _ _ _ us hl => match us, hl with | [_, _], _ => rfl
  have F40 := fun_mk (st := s40) l40 c40 k40
  have b40 := F40.binds (ps := ["field", "points"]) fun _ _ _ _ _ _ us hl => match us, hl with | [_, _], _ => rfl
  have F41 := fun_mk (st := s41) l41 c41 k41
  have b41 := F41.binds (ps := ["field", "points"]) fun _ _ _ _ _ _ us hl => match us, hl with | [_, _], _ => rfl
  have F65 := fun_mk (st := s65) l65 c65 k65
  have b65 := F65.binds (ps := ["field"]) fun _ _ _ _ _ _ us hl => match us, hl with | [_], _ => rfl
  have F66 := fun_mk (st := s66) l66 c66 k66
  have b66 := F66.binds (ps := []) fun _ _ _ _ _ _ us hl => match us, hl with | [], _ => rfl
  have F67 := fun_mk (st := s67) l67 c67 k67
  have b67 := F67.binds (ps := ["field", "points"]) fun _ _ _ _ _ _ us hl => match us, hl with | [_, _], _ => rfl
  have F68 := fun_mk (st := s68) l68 c68 k68
  have b68 := F68.binds (ps := ["first", "points", "second", "others"]) fun _ _ _ _ _ _ us hl => match us, hl with | [_, _, _, _], _ => rfl
  have F71 := fun_mk (st := s71) l71 c71 k71
  have b71 := F71.binds (ps := ["field", "thing"]) fun _ _ _ _ _ _ us hl => match us, hl with | [_, _], _ => rfl
  have F72 := fun_mk (st := s72) l72 c72 k72
  have b72 := F72.binds (ps := ["field", "point", "move"]) fun _ _ _ _ _ _ us hl => match us, hl with | [_, _, _], _ => rfl
  have F73 := fun_mk (st := s73) l73 c73 k73
  have b73 := F73.binds (ps := ["field", "points", "move"]) fun _ _ _ _ _ _ us hl => match us, hl with | [_, _, _], _ => rfl
  have F47 := fun_mk (st := s47) l47 c47 k47
  have b47 := F47.binds (ps := ["field"]) fun _ _ _ _ _ _ us hl => match us, hl with | [_], _ => rfl
  have F48 := fun_mk (st := s48) l48 c48 k48
  have b48 := F48.binds (ps := ["field", "many"]) fun _ _ _ _ _ _ us hl => match us, hl with | [_, _], _ => rfl
  have F49 := fun_mk (st := s49) l49 c49 k49
  have b49 := F49.binds (ps := ["field", "many", "chosen", "left"]) fun _ _ _ _ _ _ us hl => match us, hl with | [_, _, _, _], _ => rfl
  have F50 := fun_mk (st := s50) l50 c50 k50
  have b50 := F50.binds (ps := ["field", "chosen"]) fun _ _ _ _ _ _ us hl => match us, hl with | [_, _], _ => rfl
  have F51 := fun_mk (st := s51) l51 c51 k51
  have b51 := F51.binds (ps := ["field", "many", "chosen", "left"]) fun _ _ _ _ _ _ us hl => match us, hl with | [_, _, _, _], _ => rfl
  have F52 := fun_mk (st := s52) l52 c52 k52
  have b52 := F52.binds (ps := ["field", "many"]) fun _ _ _ _ _ _ us hl => match us, hl with | [_, _], _ => rfl
  have F61 := fun_mk (st := s61) l61 c61 k61
  have b61 := F61.binds (ps := ["field", "many", "chosen", "left"]) fun _ _ _ _ _ _ us hl => match us, hl with | [_, _, _, _], _ => rfl
  have F63 := fun_mk (st := s63) l63 c63 k63
  have b63 := F63.binds (ps := ["field", "many", "number"]) fun _ _ _ _ _ _ us hl => match us, hl with | [_, _, _], _ => rfl
  have F64 := fun_mk (st := s64) l64 c64 k64
  have b64 := F64.binds (ps := ["field", "points"]) fun _ _ _ _ _ _ us hl => match us, hl with | [_, _], _ => rfl
  have F12 := fun_mk (st := s12) l12 c12 k12
  have b12 := F12.binds (ps := ["_law_script", "_law_k"]) fun _ _ _ _ _ _ us hl => match us, hl with | [_, _], _ => rfl
  have F97 := fun_mk (st := s97) l97 c97 k97
  have b97 := F97.binds (ps := ["_law_thing"]) fun _ _ _ _ _ _ us hl => match us, hl with | [_], _ => rfl
  have F98 := fun_mk (st := s98) l98 c98 k98
  have b98 := F98.binds (ps := ["_law_handed", "_law_new"]) fun _ _ _ _ _ _ us hl => match us, hl with | [_, _], _ => rfl
  have F99 := fun_mk (st := s99) l99 c99 k99
  have b99 := F99.binds (ps := ["_law_found"]) fun _ _ _ _ _ _ us hl => match us, hl with | [_], _ => rfl
  have F100 := fun_mk (st := s100) l100 c100 k100
  have b100 := F100.binds (ps := ["_law_ask", "_law_first", "_law_second"]) fun _ _ _ _ _ _ us hl => match us, hl with | [_, _, _], _ => rfl
  have F101 : FunC K "_law_rows_one" "_law_rows_one" s101 _ _ cc101 := ⟨⟨oc101, od101, kV101, dc101, pm101, an101, ct101, sl101, rfl, l101, c101⟩, k101⟩
  have b101 := F101.fn.binds (ps := []) fun _ _ _ _ _ _ us hl => match us, hl with | [], _ => rfl
  have F102 : FunC K "_law_rows_two" "_law_rows_two" s102 _ _ cc102 := ⟨⟨oc102, od102, kV102, dc102, pm102, an102, ct102, sl102, rfl, l102, c102⟩, k102⟩
  have b102 := F102.fn.binds (ps := []) fun _ _ _ _ _ _ us hl => match us, hl with | [], _ => rfl
  have F20 := fun_mk (st := s20) l20 c20 k20
  have b20 := F20.binds (ps := ["_law_script"]) fun _ _ _ _ _ _ us hl => match us, hl with | [_], _ => rfl
  have F25 := fun_mk (st := s25) l25 c25 k25
  have b25 := F25.binds (ps := ["self", "field", "points"]) fun _ _ _ _ _ _ us hl => match us, hl with | [_, _, _], _ => rfl
  have F26 := fun_mk (st := s26) l26 c26 k26
  have b26 := F26.binds (ps := ["self", "field", "points"]) fun _ _ _ _ _ _ us hl => match us, hl with | [_, _, _], _ => rfl
  have F27 := fun_mk (st := s27) l27 c27 k27
  have b27 := F27.binds (ps := ["self", "field", "points"]) fun _ _ _ _ _ _ us hl => match us, hl with | [_, _, _], _ => rfl
  have F28 := fun_mk (st := s28) l28 c28 k28
  have b28 := F28.binds (ps := ["self", "field", "points"]) fun _ _ _ _ _ _ us hl => match us, hl with | [_, _, _], _ => rfl
  have F29 := fun_mk (st := s29) l29 c29 k29
  have b29 := F29.binds (ps := ["self", "field", "many"]) fun _ _ _ _ _ _ us hl => match us, hl with | [_, _, _], _ => rfl
  have F30 := fun_mk (st := s30) l30 c30 k30
  have b30 := F30.binds (ps := ["self", "field", "many"]) fun _ _ _ _ _ _ us hl => match us, hl with | [_, _, _], _ => rfl
  have FI2 := fun_mk (st := sI2) lI2 cI2 kI2
  have bI2 := FI2.binds (ps := ["self", "points"]) fun _ _ _ _ _ _ us hl => match us, hl with | [_, _], _ => rfl
  have FI4 := fun_mk (st := sI4) lI4 cI4 kI4
  have bI4 := FI4.binds (ps := ["self", "point"]) fun _ _ _ _ _ _ us hl => match us, hl with | [_, _], _ => rfl
  have FI5 := fun_mk (st := sI5) lI5 cI5 kI5
  have bI5 := FI5.binds (ps := ["self", "points"]) fun _ _ _ _ _ _ us hl => match us, hl with | [_, _], _ => rfl
  have FI6 := fun_mk (st := sI6) lI6 cI6 kI6
  have bI6 := FI6.binds (ps := ["self", "tree"]) fun _ _ _ _ _ _ us hl => match us, hl with | [_, _], _ => rfl
  have Tx : Txt K mg f0 f1 f2 f3 f4 f5 f6 f7 f8 f9 f10 f11 f21 f22 f23 f24 f31 f32 f39 f40 f41 f65 f66 f67 f68 f71 f72 f73 f47 f48 f49 f50 f51 f52 f61 f63 f64 f12 f97 f98 f99 f100 f101 f102 fa f25 f26 f27 f28 f29 f30 _ _ _ _ _ _ _ _ _ _ _ _ _ _ _ _ _ _ _ _ _ _ _ _ _ _ _ _ _ _ _ _ _ _ _ _ _ _ _ _ _ _ _ _ _ _ _ _ _ _ _ cc101 cc102 ca := ⟨F0, b0, PySem.W.mg_of X G a0, F1, b1, PySem.W.mg_of X G a1, F2, b2, PySem.W.mg_of X G a2, F3, b3, PySem.W.mg_of X G a3, F4, b4, PySem.W.mg_of X G a4, F5, b5, PySem.W.mg_of X G a5, F6, b6, PySem.W.mg_of X G a6, F7, b7, PySem.W.mg_of X G a7, F8, b8, PySem.W.mg_of X G a8, F9, b9, PySem.W.mg_of X G a9, F10, b10, PySem.W.mg_of X G a10, F11, b11, PySem.W.mg_of X G a11, F21, b21, PySem.W.mg_of X G a21, F22, b22, PySem.W.mg_of X G a22, F23, b23, PySem.W.mg_of X G a23, F24, b24, PySem.W.mg_of X G a24, F31, b31, PySem.W.mg_of X G a31, F32, b32, PySem.W.mg_of X G a32, F39, b39, PySem.W.mg_of X G a39, F40, b40, PySem.W.mg_of X G a40, F41, b41, PySem.W.mg_of X G a41, F65, b65, PySem.W.mg_of X G a65, F66, b66, PySem.W.mg_of X G a66, F67, b67, PySem.W.mg_of X G a67, F68, b68, PySem.W.mg_of X G a68, F71, b71, PySem.W.mg_of X G a71, F72, b72, PySem.W.mg_of X G a72, F73, b73, PySem.W.mg_of X G a73, F47, b47, PySem.W.mg_of X G a47, F48, b48, PySem.W.mg_of X G a48, F49, b49, PySem.W.mg_of X G a49, F50, b50, PySem.W.mg_of X G a50, F51, b51, PySem.W.mg_of X G a51, F52, b52, PySem.W.mg_of X G a52, F61, b61, PySem.W.mg_of X G a61, F63, b63, PySem.W.mg_of X G a63, F64, b64, PySem.W.mg_of X G a64, F12, b12, PySem.W.mg_of X G a12, F97, b97, PySem.W.mg_of X G a97, F98, b98, PySem.W.mg_of X G a98, F99, b99, PySem.W.mg_of X G a99, F100, b100, PySem.W.mg_of X G a100, F101, b101, PySem.W.mg_of X G a101, F102, b102, PySem.W.mg_of X G a102, F20, b20, PySem.W.mg_of X G a20, F25, b25, F26, b26, F27, b27, F28, b28, F29, b29, F30, b30, PySem.W.mg_none_of X G z_abs, PySem.W.mg_none_of X G z_all, PySem.W.mg_none_of X G z_any, PySem.W.mg_none_of X G z_bool, PySem.W.mg_none_of X G z_enumerate, PySem.W.mg_none_of X G z_int, PySem.W.mg_none_of X G z_isinstance, PySem.W.mg_none_of X G z_len, PySem.W.mg_none_of X G z_list, PySem.W.mg_none_of X G z_range, PySem.W.mg_none_of X G z_sorted, PySem.W.mg_none_of X G z_str, PySem.W.mg_none_of X G z_sum, PySem.W.mg_none_of X G z_tuple, PySem.W.mg_none_of X G z_zip, ⟨_, PySem.W.mg_of X G g_GREATEST_FLOOR⟩, ⟨_, PySem.W.mg_of X G g_GREATEST_SPACE⟩, ⟨_, _, _, _, PySem.W.mg_of X G g_PRIMES, h_PRIMES, rfl, rfl, (.cons ⟨_, rfl⟩ (.cons ⟨_, rfl⟩ (.cons ⟨_, rfl⟩ (.cons ⟨_, rfl⟩ (.cons ⟨_, rfl⟩ (.cons ⟨_, rfl⟩ .nil)))))), by decide⟩, ⟨_, PySem.W.mg_of X G g_SMALL⟩, PySem.W.mg_of X G aD0, PySem.W.mg_of X G aD1, PySem.W.mg_of X G aD2, PySem.W.mg_of X G aD3, PySem.W.mg_of X G aD4, PySem.W.mg_of X G aD5, PySem.W.mg_of X G aD6, ⟨⟨hpg1, hhd1, hpo1, hsa1⟩, hcz1, zcg, zct, hcm1⟩, ⟨hsh1, hsf1, k25⟩, hs0_1, hs1_1, hs2_1, hs3_1, hs4_1, hs5_1, hs6_1, hmk1, hmi1, hkC1, ⟨⟨hpg2, hhd2, hpo2, hsa2⟩, hcz2, zcg, zct, hcm2⟩, ⟨hsh2, hsf2, k26⟩, hs0_2, hs1_2, hs2_2, hs3_2, hs4_2, hs5_2, hs6_2, hna2, ⟨_, _, ⟨hmk2, hin2, hif2, hkC2⟩, FI2, bI2⟩, ⟨⟨hpg3, hhd3, hpo3, hsa3⟩, hcz3, zcg, zct, hcm3⟩, ⟨hsh3, hsf3, k27⟩, hs0_3, hs1_3, hs2_3, hs3_3, hs4_3, hs5_3, hs6_3, hmk3, hmi3, hkC3, ⟨⟨hpg4, hhd4, hpo4, hsa4⟩, hcz4, zcg, zct, hcm4⟩, ⟨hsh4, hsf4, k28⟩, hs0_4, hs1_4, hs2_4, hs3_4, hs4_4, hs5_4, hs6_4, hna4, ⟨_, _, ⟨hmk4, hin4, hif4, hkC4⟩, FI4, bI4⟩, ⟨⟨hpg5, hhd5, hpo5, hsa5⟩, hcz5, zcg, zct, hcm5⟩, ⟨hsh5, hsf5, k29⟩, hs0_5, hs1_5, hs2_5, hs3_5, hs4_5, hs5_5, hs6_5, hna5, ⟨_, _, ⟨hmk5, hin5, hif5, hkC5⟩, FI5, bI5⟩, ⟨⟨hpg6, hhd6, hpo6, hsa6⟩, hcz6, zcg, zct, hcm6⟩, ⟨hsh6, hsf6, k30⟩, hs0_6, hs1_6, hs2_6, hs3_6, hs4_6, hs5_6, hs6_6, hna6, ⟨_, _, ⟨hmk6, hin6, hif6, hkC6⟩, FI6, bI6⟩⟩
  have t101 := tabs _ _ _ _ lr101 (tabIn_of a101 l101 rfl lc101 lp101)
  have t102 := tabs _ _ _ _ lr102 (tabIn_of a102 l102 rfl lc102 lp102)
  refine ⟨PySem.W.fnOf "law" "law" (defArgs s20) (defBody s20) (defScope s20) .none kV20 dc20 pm20 an20 cd20 ct20, [(cc101, P101), (cc102, P102)], spLaw ⟨K, ca, T.cn⟩ { T with lv := 39 } 39 T 38 12 97 99 129 ls (tbs P101 P102) (rows101 ++ rows102), (alls t101.2 (all1 t102.2)), (alls ln101 (all1 ln102)), (alls t101.1 (all1 t102.1)), ?hb, fun H a ns hl _ hT hS => ?h1, fun base _ _ hB => ?h2⟩
  case h1 => exact ⟨a, ns, rfl, hS, (alls (TabS.nil (hT (cc101, P101) (.head _))) (all1 (TabS.nil (hT (cc102, P102) (.tail _ (.head _)))))), main ns hl, fun _ => rfl⟩
  case h2 => exact o20 (m := 37) Tx hcp (hB (cc101, P101) (.head _)) (hB (cc102, P102) (.tail _ (.head _))) hd
  case hb => exact fun s v => .of_eq rfl
end Nt_nothrees_k14_whole_handed

set_option Elab.async false
set_option linter.all false
set_option maxRecDepth 100000
set_option maxHeartbeats 0
namespace Nt_nothrees_k14_whole_handed
open PySem Nt
/-! ### a copy of what holds no list -/
abbrev intB : D → Bool := fun d => match d with | .int _ => true | _ => false
theorem c97_one {m : Nat} (i : Int) : Nt.run T (m + 1) 97 [.int i] = some (.int i) := rfl
theorem c97_all {m : Nat} {T' : Tb} {x : Option D} : ∀ (ds : List D) (y : Option D), ds.all intB = true → compD (bindD (.one 1)) (fun _ => some true) (fun env => ev T' (Nt.run T (m + 1)) (.call 97 (.cons (.var 1) .nil)) env) ds [x, y] = some ds
  | [], _, _ => rfl
  | d :: ds, y, h => by
    rw [List.all_cons, Bool.and_eq_true] at h
    have e := c97_all (m := m) (T' := T') (x := x) ds y h.2
    cases d with
    | int i =>
      show (match Nt.run T (m + 1) 97 [.int i], compD (bindD (.one 1)) (fun _ => some true) (fun env => ev T' (Nt.run T (m + 1)) (.call 97 (.cons (.var 1) .nil)) env) ds [x, y] with | some x, some r => some (x :: r) | _, _ => none) = _
      rw [c97_one, e]
    | _ => cases h.1
theorem c97_tup {m : Nat} {ds : List D} (h : leafD (.tup ds) = true) : Nt.run T (m + 2) 97 [.tup ds] = some (.tup ds) := by
  have h : (ds.all intB && decide (ds.length ≤ LIM)) = true := h
  rw [Bool.and_eq_true, decide_eq_true_eq] at h
  have e : ev { T with lv := m + 1 } (Nt.run T (m + 1)) (.comp (.sq (.var 0)) (.one 1) (.call 97 (.cons (.var 1) .nil))) [some (.tup ds), none] = some (.lst ds) := by
    show (if ds.length ≤ LIM then (compD (bindD (.one 1)) (fun _ => some true) (fun env => ev { T with lv := m + 1 } (Nt.run T (m + 1)) (.call 97 (.cons (.var 1) .nil)) env) ds [some (.tup ds), none]).map D.lst else none) = _
    rw [if_pos h.2, c97_all ds none h.1]
    rfl
  have e2 : exs { T with lv := m + 1 } (Nt.run T (m + 1)) b97 [some (.tup ds), none] = some (.rt (.tup ds)) := by
    have e3 : ev { T with lv := m + 1 } (Nt.run T (m + 1)) (.o1 .tup (.comp (.sq (.var 0)) (.one 1) (.call 97 (.cons (.var 1) .nil)))) [some (.tup ds), none] = some (.tup ds) := by
      rw [ev, e]
      rfl
    generalize hp : (E.o1 O1.tup (.comp (.sq (.var 0)) (.one 1) (.call 97 (.cons (.var 1) .nil)))) = p at e3
    have eb : b97 = .cons (.ifs (.o1 (.ist .lst) (.var 0)) (.cons (.ret (.comp (.sq (.var 0)) (.one 1) (.call 97 (.cons (.var 1) .nil)))) .nil) .nil) (.cons (.ifs (.o1 (.ist .tup) (.var 0)) (.cons (.ret p) .nil) .nil) (.cons (.ret (.var 0)) .nil)) := by
      rw [← hp]
      rfl
    rw [eb]
    show (match (match (match ev { T with lv := m + 1 } (Nt.run T (m + 1)) p [some (.tup ds), none] with | some d => some (Fl.rt d) | none => none) with | some (.nx env2) => exs { T with lv := m + 1 } (Nt.run T (m + 1)) .nil env2 | r => r) with | some (.nx env2) => exs { T with lv := m + 1 } (Nt.run T (m + 1)) (.cons (.ret (.var 0)) .nil) env2 | r => r) = _
    rw [e3]
  show (match exs { T with lv := m + 1 } (Nt.run T (m + 1)) b97 [some (.tup ds), none] with | some (.rt d) => some d | some (.nx _) => some .non | none => none) = _
  rw [e2]
theorem hcp : ∀ n, 2 ≤ n → ∀ d, leafD d = true → Nt.run T n 97 [d] = some d
  | 0, h, _, _ => absurd h (by decide)
  | 1, h, _, _ => absurd h (by decide)
  | m + 2, _, .int _, _ => rfl
  | m + 2, _, .bl _, _ => rfl
  | m + 2, _, .non, _ => rfl
  | m + 2, _, .tup _, h => c97_tup h
  | m + 2, _, .str _, h => by cases h
  | m + 2, _, .lst _, h => by cases h
  | m + 2, _, .frl _, h => by cases h
  | m + 2, _, .ins _ _, h => by cases h
  | m + 2, _, .fn _, h => by cases h
  | m + 2, _, .emp, h => by cases h
  | m + 2, _, .lam _, h => by cases h
/-! ### a row's check, by computing -/
mutual
def eqB : D → D → Bool
  | .non, .non => true
  | .bl a, .bl b => a == b
  | .int a, .int b => decide (a = b)
  | .tup a, .tup b => eqBs a b
  | .lst a, .lst b => eqBs a b
  | _, _ => false
def eqBs : List D → List D → Bool
  | [], [] => true
  | a :: as, b :: bs => eqB a b && eqBs as bs
  | _, _ => false
end
mutual
theorem eqB_ok : ∀ {a b : D}, eqB a b = true → a = b
  | .non, b, h => by cases b <;> first | rfl | cases h
  | .bl a, b, h => by
    cases b with
    | bl b => exact congrArg D.bl (eq_of_beq h)
    | _ => cases h
  | .int a, b, h => by
    cases b with
    | int b => exact congrArg D.int (of_decide_eq_true h)
    | _ => cases h
  | .tup a, b, h => by
    cases b with
    | tup b => exact congrArg D.tup (eqBs_ok h)
    | _ => cases h
  | .lst a, b, h => by
    cases b with
    | lst b => exact congrArg D.lst (eqBs_ok h)
    | _ => cases h
  | .str _, b, h => by cases b <;> cases h
  | .frl _, b, h => by cases b <;> cases h
  | .ins _ _, b, h => by cases b <;> cases h
  | .fn _, b, h => by cases b <;> cases h
  | .emp, b, h => by cases b <;> cases h
  | .lam _, b, h => by cases b <;> cases h
theorem eqBs_ok : ∀ {a b : List D}, eqBs a b = true → a = b
  | [], [], _ => rfl
  | [], _ :: _, h => by cases h
  | _ :: _, [], h => by cases h
  | a :: as, b :: bs, h => by
    have h : (eqB a b && eqBs as bs) = true := h
    rw [Bool.and_eq_true] at h
    rw [eqB_ok h.1, eqBs_ok h.2]
end
def same (o : Option D) (b : D) : Bool := match o with
  | some a => eqB a b
  | none => false
theorem same_ok {o : Option D} {b : D} (h : same o b = true) : o = some b := by
  cases o with
  | some a => exact congrArg some (eqB_ok h)
  | none => cases h
theorem get_ok {o : Option Bool} (h : o.getD false = true) : o = some true := by
  cases o with
  | some a => exact congrArg some h
  | none => cases h
def fnB (k : Nat) (r : D) : Bool := match T.fns[k]? with
  | some fn => decide (fn.np = 1) && (fn.fr || notL r)
  | none => false
theorem fnB_ok {k : Nat} {r : D} (h : fnB k r = true) : ∃ fn, T.fns[k]? = some fn ∧ fn.np = 1 ∧ (fn.fr = true ∨ notL r = true) := by
  unfold fnB at h
  cases e : T.fns[k]? with
  | none => rw [e] at h; cases h
  | some fn =>
    rw [e] at h
    have h : (decide (fn.np = 1) && (fn.fr || notL r)) = true := h
    rw [Bool.and_eq_true, decide_eq_true_eq, Bool.or_eq_true] at h
    exact ⟨fn, rfl, h⟩
def spB (r : D) : Bool := match r with
  | .lst xs => same (Nt.run T 38 129 [.lst xs]) .non
  | r => notL r && same (Nt.run T 38 99 [r]) .non
theorem spB_ok {r : D} (h : spB r = true) : (∃ xs, r = .lst xs ∧ Nt.run T 38 129 [r] = some .non) ∨ (notL r = true ∧ Nt.run T 38 99 [r] = some .non) := by
  have key : ∀ r : D, (notL r && same (Nt.run T 38 99 [r]) .non) = true → (notL r = true ∧ Nt.run T 38 99 [r] = some .non) := fun r h => by
    rw [Bool.and_eq_true] at h
    exact ⟨h.1, same_ok h.2⟩
  cases r with
  | lst xs => exact .inl ⟨xs, rfl, same_ok h⟩
  | _ => exact .inr (key _ h)
def chkR (k : Nat) (d : List D) (r : D) : Bool := d.all itmD && (decide (d.length ≤ LIM) && (decide (ndC d ≤ 38) && (same (Nt.run T 38 97 [.lst d]) (.lst d) && ((eqD (.lst d) (.lst d)).getD false && (fnB k r && (same (Nt.run T 38 97 [r]) r && ((eqD r r).getD false && spB r)))))))
def chk (k : Nat) (d : List D) : Bool := match Nt.run T 38 k [.lst d] with
  | some r => chkR k d r
  | none => false
theorem chk_ok {l : LmD} {k : Nat} {d : List D} (e : l.k = k) (h : chk k d = true) : ∃ r, okA T 38 97 99 129 l d r := by
  unfold chk at h
  cases er : Nt.run T 38 k [.lst d] with
  | none => rw [er] at h; cases h
  | some r =>
    rw [er] at h
    have h : chkR k d r = true := h
    unfold chkR at h
    simp only [Bool.and_eq_true, decide_eq_true_eq] at h
    obtain ⟨h1, h2, h3, h4, h5, h6, h7, h8, h9⟩ := h
    subst e
    exact ⟨r, fun x m => List.all_eq_true.mp h1 x m, h2, h3, same_ok h4, get_ok h5, fnB_ok h6, er, same_ok h7, get_ok h8, spB_ok h9⟩
def lks (a b : List D) : Bool := alike a a && (alike a b && (alike b a && alike b b))
def Good (r : D) : Prop := ∃ l d1 d2 r1 r2, r = .tup [.lam l, .lst d1, .lst d2] ∧ okD T 38 97 99 129 ls l d1 d2 r1 r2
theorem row_ok {l : LmD} {k : Nat} {d1 d2 : List D} (m : ls[k]? = some l) (e : l.k = 110 + k) (h1 : chk (110 + k) d1 = true) (h2 : chk (110 + k) d2 = true) (h3 : lks d1 d2 = true) : Good (.tup [.lam l, .lst d1, .lst d2]) := by
  obtain ⟨r1, a1⟩ := chk_ok e h1
  obtain ⟨r2, a2⟩ := chk_ok e h2
  unfold lks at h3
  simp only [Bool.and_eq_true] at h3
  exact ⟨l, d1, d2, r1, r2, rfl, List.mem_of_getElem? m, a1, a2, h3.1, h3.2.1, h3.2.2.1, h3.2.2.2⟩
theorem g1 {p : D → Prop} {a : D} {l : List D} (h : p a) (t : ∀ x ∈ l, p x) : ∀ x ∈ a :: l, p x := fun x m => by
  rcases List.mem_cons.mp m with rfl | m
  · exact h
  · exact t x m
theorem g0 {p : D → Prop} : ∀ x ∈ ([] : List D), p x := fun x m => nomatch m
theorem rows101_ok : ∀ r ∈ rows101, Good r :=
    (g1 (row_ok (k := 0) rfl rfl (by decide +kernel) (by decide +kernel) (by decide +kernel))
    (g1 (row_ok (k := 1) rfl rfl (by decide +kernel) (by decide +kernel) (by decide +kernel))
    (g1 (row_ok (k := 2) rfl rfl (by decide +kernel) (by decide +kernel) (by decide +kernel))
    (g1 (row_ok (k := 3) rfl rfl (by decide +kernel) (by decide +kernel) (by decide +kernel))
    (g1 (row_ok (k := 4) rfl rfl (by decide +kernel) (by decide +kernel) (by decide +kernel))
    (g1 (row_ok (k := 5) rfl rfl (by decide +kernel) (by decide +kernel) (by decide +kernel))
    (g1 (row_ok (k := 6) rfl rfl (by decide +kernel) (by decide +kernel) (by decide +kernel))
    (g1 (row_ok (k := 7) rfl rfl (by decide +kernel) (by decide +kernel) (by decide +kernel))
    (g1 (row_ok (k := 8) rfl rfl (by decide +kernel) (by decide +kernel) (by decide +kernel))
    (g1 (row_ok (k := 9) rfl rfl (by decide +kernel) (by decide +kernel) (by decide +kernel))
    (g1 (row_ok (k := 10) rfl rfl (by decide +kernel) (by decide +kernel) (by decide +kernel))
    (g1 (row_ok (k := 11) rfl rfl (by decide +kernel) (by decide +kernel) (by decide +kernel))
    (g1 (row_ok (k := 12) rfl rfl (by decide +kernel) (by decide +kernel) (by decide +kernel))
    (g1 (row_ok (k := 13) rfl rfl (by decide +kernel) (by decide +kernel) (by decide +kernel))
    (g1 (row_ok (k := 14) rfl rfl (by decide +kernel) (by decide +kernel) (by decide +kernel))
    (g1 (row_ok (k := 15) rfl rfl (by decide +kernel) (by decide +kernel) (by decide +kernel))
    (g1 (row_ok (k := 16) rfl rfl (by decide +kernel) (by decide +kernel) (by decide +kernel))
    g0)))))))))))))))))
theorem rows102_ok : ∀ r ∈ rows102, Good r :=
    (g1 (row_ok (k := 17) rfl rfl (by decide +kernel) (by decide +kernel) (by decide +kernel))
    (g1 (row_ok (k := 18) rfl rfl (by decide +kernel) (by decide +kernel) (by decide +kernel))
    g0))
/-! ### the law -/
theorem abs_mod {i : Int} {n : Nat} : op2 .mod (.int (if i < 0 then -i else i)) (.int ((n + 1 : Nat) : Int)) = some (.int ((if i < 0 then -i else i).fmod ((n + 1 : Nat) : Int))) := by
  show (if ((n + 1 : Nat) : Int) ≠ 0 then some (D.int ((if i < 0 then -i else i).fmod ((n + 1 : Nat) : Int))) else none) = _
  rw [if_pos (by omega)]
theorem cell0 {T' : Tb} {cl : Nat → List D → Option D} {ns : List Int} : exs T' cl b12 [some (.lst (ns.map .int)), some (.int 0)] = some (.rt (.int (ns.getD 0 0))) := by
  cases ns with
  | nil => rfl
  | cons x xs =>
    have h : (0 : Int) < ((((x :: xs).map D.int).length : Nat) : Int) := by
      rw [List.map_cons, List.length_cons]
      omega
    have h2 : L2.atI ((x :: xs).map D.int) 0 = some (.int x) := by
      unfold L2.atI L2.ixN
      rw [if_pos (by omega), if_pos h]
      rfl
    show (match (match (some (D.bl (decide ((0 : Int) < ((((x :: xs).map D.int).length : Nat) : Int)))) : Option D) with | some (.bl true) => exs T' cl (.cons (.ret (.ix (.var 0) (.var 1))) .nil) [some (.lst ((x :: xs).map .int)), some (.int 0)] | some (.bl false) => exs T' cl .nil [some (.lst ((x :: xs).map .int)), some (.int 0)] | _ => none : Option Fl) with | some (.nx env2) => exs T' cl (.cons (.ret (.lit (.int 0))) .nil) env2 | r => r) = _
    rw [decide_eq_true h]
    show (match (match (match L2.atI ((x :: xs).map D.int) 0 with | some d => some (Fl.rt d) | none => none) with | some (.nx env2) => exs T' cl .nil env2 | r => r : Option Fl) with | some (.nx env2) => exs T' cl (.cons (.ret (.lit (.int 0))) .nil) env2 | r => r) = _
    rw [h2]
    rfl
theorem run12 {n : Nat} {ns : List Int} : Nt.run T (n + 1) 12 [.lst (ns.map .int), .int 0] = some (.int (ns.getD 0 0)) := by
  show (match exs { T with lv := n } (Nt.run T n) b12 [some (.lst (ns.map .int)), some (.int 0)] with | some (.rt d) => some d | some (.nx _) => some .non | none => none) = _
  rw [cell0]
theorem main (ns : List Int) (hl : ns.length ≤ 63) : okLaw { T with lv := 39 } 39 T 38 12 97 99 129 ls (rows101 ++ rows102) ns := by
  have hrows : ∀ r ∈ rows101 ++ rows102, Good r := fun r m => (List.mem_append.mp m).elim (rows101_ok r) (rows102_ok r)
  have hlen : (rows101 ++ rows102).length = 18 + 1 := rfl
  generalize rows101 ++ rows102 = rows at hrows hlen
  have e0 : slD none (some 63) (.frl ns) = some (.lst (ns.map .int)) := by
    show some (D.lst (cutD (ns.map .int) none (some ((63 : Nat) : Int)))) = _
    unfold cutD
    rw [HT.sIx_nat, HT.sIx_none, List.drop_zero, Nat.sub_zero, Nat.min_eq_right (by rw [List.length_map]; exact hl), List.take_of_length_le (Nat.le_refl _)]
  have e12 : Nt.run { T with lv := 39 } 39 12 [.lst (ns.map .int), .int 0] = some (.int (ns.getD 0 0)) := by
    rw [run_lv]
    exact run12
  have el : lenD (.lst rows) = some (.int ((18 + 1 : Nat) : Int)) := by
    show some (D.int ((rows.length : Nat) : Int)) = _
    rw [hlen]
  obtain ⟨i, hi⟩ : ∃ i : Int, op2 .mod (.int (if ns.getD 0 0 < 0 then -(ns.getD 0 0) else ns.getD 0 0)) (.int ((18 + 1 : Nat) : Int)) = some (.int i) := ⟨_, abs_mod⟩
  have sub1 : ∀ x ∈ cutD rows (some i) none, x ∈ rows := fun x m => List.mem_of_mem_drop (List.mem_of_mem_take m)
  have sub2 : ∀ x ∈ cutD rows none (some i), x ∈ rows := fun x m => List.mem_of_mem_drop (List.mem_of_mem_take m)
  have len : ∀ a b, (cutD rows a b).length ≤ 19 := fun a b => by
    unfold cutD
    rw [List.length_take, List.length_drop]
    omega
  have hadd : addD (.lst (cutD rows (some i) none)) (.lst (cutD rows none (some i))) = some (.lst (cutD rows (some i) none ++ cutD rows none (some i))) := by
    show (if _ then _ else none) = _
    have a := len (some i) none
    have b := len none (some i)
    rw [if_pos (by unfold LIM; omega)]
  refine ⟨.lst (ns.map .int), .int i, cutD rows (some i) none ++ cutD rows none (some i), e0, ?_, ?_, fun r m => hrows r ?_⟩
  · show (match (match Nt.run { T with lv := 39 } 39 12 [.lst (ns.map .int), .int 0] with | some x => absD x | none => none) with | some x => (match lenD (.lst rows) with | some y => op2 .mod x y | none => none) | none => none) = _
    rw [e12, el]
    exact hi
  · show (addD (.lst (cutD rows (some i) none)) (.lst (cutD rows none (some i)))).bind seqD = _
    rw [hadd]
    rfl
  · exact (List.mem_append.mp m).elim (sub1 r) (sub2 r)
end Nt_nothrees_k14_whole_handed

set_option Elab.async false
set_option linter.all false
set_option maxRecDepth 100000
set_option maxHeartbeats 0
open PySem PySem.W PyProof.Rows
theorem PySem.Challenge.cw_nothrees_k14_whole_handed_holds : PySem.Challenge.rw_nothrees_k14_whole_handed.Holds := by
  w_on; o_law; k_head; (case hw => w_witness2)
  k_fill
  refine Nt.walk_tabs (lw := PySem.Challenge.rw_nothrees_k14_whole_handed) (n := 63) (k := 40) (x := "_law_script") (CX := fun _ => L2.CX0) rfl (by decide) rfl ⟨rfl, by decide, by decide⟩ (fun w h Y => PySem.W.km_in_of Y) ?F (fun _ _ _ _ _ h => h)
  case F =>
    intro w mg fa h Y KX G hmg tabs
    refine' Nt_nothrees_k14_whole_handed.all_mk KX G hmg tabs Nt_nothrees_k14_whole_handed.hcp Nt_nothrees_k14_whole_handed.main ?zcg ?zct ?aD0 ?aD1 ?aD2 ?aD3 ?aD4 ?aD5 ?aD6 ?hpg1 ?hhd1 ?hpo1 ?hsa1 ?hcz1 ?hcm1 ?hsh1 ?hsf1 ?hmk1 ?hkC1 ?hs0_1 ?hs1_1 ?hs2_1 ?hs3_1 ?hs4_1 ?hs5_1 ?hs6_1 ?hmi1 ?hpg2 ?hhd2 ?hpo2 ?hsa2 ?hcz2 ?hcm2 ?hsh2 ?hsf2 ?hmk2 ?hkC2 ?hs0_2 ?hs1_2 ?hs2_2 ?hs3_2 ?hs4_2 ?hs5_2 ?hs6_2 ?hna2 ?hin2 ?hif2 ?lI2 ?cI2 ?kI2 ?hpg3 ?hhd3 ?hpo3 ?hsa3 ?hcz3 ?hcm3 ?hsh3 ?hsf3 ?hmk3 ?hkC3 ?hs0_3 ?hs1_3 ?hs2_3 ?hs3_3 ?hs4_3 ?hs5_3 ?hs6_3 ?hmi3 ?hpg4 ?hhd4 ?hpo4 ?hsa4 ?hcz4 ?hcm4 ?hsh4 ?hsf4 ?hmk4 ?hkC4 ?hs0_4 ?hs1_4 ?hs2_4 ?hs3_4 ?hs4_4 ?hs5_4 ?hs6_4 ?hna4 ?hin4 ?hif4 ?lI4 ?cI4 ?kI4 ?hpg5 ?hhd5 ?hpo5 ?hsa5 ?hcz5 ?hcm5 ?hsh5 ?hsf5 ?hmk5 ?hkC5 ?hs0_5 ?hs1_5 ?hs2_5 ?hs3_5 ?hs4_5 ?hs5_5 ?hs6_5 ?hna5 ?hin5 ?hif5 ?lI5 ?cI5 ?kI5 ?hpg6 ?hhd6 ?hpo6 ?hsa6 ?hcz6 ?hcm6 ?hsh6 ?hsf6 ?hmk6 ?hkC6 ?hs0_6 ?hs1_6 ?hs2_6 ?hs3_6 ?hs4_6 ?hs5_6 ?hs6_6 ?hna6 ?hin6 ?hif6 ?lI6 ?cI6 ?kI6 ?a0 ?l0 ?c0 ?k0 ?a1 ?l1 ?c1 ?k1 ?a2 ?l2 ?c2 ?k2 ?a3 ?l3 ?c3 ?k3 ?a4 ?l4 ?c4 ?k4 ?a5 ?l5 ?c5 ?k5 ?a6 ?l6 ?c6 ?k6 ?a7 ?l7 ?c7 ?k7 ?a8 ?l8 ?c8 ?k8 ?a9 ?l9 ?c9 ?k9 ?a10 ?l10 ?c10 ?k10 ?a11 ?l11 ?c11 ?k11 ?a21 ?l21 ?c21 ?k21 ?a22 ?l22 ?c22 ?k22 ?a23 ?l23 ?c23 ?k23 ?a24 ?l24 ?c24 ?k24 ?a31 ?l31 ?c31 ?k31 ?a32 ?l32 ?c32 ?k32 ?a39 ?l39 ?c39 ?k39 ?a40 ?l40 ?c40 ?k40 ?a41 ?l41 ?c41 ?k41 ?a65 ?l65 ?c65 ?k65 ?a66 ?l66 ?c66 ?k66 ?a67 ?l67 ?c67 ?k67 ?a68 ?l68 ?c68 ?k68 ?a71 ?l71 ?c71 ?k71 ?a72 ?l72 ?c72 ?k72 ?a73 ?l73 ?c73 ?k73 ?a47 ?l47 ?c47 ?k47 ?a48 ?l48 ?c48 ?k48 ?a49 ?l49 ?c49 ?k49 ?a50 ?l50 ?c50 ?k50 ?a51 ?l51 ?c51 ?k51 ?a52 ?l52 ?c52 ?k52 ?a61 ?l61 ?c61 ?k61 ?a63 ?l63 ?c63 ?k63 ?a64 ?l64 ?c64 ?k64 ?a12 ?l12 ?c12 ?k12 ?a97 ?l97 ?c97 ?k97 ?a98 ?l98 ?c98 ?k98 ?a99 ?l99 ?c99 ?k99 ?a100 ?l100 ?c100 ?k100 ?a101 ?l101 ?c101 ?k101 ?lc101 ?lp101 ?lr101 ?ln101 ?a102 ?l102 ?c102 ?k102 ?lc102 ?lp102 ?lr102 ?ln102 ?a20 ?l20 ?c20 ?k20 ?l25 ?c25 ?k25 ?l26 ?c26 ?k26 ?l27 ?c27 ?k27 ?l28 ?c28 ?k28 ?l29 ?c29 ?k29 ?l30 ?c30 ?k30 ?hd ?z_abs ?z_all ?z_any ?z_bool ?z_enumerate ?z_int ?z_isinstance ?z_len ?z_list ?z_range ?z_sorted ?z_str ?z_sum ?z_tuple ?z_zip ?g_GREATEST_FLOOR ?g_GREATEST_SPACE ?g_PRIMES ?h_PRIMES ?g_SMALL
    (case zcg => k_is); (case zct => k_is); (case aD0 => k_is); (case aD1 => k_is); (case aD2 => k_is); (case aD3 => k_is); (case aD4 => k_is); (case aD5 => k_is); (case aD6 => k_is); (case hpg1 => k_is); (case hhd1 => k_is); (case hpo1 => k_is); (case hsa1 => k_is); (case hcz1 => k_is); (case hcm1 => k_is); (case hsh1 => k_is); (case hsf1 => k_is); (case hmk1 => k_is); (case hkC1 => k_is); (case hs0_1 => kit_is); (case hs1_1 => kit_is); (case hs2_1 => kit_is); (case hs3_1 => kit_is); (case hs4_1 => kit_is); (case hs5_1 => kit_is); (case hs6_1 => kit_is); (case hmi1 => k_is); (case hpg2 => k_is); (case hhd2 => k_is); (case hpo2 => k_is); (case hsa2 => k_is); (case hcz2 => k_is); (case hcm2 => k_is); (case hsh2 => k_is); (case hsf2 => k_is); (case hmk2 => k_is); (case hkC2 => k_is); (case hs0_2 => kit_is); (case hs1_2 => kit_is); (case hs2_2 => kit_is); (case hs3_2 => kit_is); (case hs4_2 => kit_is); (case hs5_2 => kit_is); (case hs6_2 => kit_is); (case hna2 => k_is); (case hin2 => k_is); (case hif2 => k_is); (case lI2 => k_is); (case cI2 => k_is); (case kI2 => k_is); (case hpg3 => k_is); (case hhd3 => k_is); (case hpo3 => k_is); (case hsa3 => k_is); (case hcz3 => k_is); (case hcm3 => k_is); (case hsh3 => k_is); (case hsf3 => k_is); (case hmk3 => k_is); (case hkC3 => k_is); (case hs0_3 => kit_is); (case hs1_3 => kit_is); (case hs2_3 => kit_is); (case hs3_3 => kit_is); (case hs4_3 => kit_is); (case hs5_3 => kit_is); (case hs6_3 => kit_is); (case hmi3 => k_is); (case hpg4 => k_is); (case hhd4 => k_is); (case hpo4 => k_is); (case hsa4 => k_is); (case hcz4 => k_is); (case hcm4 => k_is); (case hsh4 => k_is); (case hsf4 => k_is); (case hmk4 => k_is); (case hkC4 => k_is); (case hs0_4 => kit_is); (case hs1_4 => kit_is); (case hs2_4 => kit_is); (case hs3_4 => kit_is); (case hs4_4 => kit_is); (case hs5_4 => kit_is); (case hs6_4 => kit_is); (case hna4 => k_is); (case hin4 => k_is); (case hif4 => k_is); (case lI4 => k_is); (case cI4 => k_is); (case kI4 => k_is); (case hpg5 => k_is); (case hhd5 => k_is); (case hpo5 => k_is); (case hsa5 => k_is); (case hcz5 => k_is); (case hcm5 => k_is); (case hsh5 => k_is); (case hsf5 => k_is); (case hmk5 => k_is); (case hkC5 => k_is); (case hs0_5 => kit_is); (case hs1_5 => kit_is); (case hs2_5 => kit_is); (case hs3_5 => kit_is); (case hs4_5 => kit_is); (case hs5_5 => kit_is); (case hs6_5 => kit_is); (case hna5 => k_is); (case hin5 => k_is); (case hif5 => k_is); (case lI5 => k_is); (case cI5 => k_is); (case kI5 => k_is); (case hpg6 => k_is); (case hhd6 => k_is); (case hpo6 => k_is); (case hsa6 => k_is); (case hcz6 => k_is); (case hcm6 => k_is); (case hsh6 => k_is); (case hsf6 => k_is); (case hmk6 => k_is); (case hkC6 => k_is); (case hs0_6 => kit_is); (case hs1_6 => kit_is); (case hs2_6 => kit_is); (case hs3_6 => kit_is); (case hs4_6 => kit_is); (case hs5_6 => kit_is); (case hs6_6 => kit_is); (case hna6 => k_is); (case hin6 => k_is); (case hif6 => k_is); (case lI6 => k_is); (case cI6 => k_is); (case kI6 => k_is); (case a0 => k_is); (case l0 => k_is); (case c0 => k_is); (case k0 => k_is); (case a1 => k_is); (case l1 => k_is); (case c1 => k_is); (case k1 => k_is); (case a2 => k_is); (case l2 => k_is); (case c2 => k_is); (case k2 => k_is); (case a3 => k_is); (case l3 => k_is); (case c3 => k_is); (case k3 => k_is); (case a4 => k_is); (case l4 => k_is); (case c4 => k_is); (case k4 => k_is); (case a5 => k_is); (case l5 => k_is); (case c5 => k_is); (case k5 => k_is); (case a6 => k_is); (case l6 => k_is); (case c6 => k_is); (case k6 => k_is); (case a7 => k_is); (case l7 => k_is); (case c7 => k_is); (case k7 => k_is); (case a8 => k_is); (case l8 => k_is); (case c8 => k_is); (case k8 => k_is); (case a9 => k_is); (case l9 => k_is); (case c9 => k_is); (case k9 => k_is); (case a10 => k_is); (case l10 => k_is); (case c10 => k_is); (case k10 => k_is); (case a11 => k_is); (case l11 => k_is); (case c11 => k_is); (case k11 => k_is); (case a21 => k_is); (case l21 => k_is); (case c21 => k_is); (case k21 => k_is); (case a22 => k_is); (case l22 => k_is); (case c22 => k_is); (case k22 => k_is); (case a23 => k_is); (case l23 => k_is); (case c23 => k_is); (case k23 => k_is); (case a24 => k_is); (case l24 => k_is); (case c24 => k_is); (case k24 => k_is); (case a31 => k_is); (case l31 => k_is); (case c31 => k_is); (case k31 => k_is); (case a32 => k_is); (case l32 => k_is); (case c32 => k_is); (case k32 => k_is); (case a39 => k_is); (case l39 => k_is); (case c39 => k_is); (case k39 => k_is); (case a40 => k_is); (case l40 => k_is); (case c40 => k_is); (case k40 => k_is); (case a41 => k_is); (case l41 => k_is); (case c41 => k_is); (case k41 => k_is); (case a65 => k_is); (case l65 => k_is); (case c65 => k_is); (case k65 => k_is); (case a66 => k_is); (case l66 => k_is); (case c66 => k_is); (case k66 => k_is); (case a67 => k_is); (case l67 => k_is); (case c67 => k_is); (case k67 => k_is); (case a68 => k_is); (case l68 => k_is); (case c68 => k_is); (case k68 => k_is); (case a71 => k_is); (case l71 => k_is); (case c71 => k_is); (case k71 => k_is); (case a72 => k_is); (case l72 => k_is); (case c72 => k_is); (case k72 => k_is); (case a73 => k_is); (case l73 => k_is); (case c73 => k_is); (case k73 => k_is); (case a47 => k_is); (case l47 => k_is); (case c47 => k_is); (case k47 => k_is); (case a48 => k_is); (case l48 => k_is); (case c48 => k_is); (case k48 => k_is); (case a49 => k_is); (case l49 => k_is); (case c49 => k_is); (case k49 => k_is); (case a50 => k_is); (case l50 => k_is); (case c50 => k_is); (case k50 => k_is); (case a51 => k_is); (case l51 => k_is); (case c51 => k_is); (case k51 => k_is); (case a52 => k_is); (case l52 => k_is); (case c52 => k_is); (case k52 => k_is); (case a61 => k_is); (case l61 => k_is); (case c61 => k_is); (case k61 => k_is); (case a63 => k_is); (case l63 => k_is); (case c63 => k_is); (case k63 => k_is); (case a64 => k_is); (case l64 => k_is); (case c64 => k_is); (case k64 => k_is); (case a12 => k_is); (case l12 => k_is); (case c12 => k_is); (case k12 => k_is); (case a97 => k_is); (case l97 => k_is); (case c97 => k_is); (case k97 => k_is); (case a98 => k_is); (case l98 => k_is); (case c98 => k_is); (case k98 => k_is); (case a99 => k_is); (case l99 => k_is); (case c99 => k_is); (case k99 => k_is); (case a100 => k_is); (case l100 => k_is); (case c100 => k_is); (case k100 => k_is); (case a101 => k_is); (case l101 => k_is); (case c101 => k_is); (case k101 => k_is); (case lc101 => k_is); (case lp101 => rfl); (case lr101 => rfl); (case ln101 => rfl); (case a102 => k_is); (case l102 => k_is); (case c102 => k_is); (case k102 => k_is); (case lc102 => k_is); (case lp102 => rfl); (case lr102 => rfl); (case ln102 => rfl); (case a20 => k_is); (case l20 => k_is); (case c20 => k_is); (case k20 => k_is); (case l25 => k_is); (case c25 => k_is); (case k25 => k_is); (case l26 => k_is); (case c26 => k_is); (case k26 => k_is); (case l27 => k_is); (case c27 => k_is); (case k27 => k_is); (case l28 => k_is); (case c28 => k_is); (case k28 => k_is); (case l29 => k_is); (case c29 => k_is); (case k29 => k_is); (case l30 => k_is); (case c30 => k_is); (case k30 => k_is); (case hd => decide); (case z_abs => k_is); (case z_all => k_is); (case z_any => k_is); (case z_bool => k_is); (case z_enumerate => k_is); (case z_int => k_is); (case z_isinstance => k_is); (case z_len => k_is); (case z_list => k_is); (case z_range => k_is); (case z_sorted => k_is); (case z_str => k_is); (case z_sum => k_is); (case z_tuple => k_is); (case z_zip => k_is); (case g_GREATEST_FLOOR => k_is); (case g_GREATEST_SPACE => k_is); (case g_PRIMES => k_is); (case h_PRIMES => k_is); (case g_SMALL => k_is)
