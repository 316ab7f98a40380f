import PyProof.Rows.All
import Wide.All
import OpenK.AllK
import Wide.FinOn
import HandS.ForMost
import HandS.IsInst
import HandS.Zip
import HandS.TupAny
import HandS.Deep
import HandS.SetFor
import HandS.Style
import HandS.TupSets
import HandS.TupLe
import KE.GoesMore
import PySem.Challenge.RW_nothrees_k04_by_hand
set_option Elab.async false
set_option linter.all false
set_option maxRecDepth 100000
set_option maxHeartbeats 4000000
/-! A pure interpreter over plain data: data, IR, evaluation. -/
namespace Nt
open PySem PySem.Spec PyProof.Rows L2

/-- data: frl is the law's script (a list known to the object); ins c ds an instance of the class of number c with its fields -/
inductive D where
  | non | bl (b : Bool) | int (i : Int) | str (s : Str) | tup (ds : List D) | lst (ds : List D) | frl (ns : List Int) | ins (c : Nat) (ds : List D)
  deriving Inhabited

inductive Ty where
  | int | bool | str | tup | lst | cls (c : Nat)
inductive O1 where
  | neg | not | len | all | any | sum | max | sort | ssort | lst | tup | ist (t : Ty)
inductive O2 where
  | add | sub | mul | fdiv | mod | pow | shr | eq | ne | lt | le | gt | ge | mem | nmem | is | isn | max | min | cnt | rep | adi
/-- a target: one name or a tuple of names -/
inductive Tg where
  | one (i : Nat) | many (is : List Nat)

mutual
inductive E where
  | var (i : Nat) | lit (d : D) | tup (es : Es) | lst (es : Es)
  | o1 (o : O1) (a : E) | o2 (o : O2) (a b : E)
  | ite (c a b : E) | and (a b : E) | or (a b : E) | ch (o o' : O2) (a b c : E)
  | call (k : Nat) (es : Es) | mk (c : Nat) (es : Es) | shows (o : E) (es : Es) | fld (a : E) (f : Str)
  | slL (a lo : E) | slH (a hi : E) | slB (a lo hi : E) | rev (a : E) | ix (a i : E)
  | comp (s : Sr) (t : Tg) (e : E) | compI (s : Sr) (t : Tg) (c e : E)
inductive Es where
  | nil | cons (e : E) (es : Es)
inductive Sr where
  | sq (e : E) | r1 (a : E) | r2 (a b : E) | r3 (a b c : E) | zp (a b : E) | zp3 (a b c : E) | en (a : E)
end

mutual
inductive S where
  | asg (i : Nat) (e : E) | mov (j i : Nat) | par (i j : Nat) (a b : E) | unp (is : List Nat) (e : E)
  | app (i : Nat) (e : E) | ext (i : Nat) (e : E) | seti (i : Nat) (k e : E) | popd (i : Nat) (k : E) | fapp (i : Nat) (f : Str) (e : E)
  | ifs (c : E) (a b : Ss) | for (t : Tg) (s : Sr) (b : Ss) | whl (c : E) (b : Ss)
  | ret (e : E) | retn | ex (e : E) | fail
  /-- as asg, the value without lists -/
  | asgF (i : Nat) (e : E)
inductive Ss where
  | nil | cons (s : S) (ss : Ss)
end

/-- a def: how many parameters, how many slots, whether what it hands back is a new list (or object), its body -/
structure Fn where
  np : Nat
  ns : Nat
  fr : Bool
  body : Ss
structure Tb where
  fns : List Fn
  /-- class c stands under class c' -/
  sub : Nat → Nat → Option Bool
  /-- the def that `shows` of class c is -/
  sh : Nat → Option Nat
  /-- the class's fields: true where it is list(..) of the argument -/
  cf : Nat → Option (List Bool)
  /-- their names -/
  cn : Nat → List Str
  /-- how many calls are allowed here, one in another -/
  lv : Nat

abbrev Env := List (Option D)
def gt (env : Env) (i : Nat) : Option D := match env[i]? with
  | some o => o
  | none => none

def LIM : Nat := 1000000

/-! ### operations -/
mutual
def toP : D → PyData
  | .non => .none | .bl b => .bool b | .int i => .int i | .str s => .str s | .tup ds => .tuple (toPs ds) | .lst ds => .list (toPs ds) | .frl _ => .none | .ins _ _ => .none
def toPs : List D → List PyData
  | [] => [] | d :: ds => toP d :: toPs ds
end
mutual
/-- plain data of depth at most n -/
def shp (n : Nat) : D → Bool
  | .non => true | .bl _ => true | .int _ => true | .str s => PyData.strOk s | .tup ds => shps n ds | .lst ds => shps n ds | .frl _ => false | .ins _ _ => false
def shps (n : Nat) : List D → Bool
  | [] => true | d :: ds => shp n d && shps n ds
end
mutual
def dep : D → Nat
  | .tup ds => deps ds + 1 | .lst ds => deps ds + 1 | .non => 0 | .bl _ => 0 | .int _ => 0 | .str _ => 0 | .frl _ => 0 | .ins _ _ => 0
def deps : List D → Nat
  | [] => 0 | d :: ds => max (dep d) (deps ds)
end
def ok (d : D) : Bool := shp 0 d && decide (dep d ≤ 60)
def deq (a b : D) : Bool := PyData.eqv (toP a) (toP b)
def eqD (a b : D) : Option Bool := if ok a && ok b then some (deq a b) else none

def intsOf : List D → Option (List Int)
  | [] => some []
  | .int i :: ds => (intsOf ds).map (i :: ·)
  | _ :: _ => none
def blsOf : List D → Option (List Bool)
  | [] => some []
  | .bl b :: ds => (blsOf ds).map (b :: ·)
  | _ :: _ => none
/-- each a tuple of ints -/
def tupsOf : List D → Option (List (List Int))
  | [] => some []
  | .tup xs :: ds => match intsOf xs, tupsOf ds with
    | some ns, some r => some (ns :: r)
    | _, _ => none
  | _ :: _ => none
def tupD (ns : List Int) : D := .tup (ns.map .int)

/-- insertion into an ascending list of lists of ints -/
def insL (x : List Int) : List (List Int) → List (List Int)
  | [] => [x]
  | y :: ys => if HT.lexLt y x then y :: insL x ys else x :: y :: ys
def sortL : List (List Int) → List (List Int)
  | [] => []
  | x :: xs => insL x (sortL xs)
/-- the same, none twice -/
def insU (x : List Int) : List (List Int) → List (List Int)
  | [] => [x]
  | y :: ys => if x = y then y :: ys else if HT.lexLt y x then y :: insU x ys else x :: y :: ys
def sortU : List (List Int) → List (List Int)
  | [] => []
  | x :: xs => insU x (sortU xs)
/-- all of one length (1 at least), ints from 0 to 999 -/
def evenL : List (List Int) → Bool
  | [] => true
  | x :: xs => !x.isEmpty && (x :: xs).all fun y => (y.length == x.length) && y.all fun i => decide (0 ≤ i) && decide (i < 1000)
def sortD (f : List (List Int) → List (List Int)) (ds : List D) : Option D :=
  match tupsOf ds with
  | some ns => if evenL ns && decide (ns.length < 64) then some (.lst ((f ns).map tupD)) else none
  | none => none

def addD : D → D → Option D
  | .int i, .int j => some (.int (i + j))
  | .tup xs, .tup ys => if xs.length + ys.length ≤ LIM then some (.tup (xs ++ ys)) else none
  | .lst xs, .lst ys => if xs.length + ys.length ≤ LIM then some (.lst (xs ++ ys)) else none
  | _, _ => none
def int2 (f : Int → Int → Option D) : D → D → Option D
  | .int i, .int j => f i j
  | _, _ => none
def mulD : D → D → Option D
  | .int i, .int j => if (-(2 ^ 64) < i ∧ i < 2 ^ 64) ∨ (-(2 ^ 64) < j ∧ j < 2 ^ 64) then some (.int (i * j)) else none
  | _, _ => none
def repD : D → D → Option D
  | .lst xs, .int k => if k ≤ 1000 ∧ -1000 ≤ k ∧ xs.length ≤ 1000 then some (.lst (List.replicate k.toNat xs).flatten) else none
  | _, _ => none
def ltD : D → D → Option D
  | .int i, .int j => some (.bl (decide (i < j)))
  | .tup xs, .tup ys => match intsOf xs, intsOf ys with
    | some ns, some ms => some (.bl (HT.lexLt ns ms))
    | _, _ => none
  | _, _ => none
def memD (neg : Bool) : D → D → Option D
  | a, .lst xs => if ok a && ok (.lst xs) then some (.bl (neg ^^ xs.any fun z => deq z a)) else none
  | a, .tup xs => match a with
    | .int i => match intsOf xs with
      | some ns => some (.bl (neg ^^ ns.any fun z => z == i))
      | none => none
    | _ => none
  | _, _ => none
def isD (neg : Bool) : D → D → Option D
  | .bl a, .bl b => some (.bl (neg ^^ decide (a = b)))
  | .non, .non => some (.bl (neg ^^ true))
  | .ins _ _, .non => some (.bl (neg ^^ false))
  | .lst _, .non => some (.bl (neg ^^ false))
  | .tup _, .non => some (.bl (neg ^^ false))
  | .int _, .non => some (.bl (neg ^^ false))
  | _, _ => none
def op2 : O2 → D → D → Option D
  | .add => addD
  | .sub => int2 fun i j => some (.int (i - j))
  | .mul => mulD
  | .fdiv => int2 fun i j => if j ≠ 0 ∧ j.natAbs < 1073741824 then some (.int (i.fdiv j)) else none
  | .mod => int2 fun i j => if j ≠ 0 then some (.int (i.fmod j)) else none
  | .pow => int2 fun i j => if 0 ≤ j ∧ j ≤ 1000000 ∧ i.natAbs < 2 ^ 64 then some (.int (i ^ j.toNat)) else none
  | .shr => int2 fun i j => if 0 ≤ j then some (.int (i / 2 ^ j.toNat)) else none
  | .eq => fun a b => (eqD a b).map .bl
  | .ne => fun a b => (eqD a b).map fun c => .bl (!c)
  | .lt => ltD
  | .le => int2 fun i j => some (.bl (decide (i ≤ j)))
  | .gt => int2 fun i j => some (.bl (decide (j < i)))
  | .ge => int2 fun i j => some (.bl (decide (j ≤ i)))
  | .mem => memD false
  | .nmem => memD true
  | .is => isD false
  | .isn => isD true
  | .rep => repD
  | .adi => int2 fun i j => some (.int (i + j))
  | .max => int2 fun i j => some (.int (if j > i then j else i))
  | .min => int2 fun i j => some (.int (if j < i then j else i))
  | .cnt => fun a b => match a, b with
    | .lst xs, .int k => match intsOf xs with
      | some ns => some (.int (ns.count k))
      | none => none
    | _, _ => none
def isT (sub : Nat → Nat → Option Bool) : Ty → D → Option Bool
  | .int, .int _ => some true
  | .int, .bl _ => some true
  | .bool, .bl _ => some true
  | .str, .str _ => some true
  | .tup, .tup _ => some true
  | .lst, .lst _ => some true
  | .cls c, .ins c' _ => sub c' c
  | .cls _, _ => none
  | _, .frl _ => none
  | _, .ins _ _ => none
  | _, _ => some false
def maxOf : List Int → Option Int
  | [] => none
  | x :: xs => some (xs.foldl (fun a b => if b > a then b else a) x)
def negD : D → Option D
  | .int i => some (.int (-i))
  | _ => none
def notD : D → Option D
  | .bl b => some (.bl (!b))
  | _ => none
def lenD : D → Option D
  | .tup xs => some (.int xs.length)
  | .lst xs => some (.int xs.length)
  | .frl xs => some (.int xs.length)
  | _ => none
def allD : D → Option D
  | .lst xs => (blsOf xs).map fun bs => .bl (bs.all id)
  | _ => none
def anyD : D → Option D
  | .lst xs => (blsOf xs).map fun bs => .bl (bs.any id)
  | _ => none
def sumD : D → Option D
  | .tup xs => (intsOf xs).map fun ns => .int ns.sum
  | _ => none
def maxD : D → Option D
  | .lst xs => match intsOf xs with
    | some ns => (maxOf ns).map .int
    | none => none
  | _ => none
def srtD : D → Option D
  | .lst xs => sortD sortL xs
  | _ => none
def ssrtD : D → Option D
  | .lst xs => sortD sortU xs
  | _ => none
def lstD : D → Option D
  | .lst xs => some (.lst xs)
  | .tup xs => some (.lst xs)
  | _ => none
def tplD : D → Option D
  | .lst xs => some (.tup xs)
  | .tup xs => some (.tup xs)
  | _ => none
def op1 (sub : Nat → Nat → Option Bool) : O1 → D → Option D
  | .neg => negD | .not => notD | .len => lenD | .all => allD | .any => anyD | .sum => sumD | .max => maxD | .sort => srtD | .ssort => ssrtD | .lst => lstD | .tup => tplD
  | .ist t => fun d => (isT sub t d).map .bl
/-- the items of a slice -/
def cutD (xs : List D) (lo hi : Option Int) : List D := (xs.drop (HT.sIx xs.length 0 lo)).take (HT.sIx xs.length xs.length hi - HT.sIx xs.length 0 lo)
def slD (lo hi : Option Int) : D → Option D
  | .lst xs => some (.lst (cutD xs lo hi))
  | .tup xs => some (.tup (cutD xs lo hi))
  | .frl ns => some (.lst (cutD (ns.map .int) lo hi))
  | _ => none
def ixD : D → D → Option D
  | .lst xs, .int i => atI xs i
  | .tup xs, .int i => atI xs i
  | .frl ns, .int i => (atI ns i).map .int
  | _, _ => none
def intD : D → Option Int
  | .int i => some i
  | _ => none
def blD : D → Option Bool
  | .bl b => some b
  | _ => none

def setsD (env : Env) : List Nat → List D → Option Env
  | [], [] => some env
  | i :: is, d :: ds => setsD (env.set i (some d)) is ds
  | _, _ => none
def bindD (t : Tg) (d : D) (env : Env) : Option Env := match t with
  | .one i => some (env.set i (some d))
  | .many is => match d with
    | .tup ds => setsD env is ds
    | _ => none

def smallI (i : Int) : Bool := decide (-(2 ^ 62) ≤ i) && decide (i < 2 ^ 62)
def rangeD (lo hi : Int) : List D := (List.range (hi - lo).toNat).map fun (i : Nat) => .int (lo + (i : Int))
/-- how many turns range(lo, hi, st) has, st positive -/
def rg3 (lo hi st : Int) : Int := if lo < hi then (hi - lo - 1) / st + 1 else 0
def range3D (lo hi st : Int) : List D := (List.range (rg3 lo hi st).toNat).map fun (i : Nat) => .int (lo + (i : Int) * st)
def enumD : Nat → List D → List D
  | _, [] => []
  | i, d :: ds => .tup [.int i, d] :: enumD (i + 1) ds
def zipD : List D → List D → List D
  | x :: xs, y :: ys => .tup [x, y] :: zipD xs ys
  | _, _ => []
def zip3D : List D → List D → List D → List D
  | x :: xs, y :: ys, z :: zs => .tup [x, y, z] :: zip3D xs ys zs
  | _, _, _ => []
/-- what is walked -/
def seqD : D → Option (List D)
  | .lst xs => some xs
  | .tup xs => some xs
  | _ => none
def compD (b : D → Env → Option Env) (c : Env → Option Bool) (e : Env → Option D) : List D → Env → Option (List D)
  | [], _ => some []
  | d :: ds, env => match b d env with
    | some env1 => match c env1 with
      | some true => match e env1, compD b c e ds env with
        | some x, some r => some (x :: r)
        | _, _ => none
      | some false => compD b c e ds env
      | none => none
    | none => none

/-- not a list, not an instance -/
def notL : D → Bool
  | .lst _ => false
  | .ins _ _ => false
  | _ => true
mutual
/-- no list, no instance within -/
def flat : D → Bool
  | .non => true | .bl _ => true | .int _ => true | .str _ => true | .tup ds => flats ds | .lst _ => false | .frl _ => false | .ins _ _ => false
def flats : List D → Bool
  | [] => true | d :: ds => flat d && flats ds
end
section
variable (T : Tb) (cl : Nat → List D → Option D)
mutual
def ev : E → Env → Option D
  | .var i, env => gt env i
  | .lit d, _ => some d
  | .tup es, env => match evs es env with
    | some ds => some (.tup ds)
    | none => none
  | .lst es, env => match evs es env with
    | some ds => some (.lst ds)
    | none => none
  | .o1 o a, env => match ev a env with
    | some x => op1 T.sub o x
    | none => none
  | .o2 o a b, env => match ev a env with
    | some x => match ev b env with
      | some y => op2 o x y
      | none => none
    | none => none
  | .ite c a b, env => match ev c env with
    | some (.bl true) => ev a env
    | some (.bl false) => ev b env
    | _ => none
  | .and a b, env => match ev a env with
    | some (.bl true) => ev b env
    | some (.bl false) => some (.bl false)
    | _ => none
  | .or a b, env => match ev a env with
    | some (.bl true) => some (.bl true)
    | some (.bl false) => ev b env
    | _ => none
  | .ch o o' a b c, env => match ev a env with
    | some x => match ev b env with
      | some y => match op2 o x y with
        | some (.bl true) => match ev c env with
          | some z => op2 o' y z
          | none => none
        | some (.bl false) => some (.bl false)
        | _ => none
      | none => none
    | none => none
  | .call k es, env => match evs es env with
    | some ds => cl k ds
    | none => none
  | .mk c es, env => match evs es env with
    | some ds => match T.cf c with
      | some cf => if 2 ≤ T.lv ∧ ds.length = cf.length ∧ (ds.zip cf).all (fun p => if p.2 then (seqD p.1).isSome else notL p.1) then some (.ins c ((ds.zip cf).map fun p => if p.2 then .lst ((seqD p.1).getD []) else p.1)) else none
      | none => none
    | none => none
  | .shows o es, env => match ev o env with
    | some (.ins c fs) => match evs es env with
      | some ds => match T.sh c with
        | some k => cl k (.ins c fs :: ds)
        | none => none
      | none => none
    | _ => none
  | .fld a f, env => match ev a env with
    | some (.ins c fs) => ((T.cn c).zip fs).lookup f
    | _ => none
  | .slL a lo, env => match ev a env with
    | some x => match ev lo env with
      | some (.int i) => slD (some i) none x
      | _ => none
    | none => none
  | .slH a hi, env => match ev a env with
    | some x => match ev hi env with
      | some (.int j) => slD none (some j) x
      | _ => none
    | none => none
  | .slB a lo hi, env => match ev a env with
    | some x => match ev lo env with
      | some (.int i) => match ev hi env with
        | some (.int j) => slD (some i) (some j) x
        | _ => none
      | _ => none
    | none => none
  | .rev a, env => match ev a env with
    | some (.lst xs) => some (.lst xs.reverse)
    | _ => none
  | .ix a i, env => match ev a env with
    | some x => match ev i env with
      | some y => ixD x y
      | none => none
    | none => none
  | .comp s t e, env => match evr s env with
    | some ds => if ds.length ≤ LIM then (compD (bindD t) (fun _ => some true) (fun env => ev e env) ds env).map .lst else none
    | none => none
  | .compI s t c e, env => match evr s env with
    | some ds => if ds.length ≤ LIM then (compD (bindD t) (fun env => (ev c env).bind blD) (fun env => ev e env) ds env).map .lst else none
    | none => none
def evs : Es → Env → Option (List D)
  | .nil, _ => some []
  | .cons e es, env => match ev e env with
    | some x => match evs es env with
      | some r => some (x :: r)
      | none => none
    | none => none
def evr : Sr → Env → Option (List D)
  | .sq e, env => (ev e env).bind seqD
  | .r1 a, env => match ev a env with
    | some (.int j) => if smallI j then some (rangeD 0 j) else none
    | _ => none
  | .r2 a b, env => match ev a env with
    | some (.int i) => match ev b env with
      | some (.int j) => if smallI i && smallI j then some (rangeD i j) else none
      | _ => none
    | _ => none
  | .r3 a b c, env => match ev a env with
    | some (.int i) => match ev b env with
      | some (.int j) => match ev c env with
        | some (.int k) => if decide (0 ≤ i) && decide (i ≤ 1000000) && decide (0 ≤ j) && decide (j ≤ 1000000) && decide (0 < k) && decide (k < 1000000) then some (range3D i j k) else none
        | _ => none
      | _ => none
    | _ => none
  | .zp a b, env => match ev a env with
    | some (.lst xs) => match ev b env with
      | some (.lst ys) => some (zipD xs ys)
      | _ => none
    | some (.tup xs) => match ev b env with
      | some (.tup ys) => some (zipD xs ys)
      | _ => none
    | _ => none
  | .zp3 a b c, env => match ev a env with
    | some (.tup xs) => match ev b env with
      | some (.tup ys) => match ev c env with
        | some (.tup zs) => if xs.length = ys.length ∧ xs.length = zs.length then some (zip3D xs ys zs) else none
        | _ => none
      | _ => none
    | _ => none
  | .en a, env => match ev a env with
    | some (.lst xs) => some (enumD 0 xs)
    | _ => none
end

inductive Fl where
  | nx (env : Env) | rt (d : D)

def loopD (b : D → Env → Option Env) (body : Env → Option Fl) : List D → Env → Option Fl
  | [], env => some (.nx env)
  | d :: ds, env => match b d env with
    | some env1 => match body env1 with
      | some (.nx env2) => loopD b body ds env2
      | r => r
    | none => none
def whileD (c : Env → Option D) (body : Env → Option Fl) : Nat → Env → Option Fl
  | 0, _ => none
  | n + 1, env => match c env with
    | some (.bl true) => match body env with
      | some (.nx env2) => whileD c body n env2
      | r => r
    | some (.bl false) => some (.nx env)
    | _ => none
def WF : Nat := 500

mutual
def ex : S → Env → Option Fl
  | .asg i e, env => match ev T cl e env with
    | some d => some (.nx (env.set i (some d)))
    | none => none
  | .mov j i, env => match gt env i with
    | some d => some (.nx ((env.set i none).set j (some d)))
    | none => none
  | .par i j a b, env => match ev T cl a env with
    | some x => match ev T cl b env with
      | some y => some (.nx ((env.set i (some x)).set j (some y)))
      | none => none
    | none => none
  | .unp is e, env => match ev T cl e env with
    | some (.tup ds) => (setsD env is ds).map .nx
    | _ => none
  | .app i e, env => match gt env i with
    | some (.lst xs) => match ev T cl e env with
      | some d => if xs.length < LIM then some (.nx (env.set i (some (.lst (xs ++ [d]))))) else none
      | none => none
    | _ => none
  | .ext i e, env => match gt env i with
    | some (.lst xs) => match ev T cl e env with
      | some (.lst ys) => if xs.length + ys.length ≤ LIM then some (.nx (env.set i (some (.lst (xs ++ ys))))) else none
      | _ => none
    | _ => none
  | .seti i k e, env => match ev T cl e env with
    | some d => match gt env i with
      | some (.lst xs) => match ev T cl k env with
        | some (.int z) => match ixN xs.length z with
          | some j => some (.nx (env.set i (some (.lst (xs.set j d)))))
          | none => none
        | _ => none
      | _ => none
    | none => none
  | .popd i k, env => match gt env i with
    | some (.lst xs) => match ev T cl k env with
      | some (.int z) => match ixN xs.length z with
        | some j => if xs.length ≤ LIM then some (.nx (env.set i (some (.lst (xs.eraseIdx j))))) else none
        | none => none
      | _ => none
    | _ => none
  | .fapp i f e, env => match gt env i with
    | some (.ins c [.lst xs]) => match ev T cl e env with
      | some d => if T.cn c = [f] ∧ xs.length < LIM then some (.nx (env.set i (some (.ins c [.lst (xs ++ [d])])))) else none
      | none => none
    | _ => none
  | .ifs c a b, env => match ev T cl c env with
    | some (.bl true) => exs a env
    | some (.bl false) => exs b env
    | _ => none
  | .for t s b, env => match evr T cl s env with
    | some ds => loopD (bindD t) (fun env => exs b env) ds env
    | none => none
  | .whl c b, env => whileD (fun env => ev T cl c env) (fun env => exs b env) WF env
  | .ret e, env => match ev T cl e env with
    | some d => some (.rt d)
    | none => none
  | .retn, _ => some (.rt .non)
  | .ex e, env => match ev T cl e env with
    | some _ => some (.nx env)
    | none => none
  | .fail, _ => none
  | .asgF i e, env => match ev T cl e env with
    | some d => if flat d then some (.nx (env.set i (some d))) else none
    | none => none
def exs : Ss → Env → Option Fl
  | .nil, env => some (.nx env)
  | .cons s ss, env => match ex s env with
    | some (.nx env2) => exs ss env2
    | r => r
end
end

/-- a def called with n calls allowed, one in another -/
def run (T : Tb) : Nat → Nat → List D → Option D
  | 0, _, _ => none
  | n + 1, k, ds => match T.fns[k]? with
    | some f => if ds.length = f.np then
        match exs { T with lv := n } (run T n) f.body (ds.map some ++ List.replicate (f.ns - f.np) none) with
        | some (.rt d) => some d
        | some (.nx _) => some .non
        | none => none
      else none
    | none => none
theorem run_lv (T : Tb) (a : Nat) : ∀ n k ds, run { T with lv := a } n k ds = run T n k ds
  | 0, _, _ => rfl
  | n + 1, k, ds => by
    have e : run { T with lv := a } n = run T n := by
      funext k ds
      exact run_lv T a n k ds
    unfold run
    rw [e]
end Nt

set_option Elab.async false
set_option linter.all false
set_option maxRecDepth 100000
set_option maxHeartbeats 4000000
/-! How data stands in the abstract heap. -/
namespace Nt
open PySem PySem.Spec PyProof.Rows L2

/-- the classes: where they stand, their fields' names -/
structure Sm where
  K : PySem.W.Frag
  ca : Nat → Addr
  cn : Nat → List Str

mutual
def RV (M : Sm) (F : Hp) : D → V → Prop
  | .non, v => v = .non
  | .bl b, v => v = .bl b
  | .int i, v => v = .int i
  | .str s, v => v = .str s
  | .tup ds, v => ∃ a vs, v = .ref a ∧ SqT M.K F a vs ∧ RVs M F ds vs
  | .lst ds, v => ∃ a vs, v = .ref a ∧ F a = some (.lst vs) ∧ RVs M F ds vs
  | .frl ns, v => ∃ a, v = .ref a ∧ SqL M.K F a (ns.map V.int)
  | .ins c ds, v => ∃ a dx fs, v = .ref a ∧ F a = some (.ins (M.ca c) dx fs) ∧ fs.map (·.1) = M.cn c ∧ RVs M F ds (fs.map (·.2))
def RVs (M : Sm) (F : Hp) : List D → List V → Prop
  | [], vs => vs = []
  | d :: ds, vs => ∃ v r, vs = v :: r ∧ RV M F d v ∧ RVs M F ds r
end

theorem Same.sqt {K : PySem.W.Frag} {H H' : Hp} {a : Addr} {xs : List V} (e : Same H H') (h : SqT K H a xs) : SqT K H' a xs := by
  rcases h with (h | ⟨o, h⟩) | h
  · exact .inl (.inl (e _ _ h))
  · exact .inl (.inr ⟨o, e _ _ h⟩)
  · exact .inr h
theorem same_new {H : Hp} {p : Addr} {o : HO} (h : H p = none) : Same H (upd H p o) := fun b x e => by
  rw [upd_ne (ne_of_none e h)]
  exact e

variable {M : Sm} {F F' H H' : Hp}
mutual
theorem RV.mono (e : Same F F') : ∀ {d : D} {v : V}, RV M F d v → RV M F' d v
  | .non, _, h => h
  | .bl _, _, h => h
  | .int _, _, h => h
  | .str _, _, h => h
  | .tup ds, _, ⟨a, vs, e1, h1, h2⟩ => ⟨a, vs, e1, Same.sqt e h1, RVs.mono e h2⟩
  | .lst ds, _, ⟨a, vs, e1, h1, h2⟩ => ⟨a, vs, e1, e _ _ h1, RVs.mono e h2⟩
  | .frl ns, _, ⟨a, e1, h⟩ => ⟨a, e1, L2.Same.seq e h⟩
  | .ins c ds, _, ⟨a, dx, fs, e1, h1, h2, h3⟩ => ⟨a, dx, fs, e1, e _ _ h1, h2, RVs.mono e h3⟩
theorem RVs.mono (e : Same F F') : ∀ {ds : List D} {vs : List V}, RVs M F ds vs → RVs M F' ds vs
  | [], _, h => h
  | d :: ds, _, ⟨v, r, e1, h1, h2⟩ => ⟨v, r, e1, RV.mono e h1, RVs.mono e h2⟩
end

theorem RVs.nil : RVs M F [] [] := rfl
theorem RVs.cons {d : D} {v : V} {ds : List D} {vs : List V} (h : RV M F d v) (hs : RVs M F ds vs) : RVs M F (d :: ds) (v :: vs) := ⟨v, vs, rfl, h, hs⟩
theorem RVs.len : ∀ {ds : List D} {vs : List V}, RVs M F ds vs → vs.length = ds.length
  | [], _, h => by rw [show _ = [] from h]; rfl
  | d :: ds, _, ⟨v, r, e1, h1, h2⟩ => by rw [e1, List.length_cons, List.length_cons, RVs.len h2]
theorem RVs.get : ∀ {ds : List D} {vs : List V} {i : Nat} {d : D}, RVs M F ds vs → ds[i]? = some d → ∃ v, vs[i]? = some v ∧ RV M F d v
  | [], _, _, _, _, h => by simp at h
  | d :: ds, _, 0, d', ⟨v, r, e1, h1, h2⟩, h => by
    have e : d = d' := by simpa using h
    subst e
    exact ⟨v, by rw [e1]; rfl, h1⟩
  | d :: ds, _, i + 1, d', ⟨v, r, e1, h1, h2⟩, h => by
    obtain ⟨u, q1, q2⟩ := RVs.get (i := i) (d := d') h2 (by simpa using h)
    exact ⟨u, by rw [e1]; simpa using q1, q2⟩
theorem RVs.append : ∀ {ds es : List D} {vs us : List V}, RVs M F ds vs → RVs M F es us → RVs M F (ds ++ es) (vs ++ us)
  | [], _, _, _, h, h' => by rw [show _ = [] from h]; exact h'
  | d :: ds, _, _, _, ⟨v, r, e1, h1, h2⟩, h' => by rw [e1]; exact ⟨v, r ++ _, rfl, h1, RVs.append h2 h'⟩
theorem RVs.drop : ∀ {ds : List D} {vs : List V} (n : Nat), RVs M F ds vs → RVs M F (ds.drop n) (vs.drop n)
  | _, _, 0, h => h
  | [], _, n + 1, h => by rw [show _ = [] from h]; exact RVs.nil
  | d :: ds, _, n + 1, ⟨v, r, e1, h1, h2⟩ => by rw [e1]; exact RVs.drop n h2
theorem RVs.take : ∀ {ds : List D} {vs : List V} (n : Nat), RVs M F ds vs → RVs M F (ds.take n) (vs.take n)
  | _, _, 0, h => RVs.nil
  | [], _, n + 1, h => by rw [show _ = [] from h]; exact RVs.nil
  | d :: ds, _, n + 1, ⟨v, r, e1, h1, h2⟩ => by rw [e1]; exact ⟨v, r.take n, rfl, h1, RVs.take n h2⟩
theorem RVs.reverse : ∀ {ds : List D} {vs : List V}, RVs M F ds vs → RVs M F ds.reverse vs.reverse
  | [], _, h => by rw [show _ = [] from h]; exact RVs.nil
  | d :: ds, _, ⟨v, r, e1, h1, h2⟩ => by
    rw [e1, List.reverse_cons, List.reverse_cons]
    exact RVs.append (RVs.reverse h2) (RVs.cons h1 RVs.nil)
theorem RVs.set : ∀ {ds : List D} {vs : List V} (i : Nat) {d : D} {v : V}, RVs M F ds vs → RV M F d v → RVs M F (ds.set i d) (vs.set i v)
  | [], _, _, _, _, h, _ => by rw [show _ = [] from h]; exact RVs.nil
  | d :: ds, _, 0, _, _, ⟨v, r, e1, h1, h2⟩, h => by rw [e1]; exact ⟨_, r, rfl, h, h2⟩
  | d :: ds, _, i + 1, _, _, ⟨v, r, e1, h1, h2⟩, h => by rw [e1]; exact ⟨v, r.set i _, rfl, h1, RVs.set i h2 h⟩
theorem RVs.erase : ∀ {ds : List D} {vs : List V} (i : Nat), RVs M F ds vs → RVs M F (ds.eraseIdx i) (vs.eraseIdx i)
  | [], _, _, h => by rw [show _ = [] from h]; exact RVs.nil
  | d :: ds, _, 0, ⟨v, r, e1, h1, h2⟩ => by rw [e1]; exact h2
  | d :: ds, _, i + 1, ⟨v, r, e1, h1, h2⟩ => by rw [e1]; exact ⟨v, r.eraseIdx i, rfl, h1, RVs.erase i h2⟩
theorem RVs.ints : ∀ {ns : List Int}, RVs M F (ns.map .int) (ns.map V.int)
  | [] => RVs.nil
  | n :: ns => RVs.cons rfl RVs.ints
theorem RVs.of_ints : ∀ {ds : List D} {vs : List V} {ns : List Int}, RVs M F ds vs → intsOf ds = some ns → vs = ns.map V.int ∧ ds = ns.map .int
  | [], _, _, h, e => by
    rw [show _ = [] from h]
    have e : [] = _ := Option.some.inj e
    subst e
    exact ⟨rfl, rfl⟩
  | .int i :: ds, _, _, ⟨v, r, e1, h1, h2⟩, e => by
    unfold intsOf at e
    cases q : intsOf ds with
    | none => rw [q] at e; cases e
    | some ms =>
      rw [q] at e
      have e : i :: ms = _ := Option.some.inj e
      subst e
      obtain ⟨a, b⟩ := RVs.of_ints h2 q
      rw [e1, show v = .int i from h1, a, b]
      exact ⟨rfl, rfl⟩
  | .non :: _, _, _, _, e => by cases e
  | .bl _ :: _, _, _, _, e => by cases e
  | .str _ :: _, _, _, _, e => by cases e
  | .tup _ :: _, _, _, _, e => by cases e
  | .lst _ :: _, _, _, _, e => by cases e
  | .frl _ :: _, _, _, _, e => by cases e
  | .ins _ _ :: _, _, _, _, e => by cases e
theorem RVs.of_bls : ∀ {ds : List D} {vs : List V} {bs : List Bool}, RVs M F ds vs → blsOf ds = some bs → vs = bs.map V.bl
  | [], _, _, h, e => by
    rw [show _ = [] from h]
    have e : [] = _ := Option.some.inj e
    subst e
    rfl
  | .bl i :: ds, _, _, ⟨v, r, e1, h1, h2⟩, e => by
    unfold blsOf at e
    cases q : blsOf ds with
    | none => rw [q] at e; cases e
    | some ms =>
      rw [q] at e
      have e : i :: ms = _ := Option.some.inj e
      subst e
      rw [e1, show v = .bl i from h1, RVs.of_bls h2 q]
      rfl
  | .non :: _, _, _, _, e => by cases e
  | .int _ :: _, _, _, _, e => by cases e
  | .str _ :: _, _, _, _, e => by cases e
  | .tup _ :: _, _, _, _, e => by cases e
  | .lst _ :: _, _, _, _, e => by cases e
  | .frl _ :: _, _, _, _, e => by cases e
  | .ins _ _ :: _, _, _, _, e => by cases e

/-- as RV, but the list itself (or a field that is a list) need only be read in H -/
def RI (M : Sm) (F H : Hp) : D → V → Prop
  | .lst ds, v => ∃ a vs, v = .ref a ∧ H a = some (.lst vs) ∧ RVs M F ds vs
  | d, v => RV M F d v
def RIs (M : Sm) (F H : Hp) : List D → List V → Prop
  | [], vs => vs = []
  | d :: ds, vs => ∃ v r, vs = v :: r ∧ RI M F H d v ∧ RIs M F H ds r
def RS (M : Sm) (F H : Hp) : D → V → Prop
  | .ins c ds, v => ∃ a dx fs, v = .ref a ∧ F a = some (.ins (M.ca c) dx fs) ∧ fs.map (·.1) = M.cn c ∧ RIs M F H ds (fs.map (·.2))
  | d, v => RI M F H d v
theorem RV.ri (s : Same F H) {d : D} {v : V} (h : RV M F d v) : RI M F H d v := by
  cases d with
  | lst ds => obtain ⟨a, vs, e, q, r⟩ := h; exact ⟨a, vs, e, s _ _ q, r⟩
  | _ => exact h
theorem RVs.ris (s : Same F H) : ∀ {ds : List D} {vs : List V}, RVs M F ds vs → RIs M F H ds vs
  | [], _, h => h
  | d :: ds, _, ⟨v, r, e1, h1, h2⟩ => ⟨v, r, e1, h1.ri s, RVs.ris s h2⟩
theorem RV.rs (s : Same F H) {d : D} {v : V} (h : RV M F d v) : RS M F H d v := by
  cases d with
  | lst ds => obtain ⟨a, vs, e, q, r⟩ := h; exact ⟨a, vs, e, s _ _ q, r⟩
  | ins c ds => obtain ⟨a, dx, fs, e, q, n, r⟩ := h; exact ⟨a, dx, fs, e, q, n, r.ris s⟩
  | _ => exact h
theorem RI.rs {d : D} {v : V} (s : Same F H) (h : RI M F H d v) : RS M F H d v := by
  cases d with
  | ins c ds => exact RV.rs s h
  | _ => exact h
theorem RI.full {d : D} {v : V} (s : Same F H) (h : RI M F H d v) : RV M H d v := by
  cases d with
  | lst ds => obtain ⟨a, vs, e, q, r⟩ := h; exact ⟨a, vs, e, q, r.mono s⟩
  | _ => exact RV.mono s h
theorem RIs.full (s : Same F H) : ∀ {ds : List D} {vs : List V}, RIs M F H ds vs → RVs M H ds vs
  | [], _, h => h
  | d :: ds, _, ⟨v, r, e1, h1, h2⟩ => ⟨v, r, e1, h1.full s, RIs.full s h2⟩
/-- in the whole heap it is just data -/
theorem RS.full {d : D} {v : V} (s : Same F H) (h : RS M F H d v) : RV M H d v := by
  cases d with
  | lst ds => obtain ⟨a, vs, e, q, r⟩ := h; exact ⟨a, vs, e, q, r.mono s⟩
  | ins c ds => obtain ⟨a, dx, fs, e, q, n, r⟩ := h; exact ⟨a, dx, fs, e, s _ _ q, n, r.full s⟩
  | _ => exact RV.mono s h
theorem RI.mono (s : Same F F') (t : Same H H') {d : D} {v : V} (h : RI M F H d v) : RI M F' H' d v := by
  cases d with
  | lst ds => obtain ⟨a, vs, e, q, r⟩ := h; exact ⟨a, vs, e, t _ _ q, r.mono s⟩
  | _ => exact RV.mono s h
theorem RIs.mono (s : Same F F') (t : Same H H') : ∀ {ds : List D} {vs : List V}, RIs M F H ds vs → RIs M F' H' ds vs
  | [], _, h => h
  | d :: ds, _, ⟨v, r, e1, h1, h2⟩ => ⟨v, r, e1, h1.mono s t, RIs.mono s t h2⟩
theorem RS.mono (s : Same F F') (t : Same H H') {d : D} {v : V} (h : RS M F H d v) : RS M F' H' d v := by
  cases d with
  | lst ds => obtain ⟨a, vs, e, q, r⟩ := h; exact ⟨a, vs, e, t _ _ q, r.mono s⟩
  | ins c ds => obtain ⟨a, dx, fs, e, q, n, r⟩ := h; exact ⟨a, dx, fs, e, s _ _ q, n, r.mono s t⟩
  | _ => exact RV.mono s h

def RSs (M : Sm) (F H : Hp) : List D → List V → Prop
  | [], vs => vs = []
  | d :: ds, vs => ∃ v r, vs = v :: r ∧ RS M F H d v ∧ RSs M F H ds r
theorem RSs.full (s : Same F H) : ∀ {ds : List D} {vs : List V}, RSs M F H ds vs → RVs M H ds vs
  | [], _, h => h
  | d :: ds, _, ⟨v, r, e1, h1, h2⟩ => ⟨v, r, e1, h1.full s, RSs.full s h2⟩
/-- the heaps have grown by new addresses alone -/
structure Ext (F H F' H' : Hp) : Prop where
  f : Same F F'
  h : Same H H'
  s : Same F' H'
  n : ∀ a o, F' a = some o → F a = some o ∨ H a = none
theorem Ext.refl (s : Same F H) : Ext F H F H := ⟨Same.refl _, Same.refl _, s, fun _ _ e => .inl e⟩
theorem Ext.trans {F1 H1 F2 H2 : Hp} (a : Ext F H F1 H1) (b : Ext F1 H1 F2 H2) : Ext F H F2 H2 :=
  ⟨a.f.trans b.f, a.h.trans b.h, b.s, fun x o e => by
    rcases b.n x o e with q | q
    · exact a.n x o q
    · exact .inr (a.h.free q)⟩
/-- one new object, seen in both -/
theorem Ext.new {p : Addr} {o : HO} (s : Same F H) (h : H p = none) : Ext F H (upd F p o) (upd H p o) := by
  have hf : F p = none := s.free h
  refine ⟨Nt.same_new hf, Nt.same_new h, fun b x e => ?_, fun b x e => ?_⟩
  · by_cases q : b = p
    · subst q; rw [upd_same] at e ⊢; exact e
    · rw [upd_ne q] at e ⊢; exact s _ _ e
  · by_cases q : b = p
    · subst q; exact .inr h
    · rw [upd_ne q] at e; exact .inl e
/-- one new object, not seen in F -/
theorem Ext.hid {p : Addr} {o : HO} (s : Same F H) (h : H p = none) : Ext F H F (upd H p o) :=
  ⟨Same.refl _, Nt.same_new h, fun b x e => by rw [upd_ne (ne_of_none (s _ _ e) h)]; exact s _ _ e, fun _ _ e => .inl e⟩
theorem Ext.grow {H1 : Hp} (s : Same F H) (t : Same H H1) : Ext F H F H1 := ⟨Same.refl _, t, s.trans t, fun _ _ e => .inl e⟩

/-- the slots' values -/
def EnvS (M : Sm) (F H : Hp) (env : Env) (σ : L2.St) : Prop := env.length ≤ σ.length ∧ ∀ i d, gt env i = some d → ∃ v, σ[i]? = some (some v) ∧ RS M F H d v
def EnvF (M : Sm) (F : Hp) (l : List Nat) (env : Env) (σ : L2.St) : Prop := ∀ i ∈ l, ∀ d, gt env i = some d → ∃ v, σ[i]? = some (some v) ∧ RV M F d v
theorem EnvS.mono {env : Env} {σ : L2.St} (h : EnvS M F H env σ) (s : Same F F') (t : Same H H') : EnvS M F' H' env σ := ⟨h.1, fun i d e =>
  let ⟨v, a, b⟩ := h.2 i d e; ⟨v, a, b.mono s t⟩⟩
theorem EnvF.mono {l : List Nat} {env : Env} {σ : L2.St} (h : EnvF M F l env σ) (s : Same F F') : EnvF M F' l env σ := fun i m d e =>
  let ⟨v, a, b⟩ := h i m d e; ⟨v, a, b.mono s⟩
theorem EnvF.sub {l l' : List Nat} {env : Env} {σ : L2.St} (h : EnvF M F l env σ) (s : ∀ i ∈ l', i ∈ l) : EnvF M F l' env σ := fun i m => h i (s i m)
theorem EnvF.left {l l' : List Nat} {env : Env} {σ : L2.St} (h : EnvF M F (l ++ l') env σ) : EnvF M F l env σ := h.sub fun _ m => List.mem_append_left _ m
theorem EnvF.right {l l' : List Nat} {env : Env} {σ : L2.St} (h : EnvF M F (l ++ l') env σ) : EnvF M F l' env σ := h.sub fun _ m => List.mem_append_right _ m
/-- in the whole heap every slot is plain data -/
theorem EnvS.full {env : Env} {σ : L2.St} (s : Same F H) (h : EnvS M F H env σ) : EnvS M H H env σ := ⟨h.1, fun i d e =>
  let ⟨v, a, b⟩ := h.2 i d e; ⟨v, a, (b.full s).rs (Same.refl _)⟩⟩
theorem EnvS.fullF {env : Env} {σ : L2.St} (s : Same F H) (h : EnvS M F H env σ) (l : List Nat) : EnvF M H l env σ := fun i _ d e =>
  let ⟨v, a, b⟩ := h.2 i d e; ⟨v, a, b.full s⟩

/-- at p, not seen in F: the list itself, or the one field's list -/
def RO (M : Sm) (F H : Hp) (p : Addr) : D → V → Prop
  | .lst ds, v => v = .ref p ∧ ∃ vs, H p = some (.lst vs) ∧ RVs M F ds vs
  | .ins c [.lst ds], v => ∃ a dx f, v = .ref a ∧ F a = some (.ins (M.ca c) dx [(f, .ref p)]) ∧ [f] = M.cn c ∧ ∃ vs, H p = some (.lst vs) ∧ RVs M F ds vs
  | d, v => RV M F d v
theorem RO.of {p : Addr} {d : D} {v : V} (h : RV M F d v) (hl : ∀ ds, d ≠ .lst ds) (hi : ∀ c ds, d ≠ .ins c [.lst ds]) : RO M F H p d v := by
  unfold RO
  split
  · exact absurd rfl (hl _)
  · exact absurd rfl (hi _ _)
  · exact h
theorem RO.rs {p : Addr} {d : D} {v : V} (s : Same F H) (h : RO M F H p d v) : RS M F H d v := by
  unfold RO at h
  split at h
  · obtain ⟨e, vs, q, r⟩ := h
    exact ⟨p, vs, e, q, r⟩
  · obtain ⟨a, dx, f, e, q, n, vs, z, r⟩ := h
    exact ⟨a, dx, _, e, q, n, _, _, rfl, ⟨p, vs, rfl, z, r⟩, rfl⟩
  · exact h.rs s
theorem RO.mono {p : Addr} {d : D} {v : V} (s : Same F F') (t : Same H H') (h : RO M F H p d v) : RO M F' H' p d v := by
  unfold RO at h
  split at h
  · obtain ⟨e, vs, q, r⟩ := h
    exact ⟨e, vs, t _ _ q, r.mono s⟩
  · obtain ⟨a, dx, f, e, q, n, vs, z, r⟩ := h
    exact ⟨a, dx, f, e, s _ _ q, n, vs, t _ _ z, r.mono s⟩
  · rename_i h1 h2
    exact RO.of (RV.mono s h) (fun ds e => h1 ds e) (fun c ds e => h2 c ds e)
/-- where p is seen it is just data -/
theorem RO.seen {p : Addr} {d : D} {v : V} (s : Same F F') (t : ∀ o, H p = some o → F' p = some o) (h : RO M F H p d v) : RV M F' d v := by
  unfold RO at h
  split at h
  · obtain ⟨e, vs, q, r⟩ := h
    exact ⟨p, vs, e, t _ q, r.mono s⟩
  · obtain ⟨a, dx, f, e, q, n, vs, z, r⟩ := h
    exact ⟨a, dx, _, e, s _ _ q, n, _, _, rfl, ⟨p, vs, rfl, t _ z, r.mono s⟩, rfl⟩
  · exact h.mono s

/-- what an expression hands back: new at the top (tp), or plain data of F' -/
def Res (M : Sm) (tp : Bool) (H F' H' : Hp) (d : D) (v : V) : Prop :=
  match tp with
  | true => ∃ p, H p = none ∧ F' p = none ∧ RO M F' H' p d v
  | false => RV M F' d v
/-- p shown -/
def show1 (F H : Hp) (p : Addr) : Hp := fun a => if a = p then H p else F a
theorem show1_ext {F1 H1 : Hp} {p : Addr} (x : Ext F H F1 H1) (hp : H p = none) (hf : F1 p = none) : Ext F H (show1 F1 H1 p) H1 ∧ Same F1 (show1 F1 H1 p) := by
  have q : Same F1 (show1 F1 H1 p) := fun b o e => by
    unfold show1
    rw [if_neg (ne_of_none e hf)]
    exact e
  refine ⟨⟨x.f.trans q, x.h, fun b o e => ?_, fun b o e => ?_⟩, q⟩
  · unfold show1 at e
    by_cases z : b = p
    · rw [if_pos z] at e; rw [z]; exact e
    · rw [if_neg z] at e; exact x.s _ _ e
  · unfold show1 at e
    by_cases z : b = p
    · rw [z]; exact .inr hp
    · rw [if_neg z] at e; exact x.n _ _ e
theorem Res.plain {tp : Bool} {F1 H1 : Hp} {d : D} {v : V} (x : Ext F H F1 H1) (h : Res M tp H F1 H1 d v) : ∃ F2, Ext F H F2 H1 ∧ Same F1 F2 ∧ RV M F2 d v := by
  cases tp with
  | false => exact ⟨F1, x, Same.refl _, h⟩
  | true =>
    obtain ⟨p, hp, hf, r⟩ := h
    obtain ⟨x2, q⟩ := show1_ext x hp hf
    refine ⟨_, x2, q, r.seen q fun o e => ?_⟩
    unfold show1
    rw [if_pos rfl]
    exact e
end Nt

set_option Elab.async false
set_option linter.all false
set_option maxRecDepth 100000
set_option maxHeartbeats 4000000
/-! Expressions: the judgement and the rules. -/
namespace Nt
open PySem PySem.Spec PyProof.Rows L2

structure Wd where
  ca : Nat → Addr
  T : Tb
abbrev Wd.n (W : Wd) : Nat := W.T.lv
abbrev sm (X : Cx) (W : Wd) : Sm := ⟨X.K, W.ca, W.T.cn⟩
abbrev Wd.ev (W : Wd) (p : E) (env : Env) : Option D := Nt.ev W.T (run W.T W.n) p env
abbrev Wd.evs (W : Wd) (p : Es) (env : Env) : Option (List D) := Nt.evs W.T (run W.T W.n) p env
abbrev Wd.evr (W : Wd) (p : Sr) (env : Env) : Option (List D) := Nt.evr W.T (run W.T W.n) p env

/-- a name alone: its items are read, the list itself is not handed on -/
def itm (p : E) (l : List Nat) : List Nat := match p with
  | .var _ => []
  | _ => l
def tgs : Tg → List Nat
  | .one i => [i]
  | .many is => is
mutual
/-- the slots whose values the expression's value may hold -/
def al : E → List Nat
  | .var i => [i]
  | .lit _ => []
  | .tup es => als es
  | .lst es => als es
  | .o1 o a => match o with
    | .sort => itm a (al a) | .ssort => itm a (al a) | .lst => itm a (al a) | .tup => itm a (al a)
    | _ => []
  | .o2 o a b => match o with
    | .add => itm a (al a) ++ itm b (al b)
    | .rep => itm a (al a)
    | _ => []
  | .ite _ a b => al a ++ al b
  | .and _ b => al b
  | .or _ b => al b
  | .ch _ _ _ _ _ => []
  | .call _ es => als es
  | .mk _ es => ali es
  | .shows o es => al o ++ als es
  | .fld a _ => al a
  | .slL a _ => itm a (al a)
  | .slH a _ => itm a (al a)
  | .slB a _ _ => itm a (al a)
  | .rev a => itm a (al a)
  | .ix a _ => itm a (al a)
  | .comp s t e => alr s ++ (al e).filter fun i => !(tgs t).contains i
  | .compI s t _ e => alr s ++ (al e).filter fun i => !(tgs t).contains i
def als : Es → List Nat
  | .nil => []
  | .cons e es => al e ++ als es
def ali : Es → List Nat
  | .nil => []
  | .cons e es => itm e (al e) ++ ali es
def alr : Sr → List Nat
  | .sq e => itm e (al e)
  | .r1 _ => [] | .r2 _ _ => [] | .r3 _ _ _ => []
  | .zp a b => itm a (al a) ++ itm b (al b)
  | .zp3 a b c => itm a (al a) ++ (itm b (al b) ++ itm c (al c))
  | .en a => itm a (al a)
end
/-- its value is new at the top -/
def top (T : Tb) : E → Bool
  | .lst _ => true
  | .lit _ => true
  | .o1 o _ => match o with
    | .sort => true | .ssort => true | .lst => true | _ => false
  | .o2 o _ _ => match o with
    | .add => true | .rep => true | _ => false
  | .ite _ a b => top T a && top T b
  | .call k _ => match T.fns[k]? with
    | some f => f.fr
    | none => false
  | .mk _ _ => true
  | .slL _ _ => true | .slH _ _ => true | .slB _ _ _ => true | .rev _ => true
  | .comp _ _ _ => true | .compI _ _ _ _ => true
  | _ => false

/-- a list, or an instance of one field that is a list -/
def ownb : D → Bool
  | .lst _ => true
  | .ins _ [.lst _] => true
  | _ => false
theorem notL_ownb {d : D} (h : notL d = true) : ownb d = false := by
  cases d with
  | lst _ => cases h
  | ins _ _ => cases h
  | _ => rfl
/-- new at the top, or no list and no instance of a list -/
def Rtop (M : Sm) (tp : Bool) (H F' H' : Hp) (d : D) (v : V) : Prop := Res M tp H F' H' d v ∨ (tp = true ∧ ownb d = false ∧ RV M F' d v)
theorem Rtop.plain {M : Sm} {tp : Bool} {F H F1 H1 : Hp} {d : D} {v : V} (x : Ext F H F1 H1) (h : Rtop M tp H F1 H1 d v) : ∃ F2, Ext F H F2 H1 ∧ Same F1 F2 ∧ RV M F2 d v := by
  rcases h with h | ⟨_, _, h⟩
  · exact h.plain x
  · exact ⟨F1, x, Same.refl _, h⟩
theorem Rtop.of {M : Sm} {tp : Bool} {H F' H' : Hp} {d : D} {v : V} (h : RV M F' d v) (n : notL d = true) : Rtop M tp H F' H' d v := by
  cases tp with
  | true => exact .inr ⟨rfl, notL_ownb n, h⟩
  | false => exact .inl h
/-- a new list -/
theorem Rtop.newL {M : Sm} {H F' : Hp} {ds : List D} {p : Addr} {vs : List V} {H1 : Hp} (hp : H p = none) (hf : F' p = none) (hh : H1 p = some (.lst vs)) (r : RVs M F' ds vs) : Rtop M true H F' H1 (.lst ds) (.ref p) :=
  .inl ⟨p, hp, hf, rfl, vs, hh, r⟩

section
variable (M : Sm) (W : Wd) (p : E)
def tD : TE := fun σ H Q => ∃ F env d, Same F H ∧ EnvS M F H env σ ∧ EnvF M F (al p) env σ ∧ W.ev p env = some d ∧ ∀ v F' H', Ext F H F' H' → Rtop M (top W.T p) H F' H' d v → Q v H'
def tP : TE := fun σ H Q => ∃ F env d, Same F H ∧ EnvS M F H env σ ∧ EnvF M F (al p) env σ ∧ W.ev p env = some d ∧ ∀ v F' H', Ext F H F' H' → RV M F' d v → Q v H'
def tB : TE := fun σ H Q => ∃ F env d, Same F H ∧ EnvS M F H env σ ∧ W.ev p env = some d ∧ ∀ v H', Same H H' → RV M H' d v → Q v H'
def tI : TE := fun σ H Q => ∃ F env d, Same F H ∧ EnvS M F H env σ ∧ EnvF M F (itm p (al p)) env σ ∧ W.ev p env = some d ∧ ∀ v F' H', Ext F H F' H' → RS M F' H' d v → Q v H'
def tT : TT := fun σ H Q => ∃ F env b, Same F H ∧ EnvS M F H env σ ∧ W.ev p env = some (.bl b) ∧ ∀ H', Same H H' → Q b H'
end
section
variable (M : Sm) (W : Wd) (ps : Es)
def tAs : TA := fun σ H Q => ∃ F env ds, Same F H ∧ EnvS M F H env σ ∧ EnvF M F (als ps) env σ ∧ W.evs ps env = some ds ∧ ∀ vs F' H', Ext F H F' H' → RVs M F' ds vs → Q vs H'
def tAi : TA := fun σ H Q => ∃ F env ds, Same F H ∧ EnvS M F H env σ ∧ EnvF M F (ali ps) env σ ∧ W.evs ps env = some ds ∧ ∀ vs F' H', Ext F H F' H' → RSs M F' H' ds vs → Q vs H'
end

/-- what holds where a body runs: nothing is handled, nothing leaves, room for n calls -/
structure Gd (W : Wd) (X : Cx) : Prop where
  calm : X.calm = true
  room : Room W.n X.A
  nox : X.xe = fun _ _ => False
abbrev DE (W : Wd) (X : Cx) (e : Expr) (p : E) : Prop := PE X e (tD (sm X W) W p)
abbrev DI (W : Wd) (X : Cx) (e : Expr) (p : E) : Prop := PE X e (tI (sm X W) W p)
abbrev DB (W : Wd) (X : Cx) (e : Expr) (p : E) : Prop := PE X e (tB (sm X W) W p)
abbrev DP (W : Wd) (X : Cx) (e : Expr) (p : E) : Prop := PE X e (tP (sm X W) W p)
abbrev DT (W : Wd) (X : Cx) (e : Expr) (p : E) : Prop := PT X e (tT (sm X W) W p)
abbrev DA (W : Wd) (X : Cx) (es : List Expr) (ps : Es) : Prop := PA X es (tAs (sm X W) W ps)
abbrev DAi (W : Wd) (X : Cx) (es : List Expr) (ps : Es) : Prop := PA X es (tAi (sm X W) W ps)

theorem PE.imp {X : Cx} {e : Expr} {t t' : TE} (h : PE X e t) (i : ∀ σ H Q, t' σ H Q → t σ H Q) : PE X e t' := ⟨fun pins s σ H Q I q => h.run pins s σ H Q I (i σ H Q q)⟩
theorem PT.imp {X : Cx} {e : Expr} {t t' : TT} (h : PT X e t) (i : ∀ σ H Q, t' σ H Q → t σ H Q) : PT X e t' := ⟨fun pins s σ H Q I q => h.run pins s σ H Q I (i σ H Q q)⟩
theorem PW.imp {X : Cx} {e : Expr} {t t' : TT} (h : PW X e t) (i : ∀ σ H Q, t' σ H Q → t σ H Q) : PW X e t' := ⟨fun wh pins s σ H Q I q => h.run wh pins s σ H Q I (i σ H Q q)⟩
theorem PA.imp {X : Cx} {es : List Expr} {t t' : TA} (h : PA X es t) (i : ∀ σ H Q, t' σ H Q → t σ H Q) : PA X es t' := ⟨fun pos pins s σ H Q I q => h.run pos pins s σ H Q I (i σ H Q q)⟩
theorem PS.imp {X : Cx} {e : Stmt} {t t' : TS} (h : PS X e t) (i : ∀ D σ H, t' D σ H → t D σ H) : PS X e t' := ⟨fun pins s σ H D I q => h.run pins s σ H D I (i D σ H q)⟩
theorem PSs.imp {X : Cx} {e : List Stmt} {t t' : TS} (h : PSs X e t) (i : ∀ D σ H, t' D σ H → t D σ H) : PSs X e t' := ⟨fun pins s σ H D I q => h.run pins s σ H D I (i D σ H q)⟩

section
variable {W : Wd} {X : Cx} {e : Expr} {p : E}
theorem deP (h : DE W X e p) : DP W X e p := PE.imp h fun σ H Q ⟨F, env, d, s, hs, hf, ev, q⟩ => ⟨F, env, d, s, hs, hf, ev, fun v F' H' x r => by
  obtain ⟨F2, x2, _, r2⟩ := r.plain x
  exact q v F2 H' x2 r2⟩
theorem dpB (h : DP W X e p) : DB W X e p := PE.imp h fun σ H Q ⟨F, env, d, s, hs, ev, q⟩ => ⟨H, env, d, Same.refl _, hs.full s, hs.fullF s _, ev, fun v F' H' x r => q v H' x.h (r.mono x.s)⟩
theorem deB (h : DE W X e p) : DB W X e p := dpB (deP h)
theorem diB (h : DI W X e p) : DB W X e p := PE.imp h fun σ H Q ⟨F, env, d, s, hs, ev, q⟩ => ⟨H, env, d, Same.refl _, hs.full s, hs.fullF s _, ev, fun v F' H' x r => q v H' x.h (r.full x.s)⟩
/-- any expression but a name: its items -/
theorem deI (h : DE W X e p) (hv : itm p (al p) = al p := by rfl) : DI W X e p := PE.imp (deP h) fun σ H Q ⟨F, env, d, s, hs, hf, ev, q⟩ => ⟨F, env, d, s, hs, by rw [← hv]; exact hf, ev, fun v F' H' x r => q v F' H' x (r.rs x.s)⟩
/-- a value that is a bool -/
theorem dbT (h : DB W X e p) (he : ∀ whole, isTrue e X.env whole = (do let v ← whole; standAt e.pos; holding [v] (truthy v)) := by intro _; rfl) : DT W X e p := PT.imp (pt_val h he) fun σ H Q ⟨F, env, b, s, hs, ev, q⟩ =>
  ⟨F, env, .bl b, s, hs, ev, fun v H' x r => ⟨b, r, q H' x⟩⟩

/-! ### names, constants -/
theorem de_var {i : Nat} {x : Str} {pos : Pos} (hN : X.N[i]? = some x := by rfl) (hv : Vis X.env.scope x := by first | exact Or.inl rfl | exact Or.inr (Or.inl rfl) | exact Or.inr (Or.inr rfl)) (hd : (x == ("__debug__" : Str)) = false := by decide)
    (hcd : (x == ("__classdict__" : Str)) = false := by decide) : DE W X (.Name x pos) (.var i) := PE.imp (pe_var hN hv hd hcd) fun σ H Q ⟨F, env, d, s, hs, hf, ev, q⟩ => by
  obtain ⟨v, e, r⟩ := hf i (List.mem_cons_self ..) d ev
  exact ⟨v, e, q v F H (Ext.refl s) (.inl r)⟩
theorem di_var {i : Nat} {x : Str} {pos : Pos} (hN : X.N[i]? = some x := by rfl) (hv : Vis X.env.scope x := by first | exact Or.inl rfl | exact Or.inr (Or.inl rfl) | exact Or.inr (Or.inr rfl)) (hd : (x == ("__debug__" : Str)) = false := by decide)
    (hcd : (x == ("__classdict__" : Str)) = false := by decide) : DI W X (.Name x pos) (.var i) := PE.imp (pe_var hN hv hd hcd) fun σ H Q ⟨F, env, d, s, hs, _, ev, q⟩ => by
  obtain ⟨v, e, r⟩ := hs.2 i d ev
  exact ⟨v, e, q v F H (Ext.refl s) r⟩
def scl : D → Option V
  | .non => some .non
  | .bl b => some (.bl b)
  | .int i => some (.int i)
  | .str z => some (.str z)
  | _ => none
theorem scl_rv {M : Sm} {F : Hp} {d : D} {v : V} (h : scl d = some v) : RV M F d v := by
  cases d with
  | non => cases h; rfl
  | bl b => cases h; rfl
  | int i => cases h; rfl
  | str z => cases h; rfl
  | _ => cases h
theorem scl_notL {d : D} {v : V} (h : scl d = some v) : notL d = true := by
  cases d with
  | lst _ => cases h
  | ins _ _ => cases h
  | _ => rfl
theorem scl_top {M : Sm} {tp : Bool} {H F H' : Hp} {d : D} {v : V} (h : scl d = some v) : Rtop M tp H F H' d v := Rtop.of (scl_rv h) (scl_notL h)
theorem de_lit {d : D} {v : V} (h : PE X e (tC v)) (hs : scl d = some v := by rfl) : DE W X e (.lit d) := PE.imp h fun σ H Q ⟨F, env, d', s, _, _, ev, q⟩ => by
  obtain rfl : d = d' := Option.some.inj ev
  exact q v F H (Ext.refl s) (scl_top hs)
theorem de_int {i : Int} {k : Nat} {pos : Pos} : DE W X (.Constant (.int i) k pos) (.lit (.int i)) := de_lit pe_int
theorem de_bl {i : Bool} {k : Nat} {pos : Pos} : DE W X (.Constant (.bool i) k pos) (.lit (.bl i)) := de_lit pe_bl
theorem de_non {k : Nat} {pos : Pos} : DE W X (.Constant .none k pos) (.lit .non) := de_lit pe_non
theorem de_str {x : Str} {k : Nat} {pos : Pos} : DE W X (.Constant (.str x) k pos) (.lit (.str x)) := de_lit pe_str
/-- a constant of the module -/
theorem de_glob {x : Str} {v : V} {u : Value} {d : D} {pos : Pos} (hg : Gl X x) (hm : X.mg x = some u) (r : RelV v u) (h : ∀ F, RV (sm X W) F d v) (hn : notL d = true := by rfl) (hd : (x == ("__debug__" : Str)) = false := by decide) : DE W X (.Name x pos) (.lit d) :=
  PE.imp (pe_glob hg hm r hd) fun σ H Q ⟨F, env, d', s, _, _, ev, q⟩ => by
    obtain rfl : d = d' := Option.some.inj ev
    exact q v F H (Ext.refl s) (Rtop.of (h F) hn)

/-! ### argument lists, displays -/
variable {es : List Expr} {ps : Es}
theorem da_nil : DA W X [] .nil := PA.imp pa_nil fun σ H Q ⟨F, env, ds, s, _, _, ev, q⟩ => by
  obtain rfl : [] = ds := Option.some.inj ev
  exact q [] F H (Ext.refl s) RVs.nil
theorem evs_cons {T : Tb} {cl : Nat → List D → Option D} {p : E} {ps : Es} {env : Env} {ds : List D} (h : evs T cl (.cons p ps) env = some ds) : ∃ d r, ds = d :: r ∧ ev T cl p env = some d ∧ evs T cl ps env = some r := by
  unfold evs at h
  cases e1 : ev T cl p env with
  | none => rw [e1] at h; cases h
  | some d =>
    rw [e1] at h
    cases e2 : evs T cl ps env with
    | none => rw [e2] at h; cases h
    | some r =>
      rw [e2] at h
      exact ⟨d, r, (Option.some.inj h).symm, rfl, rfl⟩
theorem da_cons (h : DE W X e p) (hs : DA W X es ps) (hst : starEach (e :: es) X.env = (false, eval e X.env) :: starEach es X.env := by rfl) : DA W X (e :: es) (.cons p ps) := PA.imp (pa_cons (deP h) hs hst) fun σ H Q ⟨F, env, ds, s, hs, hf, ev, q⟩ => by
  obtain ⟨d, r, rfl, e1, e2⟩ := evs_cons ev
  refine ⟨F, env, d, s, hs, hf.left, e1, fun v F1 H1 x1 r1 => ⟨F1, env, r, x1.s, hs.mono x1.f x1.h, (hf.right).mono x1.f, e2, fun vs F2 H2 x2 r2 => ?_⟩⟩
  exact q (v :: vs) F2 H2 (x1.trans x2) (RVs.cons (r1.mono x2.f) r2)
theorem dai_nil : DAi W X [] .nil := PA.imp pa_nil fun σ H Q ⟨F, env, ds, s, _, _, ev, q⟩ => by
  obtain rfl : [] = ds := Option.some.inj ev
  exact q [] F H (Ext.refl s) rfl
theorem dai_cons (h : DI W X e p) (hs : DAi W X es ps) (hst : starEach (e :: es) X.env = (false, eval e X.env) :: starEach es X.env := by rfl) : DAi W X (e :: es) (.cons p ps) := PA.imp (pa_cons h hs hst) fun σ H Q ⟨F, env, ds, s, hs, hf, ev, q⟩ => by
  obtain ⟨d, r, rfl, e1, e2⟩ := evs_cons ev
  refine ⟨F, env, d, s, hs, hf.left, e1, fun v F1 H1 x1 r1 => ⟨F1, env, r, x1.s, hs.mono x1.f x1.h, (hf.right).mono x1.f, e2, fun vs F2 H2 x2 r2 => ?_⟩⟩
  exact q (v :: vs) F2 H2 (x1.trans x2) ⟨v, vs, rfl, r1.mono x2.f x2.h, r2⟩
end
end Nt

set_option Elab.async false
set_option linter.all false
set_option maxRecDepth 100000
set_option maxHeartbeats 4000000
/-! Operators, comparisons, tests, built-ins of one value. -/
namespace Nt
open PySem PySem.Spec PyProof.Rows L2

/-! ### equality -/
mutual
theorem lay_toP : ∀ {d : D}, shp 0 d = true → (toP d).canLay0 = true
  | .non, _ => rfl | .bl _, _ => rfl | .int _, _ => rfl | .str _, h => h | .frl _, _ => rfl | .ins _ _, _ => rfl
  | .tup ds, h => by unfold toP; unfold PyData.canLay0; exact lay_toPs h
  | .lst ds, h => by unfold toP; unfold PyData.canLay0; exact lay_toPs h
theorem lay_toPs : ∀ {ds : List D}, shps 0 ds = true → PyData.canLayAll0 (toPs ds) = true
  | [], _ => rfl
  | d :: ds, h => by
    unfold shps at h
    rw [Bool.and_eq_true] at h
    unfold toPs; unfold PyData.canLayAll0; rw [lay_toP h.1, lay_toPs h.2]; rfl
end
mutual
theorem dep_toP : ∀ d : D, (toP d).depth = dep d
  | .non => rfl | .bl _ => rfl | .int _ => rfl | .str _ => rfl | .frl _ => rfl | .ins _ _ => rfl
  | .tup ds => by unfold toP dep; unfold PyData.depth; rw [dep_toPs ds]
  | .lst ds => by unfold toP dep; unfold PyData.depth; rw [dep_toPs ds]
theorem dep_toPs : ∀ ds : List D, PyData.depthAll (toPs ds) = deps ds
  | [] => rfl
  | d :: ds => by unfold toPs deps; unfold PyData.depthAll; rw [dep_toP d, dep_toPs ds]
end
mutual
theorem dp_of {M : Sm} {H : Hp} : ∀ {d : D} {v : V}, RV M H d v → shp 0 d = true → Dp M.K H v (toP d)
  | .non, _, h, _ => by rw [show _ = V.non from h]; exact .non
  | .bl b, _, h, _ => by rw [show _ = V.bl b from h]; exact .bl b
  | .int b, _, h, _ => by rw [show _ = V.int b from h]; exact .int b
  | .str b, _, h, _ => by rw [show _ = V.str b from h]; exact .str b
  | .tup ds, _, ⟨a, vs, e, h1, h2⟩, z => by
    rw [e]
    unfold toP
    unfold shp at z
    exact .tup h1 (dps_of h2 z)
  | .lst ds, _, ⟨a, vs, e, h1, h2⟩, z => by
    rw [e]
    unfold toP
    unfold shp at z
    exact .lst (SqL.of h1) (dps_of h2 z)
  | .frl _, _, _, z => by unfold shp at z; cases z
  | .ins _ _, _, _, z => by unfold shp at z; cases z
theorem dps_of {M : Sm} {H : Hp} : ∀ {ds : List D} {vs : List V}, RVs M H ds vs → shps 0 ds = true → DpAll M.K H vs (toPs ds)
  | [], _, h, _ => by rw [show _ = [] from h]; exact .nil
  | d :: ds, _, ⟨v, r, e, h1, h2⟩, z => by
    rw [e]
    unfold toPs
    unfold shps at z
    rw [Bool.and_eq_true] at z
    exact .cons (dp_of h1 z.1) (dps_of h2 z.2)
end
theorem ok_shaped {d : D} (h : ok d = true) : SeqAt.shaped (toP d) = true := by
  unfold ok at h
  rw [Bool.and_eq_true] at h
  have := of_decide_eq_true h.2
  unfold SeqAt.shaped
  rw [lay_toP h.1, dep_toP, Bool.true_and]
  exact decide_eq_true (by omega)
theorem ok_shp {d : D} (h : ok d = true) : shp 0 d = true := by
  unfold ok at h
  rw [Bool.and_eq_true] at h
  exact h.1
theorem toPs_any (a : D) : ∀ xs : List D, (toPs xs).any (fun z => PyData.eqv z (toP a)) = xs.any fun z => deq z a
  | [] => rfl
  | x :: xs => by unfold toPs; rw [List.any_cons, List.any_cons, toPs_any a xs]; rfl
theorem intsOf_eq : ∀ {ds : List D} {ns : List Int}, intsOf ds = some ns → ds = ns.map .int
  | [], _, e => by
    have e : [] = _ := Option.some.inj e
    subst e
    rfl
  | .int i :: ds, _, e => by
    unfold intsOf at e
    cases q : intsOf ds with
    | none => rw [q] at e; cases e
    | some ms =>
      rw [q] at e
      have e : i :: ms = _ := Option.some.inj e
      subst e
      rw [intsOf_eq q]
      rfl
  | .non :: _, _, e => by cases e
  | .bl _ :: _, _, e => by cases e
  | .str _ :: _, _, e => by cases e
  | .tup _ :: _, _, e => by cases e
  | .lst _ :: _, _, e => by cases e
  | .frl _ :: _, _, e => by cases e
  | .ins _ _ :: _, _, e => by cases e

/-! ### operators that give a scalar -/
def OpS (M : Sm) (o : O2) (r : R2) : Prop := ∀ (H : Hp) (x y : V) (d1 d2 z : D), RV M H d1 x → RV M H d2 y → op2 o d1 d2 = some z → ∃ u, scl z = some u ∧ ∀ Q : VK, Q u H → r x y H Q
theorem int2_some {f : Int → Int → Option D} {a b z : D} (h : int2 f a b = some z) : ∃ i j, a = .int i ∧ b = .int j ∧ f i j = some z := by
  unfold int2 at h
  split at h
  · exact ⟨_, _, rfl, rfl, h⟩
  · cases h
theorem ops_int {M : Sm} {o : O2} {f : Int → Int → Option D} {C : Int → Int → Prop} {g : Int → Int → V} (ho : op2 o = int2 f) (hf : ∀ i j z, f i j = some z → C i j ∧ scl z = some (g i j)) : OpS M o (rI C g) := by
  intro H x y d1 d2 z h1 h2 e
  rw [ho] at e
  obtain ⟨i, j, rfl, rfl, q⟩ := int2_some e
  obtain ⟨c, s⟩ := hf i j z q
  exact ⟨_, s, fun Q k => ⟨i, j, h1, h2, c, k⟩⟩
theorem ops_int0 {M : Sm} {o : O2} {f : Int → Int → Option D} {g : Int → Int → V} (ho : op2 o = int2 f) (hf : ∀ i j z, f i j = some z → scl z = some (g i j)) : OpS M o (rI0 g) := by
  intro H x y d1 d2 z h1 h2 e
  rw [ho] at e
  obtain ⟨i, j, rfl, rfl, q⟩ := int2_some e
  exact ⟨_, hf i j z q, fun Q k => ⟨i, j, h1, h2, k⟩⟩
theorem ite_some {c : Prop} [Decidable c] {α : Type} {x z : α} (h : (if c then some x else none) = some z) : c ∧ x = z := by
  by_cases q : c
  · rw [if_pos q] at h; exact ⟨q, Option.some.inj h⟩
  · rw [if_neg q] at h; cases h
section
variable {M : Sm}
theorem os_sub : OpS M .sub (rI0 fun i j => .int (i - j)) := ops_int0 rfl fun i j z h => by cases h; rfl
theorem os_mul : OpS M .mul (rI CMul fun i j => .int (i * j)) := by
  intro H x y d1 d2 z h1 h2 e
  have e : mulD d1 d2 = some z := e
  unfold mulD at e
  split at e
  · obtain ⟨c, rfl⟩ := ite_some e
    exact ⟨_, rfl, fun Q k => ⟨_, _, h1, h2, c, k⟩⟩
  · cases e
theorem os_fdiv : OpS M .fdiv (rI CDivN fun i j => .int (i.fdiv j)) := ops_int rfl fun i j z h => by
  obtain ⟨c, rfl⟩ := ite_some h
  exact ⟨c, rfl⟩
theorem os_mod : OpS M .mod (rI (fun _ j => j ≠ 0) fun i j => .int (i.fmod j)) := ops_int rfl fun i j z h => by
  obtain ⟨c, rfl⟩ := ite_some h
  exact ⟨c, rfl⟩
theorem os_pow : OpS M .pow (rI CPow fun i j => .int (i ^ j.toNat)) := ops_int rfl fun i j z h => by
  obtain ⟨c, rfl⟩ := ite_some h
  exact ⟨c, rfl⟩
theorem os_shr : OpS M .shr (rI (fun _ j => 0 ≤ j) fun i j => .int (i / 2 ^ j.toNat)) := ops_int rfl fun i j z h => by
  obtain ⟨c, rfl⟩ := ite_some h
  exact ⟨c, rfl⟩
theorem os_le : OpS M .le (rI0 fun i j => .bl (decide (i ≤ j))) := ops_int0 rfl fun i j z h => by cases h; rfl
theorem os_gt : OpS M .gt (rI0 fun i j => .bl (decide (j < i))) := ops_int0 rfl fun i j z h => by cases h; rfl
theorem os_ge : OpS M .ge (rI0 fun i j => .bl (decide (j ≤ i))) := ops_int0 rfl fun i j z h => by cases h; rfl
abbrev rLt (K : PySem.W.Frag) : R2 := fun x y H Q => (rI0 fun i j => .bl (decide (i < j))) x y H Q ∨ rLtT K x y H Q
theorem or_lt {X : Cx} (hu : X.A.units < cLine) : OpR X (compareOp .Lt) (rLt X.K) := op_lt.or (op_ltT hu)
theorem os_lt : OpS M .lt (rLt M.K) := by
  intro H x y d1 d2 z h1 h2 e
  have e : ltD d1 d2 = some z := e
  unfold ltD at e
  split at e
  · cases e
    exact ⟨_, rfl, fun Q k => .inl ⟨_, _, h1, h2, k⟩⟩
  · split at e
    · rename_i e1 e2
      cases e
      obtain ⟨a, vs, ea, ha, ra⟩ := h1
      obtain ⟨b, us, eb, hb, rb⟩ := h2
      obtain ⟨q1, _⟩ := RVs.of_ints ra e1
      obtain ⟨q2, _⟩ := RVs.of_ints rb e2
      rw [q1] at ha
      rw [q2] at hb
      exact ⟨_, rfl, fun Q k => .inr ⟨a, b, _, _, ea, eb, ha, hb, k⟩⟩
    · cases e
  · cases e
theorem os_eq : OpS M .eq (rEqD M.K) := by
  intro H x y d1 d2 z h1 h2 e
  have e : (eqD d1 d2).map .bl = some z := e
  unfold eqD at e
  split at e
  · rename_i c
    rw [Bool.and_eq_true] at c
    cases e
    exact ⟨_, rfl, fun Q k => ⟨_, _, dp_of h1 (ok_shp c.1), dp_of h2 (ok_shp c.2), ok_shaped c.1, ok_shaped c.2, k⟩⟩
  · cases e
theorem os_ne : OpS M .ne (rNeD M.K) := by
  intro H x y d1 d2 z h1 h2 e
  have e : (eqD d1 d2).map (fun c => D.bl (!c)) = some z := e
  unfold eqD at e
  split at e
  · rename_i c
    rw [Bool.and_eq_true] at c
    cases e
    exact ⟨_, rfl, fun Q k => ⟨_, _, dp_of h1 (ok_shp c.1), dp_of h2 (ok_shp c.2), ok_shaped c.1, ok_shaped c.2, k⟩⟩
  · cases e
abbrev rMem (K : PySem.W.Frag) : R2 := fun x y H Q => rInD K x y H Q ∨ rIn K false x y H Q
abbrev rNmem (K : PySem.W.Frag) : R2 := fun x y H Q => rNotInD K x y H Q ∨ rIn K true x y H Q
theorem or_mem {X : Cx} (hu : X.A.units + 65 < cLine) : OpR X (compareOp .In) (rMem X.K) := (op_inD hu).or op_in_seq
theorem or_nmem {X : Cx} (hu : X.A.units + 65 < cLine) : OpR X (compareOp .NotIn) (rNmem X.K) := (op_notInD hu).or op_notIn_seq
theorem flat_ints : ∀ ns : List Int, (ns.map V.int).all flatV = true
  | [] => rfl
  | n :: ns => by rw [List.map_cons, List.all_cons, flat_ints ns]; rfl
theorem inV_ints (i : Int) : ∀ ns : List Int, inV (.int i) (ns.map V.int) = ns.any fun z => z == i
  | [] => rfl
  | n :: ns => by
    have h := inV_ints i ns
    unfold inV at h ⊢
    rw [List.map_cons, List.any_cons, List.any_cons, h]
    rfl
theorem mem_core {neg : Bool} {d1 d2 z : D} (e : memD neg d1 d2 = some z) : (∃ xs, d2 = .lst xs ∧ ok d1 = true ∧ ok (.lst xs) = true ∧ z = .bl (neg ^^ xs.any fun w => deq w d1)) ∨
    ∃ i xs ns, d1 = .int i ∧ d2 = .tup xs ∧ intsOf xs = some ns ∧ z = .bl (neg ^^ ns.any fun w => w == i) := by
  unfold memD at e
  split at e
  · split at e
    · rename_i c
      rw [Bool.and_eq_true] at c
      cases e
      exact .inl ⟨_, rfl, c.1, c.2, rfl⟩
    · cases e
  · split at e
    · split at e
      · rename_i q
        cases e
        exact .inr ⟨_, _, _, rfl, rfl, q, rfl⟩
      · cases e
    · cases e
  · cases e
theorem os_mem : OpS M .mem (rMem M.K) := by
  intro H x y d1 d2 z h1 h2 e
  have e : memD false d1 d2 = some z := e
  rcases mem_core e with ⟨xs, rfl, c1, c2, rfl⟩ | ⟨i, xs, ns, rfl, rfl, q, rfl⟩
  · refine ⟨_, rfl, fun Q k => .inl ⟨toP d1, toPs xs, dp_of h1 (ok_shp c1), dp_of h2 (ok_shp c2), ok_shaped c1, ok_shaped c2, ?_⟩⟩
    rw [toPs_any]
    simpa using k
  · obtain ⟨a, vs, ea, ha, ra⟩ := h2
    obtain ⟨q1, _⟩ := RVs.of_ints ra q
    rw [q1] at ha
    refine ⟨_, rfl, fun Q k => .inr ⟨a, _, ea, .inr ha, by rw [show x = .int i from h1]; rfl, flat_ints ns, ?_⟩⟩
    rw [show x = .int i from h1, inV_ints]
    simpa using k
theorem os_nmem : OpS M .nmem (rNmem M.K) := by
  intro H x y d1 d2 z h1 h2 e
  have e : memD true d1 d2 = some z := e
  rcases mem_core e with ⟨xs, rfl, c1, c2, rfl⟩ | ⟨i, xs, ns, rfl, rfl, q, rfl⟩
  · refine ⟨_, rfl, fun Q k => .inl ⟨toP d1, toPs xs, dp_of h1 (ok_shp c1), dp_of h2 (ok_shp c2), ok_shaped c1, ok_shaped c2, ?_⟩⟩
    rw [toPs_any]
    simpa using k
  · obtain ⟨a, vs, ea, ha, ra⟩ := h2
    obtain ⟨q1, _⟩ := RVs.of_ints ra q
    rw [q1] at ha
    refine ⟨_, rfl, fun Q k => .inr ⟨a, _, ea, .inr ha, by rw [show x = .int i from h1]; rfl, flat_ints ns, ?_⟩⟩
    rw [show x = .int i from h1, inV_ints]
    simpa using k
abbrev rIs : R2 := fun x y H Q => rIsB x y H Q ∨ (fun x y H Q => y = .non ∧ Q (.bl (decide (x = .non))) H : R2) x y H Q
abbrev rIsn : R2 := fun x y H Q => rNotB x y H Q ∨ (fun x y H Q => y = .non ∧ Q (.bl (!decide (x = .non))) H : R2) x y H Q
theorem or_is {X : Cx} : OpR X (compareOp .Is) rIs := op_isBl.or op_isN
theorem or_isn {X : Cx} : OpR X (compareOp .IsNot) rIsn := op_notBl.or op_notN
theorem is_core {neg : Bool} {H : Hp} {x y : V} {d1 d2 z : D} (h1 : RV M H d1 x) (h2 : RV M H d2 y) (e : isD neg d1 d2 = some z) : (∃ a b, x = .bl a ∧ y = .bl b ∧ z = .bl (neg ^^ decide (a = b))) ∨ (y = .non ∧ z = .bl (neg ^^ decide (x = .non))) := by
  unfold isD at e
  split at e
  · cases e; exact .inl ⟨_, _, h1, h2, rfl⟩
  · cases e; rw [show x = .non from h1]; exact .inr ⟨h2, rfl⟩
  · cases e; obtain ⟨a, _, _, e1, _⟩ := h1; rw [e1]; exact .inr ⟨h2, by rw [decide_eq_false (fun q => by cases q)]⟩
  · cases e; obtain ⟨a, _, e1, _⟩ := h1; rw [e1]; exact .inr ⟨h2, by rw [decide_eq_false (fun q => by cases q)]⟩
  · cases e; obtain ⟨a, _, e1, _⟩ := h1; rw [e1]; exact .inr ⟨h2, by rw [decide_eq_false (fun q => by cases q)]⟩
  · cases e; rw [show x = .int _ from h1]; exact .inr ⟨h2, by rw [decide_eq_false (fun q => by cases q)]⟩
  · cases e
theorem os_is : OpS M .is rIs := by
  intro H x y d1 d2 z h1 h2 e
  have e : isD false d1 d2 = some z := e
  rcases is_core h1 h2 e with ⟨a, b, rfl, rfl, rfl⟩ | ⟨rfl, rfl⟩
  · exact ⟨_, rfl, fun Q k => .inl ⟨_, _, rfl, rfl, by simpa using k⟩⟩
  · exact ⟨_, rfl, fun Q k => .inr ⟨rfl, by simpa using k⟩⟩
theorem os_isn : OpS M .isn rIsn := by
  intro H x y d1 d2 z h1 h2 e
  have e : isD true d1 d2 = some z := e
  rcases is_core h1 h2 e with ⟨a, b, rfl, rfl, rfl⟩ | ⟨rfl, rfl⟩
  · exact ⟨_, rfl, fun Q k => .inl ⟨_, _, rfl, rfl, by simpa using k⟩⟩
  · exact ⟨_, rfl, fun Q k => .inr ⟨rfl, by simpa using k⟩⟩
end

theorem ev_o2 {T : Tb} {cl : Nat → List D → Option D} {o : O2} {p q : E} {env : Env} {z : D} (h : ev T cl (.o2 o p q) env = some z) : ∃ x y, ev T cl p env = some x ∧ ev T cl q env = some y ∧ op2 o x y = some z := by
  unfold ev at h
  split at h
  · rename_i x e1
    split at h
    · rename_i y e2
      exact ⟨x, y, e1, e2, h⟩
    · cases h
  · cases h
theorem ev_o1 {T : Tb} {cl : Nat → List D → Option D} {o : O1} {p : E} {env : Env} {z : D} (h : ev T cl (.o1 o p) env = some z) : ∃ x, ev T cl p env = some x ∧ op1 T.sub o x = some z := by
  unfold ev at h
  split at h
  · rename_i x e1
    exact ⟨x, e1, h⟩
  · cases h
section
variable {W : Wd} {X : Cx} {a b c : Expr} {p q r : E} {pos : Pos}
theorem op_core {o : O2} {rr : R2} (hr : OpS (sm X W) o rr) : ∀ σ H Q, tD (sm X W) W (.o2 o p q) σ H Q → tOp rr (tB (sm X W) W p) (tB (sm X W) W q) σ H Q := fun σ H Q ⟨F, env, d, s, hs, _, ev, k⟩ => by
  obtain ⟨d1, d2, e1, e2, e⟩ := ev_o2 ev
  refine ⟨F, env, d1, s, hs, e1, fun v H1 t1 r1 => ⟨F, env, d2, s.trans t1, hs.mono (Same.refl _) t1, e2, fun y H2 t2 r2 => ?_⟩⟩
  obtain ⟨u, su, hq⟩ := hr H2 v y d1 d2 d (r1.mono t2) r2 e
  exact hq Q (k u F H2 (Ext.grow s (t1.trans t2)) (scl_top su))
theorem de_o2 {op : Operator} {o : O2} {rr : R2} (ho : OpR X (binaryOp op) rr) (hr : OpS (sm X W) o rr) (ha : DB W X a p) (hb : DB W X b q) : DE W X (.BinOp a op b pos) (.o2 o p q) := PE.imp (pe_op ho ha hb) (op_core hr)
theorem de_cmp {op : CmpOp} {o : O2} {rr : R2} (ho : OpR X (compareOp op) rr) (hr : OpS (sm X W) o rr) (ha : DB W X a p) (hb : DB W X b q) (hm : behindInMarks op b = false := by first | exact nomark _ | rfl) : DE W X (.Compare a [op] [b] pos) (.o2 o p q) :=
  PE.imp (pe_cmpR ho ha hb hm) (op_core hr)
theorem dt_cmp {op : CmpOp} {o : O2} {rr : R2} (ho : OpR X (compareOp op) rr) (hr : OpS (sm X W) o rr) (ha : DB W X a p) (hb : DB W X b q) (hm : behindInMarks op b = false := by first | exact nomark _ | rfl) : DT W X (.Compare a [op] [b] pos) (.o2 o p q) :=
  PT.imp (pt_cmpR ho ha hb hm) fun σ H Q ⟨F, env, d, s, hs, ev, k⟩ => by
    obtain ⟨d1, d2, e1, e2, e⟩ := ev_o2 ev
    refine ⟨F, env, d1, s, hs, e1, fun v H1 t1 r1 => ⟨F, env, d2, s.trans t1, hs.mono (Same.refl _) t1, e2, fun y H2 t2 r2 => ?_⟩⟩
    obtain ⟨u, su, hq⟩ := hr H2 v y d1 d2 _ (r1.mono t2) r2 e
    obtain rfl : V.bl d = u := Option.some.inj su
    exact hq (fun x H' => ∃ k, x = .bl k ∧ Q k H') ⟨d, rfl, k H2 (t1.trans t2)⟩
/-- a < b < c -/
theorem ev_ch {T : Tb} {cl : Nat → List D → Option D} {o o' : O2} {p q r : E} {env : Env} {z : D} (h : ev T cl (.ch o o' p q r) env = some z) : ∃ x y, ev T cl p env = some x ∧ ev T cl q env = some y ∧
    ((op2 o x y = some (.bl true) ∧ ∃ w, ev T cl r env = some w ∧ op2 o' y w = some z) ∨ (op2 o x y = some (.bl false) ∧ z = .bl false)) := by
  unfold ev at h
  split at h
  · rename_i x e1
    split at h
    · rename_i y e2
      refine ⟨x, y, e1, e2, ?_⟩
      split at h
      · rename_i e3
        split at h
        · rename_i w e4
          exact .inl ⟨e3, w, e4, h⟩
        · cases h
      · rename_i e3
        cases h
        exact .inr ⟨e3, rfl⟩
      · cases h
    · cases h
  · cases h
theorem de_ch {op op' : CmpOp} {o o' : O2} {r1 r2 : R2} (ho : OpR X (compareOp op) r1) (hr : OpS (sm X W) o r1) (ho' : OpR X (compareOp op') r2) (hr' : OpS (sm X W) o' r2) (ha : DB W X a p) (hb : DB W X b q) (hc : DB W X c r)
    (hch : PE X (.Compare a [op, op'] [b, c] pos) (tChain r1 r2 (tB (sm X W) W p) (tB (sm X W) W q) (tB (sm X W) W r))) : DE W X (.Compare a [op, op'] [b, c] pos) (.ch o o' p q r) :=
  PE.imp hch fun σ H Q ⟨F, env, d, s, hs, _, ev, k⟩ => by
    obtain ⟨d1, d2, e1, e2, e⟩ := ev_ch ev
    refine ⟨F, env, d1, s, hs, e1, fun v H1 t1 w1 => ⟨F, env, d2, s.trans t1, hs.mono (Same.refl _) t1, e2, fun y H2 t2 w2 => ?_⟩⟩
    rcases e with ⟨e3, w, e4, e5⟩ | ⟨e3, rfl⟩
    · obtain ⟨u, su, hq⟩ := hr H2 v y d1 d2 _ (w1.mono t2) w2 e3
      obtain rfl : V.bl true = u := Option.some.inj su
      refine hq _ ⟨true, rfl, ?_⟩
      rw [if_pos rfl]
      refine ⟨F, env, w, (s.trans t1).trans t2, (hs.mono (Same.refl _) t1).mono (Same.refl _) t2, e4, fun x H3 t3 w3 => ?_⟩
      obtain ⟨u, su, hq⟩ := hr' H3 y x d2 w _ (w2.mono t3) w3 e5
      exact hq Q (k u F H3 (Ext.grow s ((t1.trans t2).trans t3)) (scl_top su))
    · obtain ⟨u, su, hq⟩ := hr H2 v y d1 d2 _ (w1.mono t2) w2 e3
      obtain rfl : V.bl false = u := Option.some.inj su
      refine hq _ ⟨false, rfl, ?_⟩
      rw [if_neg Bool.false_ne_true]
      exact k _ F H2 (Ext.grow s (t1.trans t2)) (scl_top rfl)
end
end Nt

set_option Elab.async false
set_option linter.all false
set_option maxRecDepth 100000
set_option maxHeartbeats 4000000
/-! Tests, displays, built-ins, +, slices, items. -/
namespace Nt
open PySem PySem.Spec PyProof.Rows L2

section
variable {W : Wd} {X : Cx} {a b c e : Expr} {p q r : E} {pos : Pos} {rest : List Expr}
/-! ### tests -/
theorem ev_not {T : Tb} {cl : Nat → List D → Option D} {p : E} {env : Env} {z : D} (h : ev T cl (.o1 .not p) env = some z) : ∃ b, ev T cl p env = some (.bl b) ∧ z = .bl (!b) := by
  obtain ⟨x, e1, e2⟩ := ev_o1 h
  have e2 : notD x = some z := e2
  unfold notD at e2
  split at e2
  · cases e2; exact ⟨_, e1, rfl⟩
  · cases e2
theorem dt_not (h : DT W X a p) : DT W X (.UnaryOp .Not a pos) (.o1 .not p) := PT.imp (pt_not h) fun σ H Q ⟨F, env, b, s, hs, ev, k⟩ => by
  obtain ⟨c, e1, e2⟩ := ev_not ev
  have e2 : b = !c := by cases e2; rfl
  exact ⟨F, env, c, s, hs, e1, fun H' t => by show Q (!c) H'; rw [← e2]; exact k H' t⟩
theorem ev_and {T : Tb} {cl : Nat → List D → Option D} {p q : E} {env : Env} {z : D} (h : ev T cl (.and p q) env = some z) : (ev T cl p env = some (.bl true) ∧ ev T cl q env = some z) ∨ (ev T cl p env = some (.bl false) ∧ z = .bl false) := by
  unfold ev at h
  split at h
  · rename_i e1; exact .inl ⟨e1, h⟩
  · rename_i e1; cases h; exact .inr ⟨e1, rfl⟩
  · cases h
theorem ev_or {T : Tb} {cl : Nat → List D → Option D} {p q : E} {env : Env} {z : D} (h : ev T cl (.or p q) env = some z) : (ev T cl p env = some (.bl false) ∧ ev T cl q env = some z) ∨ (ev T cl p env = some (.bl true) ∧ z = .bl true) := by
  unfold ev at h
  split at h
  · rename_i e1; cases h; exact .inr ⟨e1, rfl⟩
  · rename_i e1; exact .inl ⟨e1, h⟩
  · cases h
theorem ev_ite {T : Tb} {cl : Nat → List D → Option D} {c p q : E} {env : Env} {z : D} (h : ev T cl (.ite c p q) env = some z) : (ev T cl c env = some (.bl true) ∧ ev T cl p env = some z) ∨ (ev T cl c env = some (.bl false) ∧ ev T cl q env = some z) := by
  unfold ev at h
  split at h
  · rename_i e1; exact .inl ⟨e1, h⟩
  · rename_i e1; exact .inr ⟨e1, h⟩
  · cases h
/-- chains of and, or: the tail's test -/
abbrev DW (W : Wd) (X : Cx) (e : Expr) (p : E) : Prop := PW X e (tT (sm X W) W p)
theorem dw_and1 (h : DT W X a p) : DW W X (.BoolOp .And [a] pos) p := pw_and1 h
theorem dw_or1 (h : DT W X a p) : DW W X (.BoolOp .Or [a] pos) p := pw_or1 h
theorem dw_and (h : DT W X a p) (hb : DW W X (.BoolOp .And (b :: rest) pos) q) : DW W X (.BoolOp .And (a :: b :: rest) pos) (.and p q) := PW.imp (pw_and h hb) fun σ H Q ⟨F, env, b, s, hs, ev, k⟩ => by
  rcases ev_and ev with ⟨e1, e2⟩ | ⟨e1, e2⟩
  · refine ⟨F, env, true, s, hs, e1, fun H' t => ?_⟩
    refine iteT ?_
    exact ⟨F, env, b, s.trans t, hs.mono (Same.refl _) t, e2, fun H2 t2 => k H2 (t.trans t2)⟩
  · cases e2
    refine ⟨F, env, false, s, hs, e1, fun H' t => ?_⟩
    refine iteF ?_
    exact k H' t
theorem dw_or (h : DT W X a p) (hb : DW W X (.BoolOp .Or (b :: rest) pos) q) : DW W X (.BoolOp .Or (a :: b :: rest) pos) (.or p q) := PW.imp (pw_or h hb) fun σ H Q ⟨F, env, b, s, hs, ev, k⟩ => by
  rcases ev_or ev with ⟨e1, e2⟩ | ⟨e1, e2⟩
  · refine ⟨F, env, false, s, hs, e1, fun H' t => ?_⟩
    refine iteF ?_
    exact ⟨F, env, b, s.trans t, hs.mono (Same.refl _) t, e2, fun H2 t2 => k H2 (t.trans t2)⟩
  · cases e2
    refine ⟨F, env, true, s, hs, e1, fun H' t => ?_⟩
    refine iteT ?_
    exact k H' t
theorem dwT {e : Expr} (h : DW W X e p) : DT W X e p := h.pt
/-! ### as values -/
theorem de_not (h : DB W X a p) : DE W X (.UnaryOp .Not a pos) (.o1 .not p) := PE.imp (pe_not h) fun σ H Q ⟨F, env, d, s, hs, _, ev, k⟩ => by
  obtain ⟨c, e1, rfl⟩ := ev_not ev
  exact ⟨F, env, _, s, hs, e1, fun v H' t r => ⟨c, r, k _ F H' (Ext.grow s t) (scl_top rfl)⟩⟩
theorem de_one {o : BoolOp} (h : DE W X a p) : DE W X (.BoolOp o [a] pos) p := pe_one h
theorem Rtop.and {M : Sm} {H F H' : Hp} {d : D} {v : V} {tp : Bool} (h : RV M F d v) : Rtop M false H F H' d v := .inl h
theorem de_and (h : DB W X a p) (hb : DE W X (.BoolOp .And (b :: rest) pos) q) : DE W X (.BoolOp .And (a :: b :: rest) pos) (.and p q) := PE.imp (pe_and h (deP hb)) fun σ H Q ⟨F, env, d, s, hs, hf, ev, k⟩ => by
  rcases ev_and ev with ⟨e1, e2⟩ | ⟨e1, e2⟩
  · refine ⟨F, env, _, s, hs, e1, fun v H' t r => ⟨true, r, ?_⟩⟩
    refine iteT ?_
    exact ⟨F, env, d, s.trans t, hs.mono (Same.refl _) t, hf, e2, fun v F2 H2 x r => k v F2 H2 ((Ext.grow s t).trans x) (.inl r)⟩
  · cases e2
    refine ⟨F, env, _, s, hs, e1, fun v H' t r => ⟨false, r, ?_⟩⟩
    refine iteF ?_
    exact k _ F H' (Ext.grow s t) (scl_top rfl)
theorem de_or (h : DB W X a p) (hb : DE W X (.BoolOp .Or (b :: rest) pos) q) : DE W X (.BoolOp .Or (a :: b :: rest) pos) (.or p q) := PE.imp (pe_or h (deP hb)) fun σ H Q ⟨F, env, d, s, hs, hf, ev, k⟩ => by
  rcases ev_or ev with ⟨e1, e2⟩ | ⟨e1, e2⟩
  · refine ⟨F, env, _, s, hs, e1, fun v H' t r => ⟨false, r, ?_⟩⟩
    refine iteF ?_
    exact ⟨F, env, d, s.trans t, hs.mono (Same.refl _) t, hf, e2, fun v F2 H2 x r => k v F2 H2 ((Ext.grow s t).trans x) (.inl r)⟩
  · cases e2
    refine ⟨F, env, _, s, hs, e1, fun v H' t r => ⟨true, r, ?_⟩⟩
    refine iteT ?_
    exact k _ F H' (Ext.grow s t) (scl_top rfl)
theorem Rtop.down {M : Sm} {F H F' H' : Hp} {d : D} {v : V} {t1 t2 : Bool} (x : Ext F H F' H') (h : Rtop M t1 H F' H' d v) (i : t2 = true → t1 = true) : ∃ F2, Ext F H F2 H' ∧ Rtop M t2 H F2 H' d v := by
  cases t2 with
  | true =>
    have e := i rfl
    subst e
    exact ⟨F', x, h⟩
  | false =>
    obtain ⟨F2, x2, _, r⟩ := h.plain x
    exact ⟨F2, x2, .inl r⟩
theorem Rtop.before {M : Sm} {H H1 F' H' : Hp} {d : D} {v : V} {t : Bool} (s : Same H H1) (h : Rtop M t H1 F' H' d v) : Rtop M t H F' H' d v := by
  rcases h with h | ⟨a, b, c⟩
  · left
    cases t with
    | false => exact h
    | true => obtain ⟨p, h1, h2, h3⟩ := h; exact ⟨p, s.free h1, h2, h3⟩
  · exact .inr ⟨a, b, c⟩
theorem de_ite (hc : DT W X c r) (ha : DE W X a p) (hb : DE W X b q) : DE W X (.IfExp c a b pos) (.ite r p q) := PE.imp (pe_ifExp hc ha hb) fun σ H Q ⟨F, env, d, s, hs, hf, ev, k⟩ => by
  rcases ev_ite ev with ⟨e1, e2⟩ | ⟨e1, e2⟩
  · refine ⟨F, env, true, s, hs, e1, fun H' t => ?_⟩
    refine iteT ?_
    refine ⟨F, env, d, s.trans t, hs.mono (Same.refl _) t, EnvF.left hf, e2, fun v F2 H2 x h => ?_⟩
    obtain ⟨F3, x3, h3⟩ := h.down x (t2 := top W.T (.ite r p q)) (fun z => by unfold top at z; exact (Bool.and_eq_true_iff.mp z).1)
    exact k v F3 H2 ((Ext.grow s t).trans x3) (h3.before t)
  · refine ⟨F, env, false, s, hs, e1, fun H' t => ?_⟩
    refine iteF ?_
    refine ⟨F, env, d, s.trans t, hs.mono (Same.refl _) t, EnvF.right hf, e2, fun v F2 H2 x h => ?_⟩
    obtain ⟨F3, x3, h3⟩ := h.down x (t2 := top W.T (.ite r p q)) (fun z => by unfold top at z; exact (Bool.and_eq_true_iff.mp z).2)
    exact k v F3 H2 ((Ext.grow s t).trans x3) (h3.before t)
/-! ### displays -/
theorem ev_tup {T : Tb} {cl : Nat → List D → Option D} {ps : Es} {env : Env} {z : D} (h : ev T cl (.tup ps) env = some z) : ∃ ds, evs T cl ps env = some ds ∧ z = .tup ds := by
  unfold ev at h
  split at h
  · rename_i ds e; exact ⟨ds, e, (Option.some.inj h).symm⟩
  · cases h
theorem ev_lst {T : Tb} {cl : Nat → List D → Option D} {ps : Es} {env : Env} {z : D} (h : ev T cl (.lst ps) env = some z) : ∃ ds, evs T cl ps env = some ds ∧ z = .lst ds := by
  unfold ev at h
  split at h
  · rename_i ds e; exact ⟨ds, e, (Option.some.inj h).symm⟩
  · cases h
def Es.len : Es → Nat
  | .nil => 0
  | .cons _ es => es.len + 1
theorem evs_len {T : Tb} {cl : Nat → List D → Option D} : ∀ {ps : Es} {env : Env} {ds : List D}, evs T cl ps env = some ds → ds.length = ps.len
  | .nil, _, _, h => by
    obtain rfl : [] = _ := Option.some.inj h
    rfl
  | .cons p ps, _, _, h => by
    obtain ⟨d, r, rfl, _, e2⟩ := evs_cons h
    rw [List.length_cons, evs_len e2]
    rfl
theorem de_tup {es : List Expr} {ps : Es} {k : Nat} (h : DA W X es ps) (hl : decide (ps.len ≤ sizeLine) = true := by decide) : DE W X (.Tuple es k pos) (.tup ps) := PE.imp (pe_tup h) fun σ H Q ⟨F, env, d, s, hs, hf, ev, k⟩ => by
  obtain ⟨ds, e1, rfl⟩ := ev_tup ev
  refine ⟨F, env, ds, s, hs, hf, e1, fun vs F1 H1 x r => ⟨by rw [r.len, evs_len e1]; exact of_decide_eq_true hl, fun t ht => ?_⟩⟩
  have y := Ext.new (o := .tup vs) x.s ht
  exact k _ _ _ (x.trans y) (Rtop.of ⟨t, vs, rfl, .inl (.inl upd_same), r.mono y.f⟩ rfl)
theorem de_lst {es : List Expr} {ps : Es} (h : DA W X es ps) (hl : decide (ps.len ≤ sizeLine) = true := by decide) : DE W X (.List es pos) (.lst ps) := PE.imp (pe_lst h) fun σ H Q ⟨F, env, d, s, hs, hf, ev, k⟩ => by
  obtain ⟨ds, e1, rfl⟩ := ev_lst ev
  refine ⟨F, env, ds, s, hs, hf, e1, fun vs F1 H1 x r => ⟨by rw [r.len, evs_len e1]; exact of_decide_eq_true hl, fun t ht => ?_⟩⟩
  exact k _ F1 _ (x.trans (Ext.hid x.s ht)) (Rtop.newL (x.h.free ht) (x.s.free ht) upd_same r)
/-! ### built-ins of one value, a scalar -/
def CallS (sub : Nat → Nat → Option Bool) (M : Sm) (o : O1) (r : List V → Hp → VK → Prop) : Prop := ∀ (H : Hp) (x : V) (d z : D), RV M H d x → op1 sub o d = some z → ∃ u, scl z = some u ∧ ∀ Q : VK, Q u H → r [x] H Q
theorem de_b1 {o : O1} {x : Str} {id : String} {rr : List V → Hp → VK → Prop} {pp : Pos} (hc : CallR X (.builtin id) rr) (hg : Gl X x) (hm : X.mg x = none) (hv : bootBuiltins x = some (.builtin id)) (hr : CallS W.T.sub (sm X W) o rr) (h : DB W X a p)
    (hn : x ≠ "__name__" := by decide) (hdb : (x == ("__debug__" : Str)) = false := by decide) (hst : starEach [a] X.env = [(false, eval a X.env)] := by rfl) : DE W X (.Call (.Name x pp) [a] [] pos) (.o1 o p) :=
  PE.imp (pe_callB hc hg hm hv (pa_cons h pa_nil hst) hn hdb hst rfl) fun σ H Q ⟨F, env, d, s, hs, _, ev, k⟩ => by
    obtain ⟨d1, e1, e2⟩ := ev_o1 ev
    refine ⟨F, env, d1, s, hs, e1, fun v H1 t r1 => ?_⟩
    obtain ⟨u, su, hq⟩ := hr H1 v d1 d r1 e2
    exact hq Q (k u F H1 (Ext.grow s t) (scl_top su))
theorem cs_len {sub : Nat → Nat → Option Bool} {M : Sm} : CallS sub M .len (fun xs H Q => ∃ p ys, xs = [.ref p] ∧ (SqL M.K H p ys ∨ SqT M.K H p ys) ∧ Q (.int ys.length) H) := by
  intro H x d z h e
  have e : lenD d = some z := e
  unfold lenD at e
  split at e
  all_goals cases e
  · obtain ⟨a, vs, e1, h1, h2⟩ := h
    exact ⟨_, rfl, fun Q k => ⟨a, vs, by rw [e1], .inr h1, by rw [h2.len]; exact k⟩⟩
  · obtain ⟨a, vs, e1, h1, h2⟩ := h
    exact ⟨_, rfl, fun Q k => ⟨a, vs, by rw [e1], .inl (SqL.of h1), by rw [h2.len]; exact k⟩⟩
  · obtain ⟨a, e1, h1⟩ := h
    exact ⟨_, rfl, fun Q k => ⟨a, _, by rw [e1], .inl h1, by rw [List.length_map]; exact k⟩⟩
theorem cs_all {sub : Nat → Nat → Option Bool} {M : Sm} : CallS sub M .all (rAll M.K) := by
  intro H x d z h e
  have e : allD d = some z := e
  unfold allD at e
  split at e
  all_goals first | (cases e; done) | skip
  obtain ⟨a, vs, e1, h1, h2⟩ := h
  obtain ⟨bs, eb, rfl⟩ := Option.map_eq_some_iff.mp e
  rw [RVs.of_bls h2 eb] at h1
  exact ⟨_, rfl, fun Q k => ⟨a, bs, by rw [e1], SqL.of h1, k⟩⟩
theorem cs_any {sub : Nat → Nat → Option Bool} {M : Sm} : CallS sub M .any (rAny M.K) := by
  intro H x d z h e
  have e : anyD d = some z := e
  unfold anyD at e
  split at e
  all_goals first | (cases e; done) | skip
  obtain ⟨a, vs, e1, h1, h2⟩ := h
  obtain ⟨bs, eb, rfl⟩ := Option.map_eq_some_iff.mp e
  rw [RVs.of_bls h2 eb] at h1
  exact ⟨_, rfl, fun Q k => ⟨a, bs, by rw [e1], SqL.of h1, k⟩⟩
theorem foldl_max : ∀ (xs : List Int) (x m : Int), m ∈ x :: xs → (∀ y ∈ x :: xs, y ≤ m) → xs.foldl (fun a b => if b > a then b else a) x = m
  | [], x, m, h, _ => by
    have e : m = x := by simpa using h
    exact e.symm
  | y :: ys, x, m, h, hle => by
    rw [List.foldl_cons]
    have h1 := hle x (by simp)
    have h2 := hle y (by simp)
    refine foldl_max ys _ m ?_ fun z hz => ?_
    · by_cases c : y > x
      · rw [if_pos c]
        rcases List.mem_cons.mp h with rfl | h
        · omega
        · exact h
      · rw [if_neg c]
        rcases List.mem_cons.mp h with rfl | h
        · exact List.mem_cons_self ..
        · rcases List.mem_cons.mp h with rfl | h
          · rw [show x = m by omega]; exact List.mem_cons_self ..
          · exact List.mem_cons_of_mem _ h
    · rcases List.mem_cons.mp hz with rfl | hz
      · split <;> assumption
      · exact hle z (List.mem_cons_of_mem _ (List.mem_cons_of_mem _ hz))
theorem cs_max {sub : Nat → Nat → Option Bool} {M : Sm} : CallS sub M .max (rMax M.K) := by
  intro H x d z h e
  have e : maxD d = some z := e
  unfold maxD at e
  split at e
  all_goals first | (cases e; done) | skip
  obtain ⟨a, vs, e1, h1, h2⟩ := h
  split at e
  · rename_i ns en
    obtain ⟨m, em, rfl⟩ := Option.map_eq_some_iff.mp e
    obtain ⟨q1, _⟩ := RVs.of_ints h2 en
    rw [q1] at h1
    cases ns with
    | nil => cases em
    | cons y ys =>
      have em : ys.foldl (fun a b => if b > a then b else a) y = m := Option.some.inj em
      refine ⟨_, rfl, fun Q k => ⟨a, _, by rw [e1], SqL.of h1, Nat.succ_pos _, fun m' hm hle => ?_⟩⟩
      rw [foldl_max ys y m' hm hle] at em
      rw [em]
      exact k
  · cases e
theorem de_len {pp : Pos} (h : DB W X a p) (hg : Gl X "len" := by rfl) (hm : X.mg "len" = none) (hst : starEach [a] X.env = [(false, eval a X.env)] := by rfl) : DE W X (.Call (.Name "len" pp) [a] [] pos) (.o1 .len p) :=
  de_b1 call_len_seq hg hm PySem.boot_len cs_len h (by decide) (by decide) hst
theorem de_all {pp : Pos} (hc : X.calm = true) (h : DB W X a p) (hg : Gl X "all" := by rfl) (hm : X.mg "all" = none) (hst : starEach [a] X.env = [(false, eval a X.env)] := by rfl) : DE W X (.Call (.Name "all" pp) [a] [] pos) (.o1 .all p) :=
  de_b1 (cr_all hc) hg hm (by decide +kernel) cs_all h (by decide) (by decide) hst
theorem de_any {pp : Pos} (hc : X.calm = true) (h : DB W X a p) (hg : Gl X "any" := by rfl) (hm : X.mg "any" = none) (hst : starEach [a] X.env = [(false, eval a X.env)] := by rfl) : DE W X (.Call (.Name "any" pp) [a] [] pos) (.o1 .any p) :=
  de_b1 (cr_any hc) hg hm (by decide +kernel) cs_any h (by decide) (by decide) hst
theorem de_max {pp : Pos} (hc : X.calm = true) (h : DB W X a p) (hg : Gl X "max" := by rfl) (hm : X.mg "max" = none) (hst : starEach [a] X.env = [(false, eval a X.env)] := by rfl) : DE W X (.Call (.Name "max" pp) [a] [] pos) (.o1 .max p) :=
  de_b1 (cr_max hc) hg hm (by decide +kernel) cs_max h (by decide) (by decide) hst
/-- max(a, b), min(a, b) -/
theorem de_b2 {o : O2} {x : Str} {id : String} {rr : List V → Hp → VK → Prop} {pp : Pos} (hc : CallR X (.builtin id) rr) (hg : Gl X x) (hm : X.mg x = none) (hv : bootBuiltins x = some (.builtin id)) (hr : OpS (sm X W) o fun x y H Q => rr [x, y] H Q) (ha : DB W X a p) (hb : DB W X b q)
    (hn : x ≠ "__name__" := by decide) (hdb : (x == ("__debug__" : Str)) = false := by decide) (hst : starEach [a, b] X.env = (false, eval a X.env) :: starEach [b] X.env := by rfl) (hs2 : starEach [b] X.env = [(false, eval b X.env)] := by rfl) : DE W X (.Call (.Name x pp) [a, b] [] pos) (.o2 o p q) :=
  PE.imp (pe_callB hc hg hm hv (pa_cons ha (pa_cons hb pa_nil hs2) hst) hn hdb hst (by rw [hs2]; rfl)) fun σ H Q h => op_core hr σ H Q h
theorem os_max {M : Sm} : OpS M .max (fun x y H Q => ∃ i j, [x, y] = [.int i, .int j] ∧ Q (.int (if j > i then j else i)) H) := by
  intro H x y d1 d2 z h1 h2 e
  obtain ⟨i, j, rfl, rfl, q⟩ := int2_some (f := fun i j => some (.int (if j > i then j else i))) e
  cases q
  exact ⟨_, rfl, fun Q k => ⟨i, j, by rw [show x = .int i from h1, show y = .int j from h2], k⟩⟩
theorem os_min {M : Sm} : OpS M .min (fun x y H Q => ∃ i j, [x, y] = [.int i, .int j] ∧ Q (.int (if j < i then j else i)) H) := by
  intro H x y d1 d2 z h1 h2 e
  obtain ⟨i, j, rfl, rfl, q⟩ := int2_some (f := fun i j => some (.int (if j < i then j else i))) e
  cases q
  exact ⟨_, rfl, fun Q k => ⟨i, j, by rw [show x = .int i from h1, show y = .int j from h2], k⟩⟩
theorem de_max2 {pp : Pos} (hc : X.calm = true) (ha : DB W X a p) (hb : DB W X b q) (hg : Gl X "max" := by rfl) (hm : X.mg "max" = none) (hst : starEach [a, b] X.env = (false, eval a X.env) :: starEach [b] X.env := by rfl) (hs2 : starEach [b] X.env = [(false, eval b X.env)] := by rfl) : DE W X (.Call (.Name "max" pp) [a, b] [] pos) (.o2 .max p q) :=
  de_b2 (call_max2 hc) hg hm (by decide +kernel) os_max ha hb (by decide) (by decide) hst hs2
theorem de_min2 {pp : Pos} (hc : X.calm = true) (ha : DB W X a p) (hb : DB W X b q) (hg : Gl X "min" := by rfl) (hm : X.mg "min" = none) (hst : starEach [a, b] X.env = (false, eval a X.env) :: starEach [b] X.env := by rfl) (hs2 : starEach [b] X.env = [(false, eval b X.env)] := by rfl) : DE W X (.Call (.Name "min" pp) [a, b] [] pos) (.o2 .min p q) :=
  de_b2 (call_min2 hc) hg hm (by decide +kernel) os_min ha hb (by decide) (by decide) hst hs2
theorem de_neg (h : DB W X a p) : DE W X (.UnaryOp .USub a pos) (.o1 .neg p) := PE.imp (pe_un un_neg h) fun σ H Q ⟨F, env, d, s, hs, _, ev, k⟩ => by
  obtain ⟨d1, e1, e2⟩ := ev_o1 ev
  refine ⟨F, env, d1, s, hs, e1, fun v H1 t r1 => ?_⟩
  have e2 : negD d1 = some d := e2
  unfold negD at e2
  split at e2
  · cases e2
    exact ⟨_, r1, k _ F H1 (Ext.grow s t) (scl_top rfl)⟩
  · cases e2
end
end Nt

set_option Elab.async false
set_option linter.all false
set_option maxRecDepth 100000
set_option maxHeartbeats 4000000
/-! Sorting of lists of lists of ints. -/
namespace Nt
open PySem PySem.Spec PyProof.Rows L2

theorem lex_code {B : Int} : ∀ {a b : List Int}, a.length = b.length → TS.Bd B a → TS.Bd B b → HT.lexLt a b = decide (TS.code B a < TS.code B b)
  | [], [], _, _, _ => (decide_eq_false (Int.lt_irrefl _)).symm
  | [], _ :: _, h, _, _ => by simp at h
  | _ :: _, [], h, _, _ => by simp at h
  | x :: xs, y :: ys, h, ha, hb => by
    have h' : xs.length = ys.length := by simpa using h
    rw [HT.lexLt_cons]
    by_cases e : x = y
    · subst e
      rw [if_pos rfl, lex_code h' ha.tail hb.tail]
      exact decide_eq_decide.mpr (TS.code_same h').symm
    · rw [if_neg e]
      refine decide_eq_decide.mpr ⟨fun z => TS.code_lt h' ha.tail hb.tail z, fun z => ?_⟩
      rcases Int.lt_trichotomy x y with q | q | q
      · exact q
      · exact absurd q e
      · have := TS.code_lt h'.symm hb.tail ha.tail q
        omega
theorem code_inj {B : Int} : ∀ {a b : List Int}, a.length = b.length → TS.Bd B a → TS.Bd B b → TS.code B a = TS.code B b → a = b
  | [], [], _, _, _, _ => rfl
  | [], _ :: _, h, _, _, _ => by simp at h
  | _ :: _, [], h, _, _, _ => by simp at h
  | x :: xs, y :: ys, h, ha, hb, e => by
    have h' : xs.length = ys.length := by simpa using h
    rcases Int.lt_trichotomy x y with q | q | q
    · have := TS.code_lt h' ha.tail hb.tail q
      omega
    · subst q
      have e2 : x * B ^ xs.length + TS.code B xs = x * B ^ ys.length + TS.code B ys := e
      rw [h'] at e2
      rw [code_inj h' ha.tail hb.tail (by omega)]
    · have := TS.code_lt h'.symm hb.tail ha.tail q
      omega
/-- all of length d, ints in [0, 1000) -/
def Evn (d : Nat) (xs : List (List Int)) : Prop := ∀ x ∈ xs, x.length = d ∧ TS.Bd 1000 x
theorem evn_of {xs : List (List Int)} (h : evenL xs = true) : ∃ d, 1 ≤ d ∧ Evn d xs := by
  cases xs with
  | nil => exact ⟨1, Nat.le_refl _, fun x hx => by cases hx⟩
  | cons x xs =>
    unfold evenL at h
    rw [Bool.and_eq_true, List.all_eq_true] at h
    refine ⟨x.length, ?_, fun y hy => ?_⟩
    · cases x with
      | nil => simp at h
      | cons _ _ => rw [List.length_cons]; omega
    · have q := h.2 y hy
      rw [Bool.and_eq_true, List.all_eq_true] at q
      refine ⟨by simpa using q.1, fun m hm => ?_⟩
      have z := q.2 m hm
      rw [Bool.and_eq_true] at z
      exact ⟨of_decide_eq_true z.1, of_decide_eq_true z.2⟩
abbrev Le (x y : List Int) : Prop := TS.code 1000 x ≤ TS.code 1000 y
theorem insL_perm (x : List Int) : ∀ ys, (insL x ys).Perm (x :: ys)
  | [] => .refl _
  | y :: ys => by
    unfold insL
    split
    · exact ((insL_perm x ys).cons y).trans (List.Perm.swap x y ys)
    · exact .refl _
theorem sortL_perm : ∀ xs, (sortL xs).Perm xs
  | [] => .refl _
  | x :: xs => (insL_perm x (sortL xs)).trans ((sortL_perm xs).cons x)
theorem insL_sorted {d : Nat} (x : List Int) : ∀ ys : List (List Int), Evn d (x :: ys) → ys.Pairwise Le → (insL x ys).Pairwise Le
  | [], _, _ => by unfold insL; exact List.pairwise_singleton ..
  | y :: ys, he, h => by
    have hx := he x (List.mem_cons_self ..)
    have hy := he y (List.mem_cons_of_mem _ (List.mem_cons_self ..))
    have hr : Evn d (x :: ys) := fun z hz => he z (by
      rcases List.mem_cons.mp hz with e | e
      · rw [e]; exact List.mem_cons_self ..
      · exact List.mem_cons_of_mem _ (List.mem_cons_of_mem _ e))
    rw [List.pairwise_cons] at h
    unfold insL
    split
    · rename_i c
      rw [lex_code (hy.1.trans hx.1.symm) hy.2 hx.2] at c
      have c := of_decide_eq_true c
      refine List.pairwise_cons.mpr ⟨fun z hz => ?_, insL_sorted x ys hr h.2⟩
      rcases List.mem_cons.mp ((insL_perm x ys).mem_iff.mp hz) with e | e
      · rw [e]; exact Int.le_of_lt c
      · exact h.1 z e
    · rename_i c
      rw [lex_code (hy.1.trans hx.1.symm) hy.2 hx.2] at c
      have c : ¬ _ := of_decide_eq_false (Bool.eq_false_iff.mpr c)
      refine List.pairwise_cons.mpr ⟨fun z hz => ?_, List.pairwise_cons.mpr h⟩
      rcases List.mem_cons.mp hz with e | e
      · rw [e]; show TS.code 1000 x ≤ TS.code 1000 y; omega
      · have := h.1 z e
        show TS.code 1000 x ≤ TS.code 1000 z
        have : TS.code 1000 y ≤ TS.code 1000 z := this
        omega
theorem Evn.perm {d : Nat} {xs ys : List (List Int)} (h : Evn d xs) (p : ys.Perm xs) : Evn d ys := fun x hx => h x (p.mem_iff.mp hx)
theorem Evn.tail {d : Nat} {x : List Int} {xs : List (List Int)} (h : Evn d (x :: xs)) : Evn d xs := fun y hy => h y (List.mem_cons_of_mem _ hy)
theorem sortL_sorted {d : Nat} : ∀ xs : List (List Int), Evn d xs → (sortL xs).Pairwise Le
  | [], _ => .nil
  | x :: xs, h => insL_sorted x (sortL xs) (h.perm ((sortL_perm xs).cons x)) (sortL_sorted xs h.tail)
theorem le_eq {d : Nat} {xs ys : List (List Int)} (h1 : Evn d xs) (hp : xs.Perm ys) (a : xs.Pairwise Le) (b : ys.Pairwise Le) : xs = ys :=
  List.Perm.eq_of_pairwise (fun x y hx hy e1 e2 => by
    have q1 := h1 x hx
    have q2 := h1 y (hp.mem_iff.mpr hy)
    exact code_inj (q1.1.trans q2.1.symm) q1.2 q2.2 (Int.le_antisymm e1 e2)) a b hp
theorem insU_mem (x z : List Int) : ∀ ys, z ∈ insU x ys ↔ z = x ∨ z ∈ ys
  | [] => by unfold insU; simp
  | y :: ys => by
    unfold insU
    split
    · rename_i e
      rw [e, List.mem_cons]
      constructor
      · intro h; exact .inr h
      · rintro (h | h)
        · exact .inl h
        · exact h
    · split
      · rw [List.mem_cons, insU_mem x z ys, List.mem_cons]
        constructor
        · rintro (h | h | h)
          · exact .inr (.inl h)
          · exact .inl h
          · exact .inr (.inr h)
        · rintro (h | h | h)
          · exact .inr (.inl h)
          · exact .inl h
          · exact .inr (.inr h)
      · rw [List.mem_cons]
theorem sortU_mem (z : List Int) : ∀ xs, z ∈ sortU xs ↔ z ∈ xs
  | [] => by unfold sortU; exact Iff.rfl
  | x :: xs => by unfold sortU; rw [insU_mem, sortU_mem z xs, List.mem_cons]
abbrev Lt (x y : List Int) : Prop := TS.code 1000 x < TS.code 1000 y
theorem insU_sorted {d : Nat} (x : List Int) : ∀ ys : List (List Int), Evn d (x :: ys) → ys.Pairwise Lt → (insU x ys).Pairwise Lt
  | [], _, _ => by unfold insU; exact List.pairwise_singleton ..
  | y :: ys, he, h => by
    have hx := he x (List.mem_cons_self ..)
    have hy := he y (List.mem_cons_of_mem _ (List.mem_cons_self ..))
    have hr : Evn d (x :: ys) := fun z hz => he z (by
      rcases List.mem_cons.mp hz with e | e
      · rw [e]; exact List.mem_cons_self ..
      · exact List.mem_cons_of_mem _ (List.mem_cons_of_mem _ e))
    have h0 := h
    rw [List.pairwise_cons] at h
    unfold insU
    split
    · exact h0
    · rename_i ne
      split
      · rename_i c
        rw [lex_code (hy.1.trans hx.1.symm) hy.2 hx.2] at c
        have c := of_decide_eq_true c
        refine List.pairwise_cons.mpr ⟨fun z hz => ?_, insU_sorted x ys hr h.2⟩
        rcases (insU_mem x z ys).mp hz with e | e
        · rw [e]; exact c
        · exact h.1 z e
      · rename_i c
        rw [lex_code (hy.1.trans hx.1.symm) hy.2 hx.2] at c
        have c : ¬ _ := of_decide_eq_false (Bool.eq_false_iff.mpr c)
        have c2 : TS.code 1000 x ≠ TS.code 1000 y := fun q => ne (code_inj (hx.1.trans hy.1.symm) hx.2 hy.2 q)
        refine List.pairwise_cons.mpr ⟨fun z hz => ?_, h0⟩
        rcases List.mem_cons.mp hz with e | e
        · rw [e]; show TS.code 1000 x < TS.code 1000 y; omega
        · have : TS.code 1000 y < TS.code 1000 z := h.1 z e
          show TS.code 1000 x < TS.code 1000 z
          omega
theorem Evn.mem {d : Nat} {xs ys : List (List Int)} (h : Evn d xs) (p : ∀ z ∈ ys, z ∈ xs) : Evn d ys := fun x hx => h x (p x hx)
theorem sortU_sorted {d : Nat} : ∀ xs : List (List Int), Evn d xs → (sortU xs).Pairwise Lt
  | [], _ => .nil
  | x :: xs, h => by
    unfold sortU
    refine insU_sorted x (sortU xs) (h.mem fun z hz => ?_) (sortU_sorted xs h.tail)
    rcases List.mem_cons.mp hz with e | e
    · rw [e]; exact List.mem_cons_self ..
    · exact List.mem_cons_of_mem _ ((sortU_mem z xs).mp e)
theorem lt_nodup {xs : List (List Int)} (h : xs.Pairwise Lt) : xs.Nodup := h.imp fun {a b} q e => by rw [e] at q; exact absurd q (Int.lt_irrefl _)
theorem perm_of_nodup : ∀ {xs ys : List (List Int)}, xs.Nodup → ys.Nodup → (∀ z, z ∈ xs ↔ z ∈ ys) → xs.Perm ys := fun {xs ys} h1 h2 h => (List.perm_ext_iff_of_nodup h1 h2).mpr fun a => h a
theorem uniq_eq {d : Nat} {xs ys : List (List Int)} (h1 : Evn d ys) (hn : xs.Nodup) (hm : ∀ z, z ∈ xs ↔ z ∈ ys) (a : xs.Pairwise Le) : xs = sortU ys := by
  have s := sortU_sorted ys h1
  refine le_eq (d := d) (h1.mem fun z hz => (hm z).mp hz) (perm_of_nodup hn (lt_nodup s) fun z => ?_) a (s.imp fun q => Int.le_of_lt q)
  rw [hm, sortU_mem]
theorem insU_len (x : List Int) : ∀ ys, (insU x ys).length ≤ ys.length + 1
  | [] => Nat.le_refl _
  | y :: ys => by
    unfold insU
    split
    · exact Nat.le_succ _
    · split
      · rw [List.length_cons, List.length_cons]; have := insU_len x ys; omega
      · exact Nat.le_refl _
theorem tupsOf_cons {d : D} {ds : List D} {r : List (List Int)} (h : tupsOf (d :: ds) = some r) : ∃ xs ns r', d = .tup xs ∧ intsOf xs = some ns ∧ tupsOf ds = some r' ∧ r = ns :: r' := by
  cases d with
  | tup xs =>
    unfold tupsOf at h
    split at h
    · rename_i e1 e2
      cases h
      exact ⟨_, _, _, rfl, e1, e2, rfl⟩
    · cases h
  | _ => cases h
theorem tups_ks {M : Sm} {F : Hp} : ∀ {ds : List D} {vs : List V} {nss : List (List Int)}, RVs M F ds vs → tupsOf ds = some nss → ∃ ks : List (Addr × List Int), vs = ks.map (fun p => V.ref p.1) ∧ ks.map (·.2) = nss ∧ ∀ p ∈ ks, SqT M.K F p.1 (p.2.map V.int)
  | [], _, _, h, e => by
    rw [show _ = [] from h]
    have e : [] = _ := Option.some.inj e
    subst e
    exact ⟨[], rfl, rfl, fun p hp => by cases hp⟩
  | d :: ds, _, _, ⟨v, r, e1, h1, h2⟩, e => by
    obtain ⟨xs, ns, r', rfl, q1, q2, rfl⟩ := tupsOf_cons e
    obtain ⟨ks, k1, k2, k3⟩ := tups_ks h2 q2
    obtain ⟨a, us, ea, ha, hu⟩ := h1
    obtain ⟨z, _⟩ := RVs.of_ints hu q1
    refine ⟨(a, ns) :: ks, by rw [e1, ea, k1]; rfl, by rw [List.map_cons, k2], fun p hp => ?_⟩
    rcases List.mem_cons.mp hp with rfl | hp
    · rw [← z]; exact ha
    · exact k3 p hp
theorem ks_rvs {M : Sm} {F : Hp} : ∀ ks : List (Addr × List Int), (∀ p ∈ ks, SqT M.K F p.1 (p.2.map V.int)) → RVs M F ((ks.map (·.2)).map tupD) (ks.map fun p => V.ref p.1)
  | [], _ => RVs.nil
  | p :: ks, h => RVs.cons ⟨p.1, _, rfl, h p (List.mem_cons_self ..), RVs.ints⟩ (ks_rvs ks fun q hq => h q (List.mem_cons_of_mem _ hq))
theorem sortD_some {f : List (List Int) → List (List Int)} {ds : List D} {z : D} (h : sortD f ds = some z) : ∃ nss, tupsOf ds = some nss ∧ evenL nss = true ∧ nss.length < 64 ∧ z = .lst ((f nss).map tupD) := by
  unfold sortD at h
  split at h
  · rename_i nss e
    split at h
    · rename_i c
      rw [Bool.and_eq_true] at c
      exact ⟨nss, e, c.1, of_decide_eq_true c.2, (Option.some.inj h).symm⟩
    · cases h
  · cases h
/-- a list of refs by a perm of the same -/
theorem ks_perm : ∀ {ks : List (Addr × List Int)} {ys : List V}, ys.Perm (ks.map fun p => V.ref p.1) → ∃ ks' : List (Addr × List Int), ks'.Perm ks ∧ ys = ks'.map fun p => V.ref p.1 := by
  intro ks ys h
  generalize hx : ks.map (fun p => V.ref p.1) = xs at h
  induction h generalizing ks with
  | nil =>
    cases ks with
    | nil => exact ⟨[], .refl _, rfl⟩
    | cons _ _ => cases hx
  | @cons x l1 l2 h ih =>
    cases ks with
    | nil => cases hx
    | cons p r =>
      rw [List.map_cons] at hx
      injection hx with e1 e2
      obtain ⟨k', q1, q2⟩ := ih e2
      exact ⟨p :: k', q1.cons p, by rw [List.map_cons, ← q2, e1]⟩
  | @swap x y l =>
    cases ks with
    | nil => cases hx
    | cons p r =>
      cases r with
      | nil => cases hx
      | cons q r =>
        rw [List.map_cons, List.map_cons] at hx
        injection hx with e1 e2
        injection e2 with e2 e3
        exact ⟨q :: p :: r, List.Perm.swap p q r, by rw [List.map_cons, List.map_cons, e1, e2, e3]⟩
  | @trans l1 l2 l3 h1 h2 ih1 ih2 =>
    obtain ⟨k2, q1, q2⟩ := ih2 hx
    obtain ⟨k1, z1, z2⟩ := ih1 q2.symm
    exact ⟨k1, z1.trans q1, z2⟩
end Nt

set_option Elab.async false
set_option linter.all false
set_option maxRecDepth 100000
set_option maxHeartbeats 4000000
/-! +, copies, sorted, slices, items, isinstance, fields. -/
namespace Nt
open PySem PySem.Spec PyProof.Rows L2

theorem lim_line {n : Nat} (h : n ≤ LIM) : n ≤ sizeLine := by
  have : sizeLine = 16777216 := sizeLine_eq
  have e : LIM = 1000000 := rfl
  omega
theorem lim_lt {n : Nat} (h : n < LIM) : n < sizeLine := by
  have : sizeLine = 16777216 := sizeLine_eq
  have e : LIM = 1000000 := rfl
  omega
section
variable {W : Wd} {X : Cx} {a b c e : Expr} {p q r : E} {pos : Pos}
abbrev rAdd3 (K : PySem.W.Frag) : R2 := fun x y H Q => (rI0 fun i j => .int (i + j)) x y H Q ∨ (rCatA K x y H Q ∨ rCat x y H Q)
theorem or_add : OpR X (binaryOp .Add) (rAdd3 X.K) := op_add.or (op_catA.or op_cat)
theorem de_add (ha : DI W X a p) (hb : DI W X b q) : DE W X (.BinOp a .Add b pos) (.o2 .add p q) := PE.imp (pe_op or_add ha hb) fun σ H Q ⟨F, env, d, s, hs, hf, ev, k⟩ => by
  obtain ⟨d1, d2, e1, e2, e⟩ := ev_o2 ev
  refine ⟨F, env, d1, s, hs, EnvF.left hf, e1, fun v F1 H1 x1 r1 => ⟨F1, env, d2, x1.s, hs.mono x1.f x1.h, (EnvF.right hf).mono x1.f, e2, fun y F2 H2 x2 r2 => ?_⟩⟩
  replace r1 := r1.mono x2.f x2.h
  have x := x1.trans x2
  replace e : addD d1 d2 = some d := e
  unfold addD at e
  split at e
  · cases e
    exact .inl ⟨_, _, r1, r2, k _ F2 H2 x (scl_top rfl)⟩
  · rename_i xs ys
    obtain ⟨c, rfl⟩ := ite_some e
    obtain ⟨a1, vs, ea, ha, hv⟩ := (show RV (sm X W) F2 (.tup xs) v from r1)
    obtain ⟨b1, us, eb, hb, hu⟩ := (show RV (sm X W) F2 (.tup ys) y from r2)
    refine .inr (.inl ⟨a1, b1, vs, us, ea, eb, Same.sqt x2.s ha, Same.sqt x2.s hb, by rw [hv.len, hu.len]; exact lim_line c, fun z => ?_, fun _ z => ?_, fun _ _ t ht => ?_⟩)
    · subst z
      cases xs with
      | cons _ _ => obtain ⟨_, _, w, _⟩ := hv; cases w
      | nil => rw [← eb]; exact k _ F2 H2 x (Rtop.of r2 rfl)
    · subst z
      cases ys with
      | cons _ _ => obtain ⟨_, _, w, _⟩ := hu; cases w
      | nil => rw [← ea]; rw [List.append_nil] at k; exact k _ F2 H2 x (Rtop.of r1 rfl)
    · have y := Ext.new (o := .tup (vs ++ us)) x2.s ht
      exact k _ _ _ (x.trans y) (Rtop.of ⟨t, _, rfl, .inl (.inl upd_same), (hv.append hu).mono y.f⟩ rfl)
  · rename_i xs ys
    obtain ⟨c, rfl⟩ := ite_some e
    obtain ⟨a1, vs, ea, ha, hv⟩ := r1
    obtain ⟨b1, us, eb, hb, hu⟩ := r2
    refine .inr (.inr ⟨a1, b1, vs, us, ea, eb, ha, hb, by rw [hv.len, hu.len]; exact lim_line c, fun t ht => ?_⟩)
    exact k _ F2 _ (x.trans (Ext.hid x2.s ht)) (Rtop.newL (x.h.free ht) (x2.s.free ht) upd_same (hv.append hu))
  · cases e
theorem RVs.rep {M : Sm} {F : Hp} {ds : List D} {vs : List V} (h : RVs M F ds vs) : ∀ n : Nat, RVs M F (List.replicate n ds).flatten (List.replicate n vs).flatten
  | 0 => RVs.nil
  | n + 1 => by
    rw [List.replicate_succ, List.replicate_succ, List.flatten_cons, List.flatten_cons]
    exact h.append (RVs.rep h n)
theorem de_rep (ha : DI W X a p) (hb : DB W X b q) : DE W X (.BinOp a .Mult b pos) (.o2 .rep p q) := PE.imp (pe_op op_rep ha hb) fun σ H Q ⟨F, env, d, s, hs, hf, ev, k⟩ => by
  obtain ⟨d1, d2, e1, e2, e⟩ := ev_o2 ev
  refine ⟨F, env, d1, s, hs, hf, e1, fun v F1 H1 x1 r1 => ⟨F1, env, d2, x1.s, hs.mono x1.f x1.h, e2, fun y H2 t r2 => ?_⟩⟩
  replace e : repD d1 d2 = some d := e
  unfold repD at e
  split at e
  · rename_i xs z
    obtain ⟨c, rfl⟩ := ite_some e
    obtain ⟨a1, vs, ea, ha, hv⟩ := r1
    have hz : (xs.length : Nat) * z.toNat ≤ 1000 * 1000 := Nat.mul_le_mul c.2.2 (by omega)
    refine ⟨a1, z, vs, ea, r2, t _ _ ha, by omega, by omega, by rw [hv.len]; exact lim_line hz, fun w hw => ?_⟩
    have x := x1.trans (Ext.grow x1.s t)
    exact k _ F1 _ (x.trans (Ext.hid (x1.s.trans t) hw)) (Rtop.newL (x.h.free hw) (x.s.free hw) upd_same (hv.rep _))
  · cases e
/-! ### list(x), tuple(x) -/
theorem de_list {pp : Pos} (h : DI W X a p) (hg : Gl X "list" := by rfl) (hm : X.mg "list" = none) (hst : starEach [a] X.env = [(false, eval a X.env)] := by rfl) : DE W X (.Call (.Name "list" pp) [a] [] pos) (.o1 .lst p) :=
  PE.imp (pe_callTy call_list_of hg hm PyProof.Rows.boot_list (pa_cons h pa_nil hst) (by decide) (by decide) hst rfl) fun σ H Q ⟨F, env, d, s, hs, hf, ev, k⟩ => by
    obtain ⟨d1, e1, e2⟩ := ev_o1 ev
    refine ⟨F, env, d1, s, hs, hf, e1, fun v F1 H1 x r => ?_⟩
    replace e2 : lstD d1 = some d := e2
    unfold lstD at e2
    split at e2
    · cases e2
      obtain ⟨a1, vs, ea, ha, hv⟩ := r
      exact ⟨a1, vs, by rw [ea], .inl (SqL.of ha), fun t ht => k _ F1 _ (x.trans (Ext.hid x.s ht)) (Rtop.newL (x.h.free ht) (x.s.free ht) upd_same hv)⟩
    · cases e2
      obtain ⟨a1, vs, ea, ha, hv⟩ := (show RV (sm X W) F1 (.tup _) v from r)
      exact ⟨a1, vs, by rw [ea], .inr (Same.sqt x.s ha), fun t ht => k _ F1 _ (x.trans (Ext.hid x.s ht)) (Rtop.newL (x.h.free ht) (x.s.free ht) upd_same hv)⟩
    · cases e2
theorem de_tuple {pp : Pos} (h : DI W X a p) (hg : Gl X "tuple" := by rfl) (hm : X.mg "tuple" = none) (hst : starEach [a] X.env = [(false, eval a X.env)] := by rfl) : DE W X (.Call (.Name "tuple" pp) [a] [] pos) (.o1 .tup p) :=
  PE.imp (pe_callTy call_tuple_of hg hm PyProof.Rows.boot_tuple (pa_cons h pa_nil hst) (by decide) (by decide) hst rfl) fun σ H Q ⟨F, env, d, s, hs, hf, ev, k⟩ => by
    obtain ⟨d1, e1, e2⟩ := ev_o1 ev
    refine ⟨F, env, d1, s, hs, hf, e1, fun v F1 H1 x r => ?_⟩
    replace e2 : tplD d1 = some d := e2
    unfold tplD at e2
    split at e2
    · cases e2
      obtain ⟨a1, vs, ea, ha, hv⟩ := r
      refine ⟨a1, vs, by rw [ea], .inl ⟨SqL.of ha, fun t ht => ?_⟩⟩
      have y := Ext.new (o := .tup vs) x.s ht
      exact k _ _ _ (x.trans y) (Rtop.of ⟨t, vs, rfl, .inl (.inl upd_same), hv.mono y.f⟩ rfl)
    · cases e2
      have r : RV (sm X W) F1 (.tup _) v := r
      have r0 := r
      obtain ⟨a1, vs, ea, ha, hv⟩ := r
      exact ⟨a1, vs, by rw [ea], .inr ⟨Same.sqt x.s ha, by rw [← ea]; exact k _ F1 _ x (Rtop.of r0 rfl)⟩⟩
    · cases e2
/-! ### sorted -/
abbrev rSortX (K : PySem.W.Frag) : List V → Hp → VK → Prop := fun xs H Q => ∃ d, 1 ≤ d ∧ rSortU K d 1000 xs H Q
theorem cr_sortX : CallR X (.builtin "sorted") (rSortX X.K) := by
  intro pins s σ H xs us Q I r h
  obtain ⟨d, hd, h⟩ := h
  exact cr_sortT hd pins s σ H xs us Q I r h
theorem tupI_of {K : PySem.W.Frag} {H : Hp} {t : Addr} {ns : List Int} (h : SqT K H t (ns.map V.int)) : TupI K H (.ref t) ns := ⟨t, rfl, h⟩
theorem de_sort {pp : Pos} (h : DI W X a p) (hg : Gl X "sorted" := by rfl) (hm : X.mg "sorted" = none) (hst : starEach [a] X.env = [(false, eval a X.env)] := by rfl) : DE W X (.Call (.Name "sorted" pp) [a] [] pos) (.o1 .sort p) :=
  PE.imp (pe_callB cr_sortX hg hm PyProof.Rows.boot_sorted (pa_cons h pa_nil hst) (by decide) (by decide) hst rfl) fun σ H Q ⟨F, env, d, s, hs, hf, ev, k⟩ => by
    obtain ⟨d1, e1, e2⟩ := ev_o1 ev
    refine ⟨F, env, d1, s, hs, hf, e1, fun v F1 H1 x r => ?_⟩
    replace e2 : srtD d1 = some d := e2
    unfold srtD at e2
    split at e2
    · obtain ⟨nss, z1, z2, z3, rfl⟩ := sortD_some e2
      obtain ⟨dd, hd, he⟩ := evn_of z2
      obtain ⟨a1, vs, ea, ha, hv⟩ := r
      obtain ⟨ks, k1, k2, k3⟩ := tups_ks hv z1
      have k3h : ∀ p ∈ ks, SqT X.K H1 p.1 (p.2.map V.int) := fun p hp => Same.sqt x.s (k3 p hp)
      have kl : ks.length = nss.length := by rw [← k2, List.length_map]
      refine ⟨dd, hd, a1, vs, by rw [ea], SqL.of ha, by rw [k1, List.length_map]; omega, fun w hw => ?_, fun ys t hp hs2 ht => ?_⟩
      · rw [k1] at hw
        obtain ⟨p, hp, rfl⟩ := List.mem_map.mp hw
        have hm : p.2 ∈ nss := by rw [← k2]; exact List.mem_map_of_mem hp
        exact ⟨p.2, tupI_of (k3h p hp), he _ hm⟩
      · rw [k1] at hp
        obtain ⟨ks', g1, rfl⟩ := ks_perm hp
        have g2 : (ks'.map (·.2)).Perm nss := by rw [← k2]; exact g1.map _
        have g3 : (ks'.map (·.2)).Pairwise Le := by
          rw [List.pairwise_map] at hs2 ⊢
          refine List.Pairwise.imp_of_mem (fun {p q} hp hq z => ?_) hs2
          exact z p.2 q.2 (tupI_of (k3h p (g1.mem_iff.mp hp))) (tupI_of (k3h q (g1.mem_iff.mp hq)))
        have g4 : ks'.map (·.2) = sortL nss := le_eq (he.perm g2) (g2.trans (sortL_perm nss).symm) g3 (sortL_sorted nss he)
        have g5 := ks_rvs (M := sm X W) (F := F1) ks' fun p hp => k3 p (g1.mem_iff.mp hp)
        rw [g4] at g5
        exact k _ F1 _ (x.trans (Ext.hid x.s ht)) (Rtop.newL (x.h.free ht) (x.s.free ht) upd_same g5)
    · cases e2
/-- sorted(set(x)) -/
theorem de_ssort {pp p2 pos2 : Pos} (hc : X.calm = true) (hu : X.A.units + 64 < cLine) (h : DI W X a p) (hg : Gl X "sorted" := by rfl) (hm : X.mg "sorted" = none) (hg2 : Gl X "set" := by rfl) (hm2 : X.mg "set" = none)
    (hst : starEach [a] X.env = [(false, eval a X.env)] := by rfl) (hst2 : starEach [.Call (.Name "set" p2) [a] [] pos2] X.env = [(false, eval (.Call (.Name "set" p2) [a] [] pos2) X.env)] := by rfl) : DE W X (.Call (.Name "sorted" pp) [.Call (.Name "set" p2) [a] [] pos2] [] pos) (.o1 .ssort p) :=
  PE.imp (pe_callB (cr_sortedT hc) hg hm PyProof.Rows.boot_sorted (pa_cons (pe_callTy (cr_setOfT hc hu) hg2 hm2 PyProof.Rows.boot_set (pa_cons h pa_nil hst) (by decide) (by decide) hst rfl) pa_nil hst2) (by decide) (by decide) hst2 rfl) fun σ H Q ⟨F, env, d, s, hs, hf, ev, k⟩ => by
    obtain ⟨d1, e1, e2⟩ := ev_o1 ev
    refine ⟨F, env, d1, s, hs, hf, e1, fun v F1 H1 x r => ?_⟩
    replace e2 : ssrtD d1 = some d := e2
    unfold ssrtD at e2
    split at e2
    · obtain ⟨nss, z1, z2, z3, rfl⟩ := sortD_some e2
      obtain ⟨dd, hd, he⟩ := evn_of z2
      obtain ⟨a1, vs, ea, ha, hv⟩ := r
      obtain ⟨ks, k1, k2, k3⟩ := tups_ks hv z1
      have kl : ks.length = nss.length := by rw [← k2, List.length_map]
      rw [k1] at ha
      refine ⟨a1, ks, by rw [ea], SqL.of ha, fun p hp => Same.sqt x.s (k3 p hp), by omega, fun st L hst hL1 hL2 => ?_⟩
      have y := Ext.hid (o := SetTO X.prog X.w st L) x.s hst
      have kL : ∀ p ∈ L, SqT X.K F1 p.1 (p.2.map V.int) := fun p hp => k3 p (hL1 p hp)
      have nL : ∀ p ∈ L, p.2 ∈ nss := fun p hp => by rw [← k2]; exact List.mem_map_of_mem (hL1 p hp)
      refine ⟨st, L, dd, 1000, rfl, upd_same, fun p hp => Same.sqt y.s (kL p hp), hd, fun p hp => he _ (nL p hp), fun L' t g1 g2 g3 g4 ht => ?_⟩
      have g5 : ∀ z, z ∈ L'.map (·.2) ↔ z ∈ nss := fun z => by
        constructor
        · intro hz
          obtain ⟨p, hp, rfl⟩ := List.mem_map.mp hz
          exact nL p (g1.mem_iff.mp hp)
        · intro hz
          rw [← k2] at hz
          obtain ⟨p, hp, rfl⟩ := List.mem_map.mp hz
          exact (g1.map (·.2)).mem_iff.mpr (hL2 p hp)
      have g6 : L'.map (·.2) = sortU nss := uniq_eq he g2 g5 (by rw [List.pairwise_map]; exact g4)
      have g7 := ks_rvs (M := sm X W) (F := F1) L' fun p hp => kL p (g1.mem_iff.mp hp)
      rw [g6] at g7
      exact k _ F1 _ ((x.trans y).trans (Ext.hid y.s ht)) (Rtop.newL (x.h.free (y.h.free ht)) (y.s.free ht) upd_same g7)
    · cases e2
/-! ### items -/
theorem atI_get2 {α : Type} {xs : List α} {i : Int} {v : α} (h : atI xs i = some v) : ∃ j : Nat, ixN xs.length i = some j ∧ xs[j]? = some v := by
  unfold atI at h
  cases e : ixN xs.length i with
  | none => rw [e] at h; cases h
  | some j => rw [e] at h; exact ⟨j, rfl, h⟩
theorem atI_of {α : Type} {xs : List α} {i : Int} {j : Nat} {v : α} (h : ixN xs.length i = some j) (hv : xs[j]? = some v) : atI xs i = some v := by
  unfold atI
  rw [h]
  exact hv
abbrev rIx2 (K : PySem.W.Frag) : R2 := fun x y H Q => rIxL K x y H Q ∨ rIxT K x y H Q
theorem ix_two : IxR X (rIx2 X.K) := ix_list.or ix_tup
theorem ev_ix {T : Tb} {cl : Nat → List D → Option D} {p q : E} {env : Env} {z : D} (h : ev T cl (.ix p q) env = some z) : ∃ x y, ev T cl p env = some x ∧ ev T cl q env = some y ∧ ixD x y = some z := by
  unfold ev at h
  split at h
  · rename_i x e1
    split at h
    · rename_i y e2
      exact ⟨x, y, e1, e2, h⟩
    · cases h
  · cases h
theorem de_ix (ha : DI W X a p) (hb : DB W X b q) (hi : PlainIx b := by exact fun _ _ => rfl) : DE W X (.Subscript a b pos) (.ix p q) := PE.imp (pe_ix ix_two ha hb hi) fun σ H Q ⟨F, env, d, s, hs, hf, ev, k⟩ => by
  obtain ⟨d1, d2, e1, e2, e⟩ := ev_ix ev
  refine ⟨F, env, d1, s, hs, hf, e1, fun v F1 H1 x1 r1 => ⟨F1, env, d2, x1.s, hs.mono x1.f x1.h, e2, fun y H2 t r2 => ?_⟩⟩
  have x := x1.trans (Ext.grow x1.s t)
  unfold ixD at e
  split at e
  · rename_i xs i
    obtain ⟨j, j1, j2⟩ := atI_get2 e
    obtain ⟨a1, vs, ea, ha, hv⟩ := r1
    obtain ⟨u, u1, u2⟩ := hv.get j2
    exact .inl ⟨a1, vs, i, u, ea, r2, SqL.of (t _ _ ha), atI_of (by rw [hv.len]; exact j1) u1, k u F1 H2 x (.inl u2)⟩
  · rename_i xs i
    obtain ⟨j, j1, j2⟩ := atI_get2 e
    obtain ⟨a1, vs, ea, ha, hv⟩ := (show RV (sm X W) F1 (.tup xs) v from r1)
    obtain ⟨u, u1, u2⟩ := hv.get j2
    exact .inr ⟨a1, vs, i, u, ea, r2, Same.sqt (x1.s.trans t) ha, atI_of (by rw [hv.len]; exact j1) u1, k u F1 H2 x (.inl u2)⟩
  · rename_i ns i
    obtain ⟨m, e3, rfl⟩ := Option.map_eq_some_iff.mp e
    obtain ⟨j, j1, j2⟩ := atI_get2 e3
    obtain ⟨a1, ea, ho⟩ := (show RV (sm X W) F1 (.frl ns) v from r1)
    refine .inl ⟨a1, ns.map V.int, i, .int m, ea, r2, L2.Same.seq (x1.s.trans t) ho, atI_of (by rw [List.length_map]; exact j1) ?_, k _ F1 H2 x (scl_top rfl)⟩
    rw [List.getElem?_map, j2]
    rfl
  · cases e
/-! ### slices -/
theorem cut_rv {M : Sm} {F : Hp} {ds : List D} {vs : List V} (h : RVs M F ds vs) (lo hi : Option Int) : RVs M F (cutD ds lo hi) (cutV vs lo hi) := by
  unfold cutD cutV
  rw [h.len]
  exact (h.drop _).take _
abbrev rSl2 (K : PySem.W.Frag) : V → Option Int → Option Int → Hp → VK → Prop := fun x lo hi H Q => rSlL K x lo hi H Q ∨ rSlA K x lo hi H Q
theorem sl_two : SlR X (rSl2 X.K) := sl_list.or sl_tupA
theorem sl_core {lo hi : Option Int} {d1 d : D} {v : V} {F H F1 H1 H2 : Hp} {Q : VK} {tp : Bool} (x1 : Ext F H F1 H1) (t : Same H1 H2) (r1 : RS (sm X W) F1 H1 d1 v) (e : slD lo hi d1 = some d)
    (k : ∀ v F' H', Ext F H F' H' → Rtop (sm X W) true H F' H' d v → Q v H') : rSl2 X.K v lo hi H2 Q := by
  have x := x1.trans (Ext.grow x1.s t)
  unfold slD at e
  split at e
  · cases e
    obtain ⟨a1, vs, ea, ha, hv⟩ := r1
    exact .inl ⟨a1, vs, ea, SqL.of (t _ _ ha), fun w hw => k _ F1 _ (x.trans (Ext.hid x.s hw)) (Rtop.newL (x.h.free hw) (x.s.free hw) upd_same (cut_rv hv lo hi))⟩
  · rename_i xs
    cases e
    have r1 : RV (sm X W) F1 (.tup xs) v := r1
    have r0 := r1
    obtain ⟨a1, vs, ea, ha, hv⟩ := r1
    refine .inr ⟨a1, vs, ea, Same.sqt x.s ha, fun z => ?_, fun _ w hw => ?_⟩
    · have e : cutD xs lo hi = xs := by
        unfold cutD
        rw [← hv.len, z.1, z.2, List.drop_zero, Nat.sub_zero, hv.len]
        exact List.take_length
      rw [← ea]
      rw [e] at k
      exact k _ F1 _ x (Rtop.of r0 rfl)
    · have y := Ext.new (o := .tup (cutV vs lo hi)) x.s hw
      exact k _ _ _ (x.trans y) (Rtop.of ⟨w, _, rfl, .inl (.inl upd_same), (cut_rv hv lo hi).mono y.f⟩ rfl)
  · rename_i ns
    cases e
    obtain ⟨a1, ea, ho⟩ := (show RV (sm X W) F1 (.frl ns) v from r1)
    exact .inl ⟨a1, ns.map V.int, ea, L2.Same.seq x.s ho, fun w hw => k _ F1 _ (x.trans (Ext.hid x.s hw)) (Rtop.newL (x.h.free hw) (x.s.free hw) upd_same (cut_rv RVs.ints lo hi))⟩
  · cases e
theorem ev_slL {T : Tb} {cl : Nat → List D → Option D} {p q : E} {env : Env} {z : D} (h : ev T cl (.slL p q) env = some z) : ∃ x i, ev T cl p env = some x ∧ ev T cl q env = some (.int i) ∧ slD (some i) none x = some z := by
  unfold ev at h
  split at h
  · rename_i x e1
    split at h
    · rename_i y e2
      exact ⟨x, y, e1, e2, h⟩
    · cases h
  · cases h
theorem ev_slH {T : Tb} {cl : Nat → List D → Option D} {p q : E} {env : Env} {z : D} (h : ev T cl (.slH p q) env = some z) : ∃ x i, ev T cl p env = some x ∧ ev T cl q env = some (.int i) ∧ slD none (some i) x = some z := by
  unfold ev at h
  split at h
  · rename_i x e1
    split at h
    · rename_i y e2
      exact ⟨x, y, e1, e2, h⟩
    · cases h
  · cases h
theorem ev_slB {T : Tb} {cl : Nat → List D → Option D} {p q r : E} {env : Env} {z : D} (h : ev T cl (.slB p q r) env = some z) : ∃ x i j, ev T cl p env = some x ∧ ev T cl q env = some (.int i) ∧ ev T cl r env = some (.int j) ∧ slD (some i) (some j) x = some z := by
  unfold ev at h
  split at h
  · rename_i x e1
    split at h
    · rename_i y e2
      split at h
      · rename_i w e3
        exact ⟨x, y, w, e1, e2, e3, h⟩
      · cases h
    · cases h
  · cases h
theorem de_slL {p2 : Pos} (ha : DI W X a p) (hb : DB W X b q) : DE W X (.Subscript a (.Slice (some b) none none p2) pos) (.slL p q) := PE.imp (pe_slice sl_two ha (po_some hb) po_none) fun σ H Q ⟨F, env, d, s, hs, hf, ev, k⟩ => by
  obtain ⟨d1, i, e1, e2, e⟩ := ev_slL ev
  refine ⟨F, env, d1, s, hs, hf, e1, fun v F1 H1 x1 r1 => ⟨F1, env, .int i, x1.s, hs.mono x1.f x1.h, e2, fun y H2 t r2 => ⟨i, r2, ?_⟩⟩⟩
  exact sl_core (tp := true) x1 t r1 e k
theorem de_slH {p2 : Pos} (ha : DI W X a p) (hb : DB W X b q) : DE W X (.Subscript a (.Slice none (some b) none p2) pos) (.slH p q) := PE.imp (pe_slice sl_two ha po_none (po_some hb)) fun σ H Q ⟨F, env, d, s, hs, hf, ev, k⟩ => by
  obtain ⟨d1, i, e1, e2, e⟩ := ev_slH ev
  refine ⟨F, env, d1, s, hs, hf, e1, fun v F1 H1 x1 r1 => ⟨F1, env, .int i, x1.s, hs.mono x1.f x1.h, e2, fun y H2 t r2 => ⟨i, r2, ?_⟩⟩⟩
  exact sl_core (tp := true) x1 t r1 e k
theorem de_slB {p2 : Pos} (ha : DI W X a p) (hb : DB W X b q) (hc : DB W X c r) : DE W X (.Subscript a (.Slice (some b) (some c) none p2) pos) (.slB p q r) := PE.imp (pe_slice sl_two ha (po_some hb) (po_some hc)) fun σ H Q ⟨F, env, d, s, hs, hf, ev, k⟩ => by
  obtain ⟨d1, i, j, e1, e2, e3, e⟩ := ev_slB ev
  refine ⟨F, env, d1, s, hs, hf, e1, fun v F1 H1 x1 r1 => ⟨F1, env, .int i, x1.s, hs.mono x1.f x1.h, e2, fun y H2 t r2 => ⟨i, r2, ⟨F1, env, .int j, x1.s.trans t, (hs.mono x1.f x1.h).mono (Same.refl _) t, e3, fun y H3 t3 r3 => ⟨j, r3, ?_⟩⟩⟩⟩⟩
  exact sl_core (tp := true) x1 (t.trans t3) r1 e k
theorem ev_rev {T : Tb} {cl : Nat → List D → Option D} {p : E} {env : Env} {z : D} (h : ev T cl (.rev p) env = some z) : ∃ xs, ev T cl p env = some (.lst xs) ∧ z = .lst xs.reverse := by
  unfold ev at h
  split at h
  · rename_i xs e1
    exact ⟨xs, e1, (Option.some.inj h).symm⟩
  · cases h
theorem de_rev {k : Nat} {p1 p2 p3 : Pos} (ha : DI W X a p) : DE W X (.Subscript a (.Slice none none (some (.UnaryOp .USub (.Constant (.int 1) k p1) p2)) p3) pos) (.rev p) := PE.imp (pe_revL ha) fun σ H Q ⟨F, env, d, s, hs, hf, ev, kk⟩ => by
  obtain ⟨xs, e1, rfl⟩ := ev_rev ev
  refine ⟨F, env, _, s, hs, hf, e1, fun v F1 H1 x r => ?_⟩
  obtain ⟨a1, vs, ea, ha, hv⟩ := r
  exact ⟨a1, vs, ea, SqL.of ha, fun w hw => kk _ F1 _ (x.trans (Ext.hid x.s hw)) (Rtop.newL (x.h.free hw) (x.s.free hw) upd_same hv.reverse)⟩
end
end Nt

set_option Elab.async false
set_option linter.all false
set_option maxRecDepth 100000
set_option maxHeartbeats 4000000
/-! Targets, what is walked, comprehensions. -/
namespace Nt
open PySem PySem.Spec PyProof.Rows L2

/-! ### targets -/
def setsV (σ : L2.St) : List Nat → List V → L2.St
  | i :: is, x :: xs => setsV (σ.set i (some x)) is xs
  | _, _ => σ
def gT (K : PySem.W.Frag) (t : Tg) : TG := fun v σ H Q => match t with
  | .one i => Q (σ.set i (some v)) H
  | .many is => ∃ a xs, v = .ref a ∧ SqT K H a xs ∧ xs.length = is.length ∧ Q (setsV σ is xs) H
def gNs : List Nat → TGs
  | [] => gNil
  | i :: is => gCons (gName i) (gNs is)
theorem gNs_of : ∀ {is : List Nat} {xs : List V} {σ : L2.St} {H : Hp} {Q : L2.St → Hp → Prop}, xs.length = is.length → Q (setsV σ is xs) H → gNs is xs σ H Q
  | [], [], _, _, _, _, q => ⟨rfl, q⟩
  | [], _ :: _, _, _, _, h, _ => by simp at h
  | i :: is, [], _, _, _, h, _ => by simp at h
  | i :: is, x :: xs, σ, H, Q, h, q => ⟨x, xs, rfl, gNs_of (is := is) (by simpa using h) q⟩
theorem PG.imp {X : Cx} {e : Expr} {t t' : TG} (h : PG X e t) (i : ∀ v σ H Q, t' v σ H Q → t v σ H Q) : PG X e t' := ⟨fun pins s σ H v u Q I r q => h.run pins s σ H v u Q I r (i v σ H Q q)⟩
theorem dg_many {X : Cx} {e : Expr} {is : List Nat} (h : PG X e (gTup X.K is.length (gNs is))) : PG X e (gT X.K (.many is)) := PG.imp h fun v σ H Q ⟨a, xs, e1, h1, hl, q⟩ => ⟨a, xs, e1, h1, hl, gNs_of hl q⟩
theorem dg_one {X : Cx} {e : Expr} {i : Nat} (h : PG X e (gName i)) : PG X e (gT X.K (.one i)) := h

variable {M : Sm} {F F' H H' : Hp}
theorem gt_set {env : Env} {i j : Nat} {d d' : D} (h : gt (env.set i (some d)) j = some d') : (j = i ∧ d' = d ∧ i < env.length) ∨ (j ≠ i ∧ gt env j = some d') := by
  unfold gt at h ⊢
  by_cases e : j = i
  · subst e
    by_cases l : j < env.length
    · rw [List.getElem?_set_self l] at h
      exact .inl ⟨rfl, (Option.some.inj h).symm, l⟩
    · rw [List.getElem?_eq_none (by simpa using l)] at h
      cases h
  · rw [List.getElem?_set_ne (Ne.symm e)] at h
    exact .inr ⟨e, h⟩
theorem EnvS.set {env : Env} {σ : L2.St} {i : Nat} {d : D} {v : V} (h : EnvS M F H env σ) (r : RS M F H d v) : EnvS M F H (env.set i (some d)) (σ.set i (some v)) := by
  refine ⟨by simpa using h.1, fun j d' e => ?_⟩
  rcases gt_set e with ⟨rfl, rfl, l⟩ | ⟨n, e⟩
  · exact ⟨v, List.getElem?_set_self (Nat.lt_of_lt_of_le l h.1), r⟩
  · obtain ⟨u, a, b⟩ := h.2 j d' e
    exact ⟨u, by rw [List.getElem?_set_ne (Ne.symm n)]; exact a, b⟩
/-- the slots of l hold what F shows -/
theorem EnvF.set {env : Env} {σ : L2.St} {i : Nat} {d : D} {v : V} {l : List Nat} (hl : env.length ≤ σ.length) (h : EnvF M F (l.filter fun j => !(j == i)) env σ) (r : RV M F d v) : EnvF M F l (env.set i (some d)) (σ.set i (some v)) := fun j m d' e => by
  rcases gt_set e with ⟨rfl, rfl, q⟩ | ⟨n, e⟩
  · exact ⟨v, List.getElem?_set_self (Nat.lt_of_lt_of_le q hl), r⟩
  · obtain ⟨u, a, b⟩ := h j (List.mem_filter.mpr ⟨m, by simpa using n⟩) d' e
    exact ⟨u, by rw [List.getElem?_set_ne (Ne.symm n)]; exact a, b⟩
theorem EnvS.sets (s : Same F H) : ∀ {is : List Nat} {ds : List D} {xs : List V} {env env' : Env} {σ : L2.St}, EnvS M F H env σ → RVs M F ds xs → setsD env is ds = some env' → EnvS M F H env' (setsV σ is xs) ∧ xs.length = is.length
  | [], [], _, env, env', σ, h, r, e => by
    rw [show _ = [] from r]
    have e : env = env' := Option.some.inj e
    rw [← e]
    exact ⟨h, rfl⟩
  | [], _ :: _, _, _, _, _, _, _, e => by cases e
  | _ :: _, [], _, _, _, _, _, _, e => by cases e
  | i :: is, d :: ds, _, env, env', σ, h, ⟨v, r, e1, h1, h2⟩, e => by
    rw [e1]
    obtain ⟨a, b⟩ := EnvS.sets s (h.set (i := i) (h1.rs s)) h2 e
    exact ⟨a, by rw [List.length_cons, List.length_cons, b]⟩
theorem EnvF.sets : ∀ {is : List Nat} {ds : List D} {xs : List V} {env env' : Env} {σ : L2.St} {l : List Nat}, env.length ≤ σ.length → EnvF M F (l.filter fun j => !is.contains j) env σ → RVs M F ds xs → setsD env is ds = some env' → EnvF M F l env' (setsV σ is xs)
  | [], [], _, env, env', σ, l, _, h, r, e => by
    rw [show _ = [] from r]
    have e : env = env' := Option.some.inj e
    rw [← e]
    exact h.sub fun i m => List.mem_filter.mpr ⟨m, rfl⟩
  | [], _ :: _, _, _, _, _, _, _, _, _, e => by cases e
  | _ :: _, [], _, _, _, _, _, _, _, _, e => by cases e
  | i :: is, d :: ds, _, env, env', σ, l, hl, h, ⟨v, r, e1, h1, h2⟩, e => by
    rw [e1]
    refine EnvF.sets (is := is) (by simpa using hl) (EnvF.set hl (h.sub fun j m => ?_) h1) h2 e
    rw [List.mem_filter, List.mem_filter] at m
    refine List.mem_filter.mpr ⟨m.1.1, ?_⟩
    rw [List.contains_cons]
    have a := m.1.2
    have b := m.2
    simp only [Bool.not_eq_true'] at a b ⊢
    rw [a, b]
    rfl
theorem wipe_get {σ : L2.St} {i : Nat} {is : List Nat} (h : i ∉ is) : (wipe σ is)[i]? = σ[i]? := wipe_out h
theorem wipe_at {σ : L2.St} {j : Nat} : ∀ {is : List Nat}, j ∈ is → (wipe σ is)[j]? = if j < σ.length then some none else none
  | i :: is, h => by
    unfold wipe
    by_cases e : j = i
    · subst e
      by_cases l : j < σ.length
      · rw [if_pos l, List.getElem?_set_self (by rw [wipe_length]; exact l)]
      · rw [if_neg l, List.getElem?_eq_none (by rw [List.length_set, wipe_length]; omega)]
    · rw [List.getElem?_set_ne (Ne.symm e)]
      rcases List.mem_cons.mp h with q | q
      · exact absurd q e
      · exact wipe_at q
theorem setsV_length : ∀ {is : List Nat} {xs : List V} {σ : L2.St}, (setsV σ is xs).length = σ.length
  | [], _, _ => by unfold setsV; rfl
  | _ :: _, [], _ => by unfold setsV; rfl
  | i :: is, x :: xs, σ => by unfold setsV; rw [setsV_length, List.length_set]
theorem setsV_get : ∀ {is : List Nat} {xs : List V} {σ : L2.St} {j : Nat}, j ∉ is → (setsV σ is xs)[j]? = σ[j]?
  | [], _, _, _, _ => by unfold setsV; rfl
  | _ :: _, [], _, _, _ => by unfold setsV; rfl
  | i :: is, x :: xs, σ, j, h => by
    unfold setsV
    rw [setsV_get (fun z => h (List.mem_cons_of_mem _ z)), List.getElem?_set_ne (fun e => h (by rw [e]; exact List.mem_cons_self ..))]
theorem wipe_same {σ σ2 : L2.St} {is : List Nat} (hl : σ2.length = σ.length) (h : ∀ j, j ∉ is → σ2[j]? = σ[j]?) : wipe σ2 is = wipe σ is := by
  refine List.ext_getElem? fun j => ?_
  by_cases m : j ∈ is
  · rw [wipe_at m, wipe_at m, hl]
  · rw [wipe_get m, wipe_get m, h j m]
/-- a block's own slots wiped, then bound anew -/
theorem EnvS.wiped {env : Env} {σ : L2.St} {t : Tg} {d : D} {v : V} {env1 : Env} {K : PySem.W.Frag} (hK : M.K = K) {Q : L2.St → Hp → Prop} {l : List Nat} (s : Same F H) (h : EnvS M F H env σ) (hf : EnvF M F (l.filter fun j => !(tgs t).contains j) env σ) (r : RV M F d v) (e : bindD t d env = some env1)
    (q : ∀ σ2, wipe σ2 (tgs t) = wipe σ (tgs t) → EnvS M F H env1 σ2 → EnvF M F l env1 σ2 → Q σ2 H) : gT K t v (wipe σ (tgs t)) H Q := by
  -- the state in which all else is as it was
  have base : ∀ σ2 : L2.St, σ2.length = σ.length → (∀ j, j ∉ tgs t → σ2[j]? = σ[j]?) → wipe σ2 (tgs t) = wipe σ (tgs t) := fun σ2 a b => wipe_same a b
  cases t with
  | one i =>
    have e : env.set i (some d) = env1 := Option.some.inj e
    subst e
    have hl : ((wipe σ [i]).set i (some v)).length = σ.length := by rw [List.length_set, wipe_length]
    have hg : ∀ j, j ∉ [i] → ((wipe σ [i]).set i (some v))[j]? = σ[j]? := fun j m => by
      rw [List.getElem?_set_ne (fun z => m (by rw [z]; exact List.mem_cons_self ..)), wipe_get m]
    have eq : (wipe σ [i]).set i (some v) = σ.set i (some v) := by
      unfold wipe wipe
      rw [List.set_set]
    refine q _ (base _ hl hg) ?_ ?_
    · show EnvS M F H _ ((wipe σ [i]).set i (some v))
      rw [eq]; exact h.set (r.rs s)
    · show EnvF M F l _ ((wipe σ [i]).set i (some v))
      rw [eq]
      exact EnvF.set h.1 (hf.sub fun j m => by
        rw [List.mem_filter] at m ⊢
        refine ⟨m.1, ?_⟩
        have := m.2
        simp only [tgs, List.contains_cons, List.contains_nil, Bool.or_false]
        exact this) r
  | many is =>
    cases d with
    | tup ds =>
      obtain ⟨a, xs, ea, ha, hx⟩ := r
      have e : setsD env is ds = some env1 := e
      -- the same values over the unwiped slots
      have key : ∀ (is' : List Nat) (xs : List V) (σ' : L2.St), (∀ i ∈ is', i ∈ is) → xs.length = is'.length → ∀ j, j ∈ is' → (setsV (wipe σ' is) is' xs)[j]? = (setsV σ' is' xs)[j]? := by
        intro is'
        induction is' with
        | nil => intro xs σ' _ _ j m; cases m
        | cons i is' ih =>
          intro xs σ' sub hl j m
          cases xs with
          | nil => simp at hl
          | cons x xs =>
            unfold setsV
            by_cases q : j ∈ is'
            · -- set commutes with the wipe only up to what is overwritten: compare by the later writes
              have c : ∀ (is2 : List Nat) (ys : List V) (τ1 τ2 : L2.St), τ1.length = τ2.length → ys.length = is2.length → j ∈ is2 → (setsV τ1 is2 ys)[j]? = (setsV τ2 is2 ys)[j]? := by
                intro is2
                induction is2 with
                | nil => intro ys τ1 τ2 _ _ m; cases m
                | cons k is2 ih2 =>
                  intro ys τ1 τ2 hl2 hy m
                  cases ys with
                  | nil => simp at hy
                  | cons y ys =>
                    unfold setsV
                    by_cases q2 : j ∈ is2
                    · exact ih2 ys _ _ (by rw [List.length_set, List.length_set, hl2]) (by simpa using hy) q2
                    · rw [setsV_get q2, setsV_get q2]
                      rcases List.mem_cons.mp m with z | z
                      · subst z
                        by_cases lt : j < τ1.length
                        · rw [List.getElem?_set_self lt, List.getElem?_set_self (by omega)]
                        · rw [List.getElem?_eq_none (by rw [List.length_set]; omega), List.getElem?_eq_none (by rw [List.length_set]; omega)]
                      · exact absurd z q2
              exact c is' xs _ _ (by rw [List.length_set, List.length_set, wipe_length]) (by simpa using hl) q
            · rw [setsV_get q, setsV_get q]
              rcases List.mem_cons.mp m with z | z
              · subst z
                by_cases lt : j < σ'.length
                · rw [List.getElem?_set_self (by rw [wipe_length]; exact lt), List.getElem?_set_self lt]
                · rw [List.getElem?_eq_none (by rw [List.length_set, wipe_length]; omega), List.getElem?_eq_none (by rw [List.length_set]; omega)]
              · exact absurd z q
      obtain ⟨z1, z2⟩ := EnvS.sets s h hx e
      have eq : setsV (wipe σ is) is xs = setsV σ is xs := by
        refine List.ext_getElem? fun j => ?_
        by_cases m : j ∈ is
        · exact key is xs σ (fun _ z => z) z2 j m
        · rw [setsV_get m, setsV_get m, wipe_get m]
      refine ⟨a, xs, ea, by rw [← hK]; exact Same.sqt s ha, z2, ?_⟩
      show Q (setsV (wipe σ is) is xs) H
      rw [eq]
      exact q _ (base _ setsV_length fun j m => setsV_get m) z1 (EnvF.sets h.1 hf hx e)
    | _ => cases e

/-! ### what is walked -/
structure Yld (M : Sm) (G F : Hp) (J : It) (ds : List D) : Prop where
  stop : ∀ i F1 H1, Same F F1 → Same G H1 → Same F1 H1 → ds.length ≤ i → J.stop i H1
  item : ∀ i d F1 H1, Same F F1 → Same G H1 → Same F1 H1 → ds[i]? = some d → J.go i H1 ∧ ∀ x H2, J.yld i H1 x H2 → ∃ F2, Ext F1 H1 F2 H2 ∧ RV M F2 d x
theorem some_lt {α : Type} {l : List α} {i : Nat} {x : α} (h : l[i]? = some x) : i < l.length := (List.getElem?_eq_some_iff.mp h).1
theorem y_list {K : PySem.W.Frag} {G : Hp} {a : Addr} {ds : List D} {vs : List V} (hg : G a = some (.lst vs)) (r : RVs M F ds vs) : Yld M G F (Itl K a) ds where
  stop := fun i F1 H1 s t u l => ⟨vs, SqL.of (t _ _ hg), by rw [r.len]; exact l⟩
  item := fun i d F1 H1 s t u e => by
    obtain ⟨v, q1, q2⟩ := r.get e
    have hq : SqL K H1 a vs := SqL.of (t _ _ hg)
    refine ⟨⟨vs, v, hq, q1⟩, fun x H2 ⟨e2, y⟩ => ?_⟩
    have := y vs hq
    rw [q1] at this
    cases this
    rw [e2]
    exact ⟨F1, Ext.refl u, q2.mono s⟩
theorem y_tup {G : Hp} {a : Addr} {ds : List D} {vs : List V} (hg : SqT M.K F a vs) (r : RVs M F ds vs) : Yld M G F (Itt M.K a) ds where
  stop := fun i F1 H1 s t u l => ⟨vs, Same.sqt (s.trans u) hg, by rw [r.len]; exact l⟩
  item := fun i d F1 H1 s t u e => by
    obtain ⟨v, q1, q2⟩ := r.get e
    have hq : SqT M.K H1 a vs := Same.sqt (s.trans u) hg
    refine ⟨⟨vs, v, hq, q1⟩, fun x H2 ⟨e2, y⟩ => ?_⟩
    have := y vs hq
    rw [q1] at this
    cases this
    rw [e2]
    exact ⟨F1, Ext.refl u, q2.mono s⟩
theorem range_get {lo : Int} {n i : Nat} {d : D} (h : ((List.range n).map fun (i : Nat) => D.int (lo + (i : Int)))[i]? = some d) : i < n ∧ d = .int (lo + i) := by
  have l := some_lt h
  rw [List.length_map, List.length_range] at l
  rw [List.getElem?_map, List.getElem?_range l] at h
  exact ⟨l, (Option.some.inj h).symm⟩
theorem y_range {G : Hp} {lo hi : Int} : Yld M G F (Itr lo (hi - lo).toNat) (rangeD lo hi) where
  stop := fun i F1 H1 s t u l => by
    unfold rangeD at l
    rw [List.length_map, List.length_range] at l
    exact l
  item := fun i d F1 H1 s t u e => by
    obtain ⟨l, rfl⟩ := range_get e
    refine ⟨l, fun x H2 ⟨e1, e2⟩ => ?_⟩
    rw [e1, e2]
    exact ⟨F1, Ext.refl u, rfl⟩
theorem y_enum {G : Hp} {a : Addr} {ds : List D} {vs : List V} (hg : G a = some (.lst vs)) (r : RVs M F ds vs) : Yld M G F (Ite M.K a) (enumD 0 ds) := by
  have len : ∀ (ds : List D) (k : Nat), (enumD k ds).length = ds.length := by
    intro ds
    induction ds with
    | nil => intro k; rfl
    | cons d ds ih => intro k; unfold enumD; rw [List.length_cons, List.length_cons, ih]
  have get : ∀ (ds : List D) (k i : Nat) (d : D), (enumD k ds)[i]? = some d → ∃ z, ds[i]? = some z ∧ d = .tup [.int ((k + i : Nat) : Int), z] := by
    intro ds
    induction ds with
    | nil => intro k i d h; unfold enumD at h; simp at h
    | cons z ds ih =>
      intro k i d h
      unfold enumD at h
      cases i with
      | zero =>
        have h : D.tup [.int (k : Int), z] = d := by simpa using h
        exact ⟨z, rfl, h.symm⟩
      | succ i =>
        obtain ⟨w, a, b⟩ := ih (k + 1) i d (by simpa using h)
        exact ⟨w, by simpa using a, by rw [b, show k + 1 + i = k + (i + 1) by omega]⟩
  refine ⟨fun i F1 H1 s t u l => ⟨vs, SqL.of (t _ _ hg), by rw [len] at l; rw [r.len]; exact l⟩, fun i d F1 H1 s t u e => ?_⟩
  obtain ⟨z, e1, rfl⟩ := get ds 0 i d e
  obtain ⟨v, q1, q2⟩ := r.get e1
  have hq : SqL M.K H1 a vs := SqL.of (t _ _ hg)
  refine ⟨⟨vs, v, hq, q1⟩, fun x H2 hy => ?_⟩
  obtain ⟨T, w, rfl, nT, rfl, y⟩ := hy
  have := y vs hq
  rw [q1] at this
  cases this
  have x := Ext.new (o := .tup [.int (i : Nat), v]) u nT
  refine ⟨_, x, T, _, rfl, .inl (.inl upd_same), ?_⟩
  rw [Nat.zero_add]
  exact RVs.cons rfl (RVs.cons ((q2.mono s).mono x.f) RVs.nil)
theorem zip_len : ∀ (xs ys : List D), (zipD xs ys).length = min xs.length ys.length
  | [], _ => by unfold zipD; simp
  | _ :: _, [] => by unfold zipD; simp
  | x :: xs, y :: ys => by unfold zipD; rw [List.length_cons, zip_len, List.length_cons, List.length_cons]; omega
theorem zip_get : ∀ (xs ys : List D) (i : Nat) (d : D), (zipD xs ys)[i]? = some d → ∃ x y, xs[i]? = some x ∧ ys[i]? = some y ∧ d = .tup [x, y]
  | [], _, i, d, h => by unfold zipD at h; simp at h
  | _ :: _, [], i, d, h => by unfold zipD at h; simp at h
  | x :: xs, y :: ys, 0, d, h => by
    unfold zipD at h
    have h : D.tup [x, y] = d := by simpa using h
    exact ⟨x, y, rfl, rfl, h.symm⟩
  | x :: xs, y :: ys, i + 1, d, h => by
    unfold zipD at h
    obtain ⟨a, b, h1, h2, h3⟩ := zip_get xs ys i d (by simpa using h)
    exact ⟨a, b, by simpa using h1, by simpa using h2, h3⟩
theorem y_zip {G : Hp} {a b : Addr} {ds es : List D} {vs us : List V} (ha : G a = some (.lst vs)) (hb : G b = some (.lst us)) (r : RVs M F ds vs) (r2 : RVs M F es us) : Yld M G F (Itz M.K a b) (zipD ds es) := by
  refine ⟨fun i F1 H1 s t u l => ⟨vs, us, SqL.of (t _ _ ha), SqL.of (t _ _ hb), by rw [zip_len] at l; rw [r.len, r2.len]; omega⟩, fun i d F1 H1 s t u e => ?_⟩
  obtain ⟨z, w, e1, e2, rfl⟩ := zip_get ds es i d e
  obtain ⟨v, q1, q2⟩ := r.get e1
  obtain ⟨v2, p1, p2⟩ := r2.get e2
  have hq : SqL M.K H1 a vs := SqL.of (t _ _ ha)
  have hp : SqL M.K H1 b us := SqL.of (t _ _ hb)
  refine ⟨⟨vs, us, v, v2, hq, hp, q1, p1⟩, fun x H2 hy => ?_⟩
  obtain ⟨T, y1, y2, rfl, nT, rfl, f1, f2⟩ := hy
  have g1 := f1 vs hq
  rw [q1] at g1
  cases g1
  have g2 := f2 us hp
  rw [p1] at g2
  cases g2
  have x := Ext.new (o := .tup [v, v2]) u nT
  exact ⟨_, x, T, _, rfl, .inl (.inl upd_same), RVs.cons ((q2.mono s).mono x.f) (RVs.cons ((p2.mono s).mono x.f) RVs.nil)⟩
theorem y_zipT {G : Hp} {a b : Addr} {ds es : List D} {vs us : List V} (ha : SqT M.K F a vs) (hb : SqT M.K F b us) (r : RVs M F ds vs) (r2 : RVs M F es us) : Yld M G F (RZ.ItzT M.K a b) (zipD ds es) := by
  refine ⟨fun i F1 H1 s t u l => ⟨vs, us, Same.sqt (s.trans u) ha, Same.sqt (s.trans u) hb, by rw [zip_len] at l; rw [r.len, r2.len]; omega⟩, fun i d F1 H1 s t u e => ?_⟩
  obtain ⟨z, w, e1, e2, rfl⟩ := zip_get ds es i d e
  obtain ⟨v, q1, q2⟩ := r.get e1
  obtain ⟨v2, p1, p2⟩ := r2.get e2
  have hq : SqT M.K H1 a vs := Same.sqt (s.trans u) ha
  have hp : SqT M.K H1 b us := Same.sqt (s.trans u) hb
  refine ⟨⟨vs, us, v, v2, hq, hp, q1, p1⟩, fun x H2 hy => ?_⟩
  obtain ⟨T, y1, y2, rfl, nT, rfl, f1, f2⟩ := hy
  have g1 := f1 vs hq
  rw [q1] at g1
  cases g1
  have g2 := f2 us hp
  rw [p1] at g2
  cases g2
  have x := Ext.new (o := .tup [v, v2]) u nT
  exact ⟨_, x, T, _, rfl, .inl (.inl upd_same), RVs.cons ((q2.mono s).mono x.f) (RVs.cons ((p2.mono s).mono x.f) RVs.nil)⟩
end Nt

set_option Elab.async false
set_option linter.all false
set_option maxRecDepth 100000
set_option maxHeartbeats 4000000
/-! What is walked, as rules; comprehensions. -/
namespace Nt
open PySem PySem.Spec PyProof.Rows L2

/-- fz: the walked list is to be seen in F (a for statement), else it need only stand in H (a comprehension) -/
def zl (fz : Bool) (p : E) : List Nat := if fz then al p else itm p (al p)
def alz (fz : Bool) : Sr → List Nat
  | .sq e => zl fz e
  | .r1 _ => [] | .r2 _ _ => [] | .r3 _ _ _ => []
  | .zp a b => zl fz a ++ zl fz b
  | .zp3 a b c => zl fz a ++ (zl fz b ++ zl fz c)
  | .en a => zl fz a
theorem alz_false (s : Sr) : alz false s = alr s := by
  cases s <;> (unfold alz alr zl; rfl)
def Rz (M : Sm) (fz : Bool) (F H : Hp) (d : D) (v : V) : Prop := if fz then RV M F d v else RS M F H d v
def Gz (fz : Bool) (F H : Hp) : Hp := if fz then F else H
theorem Rz.lst {M : Sm} {fz : Bool} {F H : Hp} {ds : List D} {v : V} (h : Rz M fz F H (.lst ds) v) : ∃ a vs, v = .ref a ∧ Gz fz F H a = some (.lst vs) ∧ RVs M F ds vs := by
  cases fz with
  | true => exact h
  | false => exact h
theorem Rz.tup {M : Sm} {fz : Bool} {F H : Hp} {ds : List D} {v : V} (h : Rz M fz F H (.tup ds) v) : ∃ a vs, v = .ref a ∧ SqT M.K F a vs ∧ RVs M F ds vs := by
  cases fz with
  | true => exact h
  | false => exact h
theorem Gz.mono {fz : Bool} {F H F' H' : Hp} (s : Same F F') (t : Same H H') : Same (Gz fz F H) (Gz fz F' H') := by
  cases fz with
  | true => exact s
  | false => exact t
theorem Gz.top {fz : Bool} {F H : Hp} (s : Same F H) : Same (Gz fz F H) H := by
  cases fz with
  | true => exact s
  | false => exact Same.refl _
def tZ (M : Sm) (W : Wd) (fz : Bool) (p : E) : TE := fun σ H Q => ∃ F env d, Same F H ∧ EnvS M F H env σ ∧ EnvF M F (zl fz p) env σ ∧ W.ev p env = some d ∧ ∀ v F' H', Ext F H F' H' → Rz M fz F' H' d v → Q v H'
def tR (M : Sm) (W : Wd) (fz : Bool) (s : Sr) : TI := fun σ H R => ∃ F env ds, Same F H ∧ EnvS M F H env σ ∧ EnvF M F (alz fz s) env σ ∧ W.evr s env = some ds ∧ ∀ J F' H', Ext F H F' H' → Yld M (Gz fz F' H') F' J ds → R J H'
abbrev DZ (W : Wd) (fz : Bool) (X : Cx) (e : Expr) (p : E) : Prop := PE X e (tZ (sm X W) W fz p)
abbrev DR (W : Wd) (fz : Bool) (X : Cx) (tg iter : Expr) (s : Sr) : Prop := PI X tg iter (tR (sm X W) W fz s)

theorem PI.imp {X : Cx} {tg e : Expr} {t t' : TI} (h : PI X tg e t) (i : ∀ σ H Q, t' σ H Q → t σ H Q) : PI X tg e t' := ⟨fun pins s σ H R I q => h.run pins s σ H R I (i σ H R q)⟩
section
variable {W : Wd} {X : Cx} {a b c e tg : Expr} {p q r : E} {pos : Pos} {fz : Bool}
theorem dz_t (h : DE W X e p) : DZ W true X e p := deP h
theorem dz_f (h : DI W X e p) : DZ W false X e p := h
/-- a list or a tuple -/
theorem pi_seq {l : Expr} {tl : TE} (hl : PE X l tl) : PI X tg l (fun σ H R => tl σ H fun x H1 => ∃ a, x = .ref a ∧ (((∃ xs, SqL X.K H1 a xs) ∧ R (Itl X.K a) H1) ∨ ((∃ xs, SqT X.K H1 a xs) ∧ R (Itt X.K a) H1))) := by
  refine ⟨fun pins s σ H R I h => ?_⟩
  refine thn (hl.run pins s σ H _ I h) fun v s1 ⟨x, H1, I1, r1, q1⟩ => ?_
  obtain ⟨a, e, q⟩ := q1
  subst e
  cases r1
  rcases q with ⟨⟨xs, hq⟩, q⟩ | ⟨⟨xs, hq⟩, q⟩
  · obtain ⟨its, rv, p, hz⟩ := I1.list hq
    refine wpAny_pyIter_list p.isList ?_
    refine ⟨s1.heap.objs.size, [s1.heap.objs.size], _, _, H1, rfl, I1.kept (t' := s1.toks) fun b o e => Heap.get?_push_of_some _ e, turn_list a _, ⟨_, Heap.get?_push_size _ rfl, rfl, rfl⟩, fun b hb => ?_, q⟩
    have e : b = s1.heap.objs.size := by simpa using hb
    subst e
    exact I1.fpOk (Nat.le_refl _) (I1.hok.fresh (Nat.le_refl _))
  · obtain ⟨its, rv, p, hz⟩ := I1.tuple hq
    refine wpAny_pyIter_tuple (show s1.heap.IsTuple a its.toArray from p) ?_
    refine ⟨s1.heap.objs.size, [s1.heap.objs.size], _, _, H1, rfl, I1.kept (t' := s1.toks) fun b o e => Heap.get?_push_of_some _ e, turn_tuple a _, ⟨_, Heap.get?_push_size _ rfl, rfl, rfl⟩, fun b hb => ?_, q⟩
    have e : b = s1.heap.objs.size := by simpa using hb
    subst e
    exact I1.fpOk (Nat.le_refl _) (I1.hok.fresh (Nat.le_refl _))
theorem evr_sq {T : Tb} {cl : Nat → List D → Option D} {p : E} {env : Env} {ds : List D} (h : evr T cl (.sq p) env = some ds) : ∃ d, ev T cl p env = some d ∧ seqD d = some ds := by
  unfold evr at h
  cases e : ev T cl p env with
  | none => rw [e] at h; cases h
  | some d => rw [e] at h; exact ⟨d, rfl, h⟩
theorem dr_sq (h : DZ W fz X e p) : DR W fz X tg e (.sq p) := PI.imp (pi_seq h) fun σ H R ⟨F, env, ds, s, hs, hf, ev, k⟩ => by
  obtain ⟨d, e1, e2⟩ := evr_sq ev
  refine ⟨F, env, d, s, hs, hf, e1, fun v F1 H1 x r => ?_⟩
  unfold seqD at e2
  split at e2
  · cases e2
    obtain ⟨a1, vs, ea, ha, hv⟩ := r.lst
    exact ⟨a1, ea, .inl ⟨⟨vs, SqL.of (Gz.top x.s _ _ ha)⟩, k _ F1 H1 x (y_list ha hv)⟩⟩
  · cases e2
    obtain ⟨a1, vs, ea, ha, hv⟩ := r.tup
    exact ⟨a1, ea, .inr ⟨⟨vs, Same.sqt x.s ha⟩, k _ F1 H1 x (y_tup ha hv)⟩⟩
  · cases e2
theorem small_of {i : Int} (h : smallI i = true) : -(2 ^ 62) ≤ i ∧ i < 2 ^ 62 := by
  unfold smallI at h
  rw [Bool.and_eq_true] at h
  exact ⟨of_decide_eq_true h.1, of_decide_eq_true h.2⟩
theorem dr_r1 {pp : Pos} (h : DB W X a p) (hg : Gl X "range" := by rfl) (hm : X.mg "range" = none) (hst : starEach [a] X.env = [(false, eval a X.env)] := by rfl) : DR W fz X tg (.Call (.Name "range" pp) [a] [] pos) (.r1 p) :=
  PI.imp (pi_range1 hg hm (pa_cons h pa_nil hst) hst) fun σ H R ⟨F, env, ds, s, hs, _, ev, k⟩ => by
    replace ev : evr W.T (run W.T W.n) (.r1 p) env = some ds := ev
    unfold evr at ev
    split at ev
    · rename_i j e1
      obtain ⟨c, rfl⟩ := ite_some ev
      obtain ⟨c1, c2⟩ := small_of c
      refine ⟨F, env, _, s, hs, e1, fun v H1 t r => ⟨j, by rw [show v = .int j from r], c1, c2, ?_⟩⟩
      have y := y_range (M := sm X W) (F := F) (G := Gz fz F H1) (lo := 0) (hi := j)
      rw [Int.sub_zero] at y
      exact k _ F H1 (Ext.grow s t) y
    · cases ev
theorem dr_r2 {pp : Pos} (h : DB W X a p) (h2 : DB W X b q) (hg : Gl X "range" := by rfl) (hm : X.mg "range" = none) (hst : starEach [a, b] X.env = [(false, eval a X.env), (false, eval b X.env)] := by rfl) (hst2 : starEach [b] X.env = [(false, eval b X.env)] := by rfl) : DR W fz X tg (.Call (.Name "range" pp) [a, b] [] pos) (.r2 p q) :=
  PI.imp (pi_range2 hg hm (pa_cons h (pa_cons h2 pa_nil hst2) (by rw [hst, hst2])) hst hst2) fun σ H R ⟨F, env, ds, s, hs, _, ev, k⟩ => by
    replace ev : evr W.T (run W.T W.n) (.r2 p q) env = some ds := ev
    unfold evr at ev
    split at ev
    · rename_i i e1
      split at ev
      · rename_i j e2
        obtain ⟨c, rfl⟩ := ite_some ev
        rw [Bool.and_eq_true] at c
        obtain ⟨c1, c2⟩ := small_of c.1
        obtain ⟨c3, c4⟩ := small_of c.2
        refine ⟨F, env, _, s, hs, e1, fun v H1 t r => ⟨F, env, _, s.trans t, hs.mono (Same.refl _) t, e2, fun w H2 t2 r2 => ⟨i, j, by rw [show v = .int i from r, show w = .int j from r2], ⟨c1, c2, c3, c4⟩, ?_⟩⟩⟩
        exact k _ F H2 (Ext.grow s (t.trans t2)) y_range
      · cases ev
    · cases ev
theorem dr_en {elts : List Expr} {kk : Nat} {tpos pp : Pos} (h : DZ W fz X a p) (hg : Gl X "enumerate" := by rfl) (hm : X.mg "enumerate" = none) (hst : starEach [a] X.env = [(false, eval a X.env)] := by rfl) : DR W fz X (.Tuple elts kk tpos) (.Call (.Name "enumerate" pp) [a] [] pos) (.en p) :=
  PI.imp (pi_enum hg hm (pa_cons h pa_nil hst) hst) fun σ H R ⟨F, env, ds, s, hs, hf, ev, k⟩ => by
    replace ev : evr W.T (run W.T W.n) (.en p) env = some ds := ev
    unfold evr at ev
    split at ev
    · rename_i xs e1
      cases ev
      refine ⟨F, env, _, s, hs, hf, e1, fun v F1 H1 x r => ?_⟩
      obtain ⟨a1, vs, ea, ha, hv⟩ := r.lst
      exact ⟨a1, vs, by rw [ea], SqL.of (Gz.top x.s _ _ ha), k _ F1 H1 x (y_enum ha hv)⟩
    · cases ev
theorem dr_zp {elts : List Expr} {kk : Nat} {tpos pp : Pos} (h : DZ W fz X a p) (h2 : DZ W fz X b q) (hg : Gl X "zip" := by rfl) (hm : X.mg "zip" = none) (hst : starEach [a, b] X.env = (false, eval a X.env) :: starEach [b] X.env := by rfl) (hst2 : starEach [b] X.env = [(false, eval b X.env)] := by rfl) :
    DR W fz X (.Tuple elts kk tpos) (.Call (.Name "zip" pp) [a, b] [] pos) (.zp p q) :=
  PI.imp (RZ.pi_zipA hg hm (pa_cons h (pa_cons h2 pa_nil hst2) hst) hst (by rw [hst2]; rfl)) fun σ H R ⟨F, env, ds, s, hs, hf, ev, k⟩ => by
    replace ev : evr W.T (run W.T W.n) (.zp p q) env = some ds := ev
    unfold evr at ev
    split at ev
    · rename_i xs e1
      split at ev
      · rename_i ys e2
        cases ev
        refine ⟨F, env, _, s, hs, hf.left, e1, fun v F1 H1 x r => ⟨F1, env, _, x.s, hs.mono x.f x.h, (EnvF.right hf).mono x.f, e2, fun w F2 H2 x2 r2 => ?_⟩⟩
        obtain ⟨a1, vs, ea, ha, hv⟩ := r.lst
        obtain ⟨b1, us, eb, hb, hu⟩ := r2.lst
        have ha2 := Gz.mono (fz := fz) x2.f x2.h _ _ ha
        exact ⟨a1, b1, vs, us, by rw [ea, eb], .inl ⟨SqL.of (Gz.top x2.s _ _ ha2), SqL.of (Gz.top x2.s _ _ hb), k _ F2 H2 (x.trans x2) (y_zip ha2 hb (hv.mono x2.f) hu)⟩⟩
      · cases ev
    · rename_i xs e1
      split at ev
      · rename_i ys e2
        cases ev
        refine ⟨F, env, _, s, hs, hf.left, e1, fun v F1 H1 x r => ⟨F1, env, _, x.s, hs.mono x.f x.h, (EnvF.right hf).mono x.f, e2, fun w F2 H2 x2 r2 => ?_⟩⟩
        obtain ⟨a1, vs, ea, ha, hv⟩ := r.tup
        obtain ⟨b1, us, eb, hb, hu⟩ := r2.tup
        have ha2 := Same.sqt x2.f ha
        exact ⟨a1, b1, vs, us, by rw [ea, eb], .inr ⟨Same.sqt x2.s ha2, Same.sqt x2.s hb, k _ F2 H2 (x.trans x2) (y_zipT ha2 hb (hv.mono x2.f) hu)⟩⟩
      · cases ev
    · cases ev

/-! ### comprehensions -/
theorem compD_cons {b : D → Env → Option Env} {c : Env → Option Bool} {e : Env → Option D} {d : D} {ds : List D} {env : Env} {out : List D} (h : compD b c e (d :: ds) env = some out) : ∃ env1, b d env = some env1 ∧
    ((c env1 = some true ∧ ∃ x r, e env1 = some x ∧ compD b c e ds env = some r ∧ out = x :: r) ∨ (c env1 = some false ∧ compD b c e ds env = some out)) := by
  unfold compD at h
  split at h
  · rename_i env1 e1
    refine ⟨env1, e1, ?_⟩
    split at h
    · rename_i e2
      split at h
      · rename_i x r e3 e4
        exact .inl ⟨e2, x, r, e3, e4, (Option.some.inj h).symm⟩
      · cases h
    · rename_i e2
      exact .inr ⟨e2, h⟩
    · cases h
  · cases h
/-- the core: te', tt' are what the element and the test ask -/
theorem comp_core {K : PySem.W.Frag} {M : Sm} (hK : M.K = K) {W : Wd} {J : It} {t : Tg} {ce : Env → Option Bool} {pe : E} {tt : TT} {te : TE} {F1 H1 : Hp} {env : Env} {σ : L2.St} {ds out : List D} {Q : VK} {F H : Hp}
    (htt : ∀ σ H Q, (∃ F env b, Same F H ∧ EnvS M F H env σ ∧ ce env = some b ∧ ∀ H', Same H H' → Q b H') → tt σ H Q) (hte : ∀ σ H Q, tP M W pe σ H Q → te σ H Q)
    (x1 : Ext F H F1 H1) (hs : EnvS M F1 H1 env σ) (hf : EnvF M F1 ((al pe).filter fun i => !(tgs t).contains i) env σ) (Y : Yld M H1 F1 J ds) (hl : ds.length ≤ LIM) (hc : compD (bindD t) ce (fun env => W.ev pe env) ds env = some out)
    (k : ∀ D F' H', Ext F H F' H' → Rtop M true H F' H' (.lst out) (.ref D) → Q (.ref D) H') :
    ∀ D, H1 D = none → ∃ Wi : Nat → Nat → Hp → Prop, (∃ m, Wi 0 m (upd H1 D (.lst []))) ∧ ∀ i m H, Wi i m H →
      (J.stop i H ∧ Q (.ref D) H) ∨ (J.go i H ∧ ∃ Nx : Hp → Prop, (∀ H', Nx H' → ∃ m', m' < m ∧ Wi (i + 1) m' H') ∧ ∀ x H', J.yld i H x H' → gT K t x (wipe σ (tgs t)) H' fun σ2 H2 => wipe σ2 (tgs t) = wipe σ (tgs t) ∧ tt σ2 H2 fun b H3 =>
        if b = true then te σ2 H3 fun y H4 => ∃ acc, H4 D = some (.lst acc) ∧ acc.length < sizeLine ∧ Nx (upd H4 D (.lst (acc ++ [y]))) else Nx H3) := by
  intro D hD
  have fD : F1 D = none := x1.s.free hD
  refine ⟨fun i m Hc => m = ds.length - i ∧ i ≤ ds.length ∧ ∃ F2 done vs rest, Same F1 F2 ∧ Same H1 Hc ∧ Same F2 Hc ∧ F2 D = none ∧ (∀ a o, F2 a = some o → F1 a = some o ∨ H1 a = none) ∧ compD (bindD t) ce (fun env => W.ev pe env) (ds.drop i) env = some rest ∧
    out = done ++ rest ∧ Hc D = some (.lst vs) ∧ RVs M F2 done vs ∧ done.length ≤ i, ⟨ds.length, by simp, Nat.zero_le _, F1, [], [], out, Same.refl _, Nt.same_new hD, ?_, fD, fun a o e => .inl e, hc, rfl, upd_same, RVs.nil, Nat.le_refl _⟩, ?_⟩
  · exact (Ext.hid x1.s hD).s
  rintro i m Hc ⟨rfl, hi, F2, done, vs, rest, s12, t1, s2, f2D, n2, hc2, rfl, hcD, hv, hdl⟩
  by_cases hlt : i < ds.length
  · refine .inr ?_
    have gd : ds[i]? = some ds[i] := List.getElem?_eq_getElem hlt
    rw [List.drop_eq_getElem_cons hlt] at hc2
    obtain ⟨env1, e1, e2⟩ := compD_cons hc2
    obtain ⟨go, yl⟩ := Y.item i _ F2 Hc s12 t1 s2 gd
    refine ⟨go, fun H' => ∃ F2 done' vs rest, Same F1 F2 ∧ Same H1 H' ∧ Same F2 H' ∧ F2 D = none ∧ (∀ a o, F2 a = some o → F1 a = some o ∨ H1 a = none) ∧ compD (bindD t) ce (fun env => W.ev pe env) (ds.drop (i + 1)) env = some rest ∧
      done ++ _ = done' ++ rest ∧ H' D = some (.lst vs) ∧ RVs M F2 done' vs ∧ done'.length ≤ i + 1, fun H' hN => ⟨ds.length - (i + 1), by omega, rfl, hlt, hN⟩, fun x H2 y => ?_⟩
    obtain ⟨F3, x3, rx⟩ := yl x H2 y
    have s13 := s12.trans x3.f
    have t13 := t1.trans x3.h
    refine EnvS.wiped hK (l := al pe) x3.s (hs.mono s13 t13) (hf.mono s13) rx e1 fun σ2 hw hs2 hf2 => ⟨hw, ?_⟩
    have n3 : ∀ a o, F3 a = some o → F1 a = some o ∨ H1 a = none := fun a o e => (x3.n a o e).elim (n2 a o) fun z => .inr (t1.free z)
    have f3D : F3 D = none := by
      cases z : F3 D with
      | none => rfl
      | some o =>
        rcases x3.n D o z with z | z
        · rw [f2D] at z; cases z
        · rw [hcD] at z; cases z
    rcases e2 with ⟨c1, x', r, c2, c3, rfl⟩ | ⟨c1, c2⟩
    · refine htt σ2 H2 _ ⟨F3, env1, true, x3.s, hs2, c1, fun H3 t3 => iteT ?_⟩
      refine hte σ2 H3 _ ⟨F3, env1, x', x3.s.trans t3, hs2.mono (Same.refl _) t3, hf2, c2, fun v F4 H4 x4 r4 => ?_⟩
      have h4D : H4 D = some (.lst vs) := x4.h _ _ (t3 _ _ (x3.h _ _ hcD))
      have f4D : F4 D = none := by
        cases z : F4 D with
        | none => rfl
        | some o =>
          rcases x4.n D o z with z | z
          · rw [f3D] at z; cases z
          · rw [t3 _ _ (x3.h _ _ hcD)] at z; cases z
      refine ⟨vs, h4D, by rw [hv.len]; exact lim_lt (by omega), F4, done ++ [x'], vs ++ [v], r, s13.trans x4.f, fun b o e => ?_, fun b o e => ?_, f4D, fun a o e => ?_, c3, by rw [List.append_assoc]; rfl, upd_same, ((hv.mono x3.f).mono x4.f).append (RVs.cons r4 RVs.nil), by rw [List.length_append]; exact Nat.succ_le_succ hdl⟩
      · rw [upd_ne (ne_of_none e hD)]
        exact x4.h _ _ (t3 _ _ (t13 _ _ e))
      · rw [upd_ne (ne_of_none e f4D)]
        exact x4.s _ _ e
      · rcases x4.n a o e with z | z
        · exact n3 a o z
        · exact .inr ((t13.trans t3).free z)
    · refine htt σ2 H2 _ ⟨F3, env1, false, x3.s, hs2, c1, fun H3 t3 => iteF ?_⟩
      exact ⟨F3, done, vs, _, s13, t13.trans t3, x3.s.trans t3, f3D, n3, c2, rfl, t3 _ _ (x3.h _ _ hcD), hv.mono x3.f, Nat.le_succ_of_le hdl⟩
  · have e : i = ds.length := by omega
    subst e
    rw [List.drop_length] at hc2
    have er : [] = rest := Option.some.inj hc2
    subst er
    rw [List.append_nil] at k
    refine .inl ⟨Y.stop _ F2 Hc s12 t1 s2 (Nat.le_refl _), k D F2 Hc ⟨x1.f.trans s12, x1.h.trans t1, s2, fun a o e => ?_⟩ (Rtop.newL (x1.h.free hD) f2D hcD hv)⟩
    rcases n2 a o e with z | z
    · exact x1.n a o z
    · exact .inr (x1.h.free z)
theorem ev_comp {T : Tb} {cl : Nat → List D → Option D} {s : Sr} {t : Tg} {p : E} {env : Env} {z : D} (h : ev T cl (.comp s t p) env = some z) : ∃ ds out, evr T cl s env = some ds ∧ ds.length ≤ LIM ∧ compD (bindD t) (fun _ => some true) (fun env => ev T cl p env) ds env = some out ∧ z = .lst out := by
  unfold ev at h
  split at h
  · rename_i ds e1
    split at h
    · rename_i c
      obtain ⟨out, e2, rfl⟩ := Option.map_eq_some_iff.mp h
      exact ⟨ds, out, e1, c, e2, rfl⟩
    · cases h
  · cases h
theorem ev_compI {T : Tb} {cl : Nat → List D → Option D} {s : Sr} {t : Tg} {c p : E} {env : Env} {z : D} (h : ev T cl (.compI s t c p) env = some z) : ∃ ds out, evr T cl s env = some ds ∧ ds.length ≤ LIM ∧ compD (bindD t) (fun env => (ev T cl c env).bind blD) (fun env => ev T cl p env) ds env = some out ∧ z = .lst out := by
  unfold ev at h
  split at h
  · rename_i ds e1
    split at h
    · rename_i c
      obtain ⟨out, e2, rfl⟩ := Option.map_eq_some_iff.mp h
      exact ⟨ds, out, e1, c, e2, rfl⟩
    · cases h
  · cases h
/-- what a comprehension asks, apart from where it stands (value or assignment) -/
theorem comp_t {tt : TT} {te : TE} {s : Sr} {t : Tg} {p : E} (htt : tt = tYes) (hte : te = tP (sm X W) W p) : ∀ σ H Q, tD (sm X W) W (.comp s t p) σ H Q → tLc (tR (sm X W) W false s) (gT X.K t) tt te (tgs t) σ H Q := fun σ H Q ⟨F, env, d, sm1, hs, hf, ev, k⟩ => by
  subst htt hte
  obtain ⟨ds, out, e1, hl, e2, rfl⟩ := ev_comp ev
  refine ⟨F, env, ds, sm1, hs, by rw [alz_false]; exact EnvF.left hf, e1, fun J F1 H1 x Y => ?_⟩
  exact comp_core (M := sm X W) rfl (ce := fun _ => some true) (pe := p) (fun σ H Q ⟨F, env, b, s, hs, eb, q⟩ => by
    have eb : true = b := Option.some.inj eb
    subst eb
    exact q H (Same.refl _)) (fun _ _ _ h => h) x (hs.mono x.f x.h) ((EnvF.right hf).mono x.f) Y hl e2 fun D F' H' x' r => k _ F' H' x' r
theorem comp_tI {tt : TT} {te : TE} {s : Sr} {t : Tg} {c p : E} (htt : tt = tT (sm X W) W c) (hte : te = tP (sm X W) W p) : ∀ σ H Q, tD (sm X W) W (.compI s t c p) σ H Q → tLc (tR (sm X W) W false s) (gT X.K t) tt te (tgs t) σ H Q := fun σ H Q ⟨F, env, d, sm1, hs, hf, ev, k⟩ => by
  subst htt hte
  obtain ⟨ds, out, e1, hl, e2, rfl⟩ := ev_compI ev
  refine ⟨F, env, ds, sm1, hs, by rw [alz_false]; exact EnvF.left hf, e1, fun J F1 H1 x Y => ?_⟩
  exact comp_core (M := sm X W) rfl (ce := fun env => (W.ev c env).bind blD) (pe := p) (fun σ H Q ⟨F, env, b, s, hs, eb, q⟩ => by
    cases ec : W.ev c env with
    | none => rw [ec] at eb; cases eb
    | some z =>
      rw [ec] at eb
      have eb : blD z = some b := eb
      unfold blD at eb
      split at eb
      · cases eb; exact ⟨F, env, _, s, hs, ec, q⟩
      · cases eb) (fun _ _ _ h => h) x (hs.mono x.f x.h) ((EnvF.right hf).mono x.f) Y hl e2 fun D F' H' x' r => k _ F' H' x' r
theorem de_comp {elt iter : Expr} {scope : Scope} {own : List (Str × Nat)} {s : Sr} {t : Tg} {p : E} (hc : X.calm = true) (hN : X.N.Nodup) (hi : DR W false X tg iter s) (ok : BlkOk X.N X.env.scope scope own) (ho : own.map (·.2) = tgs t)
    (hg : ∀ (s : Shared) (H : Hp) (C : Addr) (cl : List (Str × Addr)) (fp : List Addr), PG (X.blk s H scope (compEnvC scope cl C X.env) fp) tg (gT X.K t)) 
    (he : ∀ (s : Shared) (H : Hp) (C : Addr) (cl : List (Str × Addr)) (fp : List Addr), DE W (X.blk s H scope (compEnvC scope cl C X.env) fp) elt p) (hs : ∀ x, foldedSetIterable iter X.env x = pure x := by intro _; rfl) :
    DE W X (.ListComp elt [⟨tg, iter, [], 0⟩] scope pos) (.comp s t p) := PE.imp (pe_lc hc hN hi ok hg (fun _ _ _ _ _ => pts_nil) (fun s H C cl fp => deP (he s H C cl fp)) hs) fun σ H Q h => by
  rw [ho]
  exact comp_t rfl rfl σ H Q h
theorem de_compI {elt iter ic : Expr} {scope : Scope} {own : List (Str × Nat)} {s : Sr} {t : Tg} {c p : E} (hc : X.calm = true) (hN : X.N.Nodup) (hi : DR W false X tg iter s) (ok : BlkOk X.N X.env.scope scope own) (ho : own.map (·.2) = tgs t)
    (hg : ∀ (s : Shared) (H : Hp) (C : Addr) (cl : List (Str × Addr)) (fp : List Addr), PG (X.blk s H scope (compEnvC scope cl C X.env) fp) tg (gT X.K t)) 
    (ht : ∀ (s : Shared) (H : Hp) (C : Addr) (cl : List (Str × Addr)) (fp : List Addr), DT W (X.blk s H scope (compEnvC scope cl C X.env) fp) ic c)
    (he : ∀ (s : Shared) (H : Hp) (C : Addr) (cl : List (Str × Addr)) (fp : List Addr), DE W (X.blk s H scope (compEnvC scope cl C X.env) fp) elt p) (hs : ∀ x, foldedSetIterable iter X.env x = pure x := by intro _; rfl) :
    DE W X (.ListComp elt [⟨tg, iter, [ic], 0⟩] scope pos) (.compI s t c p) := PE.imp (pe_lc hc hN hi ok hg (fun s H C cl fp => pts_one (ht s H C cl fp)) (fun s H C cl fp => deP (he s H C cl fp)) hs) fun σ H Q h => by
  rw [ho]
  exact comp_tI rfl rfl σ H Q h
end
end Nt

set_option Elab.async false
set_option linter.all false
set_option maxRecDepth 100000
set_option maxHeartbeats 4000000
/-! Calls of own defs, methods, classes; isinstance; fields. -/
namespace Nt
open PySem PySem.Spec PyProof.Rows L2

/-- what def number k promises with n calls allowed -/
def spD (M : Sm) (T : Tb) (n k : Nat) : Sp := fun vs H Q _ => ∃ fn F ds d, T.fns[k]? = some fn ∧ ds.length = fn.np ∧ Same F H ∧ RVs M F ds vs ∧ run T n k ds = some d ∧ ∀ v F' H', Ext F H F' H' → Rtop M fn.fr H F' H' d v → Q v H'
/-- def number k stands at f -/
structure FnAt (W : Wd) (P : Program) (w : World) (K : PySem.W.Frag) (mg : Str → Option Value) (base : Heap) (n k : Nat) (f : Addr) : Prop where
  ex : ∃ fd ps, PySem.W.keepIn K (.ref f) = true ∧ Binds K fd ps [] ∧ FnOk P w K mg base CX0 n f fd ps (spD ⟨K, W.ca, W.T.cn⟩ W.T n k)
abbrev FnX (W : Wd) (X : Cx) (k : Nat) (f : Addr) : Prop := FnAt W X.prog X.w X.K X.mg X.base W.n k f

theorem run_fn_some {T : Tb} {n k : Nat} {ds : List D} {d : D} (h : run T n k ds = some d) : ∃ fn, T.fns[k]? = some fn ∧ ds.length = fn.np := by
  cases n with
  | zero => cases h
  | succ n =>
    unfold run at h
    split at h
    · rename_i f e
      split at h
      · rename_i c
        exact ⟨f, e, c⟩
      · cases h
    · cases h
theorem run_pos {T : Tb} {n k : Nat} {ds : List D} {d : D} (h : run T n k ds = some d) : 0 < n := by
  cases n with
  | zero => cases h
  | succ n => exact Nat.succ_pos _

section
variable {W : Wd} {X : Cx} {a b c e o : Expr} {p q r : E} {pos : Pos} {es : List Expr} {ps : Es}
theorem ev_call {T : Tb} {cl : Nat → List D → Option D} {k : Nat} {ps : Es} {env : Env} {z : D} (h : ev T cl (.call k ps) env = some z) : ∃ ds, evs T cl ps env = some ds ∧ cl k ds = some z := by
  unfold ev at h
  split at h
  · rename_i ds e1
    exact ⟨ds, e1, h⟩
  · cases h
theorem de_call {x : Str} {pp : Pos} {k : Nat} {f : Addr} (g : Gd W X) (F : FnX W X k f) (hm : X.mg x = some (.ref f)) (ha : DA W X (e :: es) ps) (hg : Gl X x := by rfl) (hdb : (x == ("__debug__" : Str)) = false := by decide)
    (he : starEach (e :: es) X.env = (false, eval e X.env) :: starEach es X.env := by rfl) (hpl : (backTo pos (starEach es X.env)).any (·.1) = false := by rfl) : DE W X (.Call (.Name x pp) (e :: es) [] pos) (.call k ps) := by
  obtain ⟨fd, pr, kp, hb, ok⟩ := F.ex
  refine PE.imp (pe_call ok g.room hg hm kp hb .nil pass0 ha hdb he hpl) fun σ H Q ⟨F, env, d, s, hs, hf, ev, k'⟩ => ?_
  obtain ⟨ds, e1, e2⟩ := ev_call ev
  refine ⟨F, env, ds, s, hs, hf, e1, fun vs F1 H1 x r => ?_⟩
  obtain ⟨fn, hfn, hl⟩ := run_fn_some e2
  refine ⟨fn, F1, ds, d, hfn, hl, x.s, by rw [List.append_nil]; exact r, e2, fun v F2 H2 x2 r2 => ?_⟩
  refine k' v F2 H2 (x.trans x2) ?_
  have et : top W.T (.call k ps) = fn.fr := by
    unfold top
    rw [hfn]
  rw [et]
  exact r2.before x.h
theorem de_call0 {x : Str} {pp : Pos} {k : Nat} {f : Addr} (g : Gd W X) (F : FnX W X k f) (hm : X.mg x = some (.ref f)) (hg : Gl X x := by rfl) (hdb : (x == ("__debug__" : Str)) = false := by decide) : DE W X (.Call (.Name x pp) [] [] pos) (.call k .nil) := by
  obtain ⟨fd, pr, kp, hb, ok⟩ := F.ex
  refine PE.imp (pe_call0 ok g.room hg hm kp hb .nil pass0 hdb) fun σ H Q ⟨F, env, d, s, hs, hf, ev, k'⟩ => ?_
  obtain ⟨ds, e1, e2⟩ := ev_call ev
  obtain rfl : [] = ds := Option.some.inj e1
  obtain ⟨fn, hfn, hl⟩ := run_fn_some e2
  refine ⟨fn, F, [], d, hfn, hl, s, RVs.nil, e2, fun v F2 H2 x2 r2 => ?_⟩
  refine k' v F2 H2 x2 ?_
  have et : top W.T (.call k .nil) = fn.fr := by
    unfold top
    rw [hfn]
  rw [et]
  exact r2

/-! ### isinstance -/
/-- what a class of ours must have to be asked by isinstance, and its fields -/
structure ClOk (K : PySem.W.Frag) (C : Addr) : Prop where
  cls : Cls K C
  ca : PySem.W.findIn K (.ref C) "__class__" = some (some (.builtin "object.__class__"))
  cg : PySem.W.specialIn K (.builtin "object.__class__") "__get__" = some (some (.builtin "getset_descriptor.__get__"))
  ct : PySem.W.takesIn K (.builtin "object.__class__") = some true
  cm : PySem.W.mroIn K C (.type "object") = some true
theorem ty_tup {K : PySem.W.Frag} {H : Hp} {a : Addr} {vs : List V} (h : SqT K H a vs) : TyX K H (.ref a) (.type "tuple") := by
  rcases h with (h | ⟨o, h⟩) | ⟨o, its, n, h1, h2, _⟩
  · exact .base (.tup h)
  · exact .fTuple h
  · exact .kTuple h1 h2
def tyN : Ty → String
  | .int => "int" | .bool => "bool" | .str => "str" | .tup => "tuple" | .lst => "list" | .cls _ => ""
theorem isT_ok {sub : Nat → Nat → Option Bool} {M : Sm} {t : Ty} {d : D} {b : Bool} {H : Hp} {v : V} (ht : ∀ c, t ≠ .cls c) (h : isT sub t d = some b) (r : RV M H d v) : ∃ ty, TyX M.K H v (.type ty) ∧ kitB ty (tyN t) = some b := by
  cases d with
  | non =>
    rw [show v = .non from r]
    refine ⟨"NoneType", .base .non, ?_⟩
    cases t with
    | cls c => exact absurd rfl (ht c)
    | _ => cases h; decide +kernel
  | bl x =>
    rw [show v = .bl x from r]
    refine ⟨"bool", .base (.bl x), ?_⟩
    cases t with
    | cls c => exact absurd rfl (ht c)
    | _ => cases h; decide +kernel
  | int x =>
    rw [show v = .int x from r]
    refine ⟨"int", .base (.int x), ?_⟩
    cases t with
    | cls c => exact absurd rfl (ht c)
    | _ => cases h; decide +kernel
  | str x =>
    rw [show v = .str x from r]
    refine ⟨"str", .base (.str x), ?_⟩
    cases t with
    | cls c => exact absurd rfl (ht c)
    | _ => cases h; decide +kernel
  | tup ds =>
    obtain ⟨a, vs, e, h1, _⟩ := r
    rw [e]
    refine ⟨"tuple", ty_tup h1, ?_⟩
    cases t with
    | cls c => exact absurd rfl (ht c)
    | _ => cases h; decide +kernel
  | lst ds =>
    obtain ⟨a, vs, e, h1, _⟩ := r
    rw [e]
    refine ⟨"list", .base (.lst h1), ?_⟩
    cases t with
    | cls c => exact absurd rfl (ht c)
    | _ => cases h; decide +kernel
  | frl ns =>
    cases t with
    | cls c => exact absurd rfl (ht c)
    | _ => cases h
  | ins c ds =>
    cases t with
    | cls c => exact absurd rfl (ht c)
    | _ => cases h
theorem de_isi {t : Ty} {tn : String} {x : Str} {pp p2 : Pos} (h : DB W X a p) (hx : bootBuiltins x = some (.type tn)) (htn : tyN t = tn := by rfl) (ht : ∀ c, t ≠ .cls c := by exact fun c z => nomatch z) (hg : Gl X "isinstance" := by rfl) (hm : X.mg "isinstance" = none) (hg2 : Gl X x := by rfl) (hm2 : X.mg x = none)
    (hn : x ≠ "__name__" := by decide) (hd : (x == ("__debug__" : Str)) = false := by decide) (hst : starEach [a, .Name x p2] X.env = (false, eval a X.env) :: starEach [.Name x p2] X.env := by rfl) : DE W X (.Call (.Name "isinstance" pp) [a, .Name x p2] [] pos) (.o1 (.ist t) p) :=
  PE.imp (pe_callB call_isi hg hm PyProof.Rows.boot_isinstance (pa_cons h (pa_cons (pe_bltn (v := .ty tn) hg2 hm2 hx rfl hn hd) pa_nil rfl) hst) (by decide) (by decide) hst rfl) fun σ H Q ⟨F, env, d, s, hs, _, ev, k⟩ => by
    obtain ⟨d1, e1, e2⟩ := ev_o1 ev
    replace e2 : (isT W.T.sub t d1).map .bl = some d := e2
    obtain ⟨b, e3, rfl⟩ := Option.map_eq_some_iff.mp e2
    refine ⟨F, env, d1, s, hs, e1, fun v H1 tt r1 => ?_⟩
    obtain ⟨ty, q1, q2⟩ := isT_ok ht e3 r1
    rw [htn] at q2
    exact ⟨v, .ty tn, .type ty, .type tn, b, rfl, .ty tn, q1, kit_ty q2, k _ F H1 (Ext.grow s tt) (scl_top rfl)⟩
theorem de_isc {c : Nat} {x : Str} {pp p2 : Pos} (h : DB W X a p) (hsub : ∀ c' b, W.T.sub c' c = some b → ClOk X.K (W.ca c') ∧ PySem.W.kitOne X.K (.ref (W.ca c')) (.ref (W.ca c)) = some b) (hm2 : X.mg x = some (.ref (W.ca c))) (hg : Gl X "isinstance" := by rfl) (hm : X.mg "isinstance" = none) (hg2 : Gl X x := by rfl) 
    (hd : (x == ("__debug__" : Str)) = false := by decide) (hst : starEach [a, .Name x p2] X.env = (false, eval a X.env) :: starEach [.Name x p2] X.env := by rfl) : DE W X (.Call (.Name "isinstance" pp) [a, .Name x p2] [] pos) (.o1 (.ist (.cls c)) p) :=
  PE.imp (pe_callB call_isi hg hm PyProof.Rows.boot_isinstance (pa_cons h (pa_cons (pe_glob (v := .ref (W.ca c)) hg2 hm2 rfl hd) pa_nil rfl) hst) (by decide) (by decide) hst rfl) fun σ H Q ⟨F, env, d, s, hs, _, ev, k⟩ => by
    obtain ⟨d1, e1, e2⟩ := ev_o1 ev
    replace e2 : (isT W.T.sub (.cls c) d1).map .bl = some d := e2
    obtain ⟨b, e3, rfl⟩ := Option.map_eq_some_iff.mp e2
    refine ⟨F, env, d1, s, hs, e1, fun v H1 tt r1 => ?_⟩
    cases d1 with
    | ins c' ds =>
      obtain ⟨q1, q2⟩ := hsub c' b e3
      obtain ⟨a1, dx, fs, ea, ha, _, _⟩ := r1
      exact ⟨v, .ref (W.ca c), .ref (W.ca c'), .ref (W.ca c), b, rfl, .own _, by rw [ea]; exact .base (.ins ha q1.cls q1.ca q1.cg q1.ct q1.cm), q2, k _ F H1 (Ext.grow s tt) (scl_top rfl)⟩
    | _ => cases e3
/-! ### fields -/
theorem ev_fld {T : Tb} {cl : Nat → List D → Option D} {p : E} {f : Str} {env : Env} {z : D} (h : ev T cl (.fld p f) env = some z) : ∃ c fs, ev T cl p env = some (.ins c fs) ∧ ((T.cn c).zip fs).lookup f = some z := by
  unfold ev at h
  split at h
  · rename_i c fs e1
    exact ⟨c, fs, e1, h⟩
  · cases h
theorem fld_look {M : Sm} {F : Hp} {f : Str} {d : D} : ∀ {ns : List Str} {ds : List D} {fs : List (Str × V)}, fs.map (·.1) = ns → RVs M F ds (fs.map (·.2)) → (ns.zip ds).lookup f = some d → f ∈ ns ∧ ∃ v, fs.lookup f = some v ∧ RV M F d v
  | [], _, _, _, _, h => by simp at h
  | n :: ns, [], _, _, _, h => by simp at h
  | n :: ns, d0 :: ds, fs, h1, h2, h => by
    cases fs with
    | nil => cases h1
    | cons p fs =>
      obtain ⟨pn, pv⟩ := p
      rw [List.map_cons] at h1
      injection h1 with e1 e2
      have e1 : pn = n := e1
      subst e1
      obtain ⟨v, r, e3, h3, h4⟩ := h2
      rw [List.map_cons] at e3
      injection e3 with e4 e5
      rw [List.zip_cons_cons, List.lookup_cons] at h
      by_cases q : (f == pn) = true
      · rw [q] at h
        cases h
        have qe : f = pn := by simpa using q
        refine ⟨by rw [qe]; exact List.mem_cons_self .., pv, ?_, by rw [show pv = v from e4]; exact h3⟩
        rw [List.lookup_cons, q]
      · have q : (f == pn) = false := by simpa using q
        rw [q] at h
        obtain ⟨m, v', z1, z2⟩ := fld_look e2 (by rw [e5]; exact h4) h
        refine ⟨List.mem_cons_of_mem _ m, v', ?_, z2⟩
        rw [List.lookup_cons, q]
        exact z1
theorem de_fld {f : Str} (h : DE W X o p) (hc : ∀ c, f ∈ W.T.cn c → Cls X.K (W.ca c) ∧ NoAttr X.K (W.ca c) f) (hb : attributeBase o f X.env (eval o X.env) = eval o X.env := by rfl) : DE W X (.Attribute o f pos) (.fld p f) :=
  PE.imp (pe_fld (deP h) hb) fun σ H Q ⟨F, env, d, s, hs, hf, ev, k⟩ => by
    obtain ⟨c, fs, e1, e2⟩ := ev_fld ev
    refine ⟨F, env, _, s, hs, hf, e1, fun v F1 H1 x r => ?_⟩
    obtain ⟨a1, dx, gs, ea, ha, hn, hv⟩ := r
    obtain ⟨m, u, q1, q2⟩ := fld_look hn hv e2
    obtain ⟨c1, c2⟩ := hc c m
    exact ⟨a1, W.ca c, dx, gs, u, ea, x.s _ _ ha, c1, c2, q1, k u F1 H1 x (.inl q2)⟩
/-! ### o.shows(..) -/
theorem ev_shows {T : Tb} {cl : Nat → List D → Option D} {p : E} {ps : Es} {env : Env} {z : D} (h : ev T cl (.shows p ps) env = some z) : ∃ c fs ds k, ev T cl p env = some (.ins c fs) ∧ evs T cl ps env = some ds ∧ T.sh c = some k ∧ cl k (.ins c fs :: ds) = some z := by
  unfold ev at h
  split at h
  · rename_i c fs e1
    split at h
    · rename_i ds e2
      split at h
      · rename_i k e3
        exact ⟨c, fs, ds, k, e1, e2, e3, h⟩
      · cases h
    · cases h
  · cases h
theorem lookup_none {α : Type} {f : Str} : ∀ {fs : List (Str × α)}, f ∉ fs.map (·.1) → fs.lookup f = none
  | [], _ => rfl
  | (n, v) :: fs, h => by
    rw [List.map_cons, List.mem_cons, not_or] at h
    rw [List.lookup_cons, show (f == n) = false by simpa using h.1]
    exact lookup_none h.2
theorem de_shows {m : Str} {apos : Pos} {pl : Sem Bool} (g : Gd W X) (h : DE W X o p) (hc : ∀ c k, W.T.sh c = some k → m ∉ W.T.cn c ∧ ∃ f, Cls X.K (W.ca c) ∧ Meth X.K (W.ca c) m f ∧ FnX W X k f) (ha : DA W X (e :: es) ps)
    (hst : starEach (e :: es) X.env = (false, eval e X.env) :: starEach es X.env := by rfl) (hpl : (backTo pos (starEach es X.env)).any (·.1) = false := by rfl)
    (ht : eval (.Call (.Attribute o m apos) (e :: es) [] pos) X.env = (do
      let ov ← eval o X.env
      standAt apos.atName
      let (f, first) ← holding [ov] (getMethod ov m pl)
      callWith pos f first (backTo pos (starEach (e :: es) X.env)) (backToKw pos (keywordEach [] X.env))) := by rfl) : DE W X (.Call (.Attribute o m apos) (e :: es) [] pos) (.shows p ps) := by
  refine ⟨fun pins s σ H Q I ⟨F, env, d, sm1, hs, hf, ev, k'⟩ => ?_⟩
  obtain ⟨c, fs, ds, k, e1, e2, e3, e4⟩ := ev_shows ev
  obtain ⟨hmn, f, hcl, hmt, hfx⟩ := hc c k e3
  obtain ⟨fd, pr, kp, hb, ok⟩ := hfx.ex
  refine PySem.W.methodCall_KW (pl := pl) (thn ((deP h).run pins s σ H _ I ⟨F, env, _, sm1, hs, EnvF.left hf, e1, fun v F1 H1 x r => (show v = v ∧ ∃ F1, Ext F H F1 H1 ∧ RV (sm X W) F1 (.ins c fs) v from ⟨rfl, F1, x, r⟩)⟩) fun u s1 ⟨x, H1, I1, rx, _, F1, x1, r1⟩ => ?_) ht
  have r1' := r1
  obtain ⟨a1, dx, gs, ea, hga, hn, hv⟩ := r1
  subst ea
  obtain rfl : u = Value.ref a1 := rx
  refine getmeth_ok I1 (x1.s _ _ hga) hcl hmt (lookup_none (by rw [hn]; exact hmn)) ?_
  refine PySem.W.callWith_K (first := [.ref a1]) (h₀ := X.base) I.ok.mod.kin hmt.kp (thn (ha.run pos pins s1 σ H1 _ I1 ⟨F1, env, ds, x1.s, hs.mono x1.f x1.h, (EnvF.right hf).mono x1.f, e2, fun vs F2 H2 x2 r2 => (show vs = vs ∧ ∃ F2, Ext F1 H1 F2 H2 ∧ RVs (sm X W) F2 ds vs from ⟨rfl, F2, x2, r2⟩)⟩) fun us s2 ⟨vs, H2, I2, rv, _, F2, x2, r2⟩ => ⟨I2.kIn, ?_⟩) hst hpl
  obtain ⟨fn, hfn, hl⟩ := run_fn_some e4
  refine run_fn (us := .ref a1 :: us) (vs := .ref a1 :: vs) ok g.room hb .nil pass0 I2 (.cons rfl rv) ?_
  refine ⟨fn, F2, _, d, hfn, hl, x2.s, ?_, e4, fun v F3 H3 x3 r3 => ?_⟩
  · rw [List.append_nil]
    exact RVs.cons (r1'.mono x2.f) r2
  · obtain ⟨F4, x4, _, r4⟩ := r3.plain x3
    exact k' v F4 H3 ((x1.trans x2).trans x4) (.inl r4)
end
end Nt

set_option Elab.async false
set_option linter.all false
set_option maxRecDepth 100000
set_option maxHeartbeats 4000000
/-! Statements; a def by its body. -/
namespace Nt
open PySem PySem.Spec PyProof.Rows L2

theorem ro_ownb {M : Sm} {F H : Hp} {p : Addr} {d : D} {v : V} (h : ownb d = false) (r : RO M F H p d v) : RV M F d v := by
  unfold RO at r
  split at r
  · cases h
  · cases h
  · exact r
theorem ro_there {M : Sm} {F H : Hp} {p : Addr} {d : D} {v : V} (h : ownb d = true) (r : RO M F H p d v) : H p ≠ none := by
  unfold RO at r
  split at r
  · obtain ⟨_, vs, q, _⟩ := r
    rw [q]
    exact fun z => by cases z
  · obtain ⟨_, _, _, _, _, _, vs, q, _⟩ := r
    rw [q]
    exact fun z => by cases z
  · rename_i h1 h2
    unfold ownb at h
    split at h
    · exact absurd rfl (h1 _)
    · exact absurd rfl (h2 _ _)
    · cases h

/-- the state within a def: B what stays seen, F what is seen, F0 H0 the entry, O where the own slots' lists stand -/
structure SJ (M : Sm) (B F0 H0 : Hp) (O : Nat → Option Addr) (F : Hp) (own : List Nat) (env : Env) (σ : L2.St) (H : Hp) : Prop where
  b : Same B F
  x : Ext F0 H0 F H
  ad : ∀ j ∈ own, ∀ p, O j = some p → F p = none ∧ H0 p = none ∧ H p ≠ none
  inj : ∀ i ∈ own, ∀ j ∈ own, i ≠ j → ∀ p, O i = some p → O j ≠ some p
  len : env.length ≤ σ.length
  non : ∀ i d, gt env i = some d → i ∉ own → ∃ v, σ[i]? = some (some v) ∧ RV M F d v
  own : ∀ i d, gt env i = some d → i ∈ own → ∃ v, σ[i]? = some (some v) ∧ match O i with
    | some p => RO M F H p d v
    | none => ownb d = false ∧ RV M F d v

section
variable {M : Sm} {B F0 H0 F H : Hp} {O : Nat → Option Addr} {own own' : List Nat} {env : Env} {σ : L2.St}
theorem SJ.envS (j : SJ M B F0 H0 O F own env σ H) : EnvS M F H env σ := ⟨j.len, fun i d e => by
  by_cases m : i ∈ own
  · obtain ⟨v, h1, h2⟩ := j.own i d e m
    refine ⟨v, h1, ?_⟩
    split at h2
    · exact h2.rs j.x.s
    · exact h2.2.rs j.x.s
  · obtain ⟨v, h1, h2⟩ := j.non i d e m
    exact ⟨v, h1, h2.rs j.x.s⟩⟩
theorem SJ.envF (j : SJ M B F0 H0 O F own env σ H) {l : List Nat} (h : ∀ i ∈ l, i ∉ own) : EnvF M F l env σ := fun i m d e => j.non i d e (h i m)
theorem SJ.grow {F1 H1 : Hp} (j : SJ M B F0 H0 O F own env σ H) (x : Ext F H F1 H1) : SJ M B F0 H0 O F1 own env σ H1 where
  b := j.b.trans x.f
  x := j.x.trans x
  ad := fun k m p e => by
    obtain ⟨a, b, c⟩ := j.ad k m p e
    refine ⟨?_, b, fun z => c (x.h.free z)⟩
    cases q : F1 p with
    | none => rfl
    | some o =>
      rcases x.n p o q with z | z
      · rw [a] at z; cases z
      · exact absurd z c
  inj := j.inj
  len := j.len
  non := fun i d e m => let ⟨v, h1, h2⟩ := j.non i d e m; ⟨v, h1, h2.mono x.f⟩
  own := fun i d e m => by
    obtain ⟨v, h1, h2⟩ := j.own i d e m
    refine ⟨v, h1, ?_⟩
    split at h2
    · exact h2.mono x.f x.h
    · exact ⟨h2.1, h2.2.mono x.f⟩
/-- some own slots are own no more: their lists are seen -/
theorem SJ.free (j : SJ M B F0 H0 O F own env σ H) (sub : ∀ i ∈ own', i ∈ own) : ∃ F1, Same F F1 ∧ SJ M B F0 H0 O F1 own' env σ H := by
  classical
  let F1 : Hp := fun a => if ∃ i ∈ own, i ∉ own' ∧ O i = some a then H a else F a
  have s1 : Same F F1 := fun a o e => by
    show (if _ then _ else _) = _
    rw [if_neg]
    · exact e
    · rintro ⟨i, m, _, q⟩
      rw [(j.ad i m a q).1] at e
      cases e
  have sH : Same F1 H := fun a o e => by
    have e : (if ∃ i ∈ own, i ∉ own' ∧ O i = some a then H a else F a) = some o := e
    by_cases c : ∃ i ∈ own, i ∉ own' ∧ O i = some a
    · rw [if_pos c] at e; exact e
    · rw [if_neg c] at e; exact j.x.s _ _ e
  refine ⟨F1, s1, ⟨j.b.trans s1, ⟨j.x.f.trans s1, j.x.h, sH, fun a o e => ?_⟩, fun k m p e => ?_, fun i m k m' => j.inj i (sub i m) k (sub k m'), j.len, fun i d e m => ?_, fun i d e m => ?_⟩⟩
  · have e : (if ∃ i ∈ own, i ∉ own' ∧ O i = some a then H a else F a) = some o := e
    by_cases c : ∃ i ∈ own, i ∉ own' ∧ O i = some a
    · obtain ⟨i, m, _, q⟩ := c
      exact .inr (j.ad i m a q).2.1
    · rw [if_neg c] at e; exact j.x.n a o e
  · obtain ⟨a, b, c⟩ := j.ad k (sub k m) p e
    refine ⟨?_, b, c⟩
    show (if _ then _ else _) = _
    rw [if_neg]
    · exact a
    · rintro ⟨i, mi, ni, q⟩
      exact j.inj i mi k (sub k m) (fun z => ni (by rw [z]; exact m)) p q e
  · by_cases mo : i ∈ own
    · obtain ⟨v, h1, h2⟩ := j.own i d e mo
      refine ⟨v, h1, ?_⟩
      split at h2
      · rename_i p q
        refine h2.seen s1 fun o e => ?_
        show (if _ then _ else _) = _
        rw [if_pos ⟨i, mo, m, q⟩]
        exact e
      · exact h2.2.mono s1
    · obtain ⟨v, h1, h2⟩ := j.non i d e mo
      exact ⟨v, h1, h2.mono s1⟩
  · obtain ⟨v, h1, h2⟩ := j.own i d e (sub i m)
    refine ⟨v, h1, ?_⟩
    split at h2
    · exact h2.mono s1 (Same.refl _)
    · exact ⟨h2.1, h2.2.mono s1⟩
/-- a slot is stored, its value seen -/
theorem SJ.put {i : Nat} {d : D} {v : V} (j : SJ M B F0 H0 O F own env σ H) (r : RV M F d v) (hi : i ∉ own) : SJ M B F0 H0 O F own (env.set i (some d)) (σ.set i (some v)) H where
  b := j.b
  x := j.x
  ad := j.ad
  inj := j.inj
  len := by simpa using j.len
  non := fun k d' e m => by
    rcases gt_set e with ⟨rfl, rfl, l⟩ | ⟨n, e⟩
    · exact ⟨v, List.getElem?_set_self (Nat.lt_of_lt_of_le l j.len), r⟩
    · obtain ⟨u, a, b⟩ := j.non k d' e m
      exact ⟨u, by rw [List.getElem?_set_ne (Ne.symm n)]; exact a, b⟩
  own := fun k d' e m => by
    rcases gt_set e with ⟨rfl, rfl, l⟩ | ⟨n, e⟩
    · exact absurd m hi
    · obtain ⟨u, a, b⟩ := j.own k d' e m
      exact ⟨u, by rw [List.getElem?_set_ne (Ne.symm n)]; exact a, b⟩
/-- a slot forgotten -/
theorem gt_setN {env : Env} {i k : Nat} {d : D} (h : gt (env.set i none) k = some d) : k ≠ i ∧ gt env k = some d := by
  unfold gt at h ⊢
  by_cases e : k = i
  · subst e
    by_cases l : k < env.length
    · rw [List.getElem?_set_self l] at h; cases h
    · rw [List.getElem?_eq_none (by simpa using l)] at h; cases h
  · rw [List.getElem?_set_ne (Ne.symm e)] at h
    exact ⟨e, h⟩
/-- what an own slot's value is -/
def OwnV (M : Sm) (F H : Hp) (o : Option Addr) (d : D) (v : V) : Prop := match o with
  | some p => RO M F H p d v
  | none => ownb d = false ∧ RV M F d v
/-- a slot is stored, its value its own -/
theorem SJ.putO {i : Nat} {d : D} {v : V} {o : Option Addr} (j : SJ M B F0 H0 O F own env σ H) (hi : i ∉ own) (r : OwnV M F H o d v) (hp : ∀ p, o = some p → F p = none ∧ H0 p = none ∧ H p ≠ none ∧ ∀ k ∈ own, O k ≠ some p) :
    SJ M B F0 H0 (fun k => if k = i then o else O k) F (i :: own) (env.set i (some d)) (σ.set i (some v)) H where
  b := j.b
  x := j.x
  ad := fun k m p e => by
    by_cases q : k = i
    · rw [if_pos q] at e
      obtain ⟨a, b, c, _⟩ := hp p e
      exact ⟨a, b, c⟩
    · rw [if_neg q] at e
      exact j.ad k ((List.mem_cons.mp m).resolve_left q) p e
  inj := fun a ma b mb ne p e1 e2 => by
    by_cases qa : a = i
    · have qb : b ≠ i := fun z => ne (qa.trans z.symm)
      rw [if_pos qa] at e1
      rw [if_neg qb] at e2
      exact (hp p e1).2.2.2 b ((List.mem_cons.mp mb).resolve_left qb) e2
    · rw [if_neg qa] at e1
      by_cases qb : b = i
      · rw [if_pos qb] at e2
        exact (hp p e2).2.2.2 a ((List.mem_cons.mp ma).resolve_left qa) e1
      · rw [if_neg qb] at e2
        exact j.inj a ((List.mem_cons.mp ma).resolve_left qa) b ((List.mem_cons.mp mb).resolve_left qb) ne p e1 e2
  len := by simpa using j.len
  non := fun k d' e m => by
    rw [List.mem_cons, not_or] at m
    rcases gt_set e with ⟨rfl, _, _⟩ | ⟨n, e⟩
    · exact absurd rfl m.1
    · obtain ⟨u, a, b⟩ := j.non k d' e m.2
      exact ⟨u, by rw [List.getElem?_set_ne (Ne.symm n)]; exact a, b⟩
  own := fun k d' e m => by
    rcases gt_set e with ⟨rfl, rfl, l⟩ | ⟨n, e⟩
    · refine ⟨v, List.getElem?_set_self (Nat.lt_of_lt_of_le l j.len), ?_⟩
      rw [if_pos rfl]
      exact r
    · obtain ⟨u, a, b⟩ := j.own k d' e ((List.mem_cons.mp m).resolve_left n)
      refine ⟨u, by rw [List.getElem?_set_ne (Ne.symm n)]; exact a, ?_⟩
      rw [if_neg n]
      exact b
/-- a new thing, as an own slot's value -/
theorem OwnV.of_top {F1 H1 : Hp} {d : D} {v : V} (j : SJ M B F0 H0 O F own env σ H) (x : Ext F H F1 H1) (r : Rtop M true H F1 H1 d v) : ∃ o, OwnV M F1 H1 o d v ∧ ∀ p, o = some p → H p = none ∧ F1 p = none ∧ H0 p = none ∧ H1 p ≠ none ∧ ∀ k ∈ own, O k ≠ some p := by
  cases ob : ownb d with
  | false =>
    refine ⟨none, ⟨ob, ?_⟩, fun p e => by cases e⟩
    rcases r with ⟨p, _, _, r⟩ | ⟨_, _, r⟩
    · exact ro_ownb ob r
    · exact r
  | true =>
    rcases r with ⟨p, h1, h2, r⟩ | ⟨_, n, _⟩
    · refine ⟨some p, r, fun q e => ?_⟩
      cases e
      exact ⟨h1, h2, j.x.h.free h1, ro_there ob r, fun k m z => (j.ad k m p z).2.2 h1⟩
    · rw [n] at ob
      cases ob
theorem ro_other {p q : Addr} {o : HO} {d : D} {v : V} (n : q ≠ p) (r : RO M F H q d v) : RO M F (upd H p o) q d v := by
  unfold RO at r
  split at r
  · obtain ⟨e, vs, h, t⟩ := r
    exact ⟨e, vs, by rw [upd_ne n]; exact h, t⟩
  · obtain ⟨a, dx, f, e, h1, h2, vs, h, t⟩ := r
    exact ⟨a, dx, f, e, h1, h2, vs, by rw [upd_ne n]; exact h, t⟩
  · rename_i h1 h2
    exact RO.of r (fun ds e => h1 ds e) (fun c ds e => h2 c ds e)
/-- an own list is changed where it stands -/
theorem SJ.chg {i : Nat} {d : D} {v : V} {p : Addr} {o : HO} (j : SJ M B F0 H0 O F own env σ H) (hi : i ∈ own) (hp : O i = some p) (hv : σ[i]? = some (some v)) (r : RO M F (upd H p o) p d v) : SJ M B F0 H0 O F own (env.set i (some d)) σ (upd H p o) where
  b := j.b
  x := ⟨j.x.f, fun b z e => by
      rw [upd_ne (fun w => by rw [w, (j.ad i hi p hp).2.1] at e; cases e)]
      exact j.x.h _ _ e, fun b z e => by
      rw [upd_ne (fun w => by rw [w, (j.ad i hi p hp).1] at e; cases e)]
      exact j.x.s _ _ e, j.x.n⟩
  ad := fun k m q e => by
    obtain ⟨a, b, c⟩ := j.ad k m q e
    refine ⟨a, b, ?_⟩
    by_cases z : q = p
    · rw [z, upd_same]; exact fun z => by cases z
    · rw [upd_ne z]; exact c
  inj := j.inj
  len := by simpa using j.len
  non := fun k d' e m => by
    rcases gt_set e with ⟨rfl, _, _⟩ | ⟨n, e⟩
    · exact absurd hi m
    · exact j.non k d' e m
  own := fun k d' e m => by
    rcases gt_set e with ⟨rfl, rfl, l⟩ | ⟨n, e⟩
    · refine ⟨v, hv, ?_⟩
      rw [hp]
      exact r
    · obtain ⟨u, a, b⟩ := j.own k d' e m
      refine ⟨u, a, ?_⟩
      split at b
      · rename_i q hq
        exact ro_other (fun z => j.inj k m i hi n q hq (by rw [z]; exact hp)) b
      · exact b

/-! ### the judgement -/
def ctn (l : List Nat) (i : Nat) : Bool := l.contains i
/-- own1 is part of own -/
def subL (own1 own : List Nat) : Bool := own1.all fun i => own.contains i
/-- nothing of l is in own -/
def disL (l own : List Nat) : Bool := l.all fun i => !own.contains i
theorem sub_of {a b : List Nat} (h : subL a b = true) : ∀ i ∈ a, i ∈ b := fun i m => by
  unfold subL at h
  rw [List.all_eq_true] at h
  have := h i m
  simpa using this
theorem dis_of {a b : List Nat} (h : disL a b = true) : ∀ i ∈ a, i ∉ b := fun i m => by
  unfold disL at h
  rw [List.all_eq_true] at h
  have := h i m
  simpa using this
end

def Fin (M : Sm) (fr : Bool) (B F0 H0 : Hp) (own' : List Nat) (Dn : Ends) : Fl → Prop
  | .nx env' => ∀ O' F' σ' H', SJ M B F0 H0 O' F' own' env' σ' H' → Dn.nx σ' H'
  | .rt d => ∀ v F' H', Ext F0 H0 F' H' → Rtop M fr H0 F' H' d v → Dn.rt v H'
def tS (M : Sm) (W : Wd) (fr : Bool) (own own' : List Nat) (s : S) : TS := fun Dn σ H => ∃ B F0 H0 O F env fl, SJ M B F0 H0 O F own env σ H ∧ Nt.ex W.T (run W.T W.n) s env = some fl ∧ Fin M fr B F0 H0 own' Dn fl
def tSs (M : Sm) (W : Wd) (fr : Bool) (own own' : List Nat) (s : Ss) : TS := fun Dn σ H => ∃ B F0 H0 O F env fl, SJ M B F0 H0 O F own env σ H ∧ Nt.exs W.T (run W.T W.n) s env = some fl ∧ Fin M fr B F0 H0 own' Dn fl
abbrev DS (W : Wd) (X : Cx) (fr : Bool) (own own' : List Nat) (st : Stmt) (s : S) : Prop := PS X st (tS (sm X W) W fr own own' s)
abbrev DSs (W : Wd) (X : Cx) (fr : Bool) (own own' : List Nat) (st : List Stmt) (s : Ss) : Prop := PSs X st (tSs (sm X W) W fr own own' s)

section
variable {W : Wd} {X : Cx} {fr : Bool} {own own1 own2 : List Nat} {st : Stmt} {rest : List Stmt} {s : S} {ss : Ss} {e : Expr} {p : E} {pos : Pos}
theorem ds_nil : DSs W X fr own own [] .nil := PSs.imp pss_nil fun Dn σ H ⟨B, F0, H0, O, F, env, fl, j, ev, k⟩ => by
  obtain rfl : Fl.nx env = fl := Option.some.inj ev
  exact k O F σ H j
theorem ds_cons (h1 : DS W X fr own own1 st s) (h2 : DSs W X fr own1 own2 rest ss) : DSs W X fr own own2 (st :: rest) (.cons s ss) := PSs.imp (pss_cons h1 h2) fun Dn σ H ⟨B, F0, H0, O, F, env, fl, j, ev, k⟩ => by
  unfold exs at ev
  split at ev
  · rename_i env2 e1
    exact ⟨B, F0, H0, O, F, env, _, j, e1, fun O' F' σ' H' j' => ⟨B, F0, H0, O', F', env2, fl, j', ev, k⟩⟩
  · rename_i r hr
    cases fl with
    | nx env' => exact absurd ev (by intro z; exact hr env' z)
    | rt d => exact ⟨B, F0, H0, O, F, env, .rt d, j, ev, k⟩
/-- fewer own slots behind -/
theorem Fin.sub {M : Sm} {B F0 H0 : Hp} {Dn : Ends} {fl : Fl} (h : subL own2 own1 = true) (k : Fin M fr B F0 H0 own2 Dn fl) : Fin M fr B F0 H0 own1 Dn fl := by
  cases fl with
  | nx env' =>
    intro O' F' σ' H' j
    obtain ⟨F1, _, j1⟩ := j.free (sub_of h)
    exact k O' F1 σ' H' j1
  | rt d => exact k
theorem ds_sub (h : DSs W X fr own own1 rest ss) (hs : subL own2 own1 = true := by decide) : DSs W X fr own own2 rest ss := PSs.imp h fun Dn σ H ⟨B, F0, H0, O, F, env, fl, j, ev, k⟩ => ⟨B, F0, H0, O, F, env, fl, j, ev, k.sub hs⟩
theorem ds_fail : DS W X fr own own st .fail := PS.imp ps_never fun Dn σ H ⟨B, F0, H0, O, F, env, fl, j, ev, k⟩ => by cases ev
theorem ds_failTo : DS W X fr own own1 st .fail := PS.imp ps_never fun Dn σ H ⟨B, F0, H0, O, F, env, fl, j, ev, k⟩ => by cases ev

theorem ex_asg {T : Tb} {cl : Nat → List D → Option D} {i : Nat} {p : E} {env : Env} {fl : Fl} (h : ex T cl (.asg i p) env = some fl) : ∃ d, ev T cl p env = some d ∧ fl = .nx (env.set i (some d)) := by
  unfold ex at h
  split at h
  · rename_i d e
    exact ⟨d, e, (Option.some.inj h).symm⟩
  · cases h
/-- x = e, the value seen from then on -/
theorem ds_asg {i : Nat} (h : PS X st (tAsg (tD (sm X W) W p) (gName i))) (c1 : subL own1 own = true := by decide) (c2 : disL (i :: al p) own1 = true := by decide) : DS W X fr own own1 st (.asg i p) := PS.imp h fun Dn σ H ⟨B, F0, H0, O, F, env, fl, j, ev, k⟩ => by
  obtain ⟨d, e1, rfl⟩ := ex_asg ev
  obtain ⟨F1, s1, j1⟩ := j.free (sub_of c1)
  have dis := dis_of c2
  refine ⟨F1, env, d, j1.x.s, j1.envS, j1.envF fun i m => dis i (List.mem_cons_of_mem _ m), e1, fun v F2 H2 x r => ?_⟩
  obtain ⟨F3, x3, _, r3⟩ := r.plain x
  exact k O F3 _ H2 ((j1.grow x3).put r3 (dis i (List.mem_cons_self ..)))
/-- x = e, the value new and x's own -/
theorem ds_asgO {i : Nat} (h : PS X st (tAsg (tD (sm X W) W p) (gName i))) (ht : top W.T p = true := by rfl) (c1 : subL own1 own = true := by decide) (c2 : disL (i :: al p) own1 = true := by decide) : DS W X fr own (i :: own1) st (.asg i p) := PS.imp h fun Dn σ H ⟨B, F0, H0, O, F, env, fl, j, ev, k⟩ => by
  obtain ⟨d, e1, rfl⟩ := ex_asg ev
  obtain ⟨F1, s1, j1⟩ := j.free (sub_of c1)
  have dis := dis_of c2
  refine ⟨F1, env, d, j1.x.s, j1.envS, j1.envF fun i m => dis i (List.mem_cons_of_mem _ m), e1, fun v F2 H2 x r => ?_⟩
  rw [ht] at r
  obtain ⟨o, ov, oh⟩ := OwnV.of_top j1 x r
  exact k _ F2 _ H2 ((j1.grow x).putO (dis i (List.mem_cons_self ..)) ov fun p hp => (oh p hp).2)
/-- y = x, an own list handed on; x is forgotten -/
theorem ds_mov {jj i : Nat} (h : PS X st (tAsg (tVar i) (gName jj))) (c1 : ctn own i = true := by decide) (c2 : subL own1 own = true := by decide) (c3 : disL [i, jj] own1 = true := by decide) (c4 : subL own (i :: own1) = true := by decide) : DS W X fr own (jj :: own1) st (.mov jj i) := PS.imp h fun Dn σ H ⟨B, F0, H0, O, F, env, fl, j, ev, k⟩ => by
  replace ev : ex W.T (run W.T W.n) (.mov jj i) env = some fl := ev
  unfold ex at ev
  split at ev
  · rename_i d e1
    cases ev
    have mi : i ∈ own := by unfold ctn at c1; simpa using c1
    have dis := dis_of c3
    obtain ⟨v, hv, ro⟩ := j.own i d e1 mi
    refine ⟨v, hv, k (fun k => if k = jj then O i else O k) F _ H ?_⟩
    have sub := sub_of c2
    have j0 : SJ (sm X W) B F0 H0 O F own1 (env.set i none) σ H := by
      refine ⟨j.b, j.x, fun k m => j.ad k (sub k m), fun a ma b mb => j.inj a (sub a ma) b (sub b mb), by simpa using j.len, fun k d' e m => ?_, fun k d' e m => ?_⟩
      · obtain ⟨n, e⟩ := gt_setN e
        by_cases mo : k ∈ own
        · rcases List.mem_cons.mp (sub_of c4 k mo) with z | z
          · exact absurd z n
          · exact absurd z m
        · exact j.non k d' e mo
      · obtain ⟨n, e⟩ := gt_setN e
        exact j.own k d' e (sub k m)
    exact j0.putO (dis jj (by simp)) ro fun p hp => by
      obtain ⟨a, b, c⟩ := j.ad i mi p hp
      exact ⟨a, b, c, fun k m z => j.inj k (sub k m) i mi (fun w => dis i (by simp) (by rw [← w]; exact m)) p z hp⟩
  · cases ev
end
end Nt

set_option Elab.async false
set_option linter.all false
set_option maxRecDepth 100000
set_option maxHeartbeats 4000000
/-! More statements; a def by its body. -/
namespace Nt
open PySem PySem.Spec PyProof.Rows L2

section
variable {W : Wd} {X : Cx} {fr : Bool} {own own1 own2 : List Nat} {st : Stmt} {rest : List Stmt} {s : S} {ss : Ss} {e a b c : Expr} {p q r : E} {pos : Pos}
/-! ### assignments of two -/
theorem ex_par {T : Tb} {cl : Nat → List D → Option D} {i j : Nat} {p q : E} {env : Env} {fl : Fl} (h : ex T cl (.par i j p q) env = some fl) : ∃ x y, ev T cl p env = some x ∧ ev T cl q env = some y ∧ fl = .nx ((env.set i (some x)).set j (some y)) := by
  unfold ex at h
  split at h
  · rename_i x e1
    split at h
    · rename_i y e2
      exact ⟨x, y, e1, e2, (Option.some.inj h).symm⟩
    · cases h
  · cases h
/-- t1, t2: which of the two values become own -/
def parOwn (i j : Nat) (t1 t2 : Bool) (own1 : List Nat) : List Nat := (if t2 then [j] else []) ++ ((if t1 then [i] else []) ++ own1)
theorem OwnV.grow {M : Sm} {F H F1 H1 : Hp} {o : Option Addr} {d : D} {v : V} (x : Ext F H F1 H1) (r : OwnV M F H o d v) : OwnV M F1 H1 o d v := by
  cases o with
  | some p => exact RO.mono x.f x.h r
  | none => exact ⟨r.1, r.2.mono x.f⟩
theorem ds_par {i j : Nat} (t1 t2 : Bool) (h : PS X st (tPar i j (tCons (tD (sm X W) W p) (tCons (tD (sm X W) W q) tNil)))) (h1 : (!t1 || top W.T p) = true := by rfl) (h2 : (!t2 || top W.T q) = true := by rfl) (hij : (i == j) = false := by decide)
    (c1 : subL own1 own = true := by decide) (c2 : disL (i :: j :: (al p ++ al q)) own1 = true := by decide) : DS W X fr own (parOwn i j t1 t2 own1) st (.par i j p q) := PS.imp h fun Dn σ H ⟨B, F0, H0, O, F, env, fl, js, ev, k⟩ => by
  obtain ⟨d1, d2, e1, e2, rfl⟩ := ex_par ev
  obtain ⟨F1, s1, j1⟩ := js.free (sub_of c1)
  have dis := dis_of c2
  have hi : i ∉ own1 := dis i (by simp)
  have hj : j ∉ own1 := dis j (by simp)
  have nij : i ≠ j := by simpa using hij
  refine ⟨F1, env, d1, j1.x.s, j1.envS, j1.envF fun i m => dis i (by simp [m]), e1, fun v F2 H2 x2 r2 => ?_⟩
  -- the first value: own or seen
  have first : ∃ F3, Ext F1 H F3 H2 ∧ ((t1 = true ∧ ∃ o, OwnV (sm X W) F3 H2 o d1 v ∧ ∀ p, o = some p → H p = none ∧ F3 p = none ∧ H0 p = none ∧ H2 p ≠ none ∧ ∀ k ∈ own1, O k ≠ some p) ∨ (t1 = false ∧ RV (sm X W) F3 d1 v)) := by
    cases t1 with
    | true =>
      have tp : top W.T p = true := by simpa using h1
      rw [tp] at r2
      obtain ⟨o, ov, oh⟩ := OwnV.of_top j1 x2 r2
      exact ⟨F2, x2, .inl ⟨rfl, o, ov, oh⟩⟩
    | false =>
      obtain ⟨F3, x3, _, r3⟩ := r2.plain x2
      exact ⟨F3, x3, .inr ⟨rfl, r3⟩⟩
  obtain ⟨F3, x3, first⟩ := first
  have j3 := j1.grow x3
  refine ⟨F3, env, d2, j3.x.s, j3.envS, j3.envF fun i m => dis i (by simp [m]), e2, fun w F4 H4 x4 r4 => ⟨v, w, rfl, ?_⟩⟩
  have second : ∃ F5, Ext F3 H2 F5 H4 ∧ ((t2 = true ∧ ∃ o, OwnV (sm X W) F5 H4 o d2 w ∧ ∀ p, o = some p → H2 p = none ∧ F5 p = none ∧ H0 p = none ∧ H4 p ≠ none ∧ ∀ k ∈ own1, O k ≠ some p) ∨ (t2 = false ∧ RV (sm X W) F5 d2 w)) := by
    cases t2 with
    | true =>
      have tp : top W.T q = true := by simpa using h2
      rw [tp] at r4
      obtain ⟨o, ov, oh⟩ := OwnV.of_top j3 x4 r4
      exact ⟨F4, x4, .inl ⟨rfl, o, ov, oh⟩⟩
    | false =>
      obtain ⟨F5, x5, _, r5⟩ := r4.plain x4
      exact ⟨F5, x5, .inr ⟨rfl, r5⟩⟩
  obtain ⟨F5, x5, second⟩ := second
  have j5 := j3.grow x5
  -- store the first
  have A : ∃ O', SJ (sm X W) B F0 H0 O' F5 ((if t1 then [i] else []) ++ own1) (env.set i (some d1)) (σ.set i (some v)) H4 ∧ ∀ k ∈ ((if t1 then [i] else []) ++ own1), ∀ p, O' k = some p → H2 p ≠ none := by
    rcases first with ⟨rfl, o, ov, oh⟩ | ⟨rfl, rv⟩
    · refine ⟨_, j5.putO hi (ov.grow x5) fun p hp => ?_, fun k m p e => ?_⟩
      · obtain ⟨a, b, c, d, f⟩ := oh p hp
        refine ⟨?_, c, fun z => d (x5.h.free z), f⟩
        cases z : F5 p with
        | none => rfl
        | some u =>
          rcases x5.n p u z with y | y
          · rw [b] at y; cases y
          · exact absurd y d
      · by_cases z : k = i
        · rw [if_pos z] at e
          exact (oh p e).2.2.2.1
        · rw [if_neg z] at e
          exact (j3.ad k ((List.mem_cons.mp m).resolve_left z) p e).2.2
    · exact ⟨O, (j5.put (rv.mono x5.f) hi), fun k m p e => (j3.ad k m p e).2.2⟩
  obtain ⟨O', jA, hO'⟩ := A
  have hj' : j ∉ ((if t1 then [i] else []) ++ own1) := fun m => by
    rcases List.mem_append.mp m with z | z
    · cases t1 with
      | true => exact nij (by simpa using z : j = i).symm
      | false => cases z
    · exact hj z
  rcases second with ⟨rfl, o, ov, oh⟩ | ⟨rfl, rv⟩
  · exact k _ F5 _ H4 (jA.putO hj' ov fun p hp => by
      obtain ⟨a, b, c, d, _⟩ := oh p hp
      exact ⟨b, c, d, fun k m e => hO' k m p e a⟩)
  · exact k O' F5 _ H4 (jA.put rv hj')
/-- several names = a tuple -/
theorem ex_unp {T : Tb} {cl : Nat → List D → Option D} {is : List Nat} {p : E} {env : Env} {fl : Fl} (h : ex T cl (.unp is p) env = some fl) : ∃ ds env', ev T cl p env = some (.tup ds) ∧ setsD env is ds = some env' ∧ fl = .nx env' := by
  unfold ex at h
  split at h
  · rename_i ds e
    obtain ⟨env', e2, rfl⟩ := Option.map_eq_some_iff.mp h
    exact ⟨ds, env', e, e2, rfl⟩
  · cases h
theorem SJ.puts {M : Sm} {B F0 H0 F H : Hp} {O : Nat → Option Addr} {own : List Nat} : ∀ {is : List Nat} {ds : List D} {xs : List V} {env env' : Env} {σ : L2.St}, SJ M B F0 H0 O F own env σ H → (∀ i ∈ is, i ∉ own) → RVs M F ds xs → setsD env is ds = some env' → SJ M B F0 H0 O F own env' (setsV σ is xs) H ∧ xs.length = is.length
  | [], [], _, env, env', σ, j, _, r, e => by
    rw [show _ = [] from r]
    have e : env = env' := Option.some.inj e
    rw [← e]
    exact ⟨j, rfl⟩
  | [], _ :: _, _, _, _, _, _, _, _, e => by cases e
  | _ :: _, [], _, _, _, _, _, _, _, e => by cases e
  | i :: is, d :: ds, _, env, env', σ, j, hi, ⟨v, r, e1, h1, h2⟩, e => by
    rw [e1]
    obtain ⟨x, y⟩ := SJ.puts (is := is) (j.put h1 (hi i (List.mem_cons_self ..))) (fun k m => hi k (List.mem_cons_of_mem _ m)) h2 e
    exact ⟨x, by rw [List.length_cons, List.length_cons, y]⟩
theorem SJ.bind {M : Sm} {B F0 H0 F H : Hp} {O : Nat → Option Addr} {own : List Nat} {t : Tg} {d : D} {v : V} {env env1 : Env} {σ : L2.St} {Q : L2.St → Hp → Prop} (j : SJ M B F0 H0 O F own env σ H) (hi : ∀ i ∈ tgs t, i ∉ own) (r : RV M F d v) (e : bindD t d env = some env1)
    (q : ∀ σ2, SJ M B F0 H0 O F own env1 σ2 H → Q σ2 H) : gT M.K t v σ H Q := by
  cases t with
  | one i =>
    have e : env.set i (some d) = env1 := Option.some.inj e
    subst e
    exact q _ (j.put r (hi i (List.mem_cons_self ..)))
  | many is =>
    cases d with
    | tup ds =>
      obtain ⟨a, xs, ea, ha, hx⟩ := r
      have e : setsD env is ds = some env1 := e
      obtain ⟨z1, z2⟩ := SJ.puts j hi hx e
      exact ⟨a, xs, ea, Same.sqt j.x.s ha, z2, q _ z1⟩
    | _ => cases e
theorem ds_unp {is : List Nat} (h : PS X st (tAsg (tD (sm X W) W p) (gT X.K (.many is)))) (c1 : subL own1 own = true := by decide) (c2 : disL (is ++ al p) own1 = true := by decide) : DS W X fr own own1 st (.unp is p) := PS.imp h fun Dn σ H ⟨B, F0, H0, O, F, env, fl, j, ev, k⟩ => by
  obtain ⟨ds, env', e1, e2, rfl⟩ := ex_unp ev
  obtain ⟨F1, s1, j1⟩ := j.free (sub_of c1)
  have dis := dis_of c2
  refine ⟨F1, env, _, j1.x.s, j1.envS, j1.envF fun i m => dis i (List.mem_append_right _ m), e1, fun v F2 H2 x r => ?_⟩
  obtain ⟨F3, x3, _, r3⟩ := r.plain x
  exact (j1.grow x3).bind (t := .many is) (fun i m => dis i (List.mem_append_left _ m)) r3 e2 fun σ2 j2 => k O F3 σ2 H2 j2
/-! ### lists of one's own, changed -/
theorem own_list {M : Sm} {B F0 H0 F H : Hp} {O : Nat → Option Addr} {own : List Nat} {env : Env} {σ : L2.St} {i : Nat} {xs : List D} (j : SJ M B F0 H0 O F own env σ H) (m : i ∈ own) (e : gt env i = some (.lst xs)) : ∃ p vs, O i = some p ∧ σ[i]? = some (some (.ref p)) ∧ H p = some (.lst vs) ∧ RVs M F xs vs := by
  obtain ⟨v, hv, h⟩ := j.own i _ e m
  split at h
  · rename_i p hp
    obtain ⟨rfl, vs, h1, h2⟩ := h
    exact ⟨p, vs, hp, hv, h1, h2⟩
  · cases h.1
theorem ctn_of {l : List Nat} {i : Nat} (h : ctn l i = true) : i ∈ l := by unfold ctn at h; simpa using h
theorem ds_app {i : Nat} (h : PS X st (tDrop (tBM X.K "list" rAppend (tVar i) (tCons (tP (sm X W) W p) tNil)))) (c0 : ctn own1 i = true := by decide) (c1 : subL own1 own = true := by decide) (c2 : disL (al p) own1 = true := by decide) : DS W X fr own own1 st (.app i p) := PS.imp h fun Dn σ H ⟨B, F0, H0, O, F, env, fl, j, ev, k⟩ => by
  replace ev : ex W.T (run W.T W.n) (.app i p) env = some fl := ev
  unfold ex at ev
  split at ev
  · rename_i xs e1
    split at ev
    · rename_i d e2
      obtain ⟨c, rfl⟩ := ite_some ev
      obtain ⟨F1, s1, j1⟩ := j.free (sub_of c1)
      have m := ctn_of c0
      obtain ⟨pp, vs, hO, hv, hp, hr⟩ := own_list j1 m e1
      refine ⟨_, hv, .inl ⟨rfl, _, SqL.of hp⟩, F1, env, d, j1.x.s, j1.envS, j1.envF (dis_of c2), e2, fun v F2 H2 x r => ?_⟩
      have j2 := j1.grow x
      have hr2 := hr.mono x.f
      refine ⟨pp, vs, v, rfl, rfl, x.h _ _ hp, by rw [hr.len]; exact lim_lt c, ?_⟩
      exact k O F2 σ _ (j2.chg m hO hv ⟨rfl, _, upd_same, hr2.append (RVs.cons r RVs.nil)⟩)
    · cases ev
  · cases ev
theorem ds_ext {i : Nat} (h : PS X st (tDrop (tBM X.K "list" rExtend (tVar i) (tCons (tI (sm X W) W p) tNil)))) (c0 : ctn own1 i = true := by decide) (c1 : subL own1 own = true := by decide) (c2 : disL (itm p (al p)) own1 = true := by decide) : DS W X fr own own1 st (.ext i p) := PS.imp h fun Dn σ H ⟨B, F0, H0, O, F, env, fl, j, ev, k⟩ => by
  replace ev : ex W.T (run W.T W.n) (.ext i p) env = some fl := ev
  unfold ex at ev
  split at ev
  · rename_i xs e1
    split at ev
    · rename_i ys e2
      obtain ⟨c, rfl⟩ := ite_some ev
      obtain ⟨F1, s1, j1⟩ := j.free (sub_of c1)
      have m := ctn_of c0
      obtain ⟨pp, vs, hO, hv, hp, hr⟩ := own_list j1 m e1
      refine ⟨_, hv, .inl ⟨rfl, _, SqL.of hp⟩, F1, env, _, j1.x.s, j1.envS, j1.envF (dis_of c2), e2, fun v F2 H2 x r => ?_⟩
      have j2 := j1.grow x
      have hr2 := hr.mono x.f
      obtain ⟨b1, us, eb, hb, hu⟩ := r
      refine ⟨pp, b1, vs, us, rfl, by rw [eb], x.h _ _ hp, hb, by rw [hr.len, hu.len]; exact lim_line c, ?_⟩
      exact k O F2 σ _ (j2.chg m hO hv ⟨rfl, _, upd_same, hr2.append hu⟩)
    · cases ev
  · cases ev
theorem ds_seti {i : Nat} (h : PS X st (tAsg (tP (sm X W) W p) (gSub (tVar i) (tB (sm X W) W q) rSetL))) (c0 : ctn own1 i = true := by decide) (c1 : subL own1 own = true := by decide) (c2 : disL (al p) own1 = true := by decide) : DS W X fr own own1 st (.seti i q p) := PS.imp h fun Dn σ H ⟨B, F0, H0, O, F, env, fl, j, ev, k⟩ => by
  replace ev : ex W.T (run W.T W.n) (.seti i q p) env = some fl := ev
  unfold ex at ev
  split at ev
  · rename_i d e2
    split at ev
    · rename_i xs e1
      split at ev
      · rename_i z e3
        split at ev
        · rename_i jj e4
          cases ev
          obtain ⟨F1, s1, j1⟩ := j.free (sub_of c1)
          have m := ctn_of c0
          obtain ⟨pp, vs, hO, hv, hp, hr⟩ := own_list j1 m e1
          refine ⟨F1, env, d, j1.x.s, j1.envS, j1.envF (dis_of c2), e2, fun v F2 H2 x r => ⟨_, hv, F2, env, _, x.s, (j1.grow x).envS, e3, fun w H3 t r3 => ?_⟩⟩
          have x3 := x.trans (Ext.grow x.s t)
          have j3 := j1.grow x3
          refine ⟨pp, vs, z, jj, rfl, r3, x3.h _ _ hp, by rw [hr.len]; exact e4, ?_⟩
          exact k O F2 σ _ (j3.chg m hO hv ⟨rfl, _, upd_same, (hr.mono x.f).set jj r⟩)
        · cases ev
      · cases ev
    · cases ev
  · cases ev
theorem ixN_small {n : Nat} {z : Int} {j : Nat} (h : ixN n z = some j) (hn : n ≤ sizeLine) : -(2 ^ 63) ≤ z ∧ z < 2 ^ 63 ∧ seqIndex? z n = some j ∧ j < n := by
  obtain ⟨a, b, c, d⟩ := ixN_seq h
  have : sizeLine = 16777216 := sizeLine_eq
  exact ⟨by omega, by omega, a, b⟩
theorem ds_popd {i : Nat} (h : PS X st (tDrop (tBM X.K "list" rPopAt (tVar i) (tCons (tB (sm X W) W q) tNil)))) (c0 : ctn own i = true := by decide) : DS W X fr own own st (.popd i q) := PS.imp h fun Dn σ H ⟨B, F0, H0, O, F, env, fl, j, ev, k⟩ => by
  replace ev : ex W.T (run W.T W.n) (.popd i q) env = some fl := ev
  unfold ex at ev
  split at ev
  · rename_i xs e1
    split at ev
    · rename_i z e2
      split at ev
      · rename_i jj e3
        obtain ⟨cl, rfl⟩ := ite_some ev
        have m := ctn_of c0
        obtain ⟨pp, vs, hO, hv, hp, hr⟩ := own_list j m e1
        refine ⟨_, hv, .inl ⟨rfl, _, SqL.of hp⟩, F, env, _, j.x.s, j.envS, e2, fun v H2 t r => ?_⟩
        have j2 := j.grow (Ext.grow j.x.s t)
        obtain ⟨s1, s2, s3, s4⟩ := ixN_small e3 (lim_line cl)
        obtain ⟨y, hy⟩ : ∃ y, vs[jj]? = some y := ⟨vs[jj]'(by rw [hr.len]; exact s4), List.getElem?_eq_getElem _⟩
        refine ⟨pp, vs, z, jj, y, rfl, by rw [show v = .int z from r], t _ _ hp, s1, s2, by rw [hr.len]; exact s3, hy, ?_⟩
        exact k O F σ _ (j2.chg m hO hv ⟨rfl, _, upd_same, hr.erase jj⟩)
      · cases ev
    · cases ev
  · cases ev
/-! ### if, return, an expression alone -/
theorem ex_ifs {T : Tb} {cl : Nat → List D → Option D} {c : E} {a b : Ss} {env : Env} {fl : Fl} (h : ex T cl (.ifs c a b) env = some fl) : (ev T cl c env = some (.bl true) ∧ exs T cl a env = some fl) ∨ (ev T cl c env = some (.bl false) ∧ exs T cl b env = some fl) := by
  unfold ex at h
  split at h
  · rename_i e; exact .inl ⟨e, h⟩
  · rename_i e; exact .inr ⟨e, h⟩
  · cases h
theorem ds_if {aa bb : List Stmt} {sa sb : Ss} (hc : DT W X c r) (ha : DSs W X fr own own1 aa sa) (hb : DSs W X fr own own1 bb sb) : DS W X fr own own1 (.If c aa bb pos) (.ifs r sa sb) := PS.imp (ps_if hc ha hb) fun Dn σ H ⟨B, F0, H0, O, F, env, fl, j, ev, k⟩ => by
  rcases ex_ifs ev with ⟨e1, e2⟩ | ⟨e1, e2⟩
  · exact ⟨F, env, true, j.x.s, j.envS, e1, fun H' t => iteT ⟨B, F0, H0, O, F, env, fl, j.grow (Ext.grow j.x.s t), e2, k⟩⟩
  · exact ⟨F, env, false, j.x.s, j.envS, e1, fun H' t => iteF ⟨B, F0, H0, O, F, env, fl, j.grow (Ext.grow j.x.s t), e2, k⟩⟩
theorem ex_ret {T : Tb} {cl : Nat → List D → Option D} {p : E} {env : Env} {fl : Fl} (h : ex T cl (.ret p) env = some fl) : ∃ d, ev T cl p env = some d ∧ fl = .rt d := by
  unfold ex at h
  split at h
  · rename_i d e; exact ⟨d, e, (Option.some.inj h).symm⟩
  · cases h
/-- return e; where the def is to hand back a new thing, e's value is new -/
theorem ds_ret (h : DE W X e p) (ht : (!fr || top W.T p) = true := by rfl) (ht2 : True := trivial) : DS W X fr own own1 (.Return (some e) pos) (.ret p) := PS.imp (ps_ret h) fun Dn σ H ⟨B, F0, H0, O, F, env, fl, j, ev, k⟩ => by
  obtain ⟨d, e1, rfl⟩ := ex_ret ev
  obtain ⟨F1, s1, j1⟩ := j.free (own' := []) (fun i m => by cases m)
  refine ⟨F1, env, d, j1.x.s, j1.envS, j1.envF (fun i m z => by cases z), e1, fun v F2 H2 x r => ?_⟩
  obtain ⟨F3, x3, r3⟩ := r.down x (t2 := fr) (fun z => by rw [z] at ht; simpa using ht)
  exact k v F3 H2 (j1.x.trans x3) (r3.before j1.x.h)
/-- return x, x's own list -/
theorem ds_retO {i : Nat} (hh : PS X st (tRet (tVar i))) (c0 : ctn own i = true := by decide) : DS W X true own own1 st (.ret (.var i)) := PS.imp hh fun Dn σ H ⟨B, F0, H0, O, F, env, fl, j, ev, k⟩ => by
  obtain ⟨d, e1, rfl⟩ := ex_ret ev
  have m := ctn_of c0
  have e1 : gt env i = some d := e1
  obtain ⟨v, hv, h⟩ := j.own i d e1 m
  refine ⟨v, hv, k v F H j.x ?_⟩
  split at h
  · rename_i p hp
    obtain ⟨a, b, c⟩ := j.ad i m p hp
    exact .inl ⟨p, b, a, h⟩
  · -- no list: the value is plain
    exact .inr ⟨rfl, h.1, h.2⟩
theorem ds_retN : DS W X fr own own1 (.Return none pos) .retn := PS.imp ps_retN fun Dn σ H ⟨B, F0, H0, O, F, env, fl, j, ev, k⟩ => by
  obtain rfl : Fl.rt .non = fl := Option.some.inj ev
  exact k .non F H j.x (scl_top rfl)
theorem ex_ex {T : Tb} {cl : Nat → List D → Option D} {p : E} {env : Env} {fl : Fl} (h : ex T cl (.ex p) env = some fl) : ∃ d, ev T cl p env = some d ∧ fl = .nx env := by
  unfold ex at h
  split at h
  · rename_i d e; exact ⟨d, e, (Option.some.inj h).symm⟩
  · cases h
theorem ds_ex (h : DE W X e p) (hs : swapsWith e none pos.line X.env = pure false := by rfl) : DS W X fr own own (.Expr e pos) (.ex p) := PS.imp (ps_expr (deB h) hs) fun Dn σ H ⟨B, F0, H0, O, F, env, fl, j, ev, k⟩ => by
  obtain ⟨d, e1, rfl⟩ := ex_ex ev
  exact ⟨F, env, d, j.x.s, j.envS, e1, fun v H' t r => k O F σ H' (j.grow (Ext.grow j.x.s t))⟩
end
end Nt

set_option Elab.async false
set_option linter.all false
set_option maxRecDepth 100000
set_option maxHeartbeats 4000000
/-! for, while; a def by its body; the law. -/
namespace Nt
open PySem PySem.Spec PyProof.Rows L2

section
variable {W : Wd} {X : Cx} {fr : Bool} {own own1 own2 : List Nat} {st : Stmt} {rest : List Stmt} {s : S} {ss : Ss} {e a b c tg iter : Expr} {p q r : E} {pos : Pos}
theorem loopD_cons {bb : D → Env → Option Env} {body : Env → Option Fl} {d : D} {ds : List D} {env : Env} {fl : Fl} (h : loopD bb body (d :: ds) env = some fl) : ∃ env1, bb d env = some env1 ∧ ((∃ env2, body env1 = some (.nx env2) ∧ loopD bb body ds env2 = some fl) ∨ ∃ z, body env1 = some (.rt z) ∧ fl = .rt z) := by
  unfold loopD at h
  split at h
  · rename_i env1 e1
    refine ⟨env1, e1, ?_⟩
    split at h
    · rename_i env2 e2
      exact .inl ⟨env2, e2, h⟩
    · rename_i hr
      cases fl with
      | nx env' => exact absurd h (hr env')
      | rt z => exact .inr ⟨z, h, rfl⟩
  · cases h
theorem ex_for {T : Tb} {cl : Nat → List D → Option D} {t : Tg} {s : Sr} {b : Ss} {env : Env} {fl : Fl} (h : ex T cl (.for t s b) env = some fl) : ∃ ds, evr T cl s env = some ds ∧ loopD (bindD t) (fun env => exs T cl b env) ds env = some fl := by
  unfold ex at h
  split at h
  · rename_i ds e; exact ⟨ds, e, h⟩
  · cases h
theorem ds_for {t : Tg} {sr : Sr} {body : List Stmt} {sb : Ss} (g : Gd W X) (hi : DR W true X tg iter sr) (hg : PG X tg (gT X.K t)) (hb : DSs W X fr own1 own1 body sb) (hs : ∀ x, foldedSetIterable iter X.env x = pure x := by intro _; rfl)
    (c1 : subL own1 own = true := by decide) (c2 : disL (tgs t ++ alz true sr) own1 = true := by decide) : DS W X fr own own1 (.For tg iter body [] pos) (.for t sr sb) := by
  have hp : PassesOwn (model X.prog X.w) X.A X.env X.xe := by rw [g.nox]; exact PassesOwn.never
  refine PS.imp (ps_for hp g.calm hi hg hb hs) fun Dn σ H ⟨B, F0, H0, O, F, env, fl, j, ev, k⟩ => ?_
  obtain ⟨ds, e1, e2⟩ := ex_for ev
  obtain ⟨F1, s1, j1⟩ := j.free (sub_of c1)
  have dis := dis_of c2
  refine ⟨F1, env, ds, j1.x.s, j1.envS, j1.envF fun i m => dis i (List.mem_append_right _ m), e1, fun J F2 H2 x Y => ?_⟩
  have j2 := j1.grow x
  refine ⟨fun i m σ H => m = ds.length - i ∧ i ≤ ds.length ∧ ∃ O F env, SJ (sm X W) F2 F0 H0 O F own1 env σ H ∧ loopD (bindD t) (fun env => exs W.T (run W.T W.n) sb env) (ds.drop i) env = some fl,
    ⟨ds.length, by simp, Nat.zero_le _, O, F2, env, ⟨Same.refl _, j2.x, j2.ad, j2.inj, j2.len, j2.non, j2.own⟩, e2⟩, ?_⟩
  rintro i m σ3 H3 ⟨rfl, hle, O3, F3, env3, j3, e3⟩
  by_cases hlt : i < ds.length
  · have gd : ds[i]? = some ds[i] := List.getElem?_eq_getElem hlt
    rw [List.drop_eq_getElem_cons hlt] at e3
    obtain ⟨env4, b4, e4⟩ := loopD_cons e3
    obtain ⟨go, yl⟩ := Y.item i _ F3 H3 j3.b (j3.b.trans j3.x.s) j3.x.s gd
    refine .inr ⟨go, fun σ' H' => ∃ O F env, SJ (sm X W) F2 F0 H0 O F own1 env σ' H' ∧ loopD (bindD t) (fun env => exs W.T (run W.T W.n) sb env) (ds.drop (i + 1)) env = some fl, fun σ' H' hN => ⟨ds.length - (i + 1), by omega, rfl, hlt, hN⟩, fun x5 H5 y => ?_⟩
    obtain ⟨F5, xx, rx⟩ := yl x5 H5 y
    have j5 := j3.grow xx
    refine j5.bind (M := sm X W) (fun i m => dis i (List.mem_append_left _ m)) rx b4 fun σ6 j6 => ?_
    rcases e4 with ⟨env7, h7, l7⟩ | ⟨z, h7, rfl⟩
    · exact ⟨F2, F0, H0, O3, F5, env4, _, j6, h7, fun O' F' σ' H' j' => ⟨O', F', env7, j', l7⟩⟩
    · exact ⟨F2, F0, H0, O3, F5, env4, _, j6, h7, k⟩
  · have e : i = ds.length := by omega
    subst e
    rw [List.drop_length] at e3
    obtain rfl : Fl.nx env3 = fl := Option.some.inj e3
    exact .inl ⟨Y.stop _ F3 H3 j3.b (j3.b.trans j3.x.s) j3.x.s (Nat.le_refl _), k O3 F3 σ3 H3 ⟨(j.b.trans (s1.trans x.f)).trans j3.b, j3.x, j3.ad, j3.inj, j3.len, j3.non, j3.own⟩⟩
theorem ds_while {body : List Stmt} {sb : Ss} (g : Gd W X) (hc : DT W X c r) (hb : DSs W X fr own1 own1 body sb) (c1 : subL own1 own = true := by decide) : DS W X fr own own1 (.While c body [] pos) (.whl r sb) := by
  have hp : PassesOwn (model X.prog X.w) X.A X.env X.xe := by rw [g.nox]; exact PassesOwn.never
  refine PS.imp (ps_while hp hc hb) fun Dn σ H ⟨B, F0, H0, O, F, env, fl, j, ev, k⟩ => ?_
  obtain ⟨F1, s1, j1⟩ := j.free (sub_of c1)
  have ev : whileD (fun env => Nt.ev W.T (run W.T W.n) r env) (fun env => exs W.T (run W.T W.n) sb env) WF env = some fl := ev
  refine ⟨fun m σ H => ∃ O F env, SJ (sm X W) B F0 H0 O F own1 env σ H ∧ whileD (fun env => Nt.ev W.T (run W.T W.n) r env) (fun env => exs W.T (run W.T W.n) sb env) m env = some fl, ⟨WF, O, F1, env, ⟨j.b.trans s1, j1.x, j1.ad, j1.inj, j1.len, j1.non, j1.own⟩, ev⟩, ?_⟩
  rintro m σ3 H3 ⟨O3, F3, env3, j3, e3⟩
  cases m with
  | zero => cases e3
  | succ m =>
    unfold whileD at e3
    split at e3
    · rename_i c1
      refine ⟨F3, env3, true, j3.x.s, j3.envS, c1, fun H4 t => iteT ?_⟩
      have j4 := j3.grow (Ext.grow j3.x.s t)
      refine ⟨fun σ' H' => ∃ O F env, SJ (sm X W) B F0 H0 O F own1 env σ' H' ∧ whileD (fun env => Nt.ev W.T (run W.T W.n) r env) (fun env => exs W.T (run W.T W.n) sb env) m env = some fl, fun σ' H' hN => ⟨m, Nat.lt_succ_self _, hN⟩, ?_⟩
      split at e3
      · rename_i env5 e5
        exact ⟨B, F0, H0, O3, F3, env3, _, j4, e5, fun O' F' σ' H' j' => ⟨O', F', env5, j', e3⟩⟩
      · rename_i hr
        cases fl with
        | nx env' => exact absurd e3 (hr env')
        | rt z => exact ⟨B, F0, H0, O3, F3, env3, _, j4, e3, k⟩
    · rename_i c1
      cases e3
      refine ⟨F3, env3, false, j3.x.s, j3.envS, c1, fun H4 t => iteF ?_⟩
      exact k O3 F3 σ3 H4 (j3.grow (Ext.grow j3.x.s t))
    · cases e3
end

/-! ### a def -/
theorem start_get {M : Sm} {F : Hp} {N : List Str} {vs : List V} {ds : List D} {m : Nat} (r : RVs M F ds vs) : ∀ i d, gt (ds.map some ++ List.replicate m none) i = some d → ∃ v, (L2.start N vs)[i]? = some (some v) ∧ RV M F d v := fun i d e => by
  unfold gt at e
  have hl := r.len
  by_cases h : i < ds.length
  · rw [List.getElem?_append_left (by simpa using h), List.getElem?_map, List.getElem?_eq_getElem h] at e
    have e : some ds[i] = some d := e
    cases e
    obtain ⟨v, h1, h2⟩ := r.get (List.getElem?_eq_getElem h)
    refine ⟨v, ?_, h2⟩
    unfold L2.start
    rw [List.getElem?_append_left (by rw [List.length_map]; omega), List.getElem?_map, h1]
    rfl
  · rw [List.getElem?_append_right (by simpa using h), List.getElem?_replicate] at e
    split at e
    · rename_i o hx
      split at hx
      · cases hx; cases e
      · cases hx
    · cases e
/-- THE RULE: def number k, by its body's derivation -/
theorem fn_okX {ca : Nat → Addr} {T : Tb} {P : Program} {w : World} {K : PySem.W.Frag} {mg : Str → Option Value} {base : Heap} {x qual : Str} {st : Stmt} {f : Addr} {fd : FuncData} {N ps : List Str} {n k : Nat} {fn : Fn} {own' : List Nat} (Fu : Fun K x qual st f fd) (S : FnScope N ps (defScope st))
    (hfn : T.fns[k]? = some fn) (hnp : fn.np = ps.length) (hns : decide (fn.ns ≤ N.length ∧ fn.np ≤ fn.ns) = true)
    (body : ∀ (cdv : Value) (A : Around) (outer : List PySem.Env) (s : Shared) (H : Hp) (E : XK), Gd ⟨ca, { T with lv := n }⟩ (cxOf CX0 P w K mg base N qual (defScope st) f cdv A outer s H E).nox →
      DSs ⟨ca, { T with lv := n }⟩ (cxOf CX0 P w K mg base N qual (defScope st) f cdv A outer s H E).nox fn.fr [] own' (defBody st) fn.body) : FnOk P w K mg base CX0 (n + 1) f fd ps (spD ⟨K, ca, T.cn⟩ T (n + 1) k) := by
  refine Fu.ok S (fun vs H Q E h => ?_) fun cdv A outer s H vs Q E hr h => ?_
  · obtain ⟨fn', F, ds, d, e1, e2, _, r, _⟩ := h
    rw [hfn] at e1
    cases e1
    rw [r.len, e2, hnp]
  · obtain ⟨fn', F, ds, d, e1, e2, sm1, r, ev, q⟩ := h
    rw [hfn] at e1
    cases e1
    have hns := of_decide_eq_true hns
    refine ⟨_, body cdv A outer s H E ⟨rfl, hr, rfl⟩, ?_⟩
    unfold run at ev
    rw [hfn] at ev
    simp only [e2, if_true] at ev
    have hlv : run { T with lv := n } n = run T n := by funext k ds; exact run_lv T n n k ds
    have J : SJ ⟨K, ca, T.cn⟩ F F H (fun _ => none) F [] (ds.map some ++ List.replicate (fn.ns - fn.np) none) (L2.start N vs) H := by
      refine ⟨Same.refl _, Ext.refl sm1, fun j m => (by cases m), fun i m => (by cases m), ?_, fun i d e _ => start_get r i d e, fun i d _ m => (by cases m)⟩
      unfold L2.start
      simp only [List.length_append, List.length_map, List.length_replicate]
      have := r.len
      omega
    cases hx : exs { T with lv := n } (run T n) fn.body (ds.map some ++ List.replicate (fn.ns - fn.np) none) with
    | none => rw [hx] at ev; cases ev
    | some fl =>
      rw [hx] at ev
      refine ⟨F, F, H, fun _ => none, F, _, fl, J, by show exs { T with lv := n } (run { T with lv := n } n) fn.body _ = _; rw [hlv]; exact hx, ?_⟩
      cases fl with
      | nx env' =>
        cases ev
        intro O' F' σ' H' j'
        exact q .non F' H' j'.x (scl_top rfl)
      | rt d' =>
        cases ev
        exact fun v F' H' xx rr => q v F' H' xx rr
theorem fnat {ca : Nat → Addr} {T : Tb} {P : Program} {w : World} {K : PySem.W.Frag} {mg : Str → Option Value} {base : Heap} {x qual : Str} {st : Stmt} {f : Addr} {fd : FuncData} {ps : List Str} {n k : Nat} (Fu : Fun K x qual st f fd) (hb : Binds K fd ps []) (h : FnOk P w K mg base CX0 n f fd ps (spD ⟨K, ca, T.cn⟩ T n k)) : FnAt ⟨ca, T⟩ P w K mg base n k f := ⟨fd, ps, Fu.kp, hb, h⟩
/-- no call allowed: nothing is promised -/
theorem fn_zero {ca : Nat → Addr} {T : Tb} {P : Program} {w : World} {K : PySem.W.Frag} {mg : Str → Option Value} {base : Heap} {f : Addr} {fd : FuncData} {ps : List Str} {k : Nat} (kp : PySem.W.keepIn K (.ref f) = true) (hb : Binds K fd ps []) : FnAt ⟨ca, T⟩ P w K mg base 0 k f := by
  have no : ∀ vs H Q E, ¬ spD ⟨K, ca, T.cn⟩ T 0 k vs H Q E := fun vs H Q E ⟨fn, F, ds, d, _, _, _, _, e, _⟩ => by cases e
  exact ⟨fd, ps, kp, hb, fun vs H Q E h => absurd h (no vs H Q E), fun A outer s H args us vs Q E _ _ _ _ h => absurd h (no vs H Q E)⟩

/-! ### the law -/
/-- the law's own promise: of the script's list -/
theorem law_sp {ca : Nat → Addr} {T : Tb} {K : PySem.W.Frag} {n k : Nat} {fn : Fn} {H : Hp} {a : Addr} {ns : List Int} {Q : VK} {E : XK} (hfn : T.fns[k]? = some fn) (hnp : fn.np = 1) (hl : SqL K H a (ns.map V.int)) (hr : run T n k [.frl ns] = some (.bl true)) (q : ∀ v H', v = .bl true → Q v H') : spD ⟨K, ca, T.cn⟩ T n k [.ref a] H Q E := by
  refine ⟨fn, H, [.frl ns], .bl true, hfn, by rw [hnp]; rfl, Same.refl _, RVs.cons ⟨a, rfl, hl⟩ RVs.nil, hr, fun v F' H' x r => q v H' ?_⟩
  obtain ⟨F2, _, _, r2⟩ := r.plain x
  exact r2
end Nt

set_option Elab.async false
set_option linter.all false
set_option maxRecDepth 100000
set_option maxHeartbeats 4000000
/-! Further rules. -/
namespace Nt
open PySem PySem.Spec PyProof.Rows L2

theorem room65 {k : Nat} {A : Around} (r : Room k A) : A.units + 65 < cLine := by have := r.un; omega
theorem gd_blk {W : Wd} {X : Cx} {s : Shared} {H : Hp} {sc : Scope} {env : PySem.Env} {fp : List Addr} (g : Gd W X) : Gd W (X.blk s H sc env fp) := ⟨g.calm, g.room, rfl⟩
theorem gbE {W : Wd} {X : Cx} {s : Shared} {H : Hp} {sc : Scope} {env : PySem.Env} {fp : List Addr} {e : Expr} {p : E} (g : Gd W X) (h : Gd W (X.blk s H sc env fp) → DE W (X.blk s H sc env fp) e p) : DE W (X.blk s H sc env fp) e p := h (gd_blk g)
theorem gbT {W : Wd} {X : Cx} {s : Shared} {H : Hp} {sc : Scope} {env : PySem.Env} {fp : List Addr} {e : Expr} {p : E} (g : Gd W X) (h : Gd W (X.blk s H sc env fp) → DT W (X.blk s H sc env fp) e p) : DT W (X.blk s H sc env fp) e p := h (gd_blk g)
theorem gbG {W : Wd} {X : Cx} {s : Shared} {H : Hp} {sc : Scope} {env : PySem.Env} {fp : List Addr} {tg : Expr} {t : TG} (g : Gd W X) (h : Gd W (X.blk s H sc env fp) → PG (X.blk s H sc env fp) tg t) : PG (X.blk s H sc env fp) tg t := h (gd_blk g)
theorem fnat_lv {ca : Nat → Addr} {T : Tb} {P : Program} {w : World} {K : PySem.W.Frag} {mg : Str → Option Value} {base : Heap} {n k a : Nat} {f : Addr} (F : FnAt ⟨ca, T⟩ P w K mg base n k f) : FnAt ⟨ca, { T with lv := a }⟩ P w K mg base n k f := by
  obtain ⟨fd, ps, kp, hb, ok⟩ := F.ex
  refine ⟨fd, ps, kp, hb, ok.imp fun vs H Q E h => ?_⟩
  obtain ⟨fn, F, ds, d, e1, e2, s, r, ev, q⟩ := h
  exact ⟨fn, F, ds, d, e1, e2, s, r, by rw [← run_lv T a n k ds]; exact ev, q⟩
/-! the scopes of a def's comprehensions -/
mutual
def scE : Expr → List Scope
  | .BoolOp _ vs _ => scEs vs
  | .BinOp a _ b _ => scE a ++ scE b
  | .UnaryOp _ a _ => scE a
  | .IfExp a b c _ => scE a ++ scE b ++ scE c
  | .ListComp e gs s _ => s :: (scG gs ++ scE e)
  | .Compare a _ bs _ => scE a ++ scEs bs
  | .Call f as _ _ => scE f ++ scEs as
  | .Attribute a _ _ => scE a
  | .Subscript a b _ => scE a ++ scE b
  | .List es _ => scEs es
  | .Tuple es _ _ => scEs es
  | .Slice a b c _ => scO a ++ scO b ++ scO c
  | _ => []
def scO : Option Expr → List Scope
  | some e => scE e
  | none => []
def scEs : List Expr → List Scope
  | [] => []
  | e :: es => scE e ++ scEs es
def scG : List Comprehension → List Scope
  | [] => []
  | ⟨_, it, ifs, _⟩ :: gs => scE it ++ scEs ifs ++ scG gs
end

section
variable {W : Wd} {X : Cx} {fr : Bool} {own own1 own2 : List Nat} {st : Stmt} {a b c e tg iter : Expr} {p q r : E} {pos : Pos}
theorem dt_ch {op op' : CmpOp} {o o' : O2} {r1 r2 : R2} (ho : OpR X (compareOp op) r1) (hr : OpS (sm X W) o r1) (ho' : OpR X (compareOp op') r2) (hr' : OpS (sm X W) o' r2) (ha : DB W X a p) (hb : DB W X b q) (hc : DB W X c r)
    (hm : lastMarks [op, op'] [b, c] = false := by with_unfolding_all rfl) : DT W X (.Compare a [op, op'] [b, c] pos) (.ch o o' p q r) :=
  PT.imp (pt_chain ho ho' ha hb hc hm) fun σ H Q ⟨F, env, d, s, hs, ev, k⟩ => by
    obtain ⟨d1, d2, e1, e2, e⟩ := ev_ch ev
    refine ⟨F, env, d1, s, hs, e1, fun v H1 t1 w1 => ⟨F, env, d2, s.trans t1, hs.mono (Same.refl _) t1, e2, fun y H2 t2 w2 => ?_⟩⟩
    rcases e with ⟨e3, w, e4, e5⟩ | ⟨e3, e5⟩
    · obtain ⟨u, su, hq⟩ := hr H2 v y d1 d2 _ (w1.mono t2) w2 e3
      obtain rfl : V.bl true = u := Option.some.inj su
      refine hq _ ⟨true, rfl, ?_⟩
      rw [if_pos rfl]
      refine ⟨F, env, w, (s.trans t1).trans t2, (hs.mono (Same.refl _) t1).mono (Same.refl _) t2, e4, fun x H3 t3 w3 => ?_⟩
      obtain ⟨u, su, hq⟩ := hr' H3 y x d2 w _ (w2.mono t3) w3 e5
      obtain rfl : V.bl d = u := Option.some.inj su
      exact hq _ ⟨d, rfl, k H3 ((t1.trans t2).trans t3)⟩
    · obtain ⟨u, su, hq⟩ := hr H2 v y d1 d2 _ (w1.mono t2) w2 e3
      obtain rfl : V.bl false = u := Option.some.inj su
      refine hq _ ⟨false, rfl, ?_⟩
      rw [if_neg Bool.false_ne_true]
      cases e5
      exact ⟨false, rfl, k H2 (t1.trans t2)⟩
theorem de_ch2 {op op' : CmpOp} {o o' : O2} {r1 r2 : R2} (ho : OpR X (compareOp op) r1) (hr : OpS (sm X W) o r1) (ho' : OpR X (compareOp op') r2) (hr' : OpS (sm X W) o' r2) (ha : DB W X a p) (hb : DB W X b q) (hc : DB W X c r)
    (hm : lastMarks [op, op'] [b, c] = false := by with_unfolding_all rfl) : DE W X (.Compare a [op, op'] [b, c] pos) (.ch o o' p q r) := de_ch ho hr ho' hr' ha hb hc (pe_chain ho ho' ha hb hc hm)
/-! ### range with a step -/
theorem small_up {i j k : Int} (h0 : 0 ≤ i) (h1 : i ≤ 1000000) (h2 : 0 ≤ j) (h3 : j ≤ 1000000) (h4 : 0 < k) (h5 : k < 1000000) : Builtin.Range.small i j k = true ∧ Builtin.Range.rangeSize i j k = ((rg3 i j k).toNat : Nat) ∧ (rg3 i j k).toNat ≤ 1000000 := by
  have hd : 0 ≤ (j - i - 1) / k ∨ ¬ i < j := by
    by_cases c : i < j
    · left
      exact Int.ediv_nonneg (by omega) (by omega)
    · exact .inr c
  have hd2 : i < j → (j - i - 1) / k ≤ j - i - 1 := fun c => by
    have := Int.ediv_le_self (a := j - i - 1) k (by omega)
    exact this
  have e : Builtin.Range.rangeSize i j k = rg3 i j k := by
    unfold Builtin.Range.rangeSize rg3
    rw [if_pos (show k > 0 from h4)]
  have nn : 0 ≤ rg3 i j k ∧ rg3 i j k ≤ 1000000 := by
    unfold rg3
    split
    · rename_i c
      have := hd2 c
      rcases hd with z | z
      · omega
      · exact absurd c z
    · omega
  refine ⟨?_, by rw [e]; omega, by omega⟩
  unfold Builtin.Range.small
  rw [e]
  simp only [Builtin.Range.rangeFitsLong, Bool.and_eq_true, Bool.or_eq_true, decide_eq_true_eq, beq_iff_eq, if_pos (show k > 0 from h4)]
  omega
theorem dr_r3 {fz : Bool} {pp : Pos} (h : DB W X a p) (h2 : DB W X b q) (h3 : DB W X c r) (hg : Gl X "range" := by rfl) (hm : X.mg "range" = none) (hst : starEach [a, b, c] X.env = (false, eval a X.env) :: starEach [b, c] X.env := by rfl) (hst2 : starEach [b, c] X.env = (false, eval b X.env) :: starEach [c] X.env := by rfl) (hst3 : starEach [c] X.env = [(false, eval c X.env)] := by rfl) :
    DR W fz X tg (.Call (.Name "range" pp) [a, b, c] [] pos) (.r3 p q r) :=
  PI.imp (pi_range3 hg hm (pa_cons h (pa_cons h2 (pa_cons h3 pa_nil hst3) hst2) hst) hst (by rw [hst2, hst3]; rfl)) fun σ H R ⟨F, env, ds, s, hs, _, ev, k⟩ => by
    replace ev : evr W.T (run W.T W.n) (.r3 p q r) env = some ds := ev
    unfold evr at ev
    split at ev
    · rename_i i e1
      split at ev
      · rename_i j e2
        split at ev
        · rename_i l e3
          obtain ⟨cc, rfl⟩ := ite_some ev
          simp only [Bool.and_eq_true, decide_eq_true_eq] at cc
          obtain ⟨⟨⟨⟨⟨c1, c2⟩, c3⟩, c4⟩, c5⟩, c6⟩ := cc
          obtain ⟨s1, s2, s3⟩ := small_up c1 c2 c3 c4 c5 c6
          refine ⟨F, env, _, s, hs, e1, fun v H1 t r => ⟨F, env, _, s.trans t, hs.mono (Same.refl _) t, e2, fun w H2 t2 r2 => ⟨F, env, _, (s.trans t).trans t2, (hs.mono (Same.refl _) t).mono (Same.refl _) t2, e3, fun z H3 t3 r3 => ⟨i, j, l, (rg3 i j l).toNat, ?_, ⟨by omega, by omega, s1, s2⟩, ?_⟩⟩⟩⟩
          · rw [show v = .int i from r, show w = .int j from r2, show z = .int l from r3]
          · refine k _ F H3 (Ext.grow s ((t.trans t2).trans t3)) ⟨fun m F1 H1 _ _ _ hl => ?_, fun m d F1 H1 _ _ u hd => ?_⟩
            · unfold range3D at hl
              rw [List.length_map, List.length_range] at hl
              exact hl
            · unfold range3D at hd
              have lt := some_lt hd
              rw [List.length_map, List.length_range] at lt
              rw [List.getElem?_map, List.getElem?_range lt] at hd
              have hd : D.int (i + (m : Int) * l) = d := Option.some.inj hd
              subst hd
              refine ⟨lt, fun x H2 ⟨e1, e2⟩ => ?_⟩
              rw [e1, e2]
              exact ⟨F1, Ext.refl u, rfl⟩
        · cases ev
      · cases ev
    · cases ev
/-! ### a comprehension, stored at once -/
theorem asg_mono {te te' : TE} {g : TG} {st : Stmt} (h : PS X st (tAsg te g)) (i : ∀ σ H Q, te' σ H Q → te σ H Q) : PS X st (tAsg te' g) := PS.imp h fun D σ H q => i σ H _ q
theorem pa_comp {i : Nat} {y : Str} {py : Pos} {elt iter : Expr} {scope : Scope} {own : List (Str × Nat)} {s : Sr} {t : Tg} {p : E} {pos spos : Pos} (hsw : swapsWith (.ListComp elt [⟨tg, iter, [], 0⟩] scope pos) (some (.Name y py)) spos.line X.env = pure true) (hy : X.N[i]? = some y) (hyl : X.env.scope.names.lookup y = some .local) (hc : X.calm = true) (hN : X.N.Nodup) (hi : DR W false X tg iter s) (ok : BlkOk X.N X.env.scope scope own) (ho : own.map (·.2) = tgs t)
    (hg : ∀ (s : Shared) (H : Hp) (C : Addr) (cl : List (Str × Addr)) (fp : List Addr), PG (X.blk s H scope (compEnvC scope cl C X.env) fp) tg (gT X.K t)) 
    (he : ∀ (s : Shared) (H : Hp) (C : Addr) (cl : List (Str × Addr)) (fp : List Addr), DE W (X.blk s H scope (compEnvC scope cl C X.env) fp) elt p) (hs : ∀ x, foldedSetIterable iter X.env x = pure x := by intro _; rfl) :
    PS X (.Assign [.Name y py] (.ListComp elt [⟨tg, iter, [], 0⟩] scope pos) spos) (tAsg (tD (sm X W) W (.comp s t p)) (gName i)) :=
  asg_mono (ps_setLc hc hN hy hyl hsw hi ok hg (fun _ _ _ _ _ => pts_nil) (fun s H C cl fp => deP (he s H C cl fp)) hs) fun σ H Q h => by
    rw [ho]
    exact comp_t rfl rfl σ H Q h
theorem pa_compI {i : Nat} {y : Str} {py : Pos} {elt iter ic : Expr} {scope : Scope} {own : List (Str × Nat)} {s : Sr} {t : Tg} {c p : E} {pos spos : Pos} (hsw : swapsWith (.ListComp elt [⟨tg, iter, [ic], 0⟩] scope pos) (some (.Name y py)) spos.line X.env = pure true) (hy : X.N[i]? = some y) (hyl : X.env.scope.names.lookup y = some .local) (hc : X.calm = true) (hN : X.N.Nodup) (hi : DR W false X tg iter s) (ok : BlkOk X.N X.env.scope scope own) (ho : own.map (·.2) = tgs t)
    (hg : ∀ (s : Shared) (H : Hp) (C : Addr) (cl : List (Str × Addr)) (fp : List Addr), PG (X.blk s H scope (compEnvC scope cl C X.env) fp) tg (gT X.K t)) 
    (ht : ∀ (s : Shared) (H : Hp) (C : Addr) (cl : List (Str × Addr)) (fp : List Addr), DT W (X.blk s H scope (compEnvC scope cl C X.env) fp) ic c)
    (he : ∀ (s : Shared) (H : Hp) (C : Addr) (cl : List (Str × Addr)) (fp : List Addr), DE W (X.blk s H scope (compEnvC scope cl C X.env) fp) elt p) (hs : ∀ x, foldedSetIterable iter X.env x = pure x := by intro _; rfl) :
    PS X (.Assign [.Name y py] (.ListComp elt [⟨tg, iter, [ic], 0⟩] scope pos) spos) (tAsg (tD (sm X W) W (.compI s t c p)) (gName i)) :=
  asg_mono (ps_setLc hc hN hy hyl hsw hi ok hg (fun s H C cl fp => pts_one (ht s H C cl fp)) (fun s H C cl fp => deP (he s H C cl fp)) hs) fun σ H Q h => by
    rw [ho]
    exact comp_tI rfl rfl σ H Q h
/-! ### constants of the module -/
theorem de_gint {x : Str} {i : Int} (h : ∃ t, X.mg x = some (.int i t)) (hg : Gl X x := by rfl) (hd : (x == ("__debug__" : Str)) = false := by decide) : DE W X (.Name x pos) (.lit (.int i)) := by
  obtain ⟨t, h⟩ := h
  exact de_glob (v := .int i) hg h ⟨t, rfl⟩ (fun F => rfl) rfl hd
/-- a tuple of ints that stands in the written part -/
def TupAt (K : PySem.W.Frag) (mg : Str → Option Value) (x : Str) (ns : List Int) : Prop := ∃ a o its n, mg x = some (.ref a) ∧ K.lookup a = some o ∧ o.cls = .type "tuple" ∧ o.data = .seq its n ∧ Vals (ns.map V.int) its.toList ∧ ns.length ≤ 1000
theorem de_gtup {x : Str} {ns : List Int} (h : TupAt X.K X.mg x ns) (hg : Gl X x := by rfl) (hd : (x == ("__debug__" : Str)) = false := by decide) : DE W X (.Name x pos) (.lit (.tup (ns.map .int))) := by
  obtain ⟨a, o, its, n, h1, h2, h3, h4, h5, h6⟩ := h
  refine de_glob (v := .ref a) hg h1 rfl (fun F => ⟨a, ns.map V.int, rfl, .inr ⟨o, its, n, h2, h3, h4, ?_, h5⟩, RVs.ints⟩) rfl hd
  have := h5.length
  rw [List.length_map] at this
  have q : its.toList.length = its.size := rfl
  have e : sizeLine = 16777216 := sizeLine_eq
  omega
end
end Nt

set_option Elab.async false
set_option linter.all false
set_option maxRecDepth 100000
set_option maxHeartbeats 4000000
/-! sum of a tuple; name op= e; zip of three tuples with one name as the target. -/
namespace Nt
open PySem PySem.Spec PyProof.Rows L2

/-! ### sum of a tuple of ints -/
section
variable {prog : Program} {w : World} {A : Around} {E : Value → Shared → Prop} {s : Shared} {l : Addr}
theorem sum_tup {xs : Array (Int × Tok)} {Q : Value → Shared → Prop} (hh : A.handled = none) (hl : s.heap.IsTuple l (intItems xs))
    (h : ∀ h' tk t', (∀ b o, s.heap.get? b = some o → h'.get? b = some o) → Q (.int (preSum (numAt xs) xs.size) t') { s with heap := h', toks := tk }) :
    wpAny (model prog w) A (call (.builtin "sum") [.ref l]) Q E s := by
  have hlt : l < s.heap.objs.size := by obtain ⟨_, e, _⟩ := hl; exact Heap.lt_size e
  refine call_sum_walkG (wpAny_pyIter_tuple hl ?_)
  refine ⟨_, _, _, _, _, _, numAt xs, rfl, Walks.tuple (A := A.in1) hh _ l (Nat.ne_of_lt hlt) (intItems xs), ⟨⟨_, Heap.get?_push_size _ rfl, rfl, rfl⟩, hl.push _⟩, fun b hb => ?_, (fun _ _ => intItems_at), fun h' tk t' hk => ?_⟩
  · show b < (s.heap.push _).objs.size
    rw [Heap.size_push]
    rcases List.mem_cons.mp hb with rfl | hb
    · exact Nat.lt_succ_self _
    · rcases List.mem_cons.mp hb with rfl | hb
      · exact Nat.lt_succ_of_lt hlt
      · cases hb
  · have := h h' tk t' fun b o e => hk b o (fun hb => by
      rw [List.mem_singleton] at hb
      subst hb
      exact Nat.lt_irrefl _ (Heap.lt_size e)) (Heap.get?_push_of_some _ e)
    simpa [intItems] using this
theorem sum_tupRaw {its : List Value} {ns : List Int} {Q : Value → Shared → Prop} (hh : A.handled = none) (hl : s.heap.IsTuple l its.toArray) (hi : IntsAre its ns)
    (h : ∀ h' tk t', (∀ b o, s.heap.get? b = some o → h'.get? b = some o) → Q (.int ns.sum t') { s with heap := h', toks := tk }) : wpAny (model prog w) A (call (.builtin "sum") [.ref l]) Q E s := by
  obtain ⟨xs, e⟩ := hi.allInts.items
  have hn : numsOf (intItems xs).toList = ns := by rw [← e]; exact hi.numsOf
  rw [nums_intItems] at hn
  rw [e] at hl
  refine sum_tup hh hl fun h' tk t' hk => ?_
  have := h h' tk t' hk
  rw [preSum_eq, List.take_of_length_le (by simp), hn]; exact this
end
def rSumT (K : PySem.W.Frag) : List V → Hp → VK → Prop := fun vs H Q => ∃ (a : Addr) (ns : List Int), vs = [V.ref a] ∧ SqT K H a (ns.map V.int) ∧ Q (.int ns.sum) H
theorem cr_sumT {X : Cx} (hc : X.calm = true) : CallR X (.builtin "sum") (rSumT X.K) := by
  intro pins s σ H vs us Q I r h
  obtain ⟨a, ns, rfl, hs, q⟩ := h
  obtain ⟨its, rv, hl, _⟩ := I.tuple hs
  rw [Vals.ref1 r]
  exact sum_tupRaw (I.ok.hd hc) hl rv.ints fun h' tk t' hk => ⟨.int _, H, I.kept hk, ⟨_, rfl⟩, q⟩
theorem cs_sumT {sub : Nat → Nat → Option Bool} {M : Sm} : CallS sub M .sum (rSumT M.K) := by
  intro H x d z h e0
  have e : sumD d = some z := e0
  clear e0
  unfold sumD at e
  split at e
  · rename_i xs
    cases hi : intsOf xs with
    | none => rw [hi] at e; cases e
    | some ns =>
      rw [hi] at e
      cases e
      obtain ⟨a, vs, e1, h1, h2⟩ := h
      obtain ⟨e2, _⟩ := h2.of_ints hi
      subst e2
      exact ⟨_, rfl, fun Q k => ⟨a, ns, by rw [e1], h1, k⟩⟩
  · cases e
section
variable {W : Wd} {X : Cx} {a b c e : Expr} {p q r : E} {pos : Pos} {fr : Bool} {own own1 : List Nat} {st : Stmt}
theorem de_sum {pp : Pos} (hc : X.calm = true) (h : DB W X a p) (hg : Gl X "sum" := by rfl) (hm : X.mg "sum" = none) (hst : starEach [a] X.env = [(false, eval a X.env)] := by rfl) : DE W X (.Call (.Name "sum" pp) [a] [] pos) (.o1 .sum p) :=
  de_b1 (cr_sumT hc) hg hm (by decide +kernel) cs_sumT h (by decide) (by decide) hst

/-! ### name op= e, ints -/
theorem ds_augadd {i : Nat} (h : PS X st (tAug i (tB (sm X W) W p) (ipI fun i j => i + j))) (c1 : subL own1 own = true := by decide) (c2 : disL [i] own1 = true := by decide) : DS W X fr own own1 st (.asg i (.o2 .adi (.var i) p)) := PS.imp h fun Dn σ H ⟨B, F0, H0, O, F, env, fl, j, ev, k⟩ => by
  obtain ⟨d, e1, rfl⟩ := ex_asg ev
  obtain ⟨F1, s1, j1⟩ := j.free (sub_of c1)
  have dis := dis_of c2
  obtain ⟨x, y, ex, ey, eo⟩ := ev_o2 e1
  replace eo : int2 (fun i j => some (.int (i + j))) x y = some d := eo
  unfold int2 at eo
  split at eo
  · cases eo
    rename_i a b
    obtain ⟨v, hv, rv⟩ := j1.envS.2 i (.int a) (by unfold Nt.ev at ex; exact ex)
    have rv : v = .int a := rv
    refine ⟨v, hv, F1, env, _, j1.x.s, j1.envS, ey, fun u H2 t r => ⟨a, b, rv, r, ?_⟩⟩
    exact k O F1 _ H2 ((j1.grow (Ext.grow j1.x.s t)).put (by exact rfl) (dis i (List.mem_cons_self ..)))
  · cases eo
end
end Nt

set_option Elab.async false
set_option linter.all false
set_option maxRecDepth 100000
set_option maxHeartbeats 4000000
/-! zip of three tuples of one length, the target one name: each tuple that was handed out may still be alive. -/
namespace Nt
open PySem PySem.Spec PyProof.Rows L2
abbrev Zg (h : Heap) (z TI TO : Addr) (f0 : Value) (f : Bool) : Prop :=
  h.get? z = some { cls := .type "zip", dict := none, data := .fields #[f0, .bool f, .bool false, .ref TI, .ref TO], slots := #[] }
abbrev T3 (h : Heap) (T : Addr) (a1 a2 a3 : Value) : Prop := h.get? T = some { cls := .type "tuple", data := .seq #[a1, a2, a3] }
def Fv (v : Value) : Prop := v = .none ∨ ∃ T : Addr, v = rawInt T
structure Z3 (z TI TO i1 i2 i3 l1 l2 l3 : Addr) : Prop where
  TIz : TI ≠ z
  TOz : TO ≠ z
  TITO : TI ≠ TO
  TIi : TI ≠ i1 ∧ TI ≠ i2 ∧ TI ≠ i3
  TOi : TO ≠ i1 ∧ TO ≠ i2 ∧ TO ≠ i3
  iz : i1 ≠ z ∧ i2 ≠ z ∧ i3 ≠ z
  ii : i1 ≠ i2 ∧ i1 ≠ i3 ∧ i2 ≠ i3
  lz : l1 ≠ z ∧ l2 ≠ z ∧ l3 ≠ z
  lT : l1 ≠ TO ∧ l2 ≠ TO ∧ l3 ≠ TO
  l1i : l1 ≠ i1 ∧ l1 ≠ i2 ∧ l1 ≠ i3
  l2i : l2 ≠ i1 ∧ l2 ≠ i2 ∧ l2 ≠ i3
  l3i : l3 ≠ i1 ∧ l3 ≠ i2 ∧ l3 ≠ i3
section
variable {prog : Program} {w : World} {A : Around} {E : Value → Shared → Prop} {s : Shared} {z TI TO i1 i2 i3 l1 l2 l3 : Addr} {f0 : Value} {f : Bool} {k : Nat} {xs ys zs : Array Value} {x y u a b c : Value}
theorem alive_not {a : Addr} {Q : Option Obj → Shared → Prop} (ho : s.heap.get? a = none) (h : Q none s) : wpAny (model prog w) A (loadIfAlive a) Q E s := by
  have h' : Q (s.heap.get? a) s := by rw [ho]; exact h
  exact fun _ _ _ => h'
theorem owned_any {Q : Bool → Shared → Prop} (hz : Zg s.heap z TI TO f0 f) (hf : Fv f0) (ht : Q true s) (hn : ∀ h', Zg h' z TI TO f0 true → Heap.SameBut z s.heap h' → Q false { s with heap := h' }) :
    wpAny (model prog w) A (Builtin.SmallTypes.ownedTupleIsFree (.ref z)) Q E s := by
  unfold Builtin.SmallTypes.ownedTupleIsFree
  rcases hf with rfl | ⟨T, rfl⟩
  · exact wpAny_bind (wpAny_field hz rfl (x := .none) rfl (wpAny_pure ht))
  · refine wpAny_bind (wpAny_field hz rfl (x := rawInt T) rfl ?_)
    show wpAny _ _ (loadIfAlive ((T : Int).toNat) >>= _) _ _ _
    rw [Int.toNat_natCast]
    cases hT : s.heap.get? T with
    | none =>
      refine wpAny_bind (alive_not hT ?_)
      simp only [Option.isNone_none, if_true]
      exact wpAny_pure ht
    | some oT =>
      refine wpAny_bind (PySem.W.kdx_alive hT ?_)
      simp only [Option.isNone_some, Bool.false_eq_true, if_false]
      refine wpAny_bind (wpAny_field hz rfl (x := .bool f) rfl ?_)
      cases f with
      | true =>
        rw [if_neg (show ¬ ((Value.bool true != Value.bool true) = true) from Bool.false_ne_true)]
        exact wpAny_pure (hn s.heap hz (Heap.SameBut.refl _ _))
      | false =>
        rw [if_pos (show (Value.bool false != Value.bool true) = true from rfl)]
        exact wpAny_bind (wpAny_setField_rec hz (by simp) fun h₁ hz₁ hs₁ => wpAny_pure (hn h₁ hz₁ hs₁))
theorem updT3 {T : Addr} {j : Nat} {Q : Unit → Shared → Prop} (hT : T3 s.heap T a b c)
    (h : ∀ h', h'.get? T = some { cls := .type "tuple", data := .seq ((#[a, b, c] : Array Value).setIfInBounds j x) } → Heap.SameBut T s.heap h' → Q () { s with heap := h' }) :
    wpAny (model prog w) A (updateSeq T (·.setIfInBounds j x)) Q E s := by
  refine wpAny_updateSeq hT rfl (h _ ?_ (Heap.SameBut.update ..))
  rw [Heap.get?_update_self _ hT rfl]
  simp [Obj.mapSeq]
theorem z3_item {Q : Value → Shared → Prop} (D : Z3 z TI TO i1 i2 i3 l1 l2 l3) (hz : Zg s.heap z TI TO f0 f) (hf : Fv f0) (hTI : T3 s.heap TI (.ref i1) (.ref i2) (.ref i3)) (hTO : T3 s.heap TO a b c)
    (h1 : s.heap.IsTupleIter i1 l1 k) (h2 : s.heap.IsTupleIter i2 l2 k) (h3 : s.heap.IsTupleIter i3 l3 k) (hl1 : s.heap.IsTuple l1 xs) (hl2 : s.heap.IsTuple l2 ys) (hl3 : s.heap.IsTuple l3 zs) (hx : xs[k]? = some x) (hy : ys[k]? = some y) (hu : zs[k]? = some u)
    (hQ : ∀ h' g0 g, Zg h' z TI TO g0 g → Fv g0 → (∃ a b c, T3 h' TO a b c) → h'.IsTupleIter i1 l1 (k + 1) → h'.IsTupleIter i2 l2 (k + 1) → h'.IsTupleIter i3 l3 (k + 1) → T3 h' s.heap.objs.size x y u →
      (∀ e o, e ≠ z → e ≠ TO → e ≠ i1 → e ≠ i2 → e ≠ i3 → s.heap.get? e = some o → h'.get? e = some o) → Q (.ref s.heap.objs.size) { s with heap := h' }) :
    wpAny (model prog w) A (Builtin.«zip.__next__» ⟨[.ref z], []⟩) (fun fin s' => ∃ v, fin = .done (.ret v) ∧ Q v s') E s := by
  show wpAny _ _ (field (.ref z) 2 >>= _) _ _ _
  refine wpAny_bind (wpAny_field hz rfl (x := .bool false) rfl ?_)
  show wpAny _ _ (field (.ref z) 3 >>= _) _ _ _
  refine wpAny_bind (wpAny_field hz rfl (x := .ref TI) rfl ?_)
  refine wpAny_bind (wpAny_seqItems hTI rfl ?_)
  show wpAny _ _ (Builtin.SmallTypes.ownedTupleIsFree (.ref z) >>= _) _ _ _
  refine wpAny_bind (owned_any hz hf ?_ fun h₁ hz₁ hs₁ => ?_)
  · simp only [if_true]
    refine wpAny_bind (wpAny_rule ?_)
    refine wpAny_bind (wpAny_field hz rfl (x := .ref TO) rfl ?_)
    refine wpAny_bind (wpAny_setField_rec hz (by simp) fun h₁ hz₁ hs₁ => ?_)
    replace hz₁ : Zg h₁ z TI TO .ellipsis f := hz₁
    refine wpAny_bind ?_
    simp only [List.zipIdx_cons, List.zipIdx_nil, List.forIn_cons, List.forIn_nil]
    refine wpAny_bind (wpAny_bind (wpAny_onRaise ?_))
    show wpAny _ _ (Builtin.SmallTypes.nextOf (.ref i1) >>= _) _ _ _
    refine wpAny_bind (RZ.nextOf_tuple_item (s := { s with heap := h₁ }) (h1.extBut hs₁.extBut D.iz.1) (hl1.extBut hs₁.extBut D.lz.1) hx fun p1 j1 t1 => wpAny_pure ?_)
    have hU1 : T3 p1 TO a b c := t1.extBut _ _ D.TOi.1 (hs₁.extBut _ _ D.TOz hTO)
    refine wpAny_bind (wpAny_seqItems hU1 rfl ?_)
    refine wpAny_bind (updT3 hU1 fun g1 hT1 s1 => ?_)
    replace hT1 : T3 g1 TO x b c := hT1
    refine wpAny_bind (wpAny_letGo (wpAny_pure ?_))
    refine wpAny_bind (wpAny_bind (wpAny_onRaise ?_))
    show wpAny _ _ (Builtin.SmallTypes.nextOf (.ref i2) >>= _) _ _ _
    refine wpAny_bind (RZ.nextOf_tuple_item (s := { s with heap := g1 }) (((h2.extBut hs₁.extBut D.iz.2.1).extBut t1.extBut D.ii.1.symm).extBut s1.extBut D.TOi.2.1.symm) (((hl2.extBut hs₁.extBut D.lz.2.1).extBut t1.extBut D.l2i.1).extBut s1.extBut D.lT.2.1) hy fun p2 j2 t2 => wpAny_pure ?_)
    have hU2 : T3 p2 TO x b c := t2.extBut _ _ D.TOi.2.1 hT1
    refine wpAny_bind (wpAny_seqItems hU2 rfl ?_)
    refine wpAny_bind (updT3 hU2 fun g2 hT2 s2 => ?_)
    replace hT2 : T3 g2 TO x y c := hT2
    refine wpAny_bind (wpAny_letGo (wpAny_pure ?_))
    refine wpAny_bind (wpAny_bind (wpAny_onRaise ?_))
    show wpAny _ _ (Builtin.SmallTypes.nextOf (.ref i3) >>= _) _ _ _
    refine wpAny_bind (RZ.nextOf_tuple_item (s := { s with heap := g2 }) (((((h3.extBut hs₁.extBut D.iz.2.2).extBut t1.extBut D.ii.2.1.symm).extBut s1.extBut D.TOi.2.2.symm).extBut t2.extBut D.ii.2.2.symm).extBut s2.extBut D.TOi.2.2.symm) (((((hl3.extBut hs₁.extBut D.lz.2.2).extBut t1.extBut D.l3i.1).extBut s1.extBut D.lT.2.2).extBut t2.extBut D.l3i.2.1).extBut s2.extBut D.lT.2.2) hu fun p3 j3 t3 => wpAny_pure ?_)
    have hU3 : T3 p3 TO x y c := t3.extBut _ _ D.TOi.2.2 hT2
    refine wpAny_bind (wpAny_seqItems hU3 rfl ?_)
    refine wpAny_bind (updT3 hU3 fun g3 hT3 s3 => ?_)
    replace hT3 : T3 g3 TO x y u := hT3
    refine wpAny_bind (wpAny_letGo (wpAny_pure (wpAny_pure ?_)))
    refine wpAny_bind (wpAny_seqItems hT3 rfl ?_)
    refine wpAny_bind (wpAny_newTuple ?_)
    have hsz : g3.objs.size = s.heap.objs.size := by rw [s3.1, t3.1, s2.1, t2.1, s1.1, t1.1, hs₁.1]
    have hzz : Zg g3 z TI TO .ellipsis f := s3.extBut _ _ D.TOz.symm (t3.extBut _ _ D.iz.2.2.symm (s2.extBut _ _ D.TOz.symm (t2.extBut _ _ D.iz.2.1.symm (s1.extBut _ _ D.TOz.symm (t1.extBut _ _ D.iz.1.symm hz₁)))))
    have hkk : ∀ e o, e ≠ z → e ≠ TO → e ≠ i1 → e ≠ i2 → e ≠ i3 → s.heap.get? e = some o → g3.get? e = some o := fun e o cz cT c1 c2 c3 q =>
      s3.extBut _ _ cT (t3.extBut _ _ c3 (s2.extBut _ _ cT (t2.extBut _ _ c2 (s1.extBut _ _ cT (t1.extBut _ _ c1 (hs₁.extBut _ _ cz q))))))
    have q1 : g3.IsTupleIter i1 l1 (k + 1) := ((((j1.extBut s1.extBut D.TOi.1.symm).extBut t2.extBut D.ii.1).extBut s2.extBut D.TOi.1.symm).extBut t3.extBut D.ii.2.1).extBut s3.extBut D.TOi.1.symm
    have q2 : g3.IsTupleIter i2 l2 (k + 1) := ((j2.extBut s2.extBut D.TOi.2.1.symm).extBut t3.extBut D.ii.2.2).extBut s3.extBut D.TOi.2.1.symm
    have q3 : g3.IsTupleIter i3 l3 (k + 1) := j3.extBut s3.extBut D.TOi.2.2.symm
    have hzlt : z < g3.objs.size := Heap.lt_size hzz
    show wpAny _ _ (Builtin.SmallTypes.ownedTupleHandOut (.ref z) (.ref g3.objs.size) >>= _) _ _ _
    refine wpAny_bind ?_
    unfold Builtin.SmallTypes.ownedTupleHandOut
    have hz₆ : Zg (g3.push { cls := .type "tuple", data := .seq #[x, y, u] }) z TI TO .ellipsis f := Heap.get?_push_of_some _ hzz
    refine wpAny_bind (wpAny_setField_rec hz₆ (by simp) fun h₇ hz₇ hs₇ => ?_)
    replace hz₇ : Zg h₇ z TI TO (rawInt g3.objs.size) f := hz₇
    refine wpAny_setField_rec hz₇ (by simp) fun h₈ hz₈ hs₈ => ?_
    replace hz₈ : Zg h₈ z TI TO (rawInt g3.objs.size) false := hz₈
    have up : ∀ e o, e ≠ z → g3.get? e = some o → h₈.get? e = some o := fun e o c1 q => hs₈.extBut _ _ c1 (hs₇.extBut _ _ c1 (Heap.get?_push_of_some _ q))
    have hT₈ : T3 h₈ g3.objs.size x y u := hs₈.extBut _ _ (Nat.ne_of_gt hzlt) (hs₇.extBut _ _ (Nat.ne_of_gt hzlt) (Heap.get?_push_size _ rfl))
    refine wpAny_pure ⟨_, rfl, ?_⟩
    rw [hsz] at hT₈
    show Q (.ref g3.objs.size) _
    rw [hsz]
    exact hQ h₈ _ _ hz₈ (.inr ⟨_, rfl⟩) ⟨_, _, _, up _ _ D.TOz hT3⟩ (q1.at fun o q => up _ o D.iz.1 q) (q2.at fun o q => up _ o D.iz.2.1 q) (q3.at fun o q => up _ o D.iz.2.2 q) hT₈ fun e o cz cT c1 c2 c3 q => up e o cz (hkk e o cz cT c1 c2 c3 q)
  · simp only [Bool.false_eq_true, if_false]
    refine wpAny_bind ?_
    rw [← Array.forIn_toList]
    simp only [List.forIn_cons, List.forIn_nil]
    refine wpAny_bind (wpAny_bind (wpAny_holding ?_))
    show wpAny _ _ (Builtin.SmallTypes.nextOf (.ref i1) >>= _) _ _ _
    refine wpAny_bind (RZ.nextOf_tuple_item (s := { s with heap := h₁ }) (h1.extBut hs₁.extBut D.iz.1) (hl1.extBut hs₁.extBut D.lz.1) hx fun p1 j1 t1 => wpAny_pure ?_)
    refine wpAny_pure ?_
    refine wpAny_bind (wpAny_bind (wpAny_holding ?_))
    show wpAny _ _ (Builtin.SmallTypes.nextOf (.ref i2) >>= _) _ _ _
    refine wpAny_bind (RZ.nextOf_tuple_item (s := { s with heap := p1 }) ((h2.extBut hs₁.extBut D.iz.2.1).extBut t1.extBut D.ii.1.symm) ((hl2.extBut hs₁.extBut D.lz.2.1).extBut t1.extBut D.l2i.1) hy fun p2 j2 t2 => wpAny_pure ?_)
    refine wpAny_pure ?_
    refine wpAny_bind (wpAny_bind (wpAny_holding ?_))
    show wpAny _ _ (Builtin.SmallTypes.nextOf (.ref i3) >>= _) _ _ _
    refine wpAny_bind (RZ.nextOf_tuple_item (s := { s with heap := p2 }) (((h3.extBut hs₁.extBut D.iz.2.2).extBut t1.extBut D.ii.2.1.symm).extBut t2.extBut D.ii.2.2.symm) (((hl3.extBut hs₁.extBut D.lz.2.2).extBut t1.extBut D.l3i.1).extBut t2.extBut D.l3i.2.1) hu fun p3 j3 t3 => wpAny_pure ?_)
    refine wpAny_pure (wpAny_pure ?_)
    show wpAny _ _ (newTuple [x, y, u] >>= _) _ _ _
    refine wpAny_bind (wpAny_newTuple ?_)
    have hsz : p3.objs.size = s.heap.objs.size := by rw [t3.1, t2.1, t1.1, hs₁.1]
    have hzz : Zg p3 z TI TO f0 true := t3.extBut _ _ D.iz.2.2.symm (t2.extBut _ _ D.iz.2.1.symm (t1.extBut _ _ D.iz.1.symm hz₁))
    have hkk : ∀ e o, e ≠ z → e ≠ i1 → e ≠ i2 → e ≠ i3 → s.heap.get? e = some o → p3.get? e = some o := fun e o cz c1 c2 c3 q => t3.extBut _ _ c3 (t2.extBut _ _ c2 (t1.extBut _ _ c1 (hs₁.extBut _ _ cz q)))
    have q1 : p3.IsTupleIter i1 l1 (k + 1) := (j1.extBut t2.extBut D.ii.1).extBut t3.extBut D.ii.2.1
    have q2 : p3.IsTupleIter i2 l2 (k + 1) := j2.extBut t3.extBut D.ii.2.2
    have hp : T3 (p3.push { cls := .type "tuple", data := .seq #[x, y, u] }) p3.objs.size x y u := Heap.get?_push_size _ rfl
    refine wpAny_pure ⟨_, rfl, ?_⟩
    show Q (.ref p3.objs.size) _
    rw [hsz] at hp ⊢
    exact hQ _ _ _ (Heap.get?_push_of_some _ hzz) hf ⟨_, _, _, Heap.get?_push_of_some _ (hkk _ _ D.TOz D.TOi.1 D.TOi.2.1 D.TOi.2.2 hTO)⟩ (q1.at fun o e => Heap.get?_push_of_some _ e) (q2.at fun o e => Heap.get?_push_of_some _ e) (j3.at fun o e => Heap.get?_push_of_some _ e) hp
      fun e o cz _ c1 c2 c3 q => Heap.get?_push_of_some _ (hkk e o cz c1 c2 c3 q)
theorem z3_end {Q : PySem.Fin → Shared → Prop} (hh : A.handled = none) (D : Z3 z TI TO i1 i2 i3 l1 l2 l3) (hz : Zg s.heap z TI TO f0 f) (hf : Fv f0) (hTI : T3 s.heap TI (.ref i1) (.ref i2) (.ref i3))
    (h1 : s.heap.IsTupleIter i1 l1 k) (hl1 : s.heap.IsTuple l1 xs) (hx : xs[k]? = none)
    (hE : ∀ h' e, (∀ c o, c ≠ z → c ≠ i1 → s.heap.get? c = some o → h'.get? c = some o) → (∃ o, h'.get? e = some o ∧ o.cls = .type "StopIteration") → E (.ref e) { s with heap := h' }) :
    wpAny (model prog w) A (Builtin.«zip.__next__» ⟨[.ref z], []⟩) Q E s := by
  show wpAny _ _ (field (.ref z) 2 >>= _) _ _ _
  refine wpAny_bind (wpAny_field hz rfl (x := .bool false) rfl ?_)
  show wpAny _ _ (field (.ref z) 3 >>= _) _ _ _
  refine wpAny_bind (wpAny_field hz rfl (x := .ref TI) rfl ?_)
  refine wpAny_bind (wpAny_seqItems hTI rfl ?_)
  show wpAny _ _ (Builtin.SmallTypes.ownedTupleIsFree (.ref z) >>= _) _ _ _
  refine wpAny_bind (owned_any hz hf ?_ fun h₁ hz₁ hs₁ => ?_)
  · simp only [if_true]
    refine wpAny_bind (wpAny_rule ?_)
    refine wpAny_bind (wpAny_field hz rfl (x := .ref TO) rfl ?_)
    refine wpAny_bind (wpAny_setField_rec hz (by simp) fun h₁ hz₁ hs₁ => ?_)
    replace hz₁ : Zg h₁ z TI TO .ellipsis f := hz₁
    refine wpAny_bind ?_
    simp only [List.zipIdx_cons, List.zipIdx_nil, List.forIn_cons, List.forIn_nil]
    refine wpAny_bind (wpAny_bind (wpAny_onRaise ?_))
    show wpAny _ _ (Builtin.SmallTypes.nextOf (.ref i1) >>= _) _ _ _
    refine wpAny_bind (RZ.nextOf_tuple_end (s := { s with heap := h₁ }) hh (h1.extBut hs₁.extBut D.iz.1) (hl1.extBut hs₁.extBut D.lz.1) hx fun h₂ e hs₂ he => ?_)
    obtain ⟨oe, hoe, hce⟩ := he
    have hz₂ : Zg h₂ z TI TO .ellipsis f := hs₂ _ _ D.iz.1.symm hz₁
    have hez : e ≠ z := fun x => by subst x; rw [hz₂] at hoe; cases hoe; simp at hce
    refine wpAny_setField_rec hz₂ (by simp) fun h₃ _ hs₃ => hE h₃ e (fun c o c1 c3 x => hs₃.extBut _ _ c1 (hs₂ _ _ c3 (hs₁.extBut _ _ c1 x))) ⟨oe, hs₃.extBut _ _ hez hoe, hce⟩
  · simp only [Bool.false_eq_true, if_false]
    refine wpAny_bind ?_
    rw [← Array.forIn_toList]
    simp only [List.forIn_cons, List.forIn_nil]
    refine wpAny_bind (wpAny_bind (wpAny_holding ?_))
    show wpAny _ _ (Builtin.SmallTypes.nextOf (.ref i1) >>= _) _ _ _
    refine wpAny_bind (RZ.nextOf_tuple_end (s := { s with heap := h₁ }) hh (h1.extBut hs₁.extBut D.iz.1) (hl1.extBut hs₁.extBut D.lz.1) hx fun h₂ e hs₂ he => ?_)
    exact hE h₂ e (fun c o c1 c2 x => hs₂ _ _ c2 (hs₁.extBut _ _ c1 x)) he
theorem pyNext_z3_item {Q : Option Value → Shared → Prop} (D : Z3 z TI TO i1 i2 i3 l1 l2 l3) (hz : Zg s.heap z TI TO f0 f) (hf : Fv f0) (hTI : T3 s.heap TI (.ref i1) (.ref i2) (.ref i3)) (hTO : T3 s.heap TO a b c)
    (h1 : s.heap.IsTupleIter i1 l1 k) (h2 : s.heap.IsTupleIter i2 l2 k) (h3 : s.heap.IsTupleIter i3 l3 k) (hl1 : s.heap.IsTuple l1 xs) (hl2 : s.heap.IsTuple l2 ys) (hl3 : s.heap.IsTuple l3 zs) (hx : xs[k]? = some x) (hy : ys[k]? = some y) (hu : zs[k]? = some u)
    (hQ : ∀ h' g0 g, Zg h' z TI TO g0 g → Fv g0 → (∃ a b c, T3 h' TO a b c) → h'.IsTupleIter i1 l1 (k + 1) → h'.IsTupleIter i2 l2 (k + 1) → h'.IsTupleIter i3 l3 (k + 1) → T3 h' s.heap.objs.size x y u →
      (∀ e o, e ≠ z → e ≠ TO → e ≠ i1 → e ≠ i2 → e ≠ i3 → s.heap.get? e = some o → h'.get? e = some o) → Q (some (.ref s.heap.objs.size)) { s with heap := h' }) :
    wpAny (model prog w) A (pyNext (.ref z)) Q E s := by
  have hT : s.TypeIs (.ref z) "zip" := ⟨_, hz, rfl⟩
  unfold pyNext
  exact wpAny_bind (wpAny_attempt (wpAny_callSpecial?_slot (name := Str.ofString "__next__") hT F.slot_zip_next
    (wpAny_call_entry F.slot_zip_next hT F.entry_zip_next (z3_item D hz hf hTI hTO h1 h2 h3 hl1 hl2 hl3 hx hy hu fun h' g0 g y1 y2 y3 y4 y5 y6 y7 y8 => wpAny_pure (hQ h' g0 g y1 y2 y3 y4 y5 y6 y7 y8)) (F.args_zip_next_1 _))))
theorem pyNext_z3_end {Q : Option Value → Shared → Prop} (hh : A.handled = none) (D : Z3 z TI TO i1 i2 i3 l1 l2 l3) (hz : Zg s.heap z TI TO f0 f) (hf : Fv f0) (hTI : T3 s.heap TI (.ref i1) (.ref i2) (.ref i3))
    (h1 : s.heap.IsTupleIter i1 l1 k) (hl1 : s.heap.IsTuple l1 xs) (hx : xs[k]? = none)
    (hQ : ∀ h', (∀ c o, c ≠ z → c ≠ i1 → s.heap.get? c = some o → h'.get? c = some o) → Q none { s with heap := h' }) : wpAny (model prog w) A (pyNext (.ref z)) Q E s := by
  have hT : s.TypeIs (.ref z) "zip" := ⟨_, hz, rfl⟩
  unfold pyNext
  refine wpAny_bind (wpAny_attempt (wpAny_callSpecial?_slot (name := Str.ofString "__next__") hT F.slot_zip_next
    (wpAny_call_entry F.slot_zip_next hT F.entry_zip_next (z3_end hh D hz hf hTI h1 hl1 hx fun h' e hk he => ?_) (F.args_zip_next_1 _))))
  obtain ⟨o, ho, hc⟩ := he
  refine wpAny_bind (wpAny_isInstance (T := "StopIteration") (b := true) ⟨o, ho, hc⟩ isSubtype_stop ?_)
  exact wpAny_pure (hQ _ hk)
end
/-- three tuples of one length, the items in new tuples -/
def It3 (K : PySem.W.Frag) (a b c : Addr) : It :=
  ⟨fun i H => ∃ (xs ys zs : List V) (x y z : V), SqT K H a xs ∧ SqT K H b ys ∧ SqT K H c zs ∧ xs[i]? = some x ∧ ys[i]? = some y ∧ zs[i]? = some z,
    fun i H v H' => ∃ T x y z, v = .ref T ∧ H T = none ∧ H' = upd H T (.tup [x, y, z]) ∧ (∀ xs, SqT K H a xs → xs[i]? = some x) ∧ (∀ ys, SqT K H b ys → ys[i]? = some y) ∧ ∀ zs, SqT K H c zs → zs[i]? = some z,
    fun i H => ∃ xs : List V, SqT K H a xs ∧ xs.length ≤ i⟩
def St3 (z TI TO i1 i2 i3 a b c : Addr) (i : Nat) (h : Heap) : Prop := (∃ f0 f, Zg h z TI TO f0 f ∧ Fv f0) ∧ T3 h TI (.ref i1) (.ref i2) (.ref i3) ∧ (∃ x y u, T3 h TO x y u) ∧ h.IsTupleIter i1 a i ∧ h.IsTupleIter i2 b i ∧ h.IsTupleIter i3 c i
theorem mem6 {c z TI TO i1 i2 i3 : Addr} (h : c ∈ [z, TI, TO, i1, i2, i3]) : c = z ∨ c = TI ∨ c = TO ∨ c = i1 ∨ c = i2 ∨ c = i3 := by simpa using h
theorem turn_z3 {P : Program} {w : World} {K : PySem.W.Frag} {x : Str} {pp : Pos} {a b c z TI TO i1 i2 i3 : Addr} (D : Z3 z TI TO i1 i2 i3 a b c) :
    Turn P w K (.Name x pp) (It3 K a b c) [z, TI, TO, i1, i2, i3] z (St3 z TI TO i1 i2 i3 a b c) where
  mem := by simp
  obj := fun i h st e hc => by
    obtain ⟨⟨f0, f, hz, _⟩, hTI, ⟨x, y, u, hTO⟩, ⟨o1, e1, _, d1⟩, ⟨o2, e2, _, d2⟩, ⟨o3, e3, _, d3⟩⟩ := st
    rcases mem6 hc with q | q | q | q | q | q
    · rw [q]; exact ⟨_, hz, fun v q => nomatch q⟩
    · rw [q]; exact ⟨_, hTI, fun v q => nomatch q⟩
    · rw [q]; exact ⟨_, hTO, fun v q => nomatch q⟩
    · rw [q]; exact ⟨o1, e1, fun v q => by rw [d1] at q; cases q⟩
    · rw [q]; exact ⟨o2, e2, fun v q => by rw [d2] at q; cases q⟩
    · rw [q]; exact ⟨o3, e3, fun v q => by rw [d3] at q; cases q⟩
  keep := fun i h h' st k => by
    obtain ⟨⟨f0, f, hz, hf⟩, hTI, ⟨x, y, u, hTO⟩, h1, h2, h3⟩ := st
    exact ⟨⟨f0, f, k z (by simp) _ hz, hf⟩, k TI (by simp) _ hTI, ⟨x, y, u, k TO (by simp) _ hTO⟩, h1.at fun o q => k i1 (by simp) o q, h2.at fun o q => k i2 (by simp) o q, h3.at fun o q => k i3 (by simp) o q⟩
  item := by
    intro X hP hw hK hc i pins s σ H E I hf st hg
    subst hP hw hK
    obtain ⟨⟨f0, f, hz, hfv⟩, hTI, ⟨x0, y0, u0, hTO⟩, h1, h2, h3⟩ := st
    obtain ⟨xs, ys, zs, x, y, u, hqx, hqy, hqz, hx, hy, hu⟩ := hg
    obtain ⟨its, rv, p, _⟩ := I.tuple hqx
    obtain ⟨its2, rv2, p2, _⟩ := I.tuple hqy
    obtain ⟨its3, rv3, p3, _⟩ := I.tuple hqz
    obtain ⟨v1, hv1, ru1⟩ := rv.get hx
    obtain ⟨v2, hv2, ru2⟩ := rv2.get hy
    obtain ⟨v3, hv3, ru3⟩ := rv3.get hu
    refine pyNext_z3_item D hz hfv hTI hTO h1 h2 h3 p p2 p3 (x := v1) (y := v2) (u := v3) (by simpa using hv1) (by simpa using hv2) (by simpa using hv3) fun h' g0 g z' gv TO' j1 j2 j3 hT hk => ?_
    refine ⟨_, rfl, ?_⟩
    unfold letOwnedTupleGo
    have new : ObjOk X.prog X.w (upd H s.heap.objs.size (.tup [x, y, u])) h' s.heap.objs.size (.tup [x, y, u]) :=
      ⟨by show 3 ≤ sizeLine; decide, [v1, v2, v3], .cons ru1 (.cons ru2 (.cons ru3 .nil)), ⟨_, hT, rfl, _, rfl⟩⟩
    have I1 : Inv X pins σ (upd H s.heap.objs.size (.tup [x, y, u])) { s with heap := h' } :=
      I.turnedNew (t' := s.toks) (ch := [z, TI, TO, i1, i2, i3]) (fun e o hb q => hk e o (fun q' => hb (by simp [q'])) (fun q' => hb (by simp [q'])) (fun q' => hb (by simp [q'])) (fun q' => hb (by simp [q'])) (fun q' => hb (by simp [q'])) q) hf (Nat.le_refl _) new
    refine wpAny_pure ⟨.ref s.heap.objs.size, _, I1, rfl, ⟨_, x, y, u, rfl, I.hok.fresh (Nat.le_refl _), rfl, fun l hl => by rw [I.tuple_inj hl hqx]; exact hx, fun l hl => by rw [I.tuple_inj hl hqy]; exact hy, fun l hl => by rw [I.tuple_inj hl hqz]; exact hu⟩, ⟨⟨g0, g, z', gv⟩, hk _ _ D.TIz D.TITO D.TIi.1 D.TIi.2.1 D.TIi.2.2 hTI, TO', j1, j2, j3⟩, fun e hcm => ?_⟩
    have hlt : e < s.heap.objs.size := by
      rcases mem6 hcm with q | q | q | q | q | q
      · rw [q]; exact Heap.lt_size hz
      · rw [q]; exact Heap.lt_size hTI
      · rw [q]; exact Heap.lt_size hTO
      · rw [q]; obtain ⟨_, e1, _⟩ := h1; exact Heap.lt_size e1
      · rw [q]; obtain ⟨_, e1, _⟩ := h2; exact Heap.lt_size e1
      · rw [q]; obtain ⟨_, e1, _⟩ := h3; exact Heap.lt_size e1
    rw [upd_ne (Nat.ne_of_lt hlt)]
    exact (hf e hcm).1
  done := by
    intro X hP hw hK hc i pins s σ H E I hf st hg
    subst hP hw hK
    obtain ⟨⟨f0, f, hz, hfv⟩, hTI, ⟨x0, y0, u0, hTO⟩, h1, h2, h3⟩ := st
    obtain ⟨xs, hqx, hend⟩ := hg
    obtain ⟨its, rv, p, _⟩ := I.tuple hqx
    have l1 := rv.length
    exact pyNext_z3_end (I.ok.hd hc) D hz hfv hTI h1 p (by simp; omega) fun h' hk => ⟨rfl, I.turnedL (t' := s.toks) (ch := [z, TI, TO, i1, i2, i3]) (fun e o hb q =>
      hk e o (fun q' => hb (by simp [q'])) (fun q' => hb (by simp [q'])) q) hf⟩
  self := fun A i s Q E st h => by
    obtain ⟨f0, f, hz, _⟩ := st.1
    have hT : s.TypeIs (.ref z) "zip" := ⟨_, hz, rfl⟩
    refine wpAny_pyIter_slot hT F.slot_zip_iter (wpAny_call_entry F.slot_zip_iter hT F.entry_zip_iter ?_ (F.args_zip_iter_1 _))
    show wpAny _ _ (ret (.ref z)) _ _ s
    exact wpAny_pure ⟨_, rfl, "zip", _, hT, F.slot_zip_next.lookup, h⟩
def iZip3 (K : PySem.W.Frag) (ta : TA) : TI := fun σ H R => ta σ H fun vs H1 => ∃ a b c xs ys zs, vs = [.ref a, .ref b, .ref c] ∧ SqT K H1 a xs ∧ SqT K H1 b ys ∧ SqT K H1 c zs ∧ R (It3 K a b c) H1
theorem z3_apart (n a b c : Nat) (h1 : a < n) (h2 : b < n) (h3 : c < n) : Z3 (n + 5) (n + 3) (n + 4) n (n + 1) (n + 2) a b c := by
  constructor <;> (try constructor) <;> (try constructor) <;> (try constructor) <;> (refine fun q => absurd (show @Eq Nat _ _ from q) ?_; omega)
theorem pi_zip3 {X : Cx} {e e2 e3 : Expr} {ta : TA} {p pos tpos : Pos} {x : Str} (hg : Gl X "zip") (hm : X.mg "zip" = none) (ha : PA X [e, e2, e3] ta)
    (hs : starEach [e, e2, e3] X.env = (false, eval e X.env) :: starEach [e2, e3] X.env) (hpl : (backTo pos (starEach [e2, e3] X.env)).any (·.1) = false) :
    PI X (.Name x tpos) (.Call (.Name "zip" p) [e, e2, e3] [] pos) (iZip3 X.K ta) := by
  refine ⟨fun pins s σ H R I h => ?_⟩
  refine Call_ (ld_blt I hg hm PyProof.Rows.boot_zip (PyProof.Rows.callWith_type1 (thn (ha.run pos pins s σ H _ I h) fun us s1 ⟨vs, H1, I1, r1, q1⟩ => ?_) hs hpl))
  obtain ⟨a, b, c, xs, ys, zs, ex, hqx, hqy, hqz, q⟩ := q1
  subst ex
  cases r1 with
  | cons r rr =>
    cases rr with
    | cons r' rr =>
      cases rr with
      | cons r'' rr =>
        cases rr
        cases r
        cases r'
        cases r''
        have fresh6 : ∀ c, c ∈ [s1.heap.objs.size + 5, s1.heap.objs.size + 3, s1.heap.objs.size + 4, s1.heap.objs.size, s1.heap.objs.size + 1, s1.heap.objs.size + 2] → FpOk X pins H1 c := fun c hcm => by
          have hle : s1.heap.objs.size ≤ c := by
            rcases mem6 hcm with z | z | z | z | z | z <;> rw [z]
            all_goals first | exact Nat.le_refl _ | exact Nat.le_add_right _ _
          exact I1.fpOk hle (I1.hok.fresh hle)
        obtain ⟨its, rv, p1, _⟩ := I1.tuple hqx
        obtain ⟨its2, rv2, p2, _⟩ := I1.tuple hqy
        obtain ⟨its3, rv3, p3, _⟩ := I1.tuple hqz
        obtain ⟨o1, ho1, _⟩ := id p1
        obtain ⟨o2, ho2, _⟩ := id p2
        obtain ⟨o3, ho3, _⟩ := id p3
        refine zip_begins3 (begins_tuple a its.toArray) (begins_tuple b its2.toArray) (begins_tuple c its3.toArray) p1 p2 p3 fun h' hz hTI hTO h1 h2 h3 hsz hk => wpAny_pyIter_zip hz ?_
        have I2 : Inv X pins σ H1 { s1 with heap := h' } := I1.kept (t' := s1.toks) hk
        exact ⟨s1.heap.objs.size + 5, [s1.heap.objs.size + 5, s1.heap.objs.size + 3, s1.heap.objs.size + 4, s1.heap.objs.size, s1.heap.objs.size + 1, s1.heap.objs.size + 2], _, _, H1, rfl, I2,
          turn_z3 (z3_apart s1.heap.objs.size a b c (Heap.lt_size ho1) (Heap.lt_size ho2) (Heap.lt_size ho3)), ⟨⟨_, _, hz, .inl rfl⟩, hTI, ⟨_, _, _, hTO⟩, ⟨_, h1, rfl, rfl⟩, ⟨_, h2, rfl, rfl⟩, ⟨_, h3, rfl, rfl⟩⟩, fresh6, q⟩
theorem zip3_len : ∀ (xs ys zs : List D), xs.length = ys.length → xs.length = zs.length → (zip3D xs ys zs).length = xs.length
  | [], _, _, _, _ => by unfold zip3D; rfl
  | x :: xs, [], _, h, _ => by cases h
  | x :: xs, _ :: _, [], _, h => by cases h
  | x :: xs, y :: ys, z :: zs, h, h2 => by
    unfold zip3D
    rw [List.length_cons, List.length_cons, zip3_len xs ys zs (by simpa using h) (by simpa using h2)]
theorem zip3_get : ∀ (xs ys zs : List D) (i : Nat) (d : D), (zip3D xs ys zs)[i]? = some d → ∃ x y z, xs[i]? = some x ∧ ys[i]? = some y ∧ zs[i]? = some z ∧ d = .tup [x, y, z]
  | [], _, _, i, d, h => by unfold zip3D at h; simp at h
  | _ :: _, [], _, i, d, h => by unfold zip3D at h; simp at h
  | _ :: _, _ :: _, [], i, d, h => by unfold zip3D at h; simp at h
  | x :: xs, y :: ys, z :: zs, 0, d, h => by
    unfold zip3D at h
    have h : D.tup [x, y, z] = d := by simpa using h
    exact ⟨x, y, z, rfl, rfl, rfl, h.symm⟩
  | x :: xs, y :: ys, z :: zs, i + 1, d, h => by
    unfold zip3D at h
    obtain ⟨a, b, c, h1, h2, h3, h4⟩ := zip3_get xs ys zs i d (by simpa using h)
    exact ⟨a, b, c, by simpa using h1, by simpa using h2, by simpa using h3, h4⟩
section
variable {M : Sm} {F : Hp}
theorem y_zip3 {G : Hp} {a b c : Addr} {ds es fs : List D} {vs us ws : List V} (ha : SqT M.K F a vs) (hb : SqT M.K F b us) (hc : SqT M.K F c ws) (r : RVs M F ds vs) (r2 : RVs M F es us) (r3 : RVs M F fs ws) (l1 : ds.length = es.length) (l2 : ds.length = fs.length) : Yld M G F (It3 M.K a b c) (zip3D ds es fs) := by
  refine ⟨fun i F1 H1 s t u l => ⟨vs, Same.sqt (s.trans u) ha, by rw [zip3_len _ _ _ l1 l2] at l; rw [r.len]; omega⟩, fun i d F1 H1 s t u e => ?_⟩
  obtain ⟨x, y, z, e1, e2, e3, rfl⟩ := zip3_get ds es fs i d e
  obtain ⟨v, q1, q2⟩ := r.get e1
  obtain ⟨v2, p1, p2⟩ := r2.get e2
  obtain ⟨v3, o1, o2⟩ := r3.get e3
  have hq : SqT M.K H1 a vs := Same.sqt (s.trans u) ha
  have hp : SqT M.K H1 b us := Same.sqt (s.trans u) hb
  have ho : SqT M.K H1 c ws := Same.sqt (s.trans u) hc
  refine ⟨⟨vs, us, ws, v, v2, v3, hq, hp, ho, q1, p1, o1⟩, fun x H2 hy => ?_⟩
  obtain ⟨T, y1, y2, y3, rfl, nT, rfl, f1, f2, f3⟩ := hy
  have g1 := f1 vs hq
  rw [q1] at g1
  cases g1
  have g2 := f2 us hp
  rw [p1] at g2
  cases g2
  have g3 := f3 ws ho
  rw [o1] at g3
  cases g3
  have x := Ext.new (o := .tup [v, v2, v3]) u nT
  exact ⟨_, x, T, _, rfl, .inl (.inl upd_same), RVs.cons ((q2.mono s).mono x.f) (RVs.cons ((p2.mono s).mono x.f) (RVs.cons ((o2.mono s).mono x.f) RVs.nil))⟩
end
section
variable {W : Wd} {X : Cx} {a b c e : Expr} {p q r : E} {pos : Pos}
theorem dr_zp3 {x : Str} {xp pp : Pos} {fz : Bool} (h : DZ W fz X a p) (h2 : DZ W fz X b q) (h3 : DZ W fz X c r) (hg : Gl X "zip" := by rfl) (hm : X.mg "zip" = none) (hst : starEach [a, b, c] X.env = (false, eval a X.env) :: starEach [b, c] X.env := by rfl) (hst2 : starEach [b, c] X.env = (false, eval b X.env) :: starEach [c] X.env := by rfl) (hst3 : starEach [c] X.env = [(false, eval c X.env)] := by rfl) :
    DR W fz X (.Name x xp) (.Call (.Name "zip" pp) [a, b, c] [] pos) (.zp3 p q r) :=
  PI.imp (pi_zip3 hg hm (pa_cons h (pa_cons h2 (pa_cons h3 pa_nil hst3) hst2) hst) hst (by rw [hst2, hst3]; rfl)) fun σ H R ⟨F, env, ds, s, hs, hf, ev, k⟩ => by
    replace ev : evr W.T (run W.T W.n) (.zp3 p q r) env = some ds := ev
    unfold evr at ev
    split at ev
    · rename_i xs e1
      split at ev
      · rename_i ys e2
        split at ev
        · rename_i zs e3
          obtain ⟨⟨c1, c2⟩, rfl⟩ := ite_some ev
          refine ⟨F, env, _, s, hs, hf.left, e1, fun v F1 H1 x1 r => ⟨F1, env, _, x1.s, hs.mono x1.f x1.h, (EnvF.left (EnvF.right hf)).mono x1.f, e2, fun w F2 H2 x2 r2 => ⟨F2, env, _, x2.s, (hs.mono x1.f x1.h).mono x2.f x2.h, ((EnvF.right (EnvF.right hf)).mono x1.f).mono x2.f, e3, fun z F3 H3 x3 r3 => ?_⟩⟩⟩
          obtain ⟨a1, vs, ea, ha, hv⟩ := r.tup
          obtain ⟨b1, us, eb, hb, hu⟩ := r2.tup
          obtain ⟨g1, ws, ec, hc, hw⟩ := r3.tup
          have ha2 := Same.sqt (x2.f.trans x3.f) ha
          have hb2 := Same.sqt x3.f hb
          exact ⟨a1, b1, g1, vs, us, ws, by rw [ea, eb, ec], Same.sqt x3.s ha2, Same.sqt x3.s hb2, Same.sqt x3.s hc, k _ F3 H3 ((x1.trans x2).trans x3) (y_zip3 ha2 hb2 hc (hv.mono (x2.f.trans x3.f)) (hu.mono x3.f) hw c1 c2)⟩
        · cases ev
      · cases ev
    · cases ev
end
end Nt

set_option Elab.async false
set_option linter.all false
set_option maxRecDepth 100000
set_option maxHeartbeats 4000000
/-! Instances: a class whose __init__ stores one argument, or a list of it; a class without __init__. -/
namespace Nt
open PySem PySem.Spec PyProof.Rows L2
/-- what `self.f = list(x)` (wrap) or `self.f = x` asks and leaves -/
def spI (K : PySem.W.Frag) (wrap : Bool) (f : Str) : Sp := fun vs H Q _ => ∃ x y C dx, vs = [.ref x, y] ∧ H x = some (.ins C dx []) ∧ Cls K C ∧ NoAttr K C f ∧
  ((wrap = true ∧ ∃ a xs, y = .ref a ∧ (SqL K H a xs ∨ SqT K H a xs) ∧ ∀ L, H L = none → Q .non (upd (upd H L (.lst xs)) x (.ins C dx [(f, .ref L)]))) ∨ (wrap = false ∧ Q .non (upd H x (.ins C dx [(f, y)]))))
section
variable {P : Program} {w : World} {K : PySem.W.Frag} {mg : Str → Option Value} {base : Heap} {x qual : Str} {st : Stmt} {f : Addr} {fd : FuncData} {n : Nat}
theorem spI_len {ps : List Str} {wrap : Bool} {g : Str} (h : ps.length = 2) (vs : List V) (H : Hp) (Q : VK) (E : XK) (q : spI K wrap g vs H Q E) : vs.length = ps.length := by
  obtain ⟨x, y, C, dx, rfl, _⟩ := q
  exact h.symm
theorem init_v {N ps : List Str} {g : Str} (Fu : Fun K x qual st f fd) (S : FnScope N ps (defScope st)) (hl : ps.length = 2)
    (body : ∀ (cdv : Value) (A : Around) (outer : List PySem.Env) (s : Shared) (H : Hp) (E : XK), PSs (cxOf CX0 P w K mg base N qual (defScope st) f cdv A outer s H E).nox (defBody st) (sFld K (tVar 0) (tVar 1) g)) :
    FnOk P w K mg base CX0 (n + 1) f fd ps (spI K false g) := by
  refine Fu.ok S (spI_len hl) fun cdv A outer s H vs Q E hr h => ⟨_, body cdv A outer s H E, ?_⟩
  obtain ⟨x, y, C, dx, rfl, hx, c, na, h⟩ := h
  rcases h with ⟨z, _⟩ | ⟨_, q⟩
  · cases z
  · exact ⟨y, rfl, .ref x, rfl, x, C, dx, [], rfl, hx, c, na, by decide, q⟩
theorem init_l {N ps : List Str} {g : Str} (Fu : Fun K x qual st f fd) (S : FnScope N ps (defScope st)) (hl : ps.length = 2)
    (body : ∀ (cdv : Value) (A : Around) (outer : List PySem.Env) (s : Shared) (H : Hp) (E : XK), PSs (cxOf CX0 P w K mg base N qual (defScope st) f cdv A outer s H E).nox (defBody st) (sFld K (tVar 0) (tCB (fun xs H Q => ∃ p ys, xs = [V.ref p] ∧ (SqL K H p ys ∨ SqT K H p ys) ∧ ∀ l, H l = none → Q (.ref l) (upd H l (.lst ys))) (tCons (tVar 1) tNil)) g)) :
    FnOk P w K mg base CX0 (n + 1) f fd ps (spI K true g) := by
  refine Fu.ok S (spI_len hl) fun cdv A outer s H vs Q E hr h => ⟨_, body cdv A outer s H E, ?_⟩
  obtain ⟨x, y, C, dx, rfl, hx, c, na, h⟩ := h
  rcases h with ⟨_, a, xs, rfl, hq, q⟩ | ⟨z, _⟩
  · refine ⟨.ref a, rfl, a, xs, rfl, hq, fun L hL => ⟨.ref x, rfl, x, C, dx, [], rfl, ?_, c, na, by decide, q L hL⟩⟩
    rw [upd_ne (ne_of_none hx hL)]
    exact hx
  · cases z
end
/-- the class of number c, its one field f, how __init__ stores it -/
structure MkAt (W : Wd) (X : Cx) (c : Nat) (wrap : Bool) (f : Str) : Prop where
  cls : Cls X.K (W.ca c)
  na : NoAttr X.K (W.ca c) f
  cf : W.T.cf c = some [wrap]
  cn : W.T.cn c = [f]
  ex : ∃ fi fd ps, Mk X.K (W.ca c) fi ∧ Binds X.K fd ps [] ∧ FnOk X.prog X.w X.K X.mg X.base CX0 1 fi fd ps (spI X.K wrap f)
theorem ev_mk {T : Tb} {cl : Nat → List D → Option D} {c : Nat} {ps : Es} {env : Env} {z : D} {w : Bool} (h : ev T cl (.mk c ps) env = some z) (hc : T.cf c = some [w]) :
    2 ≤ T.lv ∧ ∃ d, evs T cl ps env = some [d] ∧ ((w = true ∧ ∃ xs, seqD d = some xs ∧ z = .ins c [.lst xs]) ∨ (w = false ∧ notL d = true ∧ z = .ins c [d])) := by
  unfold ev at h
  cases e : evs T cl ps env with
  | none => rw [e] at h; cases h
  | some ds =>
    rw [e, hc] at h
    obtain ⟨⟨h1, h2, h3⟩, rfl⟩ := ite_some (show (if 2 ≤ T.lv ∧ ds.length = [w].length ∧ (ds.zip [w]).all (fun p => if p.2 then (seqD p.1).isSome else notL p.1) then some (D.ins c ((ds.zip [w]).map fun p => if p.2 then .lst ((seqD p.1).getD []) else p.1)) else none) = some z from h)
    match ds, h2, h3 with
    | [d], _, h3 =>
      refine ⟨h1, d, rfl, ?_⟩
      cases w with
      | true =>
        have h3 : (seqD d).isSome = true := by simpa using h3
        obtain ⟨xs, ex⟩ := Option.isSome_iff_exists.mp h3
        exact .inl ⟨rfl, xs, ex, by simp [ex]⟩
      | false => exact .inr ⟨rfl, by simpa using h3, by simp⟩
theorem upd_some {H : Hp} {a b : Addr} {o : _} (h : (upd H a o) b = none) : b ≠ a ∧ H b = none := by
  by_cases e : b = a
  · rw [e, upd_same] at h; cases h
  · rw [upd_ne e] at h; exact ⟨e, h⟩
section
variable {W : Wd} {X : Cx} {e : Expr} {p : E} {pos pp : Pos} {x : Str} {c : Nat} {f : Str} {wrap : Bool}
theorem de_mk (g : Gd W X) (M : MkAt W X c wrap f) (hm : X.mg x = some (.ref (W.ca c))) (ha : DAi W X [e] (.cons p .nil)) (hg : Gl X x := by rfl) (hdb : (x == ("__debug__" : Str)) = false := by decide)
    (he : starEach [e] X.env = (false, eval e X.env) :: starEach [] X.env := by rfl) (hpl : (backTo pos (starEach [] X.env)).any (·.1) = false := by rfl) : DE W X (.Call (.Name x pp) [e] [] pos) (.mk c (.cons p .nil)) := by
  obtain ⟨fi, fd, ps, mk, hb, ok⟩ := M.ex
  by_cases h2 : 2 ≤ W.n
  · refine PE.imp (pe_make (ds := []) (dvs := []) mk ok (g.room.mono h2) hg hm hb .nil pass0 ha hdb he hpl) fun σ H Q ⟨F, env, d, s, hs, hf, ev, k⟩ => ?_
    obtain ⟨_, d1, e1, e2⟩ := ev_mk ev M.cf
    refine ⟨F, env, _, s, hs, hf, e1, fun vs F1 H1 x1 r => fun y dx hy hdx hne => ?_⟩
    obtain ⟨v1, rr, rfl, r1, rn⟩ := r
    have rn : rr = [] := rn
    subst rn
    have fy : F1 y = none := x1.s.free hy
    have hyd : y ≠ dx := fun q => hne q.symm
    have hi : (upd (upd H1 dx (.own y)) y (.ins (W.ca c) dx [])) y = some (.ins (W.ca c) dx []) := upd_same
    have up : ∀ b o, H1 b = some o → (upd (upd H1 dx (.own y)) y (.ins (W.ca c) dx [])) b = some o := fun b o q => by
      rw [upd_ne (ne_of_none q hy), upd_ne (ne_of_none q hdx)]; exact q
    rcases e2 with ⟨rfl, xs, ex, rfl⟩ | ⟨rfl, hn, rfl⟩
    · have ra : ∃ a us, v1 = .ref a ∧ (SqL X.K H1 a us ∨ SqT X.K H1 a us) ∧ RVs (sm X W) F1 xs us := by
        unfold seqD at ex
        split at ex
        · cases ex
          obtain ⟨a, us, q1, q2, q3⟩ := r1
          exact ⟨a, us, q1, .inl (SqL.of q2), q3⟩
        · cases ex
          obtain ⟨a, us, q1, q2, q3⟩ := (show RV (sm X W) F1 (.tup _) v1 from r1)
          exact ⟨a, us, q1, .inr (Same.sqt x1.s q2), q3⟩
        · cases ex
      obtain ⟨a, us, rfl, hq, hu⟩ := ra
      refine ⟨y, .ref a, W.ca c, dx, rfl, hi, M.cls, M.na, .inl ⟨rfl, a, us, rfl, ?_, fun L hL => ⟨rfl, ?_⟩⟩⟩
      · have sm2 : Same H1 (upd (upd H1 dx (.own y)) y (.ins (W.ca c) dx [])) := up
        rcases hq with hq | hq
        · exact .inl (L2.Same.seq sm2 hq)
        · exact .inr (Same.sqt sm2 hq)
      · obtain ⟨n1, h3⟩ := upd_some hL
        obtain ⟨n2, hL1⟩ := upd_some h3
        have sF : Same F1 (upd F1 y (.ins (W.ca c) dx [(f, .ref L)])) := fun b o q => by rw [upd_ne (ne_of_none q fy)]; exact q
        have sH : Same H1 (upd (upd (upd (upd H1 dx (.own y)) y (.ins (W.ca c) dx [])) L (.lst us)) y (.ins (W.ca c) dx [(f, .ref L)])) := fun b o q => by
          rw [upd_ne (ne_of_none q hy), upd_ne (ne_of_none q hL1)]
          exact up b o q
        refine k (.ref y) (upd F1 y (.ins (W.ca c) dx [(f, .ref L)])) _ ⟨x1.f.trans sF, x1.h.trans sH, fun b o q => ?_, fun b o q => ?_⟩ (.inl ⟨L, x1.h.free hL1, ?_, y, dx, f, rfl, upd_same, M.cn.symm, us, ?_, hu.mono sF⟩)
        · by_cases z : b = y
          · rw [z, upd_same] at q ⊢; exact q
          · rw [upd_ne z] at q
            exact sH b o (x1.s _ _ q)
        · by_cases z : b = y
          · rw [z]; exact .inr (x1.h.free hy)
          · rw [upd_ne z] at q; exact x1.n _ _ q
        · rw [upd_ne n1]; exact x1.s.free hL1
        · rw [upd_ne n1, upd_same]
    · have rv : RV (sm X W) F1 d1 v1 := by
        cases d1 <;> first | exact r1 | (cases hn)
      refine ⟨y, v1, W.ca c, dx, rfl, hi, M.cls, M.na, .inr ⟨rfl, rfl, ?_⟩⟩
      have sF : Same F1 (upd F1 y (.ins (W.ca c) dx [(f, v1)])) := fun b o q => by rw [upd_ne (ne_of_none q fy)]; exact q
      have sH : Same H1 (upd (upd (upd H1 dx (.own y)) y (.ins (W.ca c) dx [])) y (.ins (W.ca c) dx [(f, v1)])) := fun b o q => by
        rw [upd_ne (ne_of_none q hy)]
        exact up b o q
      refine k (.ref y) (upd F1 y (.ins (W.ca c) dx [(f, v1)])) _ ⟨x1.f.trans sF, x1.h.trans sH, fun b o q => ?_, fun b o q => ?_⟩ (.inr ⟨rfl, ?_, y, dx, [(f, v1)], rfl, upd_same, M.cn.symm, v1, [], rfl, rv.mono sF, rfl⟩)
      · by_cases z : b = y
        · rw [z, upd_same] at q ⊢; exact q
        · rw [upd_ne z] at q
          exact sH b o (x1.s _ _ q)
      · by_cases z : b = y
        · rw [z]; exact .inr (x1.h.free hy)
        · rw [upd_ne z] at q; exact x1.n _ _ q
      · cases d1 <;> first | rfl | (cases hn)
  · refine ⟨fun pins s σ H Q I h => ?_⟩
    obtain ⟨F, env, d, _, _, _, ev, _⟩ := h
    obtain ⟨h3, _⟩ := ev_mk ev M.cf
    exact absurd h3 h2
/-- a class without __init__ -/
structure MkAt0 (W : Wd) (X : Cx) (c : Nat) : Prop where
  makes : PySem.W.makesIn X.K (W.ca c) = true
  init : PySem.W.findIn X.K (.ref (W.ca c)) "__init__" = some (some (.builtin "object.__init__"))
  kp : PySem.W.keepIn X.K (.ref (W.ca c)) = true
  cf : W.T.cf c = some []
  cn : W.T.cn c = []
theorem de_mk0 (g : Gd W X) (M : MkAt0 W X c) (hm : X.mg x = some (.ref (W.ca c))) (hg : Gl X x := by rfl) (hdb : (x == ("__debug__" : Str)) = false := by decide) : DE W X (.Call (.Name x pp) [] [] pos) (.mk c .nil) := by
  refine ⟨fun pins s σ H Q I h => ?_⟩
  refine wpAny_Call_Name_kw (ld_glob I hg hm ?_ hdb)
  obtain ⟨F, env, d, sm1, _, _, ev, k⟩ := h
  have hd : d = .ins c [] := by
    replace ev : Nt.ev W.T (run W.T W.n) (.mk c .nil) env = some d := ev
    unfold Nt.ev at ev
    rw [evs.eq_1] at ev
    replace ev : (match W.T.cf c with | some cf => if 2 ≤ W.T.lv ∧ ([] : List D).length = cf.length ∧ (([] : List D).zip cf).all (fun p => if p.2 then (seqD p.1).isSome else notL p.1) then some (D.ins c ((([] : List D).zip cf).map fun p => if p.2 then .lst ((seqD p.1).getD []) else p.1)) else none | none => none) = some d := ev
    rw [M.cf] at ev
    obtain ⟨_, e⟩ := ite_some ev
    exact e.symm
  subst hd
  have I2 := Inv.made (C := W.ca c) I
  have fy : F (s.heap.objs.size + 1) = none := sm1.free (I.hok.fresh (Nat.le_succ _))
  have hq : Q (.ref (s.heap.objs.size + 1)) (upd (upd H s.heap.objs.size (.own (s.heap.objs.size + 1))) (s.heap.objs.size + 1) (.ins (W.ca c) s.heap.objs.size [])) := by
    have hy : H (s.heap.objs.size + 1) = none := I.hok.fresh (Nat.le_succ _)
    have hdx : H s.heap.objs.size = none := I.hok.fresh (Nat.le_refl _)
    have sF : Same F (upd F (s.heap.objs.size + 1) (.ins (W.ca c) s.heap.objs.size [])) := fun b o q => by rw [upd_ne (ne_of_none q fy)]; exact q
    have sH : Same H (upd (upd H s.heap.objs.size (.own (s.heap.objs.size + 1))) (s.heap.objs.size + 1) (.ins (W.ca c) s.heap.objs.size [])) := fun b o q => by
      rw [upd_ne (ne_of_none q hy), upd_ne (ne_of_none q hdx)]; exact q
    refine k (.ref _) (upd F (s.heap.objs.size + 1) (.ins (W.ca c) s.heap.objs.size [])) _ ⟨sF, sH, fun b o q => ?_, fun b o q => ?_⟩ (.inr ⟨rfl, rfl, _, _, [], rfl, upd_same, M.cn.symm, rfl⟩)
    · by_cases z : b = s.heap.objs.size + 1
      · rw [z, upd_same] at q ⊢; exact q
      · rw [upd_ne z] at q
        exact sH b o (sm1 _ _ q)
    · by_cases z : b = s.heap.objs.size + 1
      · rw [z]; exact .inr hy
      · rw [upd_ne z] at q; exact .inl q
  refine PySem.W.callWith_K0 I.kIn M.kp (wpAny_call (make_map0 I.kIn M.makes M.init (fun self => PySem.W.Looks.of_pure (PySem.W.oi_bind self)) ?_))
  obtain ⟨hh, gg, dd, tt, oo⟩ := s
  have Y := PySem.W.makes_of (M := model X.prog X.w) I.kIn M.makes
  have t1 : PySem.W.Looks (model X.prog X.w) ((hh.push PySem.W.emptyDict).push (PySem.W.instObj (W.ca c) hh.objs.size)) (typeOf (.ref (hh.objs.size + 1))) (.ref (W.ca c)) :=
    (PySem.W.Looks.ld (by have := Heap.get?_push_size (hh.push PySem.W.emptyDict) (o := PySem.W.instObj (W.ca c) hh.objs.size) rfl; rwa [Heap.size_push] at this)).andThen .now
  have t2 : PySem.W.Looks (model X.prog X.w) ((hh.push PySem.W.emptyDict).push (PySem.W.instObj (W.ca c) hh.objs.size)) (isInstance (.ref (hh.objs.size + 1)) (.type "object")) true := t1.andThen (Y.top.keeps fun b o e => Heap.get?_push_of_some _ (Heap.get?_push_of_some _ e))
  refine codeAny_call_builtin PySem.W.oi_plain PySem.W.entry_oi (PySem.W.check_slot PySem.W.oi_kind PySem.W.oi_split t2 (PySem.W.oi_args (.ref (hh.objs.size + 1))) ?_)
  rw [PySem.W.oi_run]
  exact wpAny_pure (And.intro rfl ⟨.ref (hh.objs.size + 1), _, I2, rfl, hq⟩)
theorem ds_fapp {fr : Bool} {own own1 : List Nat} {st : Stmt} {i : Nat} (hc : ∀ c, W.T.cn c = [f] → Cls X.K (W.ca c) ∧ NoAttr X.K (W.ca c) f) (h : PS X st (tDrop (tBM X.K "list" rAppend (tFld X.K (tVar i) f) (tCons (tP (sm X W) W p) tNil)))) (c0 : ctn own1 i = true := by decide) (c1 : subL own1 own = true := by decide) (c2 : disL (al p) own1 = true := by decide) : DS W X fr own own1 st (.fapp i f p) := PS.imp h fun Dn σ H ⟨B, F0, H0, O, F, env, fl, j, ev, k⟩ => by
  replace ev : Nt.ex W.T (run W.T W.n) (.fapp i f p) env = some fl := ev
  unfold Nt.ex at ev
  split at ev
  · rename_i c xs e1
    split at ev
    · rename_i d e2
      obtain ⟨⟨cn, cl⟩, rfl⟩ := ite_some ev
      obtain ⟨F1, s1, j1⟩ := j.free (sub_of c1)
      have m := ctn_of c0
      obtain ⟨v, hv, ho⟩ := j1.own i _ e1 m
      split at ho
      · rename_i pp hO
        obtain ⟨a, dx, f', rfl, ha, hn, vs, hp, hr⟩ := ho
        have hn2 : [f'] = [f] := hn.trans cn
        obtain rfl : f' = f := by injection hn2
        obtain ⟨q1, q2⟩ := hc c cn
        refine ⟨_, hv, a, W.ca c, dx, _, .ref pp, rfl, j1.x.s _ _ ha, q1, q2, by simp [List.lookup], .inl ⟨rfl, _, SqL.of hp⟩, F1, env, d, j1.x.s, j1.envS, j1.envF (dis_of c2), e2, fun v F2 H2 x r => ?_⟩
        have j2 := j1.grow x
        have hr2 := hr.mono x.f
        refine ⟨pp, vs, v, rfl, rfl, x.h _ _ hp, by rw [hr.len]; exact lim_lt cl, ?_⟩
        exact k O F2 σ _ (j2.chg m hO hv ⟨a, dx, f', rfl, x.f _ _ ha, hn, _, upd_same, hr2.append (RVs.cons r RVs.nil)⟩)
      · exact absurd ho.1 (by simp [ownb])
    · cases ev
  · cases ev
end
end Nt

set_option Elab.async false
set_option linter.all false
set_option maxRecDepth 100000
set_option maxHeartbeats 4000000
/-! An assignment whose value holds no list: what is own stays own. -/
namespace Nt
open PySem PySem.Spec PyProof.Rows L2
/-- some addresses, lists all of them, are seen no more -/
def hide (F : Hp) (R : Addr → Prop) [DecidablePred R] : Hp := fun a => if R a then none else F a
section
variable {M : Sm} {F : Hp} {R : Addr → Prop} [DecidablePred R]
theorem sqt_hide (hR : ∀ a, R a → F a = none ∨ ∃ vs, F a = some (.lst vs)) {a : Addr} {xs : List V} (h : SqT M.K F a xs) : SqT M.K (hide F R) a xs := by
  rcases h with (h | ⟨o, h⟩) | h
  · refine .inl (.inl ?_)
    unfold hide
    rw [if_neg]
    · exact h
    · intro r
      rcases hR a r with e | ⟨vs, e⟩ <;> rw [e] at h <;> cases h
  · refine .inl (.inr ⟨o, ?_⟩)
    unfold hide
    rw [if_neg]
    · exact h
    · intro r
      rcases hR a r with e | ⟨vs, e⟩ <;> rw [e] at h <;> cases h
  · exact .inr h
mutual
theorem flat_rv (hR : ∀ a, R a → F a = none ∨ ∃ vs, F a = some (.lst vs)) : ∀ {d : D} {v : V}, flat d = true → RV M F d v → RV M (hide F R) d v
  | .non, _, _, h => h
  | .bl _, _, _, h => h
  | .int _, _, _, h => h
  | .str _, _, _, h => h
  | .tup ds, _, f, ⟨a, vs, e1, h1, h2⟩ => ⟨a, vs, e1, sqt_hide hR h1, flat_rvs hR f h2⟩
  | .lst _, _, f, _ => by cases f
  | .frl _, _, f, _ => by cases f
  | .ins _ _, _, f, _ => by cases f
theorem flat_rvs (hR : ∀ a, R a → F a = none ∨ ∃ vs, F a = some (.lst vs)) : ∀ {ds : List D} {vs : List V}, flats ds = true → RVs M F ds vs → RVs M (hide F R) ds vs
  | [], _, _, h => h
  | d :: ds, _, f, ⟨v, r, e1, h1, h2⟩ => by
    unfold flats at f
    rw [Bool.and_eq_true] at f
    exact ⟨v, r, e1, flat_rv hR f.1 h1, flat_rvs hR f.2 h2⟩
end
end
section
variable {M : Sm} {B F0 H0 F H : Hp} {O : Nat → Option Addr} {own : List Nat} {env : Env} {σ : L2.St}
/-- all own slots' lists are seen for a while -/
theorem SJ.lend (j : SJ M B F0 H0 O F own env σ H) : ∃ F1 : Hp, Same F F1 ∧ Same F1 H ∧ EnvS M F1 H env σ ∧ (∀ l, EnvF M F1 l env σ) ∧
    (∀ a, (∃ i ∈ own, O i = some a) → F1 a = none ∨ ∃ vs, F1 a = some (.lst vs)) ∧ ∀ a o, F1 a = some o → F a = some o ∨ ∃ i ∈ own, O i = some a := by
  classical
  let F1 : Hp := fun a => if ∃ i ∈ own, O i = some a ∧ ∃ vs, H a = some (.lst vs) then H a else F a
  have f1 : ∀ a, F1 a = if ∃ i ∈ own, O i = some a ∧ ∃ vs, H a = some (.lst vs) then H a else F a := fun _ => rfl
  have s1 : Same F F1 := fun a o e => by
    rw [f1, if_neg]
    · exact e
    · rintro ⟨i, m, q, _⟩
      rw [(j.ad i m a q).1] at e
      cases e
  have sH : Same F1 H := fun a o e => by
    rw [f1] at e
    split at e
    · exact e
    · exact j.x.s _ _ e
  have all : ∀ i d, gt env i = some d → ∃ v, σ[i]? = some (some v) ∧ RV M F1 d v := fun i d e => by
    by_cases mo : i ∈ own
    · obtain ⟨v, h1, h2⟩ := j.own i d e mo
      refine ⟨v, h1, ?_⟩
      split at h2
      · rename_i p q
        cases ob : ownb d with
        | false => exact (ro_ownb ob h2).mono s1
        | true =>
          have il : ∃ vs, H p = some (.lst vs) := by
            unfold RO at h2
            split at h2
            · obtain ⟨_, vs, z, _⟩ := h2; exact ⟨vs, z⟩
            · obtain ⟨_, _, _, _, _, _, vs, z, _⟩ := h2; exact ⟨vs, z⟩
            · rename_i h1 h2'
              unfold ownb at ob
              split at ob
              · exact absurd rfl (h1 _)
              · exact absurd rfl (h2' _ _)
              · cases ob
          refine h2.seen s1 fun o e => ?_
          rw [f1, if_pos ⟨i, mo, q, il⟩]
          exact e
      · exact h2.2.mono s1
    · obtain ⟨v, h1, h2⟩ := j.non i d e mo
      exact ⟨v, h1, h2.mono s1⟩
  refine ⟨F1, s1, sH, ⟨j.len, fun i d e => ?_⟩, fun l i _ d e => all i d e, fun a ⟨i, m, q⟩ => ?_, fun a o e => ?_⟩
  · obtain ⟨v, a, b⟩ := all i d e
    exact ⟨v, a, b.rs sH⟩
  · rw [f1]
    split
    · rename_i h
      obtain ⟨_, _, _, vs, z⟩ := h
      exact .inr ⟨vs, z⟩
    · exact .inl (j.ad i m a q).1
  · rw [f1] at e
    split at e
    · rename_i h
      obtain ⟨i, m, q, _⟩ := h
      exact .inr ⟨i, m, q⟩
    · exact .inl e
end
section
variable {W : Wd} {X : Cx} {fr : Bool} {own own1 : List Nat} {st : Stmt} {p : E}
/-- x = e, e's value without lists -/
theorem ds_asgF {i : Nat} (h : PS X st (tAsg (tD (sm X W) W p) (gName i))) (c2 : disL [i] own = true := by decide) : DS W X fr own own st (.asgF i p) := PS.imp h fun Dn σ H ⟨B, F0, H0, O, F, env, fl, j, ev, k⟩ => by
  classical
  replace ev : Nt.ex W.T (run W.T W.n) (.asgF i p) env = some fl := ev
  unfold Nt.ex at ev
  split at ev
  · rename_i d e1
    obtain ⟨hf, rfl⟩ := ite_some ev
    obtain ⟨F1, s1, sH, es, ef, hl, hn⟩ := j.lend
    refine ⟨F1, env, d, sH, es, ef _, e1, fun v F2 H2 x r => ?_⟩
    obtain ⟨F3, x3, _, r3⟩ := r.plain x
    have hR : ∀ a, (∃ i ∈ own, O i = some a) → F3 a = none ∨ ∃ vs, F3 a = some (.lst vs) := fun a q => by
      rcases hl a q with e | ⟨vs, e⟩
      · cases e3 : F3 a with
        | none => exact .inl rfl
        | some o =>
          rcases x3.n a o e3 with z | z
          · rw [e] at z; cases z
          · obtain ⟨i, m, q⟩ := q
            exact absurd z (j.ad i m a q).2.2
      · exact .inr ⟨vs, x3.f _ _ e⟩
    have r4 := flat_rv (R := fun a => ∃ i ∈ own, O i = some a) hR hf r3
    have x4 : Ext F H (hide F3 fun a => ∃ i ∈ own, O i = some a) H2 := by
      refine ⟨fun a o e => ?_, x3.h, fun a o e => ?_, fun a o e => ?_⟩
      · unfold hide
        rw [if_neg]
        · exact x3.f _ _ (s1 _ _ e)
        · rintro ⟨i, m, q⟩
          rw [(j.ad i m a q).1] at e
          cases e
      · unfold hide at e
        split at e
        · cases e
        · exact x3.s _ _ e
      · unfold hide at e
        split at e
        · cases e
        · rename_i nr
          rcases x3.n a o e with z | z
          · rcases hn a o z with w | w
            · exact .inl w
            · exact absurd w nr
          · exact .inr z
    exact k O _ _ H2 ((j.grow x4).put r4 ((dis_of c2) i (List.mem_cons_self ..)))
  · cases ev
end
end Nt

set_option Elab.async false
set_option linter.all false
/-! The defs of the program and of the laws, as IR. -/
namespace Nt
/-- is_whole: k01 k02 k03 k04 k05 k06 k07 k08 k12 -/
def fn0 : Fn := ⟨1, 1, false, (.cons (.ret (.and (.o1 (.ist .int) (.var 0)) (.o1 .not (.o1 (.ist .bool) (.var 0))))) .nil)⟩
/-- is_field: k01 k02 k03 k05 k07 k08 k12 -/
def fn1 : Fn := ⟨1, 1, false, (.cons (.ifs (.or (.o1 .not (.o1 (.ist .tup) (.var 0))) (.or (.o2 .ne (.o1 .len (.var 0)) (.lit (.int 2))) (.or (.o1 .not (.o1 (.ist .str) (.ix (.var 0) (.lit (.int 0))))) (.o1 .not (.call 0 (.cons (.ix (.var 0) (.lit (.int 1))) .nil)))))) (.cons (.ret (.lit (.bl false))) .nil) .nil) (.cons (.ifs (.o2 .eq (.ix (.var 0) (.lit (.int 0))) (.lit (.str "space"))) (.cons (.ret (.ch .le .le (.lit (.int 1)) (.ix (.var 0) (.lit (.int 1))) (.lit (.int 4)))) .nil) .nil) (.cons (.ifs (.o2 .eq (.ix (.var 0) (.lit (.int 0))) (.lit (.str "plane"))) (.cons (.ret (.o2 .mem (.ix (.var 0) (.lit (.int 1))) (.lit (.tup [(.int 2), (.int 3), (.int 5), (.int 7), (.int 11), (.int 13)])))) .nil) .nil) (.cons (.ret (.and (.o2 .eq (.ix (.var 0) (.lit (.int 0))) (.lit (.str "floor"))) (.ch .le .le (.lit (.int 1)) (.ix (.var 0) (.lit (.int 1))) (.lit (.int 12))))) .nil))))⟩
/-- check_field: k01 k02 k03 k05 k07 k08 k12 -/
def fn2 : Fn := ⟨1, 1, true, (.cons (.ifs (.o1 .not (.call 1 (.cons (.var 0) .nil))) (.cons .fail .nil) .nil) .nil)⟩
/-- places_of: k01 k02 k03 k04 k05 k06 k07 k08 k12 -/
def fn3 : Fn := ⟨1, 1, false, (.cons (.ret (.ite (.o2 .eq (.ix (.var 0) (.lit (.int 0))) (.lit (.str "space"))) (.ix (.var 0) (.lit (.int 1))) (.lit (.int 2)))) .nil)⟩
/-- numbers_of: k01 k02 k03 k04 k05 k06 k07 k08 k12 -/
def fn4 : Fn := ⟨1, 1, false, (.cons (.ret (.ite (.o2 .eq (.ix (.var 0) (.lit (.int 0))) (.lit (.str "space"))) (.lit (.int 3)) (.ix (.var 0) (.lit (.int 1))))) .nil)⟩
/-- points_of: k01 k02 k03 k04 k05 k06 k07 k08 k12 -/
def fn5 : Fn := ⟨1, 6, true, (.cons (.asg 1 (.lst (.cons (.tup .nil) .nil))) (.cons (.for (.one 2) (.r1 (.call 3 (.cons (.var 0) .nil))) (.cons (.asg 3 (.lst .nil)) (.cons (.for (.one 4) (.sq (.var 1)) (.cons (.ext 3 (.comp (.r1 (.call 4 (.cons (.var 0) .nil))) (.one 5) (.o2 .add (.var 4) (.tup (.cons (.var 5) .nil))))) .nil)) (.cons (.mov 1 3) .nil)))) (.cons (.ret (.var 1)) .nil)))⟩
/-- all_points: k01 k12 -/
def fn6 : Fn := ⟨1, 1, true, (.cons (.ex (.call 2 (.cons (.var 0) .nil))) (.cons (.ret (.call 5 (.cons (.var 0) .nil))) .nil))⟩
/-- is_point: k01 k02 k03 k04 k05 k06 k07 k08 k12 -/
def fn7 : Fn := ⟨2, 3, false, (.cons (.ifs (.or (.o1 .not (.o1 (.ist .tup) (.var 1))) (.o2 .ne (.o1 .len (.var 1)) (.call 3 (.cons (.var 0) .nil)))) (.cons (.ret (.lit (.bl false))) .nil) .nil) (.cons (.ret (.o1 .all (.comp (.sq (.var 1)) (.one 2) (.and (.call 0 (.cons (.var 2) .nil)) (.ch .le .lt (.lit (.int 0)) (.var 2) (.call 4 (.cons (.var 0) .nil))))))) .nil))⟩
/-- are_points: k01 k02 k03 k04 k05 k06 k07 k08 k12 -/
def fn8 : Fn := ⟨2, 5, false, (.cons (.ifs (.or (.o1 .not (.o1 (.ist .lst) (.var 1))) (.o1 .not (.o1 .all (.comp (.sq (.var 1)) (.one 4) (.call 7 (.cons (.var 0) (.cons (.var 4) .nil))))))) (.cons (.ret (.lit (.bl false))) .nil) .nil) (.cons (.ret (.o1 .all (.comp (.zp (.var 1) (.slL (.var 1) (.lit (.int 1)))) (.many [2, 3]) (.o2 .lt (.var 2) (.var 3))))) .nil))⟩
/-- check_points: k01 k02 k03 k07 k08 k12 -/
def fn9 : Fn := ⟨2, 2, true, (.cons (.ifs (.o1 .not (.call 8 (.cons (.var 0) (.cons (.var 1) .nil)))) (.cons .fail .nil) .nil) .nil)⟩
/-- lined: k01 k02 k03 k04 k05 k06 k07 k12 -/
def fn10 : Fn := ⟨4, 8, false, (.cons (.ifs (.o2 .eq (.ix (.var 0) (.lit (.int 0))) (.lit (.str "space"))) (.cons (.ret (.o1 .all (.comp (.zp3 (.var 1) (.var 2) (.var 3)) (.one 7) (.o2 .eq (.o2 .mod (.o1 .sum (.var 7)) (.lit (.int 3))) (.lit (.int 0)))))) .nil) .nil) (.cons (.par 5 6 (.tup (.cons (.o2 .sub (.ix (.var 2) (.lit (.int 0))) (.ix (.var 1) (.lit (.int 0)))) (.cons (.o2 .sub (.ix (.var 2) (.lit (.int 1))) (.ix (.var 1) (.lit (.int 1)))) .nil))) (.tup (.cons (.o2 .sub (.ix (.var 3) (.lit (.int 0))) (.ix (.var 1) (.lit (.int 0)))) (.cons (.o2 .sub (.ix (.var 3) (.lit (.int 1))) (.ix (.var 1) (.lit (.int 1)))) .nil)))) (.cons (.asg 4 (.o2 .sub (.o2 .mul (.ix (.var 5) (.lit (.int 0))) (.ix (.var 6) (.lit (.int 1)))) (.o2 .mul (.ix (.var 5) (.lit (.int 1))) (.ix (.var 6) (.lit (.int 0)))))) (.cons (.ret (.ite (.o2 .eq (.ix (.var 0) (.lit (.int 0))) (.lit (.str "floor"))) (.o2 .eq (.var 4) (.lit (.int 0))) (.o2 .eq (.o2 .mod (.var 4) (.ix (.var 0) (.lit (.int 1)))) (.lit (.int 0))))) .nil))))⟩
/-- in_line: k01 k12 -/
def fn11 : Fn := ⟨2, 2, false, (.cons (.ex (.call 2 (.cons (.var 0) .nil))) (.cons (.ex (.call 9 (.cons (.var 0) (.cons (.var 1) .nil)))) (.cons (.ifs (.o2 .ne (.o1 .len (.var 1)) (.lit (.int 3))) (.cons .fail .nil) .nil) (.cons (.ret (.call 10 (.cons (.var 0) (.cons (.ix (.var 1) (.lit (.int 0))) (.cons (.ix (.var 1) (.lit (.int 1))) (.cons (.ix (.var 1) (.lit (.int 2))) .nil)))))) .nil))))⟩
/-- _law_cell_at: k01 k02 k03 k04 k05 k06 k07 k08 k12 -/
def fn12 : Fn := ⟨2, 2, false, (.cons (.ifs (.o2 .lt (.var 1) (.o1 .len (.var 0))) (.cons (.ret (.ix (.var 0) (.var 1))) .nil) .nil) (.cons (.ret (.lit (.int 0))) .nil))⟩
/-- _law_draw: k01 k02 k03 k04 k05 k06 k07 k08 k12 -/
def fn13 : Fn := ⟨3, 4, false, (.cons (.asg 3 (.tup (.cons (.lit (.int 1000003)) (.cons (.lit (.int 1000033)) (.cons (.lit (.int 1000037)) (.cons (.lit (.int 1000039)) (.cons (.lit (.int 1000081)) (.cons (.lit (.int 1000099)) (.cons (.lit (.int 1000117)) (.cons (.lit (.int 1000121)) (.cons (.lit (.int 1000133)) (.cons (.lit (.int 1000151)) (.cons (.lit (.int 1000159)) (.cons (.lit (.int 1000171)) (.cons (.lit (.int 1000183)) (.cons (.lit (.int 1000187)) (.cons (.lit (.int 1000193)) (.cons (.lit (.int 1000199)) .nil)))))))))))))))))) (.cons (.ret (.o2 .mod (.o2 .mod (.o2 .add (.o2 .mul (.var 0) (.lit (.int 48271))) (.o2 .mul (.var 1) (.lit (.int 69621)))) (.ix (.var 3) (.o2 .mod (.var 1) (.lit (.int 16))))) (.var 2))) .nil))⟩
/-- _law_value: k01 k02 k03 k04 k05 k06 k07 k08 k12 -/
def fn14 : Fn := ⟨2, 4, false, (.cons (.ifs (.o2 .ge (.var 0) (.o2 .pow (.lit (.int 10)) (.lit (.int 18)))) (.cons (.ret (.o2 .shr (.o2 .mod (.o2 .sub (.var 0) (.o2 .pow (.lit (.int 10)) (.lit (.int 18)))) (.o2 .pow (.lit (.int 10)) (.lit (.int 40)))) (.o2 .mul (.lit (.int 3)) (.var 1)))) .nil) .nil) (.cons (.asg 2 (.o2 .mod (.var 0) (.o2 .pow (.lit (.int 10)) (.lit (.int 18))))) (.cons (.asg 3 (.call 13 (.cons (.o2 .mul (.o2 .add (.var 2) (.o2 .mul (.lit (.int 977)) (.var 1))) (.o2 .add (.o2 .add (.var 2) (.o2 .mul (.lit (.int 31)) (.var 1))) (.lit (.int 5)))) (.cons (.o2 .add (.o2 .mod (.var 1) (.lit (.int 9))) (.lit (.int 1))) (.cons (.lit (.int 999983)) .nil))))) (.cons (.ret (.o2 .add (.o2 .mul (.var 3) (.lit (.int 1000003))) (.call 13 (.cons (.o2 .add (.o2 .mul (.o2 .add (.var 2) (.o2 .mul (.lit (.int 31)) (.var 1))) (.o2 .add (.var 2) (.lit (.int 7)))) (.o2 .mul (.lit (.int 977)) (.var 1))) (.cons (.o2 .add (.o2 .mod (.var 1) (.lit (.int 7))) (.lit (.int 2))) (.cons (.lit (.int 1000003)) .nil)))))) .nil))))⟩
/-- _law_says: k01 k02 k03 k04 k05 k06 -/
def fn15 : Fn := ⟨2, 2, false, (.cons (.ret (.and (.o1 (.ist .bool) (.var 0)) (.o2 .eq (.var 0) (.var 1)))) .nil)⟩
/-- _law_field: k01 k02 k03 k04 k12 -/
def fn16 : Fn := ⟨2, 5, false, (.cons (.asg 2 (.call 12 (.cons (.var 0) (.cons (.var 1) .nil)))) (.cons (.par 3 4 (.o2 .mod (.call 14 (.cons (.var 2) (.cons (.lit (.int 1)) .nil))) (.lit (.int 3))) (.call 14 (.cons (.var 2) (.cons (.lit (.int 2)) .nil)))) (.cons (.ifs (.o2 .eq (.var 3) (.lit (.int 0))) (.cons (.ret (.tup (.cons (.lit (.str "space")) (.cons (.o2 .add (.lit (.int 1)) (.o2 .mod (.var 4) (.lit (.int 4)))) .nil)))) .nil) .nil) (.cons (.ret (.ite (.o2 .eq (.var 3) (.lit (.int 1))) (.tup (.cons (.lit (.str "plane")) (.cons (.ix (.tup (.cons (.lit (.int 2)) (.cons (.lit (.int 3)) (.cons (.lit (.int 5)) (.cons (.lit (.int 7)) (.cons (.lit (.int 11)) (.cons (.lit (.int 13)) .nil))))))) (.o2 .mod (.var 4) (.lit (.int 6)))) .nil))) (.tup (.cons (.lit (.str "floor")) (.cons (.o2 .add (.lit (.int 1)) (.o2 .mod (.var 4) (.lit (.int 12)))) .nil))))) .nil))))⟩
/-- _law_every: k01 k02 k03 k04 k05 k06 k07 k08 k12 -/
def fn17 : Fn := ⟨1, 7, true, (.cons (.unp [3, 4] (.ite (.o2 .eq (.ix (.var 0) (.lit (.int 0))) (.lit (.str "space"))) (.tup (.cons (.ix (.var 0) (.lit (.int 1))) (.cons (.lit (.int 3)) .nil))) (.tup (.cons (.lit (.int 2)) (.cons (.ix (.var 0) (.lit (.int 1))) .nil))))) (.cons (.asg 1 (.lst .nil)) (.cons (.for (.one 2) (.r1 (.call 18 (.cons (.var 4) (.cons (.var 3) .nil)))) (.cons (.asg 5 (.lst .nil)) (.cons (.for (.one 6) (.r1 (.var 3)) (.cons (.asg 5 (.o2 .add (.lst (.cons (.o2 .mod (.var 2) (.var 4)) .nil)) (.var 5))) (.cons (.asg 2 (.o2 .fdiv (.var 2) (.var 4))) .nil))) (.cons (.app 1 (.o1 .tup (.var 5))) .nil)))) (.cons (.ret (.var 1)) .nil))))⟩
/-- _law_power: k01 k02 k03 k04 k05 k06 k07 k08 k12 -/
def fn18 : Fn := ⟨2, 4, false, (.cons (.asg 2 (.lit (.int 1))) (.cons (.for (.one 3) (.r1 (.var 1)) (.cons (.asg 2 (.o2 .mul (.var 2) (.var 0))) .nil)) (.cons (.ret (.var 2)) .nil)))⟩
/-- _law_lined: k01 k02 k03 k04 k05 k06 k07 k08 k12 -/
def fn19 : Fn := ⟨4, 7, false, (.cons (.ifs (.o2 .eq (.ix (.var 0) (.lit (.int 0))) (.lit (.str "space"))) (.cons (.ret (.o1 .all (.comp (.r1 (.o1 .len (.var 1))) (.one 6) (.o2 .eq (.o2 .mod (.o2 .add (.o2 .add (.ix (.var 1) (.var 6)) (.ix (.var 2) (.var 6))) (.ix (.var 3) (.var 6))) (.lit (.int 3))) (.lit (.int 0)))))) .nil) .nil) (.cons (.asg 4 (.o2 .mul (.o2 .sub (.ix (.var 2) (.lit (.int 0))) (.ix (.var 1) (.lit (.int 0)))) (.o2 .sub (.ix (.var 3) (.lit (.int 1))) (.ix (.var 1) (.lit (.int 1)))))) (.cons (.asg 5 (.o2 .sub (.var 4) (.o2 .mul (.o2 .sub (.ix (.var 2) (.lit (.int 1))) (.ix (.var 1) (.lit (.int 1)))) (.o2 .sub (.ix (.var 3) (.lit (.int 0))) (.ix (.var 1) (.lit (.int 0))))))) (.cons (.ret (.or (.o2 .eq (.var 5) (.lit (.int 0))) (.and (.o2 .eq (.ix (.var 0) (.lit (.int 0))) (.lit (.str "plane"))) (.o2 .eq (.o2 .mod (.var 5) (.ix (.var 0) (.lit (.int 1)))) (.lit (.int 0)))))) .nil))))⟩
/-- lines_with: k02 k03 k04 k05 k07 k12 -/
def fn21 : Fn := ⟨3, 6, true, (.cons (.for (.many [3, 4]) (.en (.var 1)) (.cons (.ifs (.o1 .any (.comp (.sq (.slH (.var 1) (.var 3))) (.one 5) (.call 10 (.cons (.var 0) (.cons (.var 4) (.cons (.var 5) (.cons (.var 2) .nil))))))) (.cons (.ret (.lit (.bl true))) .nil) .nil) .nil)) (.cons (.ret (.lit (.bl false))) .nil))⟩
/-- first_line: k02 k03 k04 k05 k06 k07 k12 -/
def fn22 : Fn := ⟨2, 6, true, (.cons (.for (.many [2, 3]) (.en (.var 1)) (.cons (.for (.one 4) (.r2 (.o2 .add (.var 2) (.lit (.int 1))) (.o1 .len (.var 1))) (.cons (.for (.one 5) (.sq (.slL (.var 1) (.o2 .add (.var 4) (.lit (.int 1))))) (.cons (.ifs (.call 10 (.cons (.var 0) (.cons (.var 3) (.cons (.ix (.var 1) (.var 4)) (.cons (.var 5) .nil))))) (.cons (.ret (.lst (.cons (.var 3) (.cons (.ix (.var 1) (.var 4)) (.cons (.var 5) .nil))))) .nil) .nil) .nil)) .nil)) .nil)) (.cons (.ret (.lit .non)) .nil))⟩
/-- first_more: k02 k03 k04 k12 -/
def fn23 : Fn := ⟨2, 3, false, (.cons (.for (.one 2) (.sq (.call 5 (.cons (.var 0) .nil))) (.cons (.ifs (.and (.o2 .nmem (.var 2) (.var 1)) (.o1 .not (.call 21 (.cons (.var 0) (.cons (.var 1) (.cons (.var 2) .nil)))))) (.cons (.ret (.var 2)) .nil) .nil) .nil)) (.cons (.ret (.lit .non)) .nil))⟩
/-- bars: k02 k05 k06 k12 -/
def fn24 : Fn := ⟨5, 8, false, (.cons (.ifs (.o2 .eq (.ix (.var 2) (.lit (.int 0))) (.lit (.str "few"))) (.cons (.ret (.o2 .lt (.o2 .add (.o2 .sub (.o1 .len (.call 5 (.cons (.var 0) .nil))) (.o1 .len (.var 4))) (.o1 .len (.var 3))) (.var 1))) .nil) .nil) (.cons (.ifs (.o2 .eq (.ix (.var 2) (.lit (.int 0))) (.lit (.str "line"))) (.cons (.asg 7 (.o1 .sort (.slL (.var 2) (.lit (.int 1))))) (.cons (.ifs (.or (.o1 .not (.o1 .all (.comp (.sq (.var 7)) (.one 5) (.o2 .mem (.var 5) (.var 3))))) (.or (.o2 .eq (.ix (.var 7) (.lit (.int 0))) (.ix (.var 7) (.lit (.int 1)))) (.o2 .eq (.ix (.var 7) (.lit (.int 1))) (.ix (.var 7) (.lit (.int 2)))))) (.cons (.ret (.lit (.bl false))) .nil) .nil) (.cons (.ret (.call 10 (.cons (.var 0) (.cons (.ix (.var 7) (.lit (.int 0))) (.cons (.ix (.var 7) (.lit (.int 1))) (.cons (.ix (.var 7) (.lit (.int 2))) .nil)))))) .nil))) .nil) (.cons (.asg 5 (.ix (.var 2) (.lit (.int 1)))) (.cons (.ifs (.or (.o1 .not (.call 7 (.cons (.var 0) (.cons (.var 5) .nil)))) (.o2 .mem (.var 5) (.var 4))) (.cons (.ret (.lit (.bl false))) .nil) .nil) (.cons (.asg 6 (.o2 .add (.var 4) (.lst (.cons (.var 5) .nil)))) (.cons (.ret (.and (.call 24 (.cons (.var 0) (.cons (.var 1) (.cons (.ix (.var 2) (.lit (.int 2))) (.cons (.var 3) (.cons (.var 6) .nil)))))) (.call 24 (.cons (.var 0) (.cons (.var 1) (.cons (.ix (.var 2) (.lit (.int 3))) (.cons (.o2 .add (.var 3) (.lst (.cons (.var 5) .nil))) (.cons (.var 6) .nil)))))))) .nil))))))⟩
/-- Clear.shows: k02 k03 k04 k05 k12 -/
def fn25 : Fn := ⟨3, 3, false, (.cons (.ret (.o2 .is (.call 22 (.cons (.var 1) (.cons (.var 2) .nil))) (.lit .non))) .nil)⟩
/-- Line.shows: k02 k03 k04 k05 k12 -/
def fn26 : Fn := ⟨3, 5, false, (.cons (.asg 3 (.fld (.var 0) "points")) (.cons (.ifs (.or (.o2 .ne (.o1 .len (.var 3)) (.lit (.int 3))) (.or (.o1 .not (.call 8 (.cons (.var 1) (.cons (.var 3) .nil)))) (.o1 .not (.o1 .all (.comp (.sq (.var 3)) (.one 4) (.o2 .mem (.var 4) (.var 2))))))) (.cons (.ret (.lit (.bl false))) .nil) .nil) (.cons (.ret (.call 10 (.cons (.var 1) (.cons (.ix (.var 3) (.lit (.int 0))) (.cons (.ix (.var 3) (.lit (.int 1))) (.cons (.ix (.var 3) (.lit (.int 2))) .nil)))))) .nil)))⟩
/-- Closed.shows: k02 k03 k04 k12 -/
def fn27 : Fn := ⟨3, 3, false, (.cons (.ret (.o2 .is (.call 23 (.cons (.var 1) (.cons (.var 2) .nil))) (.lit .non))) .nil)⟩
/-- More.shows: k02 k03 k04 k12 -/
def fn28 : Fn := ⟨3, 3, false, (.cons (.ifs (.or (.o1 .not (.call 7 (.cons (.var 1) (.cons (.fld (.var 0) "point") .nil)))) (.o2 .mem (.fld (.var 0) "point") (.var 2))) (.cons (.ret (.lit (.bl false))) .nil) .nil) (.cons (.ret (.o1 .not (.call 21 (.cons (.var 1) (.cons (.var 2) (.cons (.fld (.var 0) "point") .nil)))))) .nil))⟩
/-- So.shows: k02 k05 k06 k12 -/
def fn29 : Fn := ⟨3, 3, false, (.cons (.ifs (.or (.o2 .ne (.o1 .len (.fld (.var 0) "points")) (.var 2)) (.o1 .not (.call 8 (.cons (.var 1) (.cons (.fld (.var 0) "points") .nil))))) (.cons (.ret (.lit (.bl false))) .nil) .nil) (.cons (.ret (.o2 .is (.call 22 (.cons (.var 1) (.cons (.fld (.var 0) "points") .nil))) (.lit .non))) .nil))⟩
/-- Cases.shows: k02 k05 k06 k12 -/
def fn30 : Fn := ⟨3, 3, false, (.cons (.ret (.call 24 (.cons (.var 1) (.cons (.var 2) (.cons (.fld (.var 0) "tree") (.cons (.lst .nil) (.cons (.lst .nil) .nil))))))) .nil)⟩
/-- judged: k02 k12 -/
def fn31 : Fn := ⟨2, 3, true, (.cons (.ex (.call 2 (.cons (.var 0) .nil))) (.cons (.ex (.call 9 (.cons (.var 0) (.cons (.var 1) .nil)))) (.cons (.asg 2 (.call 22 (.cons (.var 0) (.cons (.var 1) .nil)))) (.cons (.ret (.ite (.o2 .is (.var 2) (.lit .non)) (.mk 1 .nil) (.mk 2 (.cons (.var 2) .nil)))) .nil))))⟩
/-- threes: k02 k12 -/
def fn32 : Fn := ⟨2, 7, false, (.cons (.ex (.call 2 (.cons (.var 0) .nil))) (.cons (.ex (.call 9 (.cons (.var 0) (.cons (.var 1) .nil)))) (.cons (.asg 2 (.lit (.int 0))) (.cons (.for (.many [3, 4]) (.en (.var 1)) (.cons (.for (.one 5) (.r2 (.o2 .add (.var 3) (.lit (.int 1))) (.o1 .len (.var 1))) (.cons (.asg 2 (.o2 .adi (.var 2) (.o1 .len (.compI (.sq (.slL (.var 1) (.o2 .add (.var 5) (.lit (.int 1))))) (.one 6) (.call 10 (.cons (.var 0) (.cons (.var 4) (.cons (.ix (.var 1) (.var 5)) (.cons (.var 6) .nil))))) (.var 6))))) .nil)) .nil)) (.cons (.ret (.var 2)) .nil)))))⟩
/-- _law_whole: k02 k05 k07 -/
def fn33 : Fn := ⟨1, 1, false, (.cons (.ret (.and (.o1 (.ist .int) (.var 0)) (.o1 .not (.o1 (.ist .bool) (.var 0))))) .nil)⟩
/-- _law_threes: k02 k03 k04 k05 k06 k08 k12 -/
def fn34 : Fn := ⟨2, 7, true, (.cons (.asg 2 (.lst .nil)) (.cons (.for (.many [3, 4]) (.en (.var 1)) (.cons (.for (.one 5) (.r2 (.o2 .add (.var 3) (.lit (.int 1))) (.o1 .len (.var 1))) (.cons (.for (.one 6) (.sq (.slL (.var 1) (.o2 .add (.var 5) (.lit (.int 1))))) (.cons (.ifs (.call 19 (.cons (.var 0) (.cons (.var 4) (.cons (.ix (.var 1) (.var 5)) (.cons (.var 6) .nil))))) (.cons (.app 2 (.lst (.cons (.var 4) (.cons (.ix (.var 1) (.var 5)) (.cons (.var 6) .nil))))) .nil) .nil) .nil)) .nil)) .nil)) (.cons (.ret (.var 2)) .nil)))⟩
/-- _law_points: k02 k03 k04 k06 k08 k12 -/
def fn35 : Fn := ⟨4, 8, true, (.cons (.par 5 6 (.call 17 (.cons (.var 2) .nil)) (.lst .nil)) (.cons (.for (.one 4) (.r1 (.o2 .mod (.call 14 (.cons (.call 12 (.cons (.var 0) (.cons (.var 1) .nil))) (.cons (.lit (.int 5)) .nil))) (.o2 .add (.var 3) (.lit (.int 1))))) (.cons (.asg 7 (.o2 .fdiv (.call 14 (.cons (.o2 .add (.call 12 (.cons (.var 0) (.cons (.o2 .add (.var 1) (.o2 .mod (.var 4) (.lit (.int 5)))) .nil))) (.o2 .mul (.lit (.int 17)) (.var 4))) (.cons (.o2 .add (.lit (.int 2)) (.o2 .mod (.var 4) (.lit (.int 6)))) .nil))) (.lit (.int 3)))) (.cons (.app 6 (.ix (.var 5) (.o2 .mod (.var 7) (.o1 .len (.var 5))))) .nil))) (.cons (.ret (.o1 .ssort (.var 6))) .nil)))⟩
/-- _law_clear: k02 k03 k04 k06 k08 k12 -/
def fn36 : Fn := ⟨4, 6, true, (.cons (.asg 4 (.lst .nil)) (.cons (.for (.one 5) (.sq (.call 35 (.cons (.var 0) (.cons (.var 1) (.cons (.var 2) (.cons (.var 3) .nil)))))) (.cons (.ifs (.o2 .eq (.call 34 (.cons (.var 2) (.cons (.o2 .add (.var 4) (.lst (.cons (.var 5) .nil))) .nil))) (.lst .nil)) (.cons (.app 4 (.var 5)) .nil) .nil) .nil)) (.cons (.ret (.var 4)) .nil)))⟩
/-- _law_due: k05 k06 -/
def fn37_k05 : Fn := ⟨3, 5, false, (.cons (.asg 3 (.call 17 (.cons (.var 0) .nil))) (.cons (.ifs (.o1 (.ist (.cls 6)) (.var 2)) (.cons (.ret (.call 54 (.cons (.var 0) (.cons (.var 3) (.cons (.var 1) (.cons (.fld (.var 2) "tree") (.cons (.lst .nil) (.cons (.lst .nil) .nil)))))))) .nil) .nil) (.cons (.ifs (.or (.o2 .ne (.o1 .len (.fld (.var 2) "points")) (.var 1)) (.o1 .not (.o1 .all (.comp (.sq (.fld (.var 2) "points")) (.one 4) (.o2 .mem (.var 4) (.var 3)))))) (.cons (.ret (.lit (.bl false))) .nil) .nil) (.cons (.ret (.and (.o2 .eq (.fld (.var 2) "points") (.o1 .ssort (.fld (.var 2) "points"))) (.o2 .eq (.call 34 (.cons (.var 0) (.cons (.fld (.var 2) "points") .nil))) (.lst .nil)))) .nil))))⟩
/-- _law_due: k02 -/
def fn37_k02 : Fn := ⟨3, 3, false, (.cons (.ifs (.o1 (.ist (.cls 1)) (.var 2)) (.cons (.ret (.o2 .eq (.call 34 (.cons (.var 0) (.cons (.var 1) .nil))) (.lst .nil))) .nil) .nil) (.cons (.ret (.o2 .mem (.fld (.var 2) "points") (.call 34 (.cons (.var 0) (.cons (.var 1) .nil))))) .nil))⟩
/-- _law_right: k02 -/
def fn38_k02 : Fn := ⟨3, 9, true, (.cons (.par 4 5 (.o1 .lst (.var 1)) (.call 34 (.cons (.var 0) (.cons (.var 1) .nil)))) (.cons (.ifs (.or (.o1 .not (.call 33 (.cons (.call 32 (.cons (.var 0) (.cons (.var 4) .nil))) .nil))) (.o2 .ne (.call 32 (.cons (.var 0) (.cons (.var 4) .nil))) (.o1 .len (.var 5)))) (.cons (.ret (.lit (.bl false))) .nil) .nil) (.cons (.for (.one 3) (.r1 (.lit (.int 2))) (.cons (.asg 6 (.call 31 (.cons (.var 0) (.cons (.var 4) .nil)))) (.cons (.asg 7 (.lst (.cons (.o1 (.ist (.cls 1)) (.var 6)) (.cons (.o1 (.ist (.cls 2)) (.var 6)) .nil)))) (.cons (.ifs (.or (.o1 .not (.o1 (.ist (.cls 0)) (.var 6))) (.or (.o2 .ne (.var 7) (.lst (.cons (.o2 .eq (.var 5) (.lst .nil)) (.cons (.o2 .ne (.var 5) (.lst .nil)) .nil)))) (.o2 .ne (.var 4) (.var 1)))) (.cons (.ret (.lit (.bl false))) .nil) .nil) (.cons (.ifs (.or (.o1 (.ist (.cls 3)) (.var 6)) (.or (.o1 (.ist (.cls 4)) (.var 6)) (.or (.o1 (.ist (.cls 5)) (.var 6)) (.o1 (.ist (.cls 6)) (.var 6))))) (.cons (.ret (.lit (.bl false))) .nil) .nil) (.cons (.ifs (.or (.and (.o2 .ne (.var 5) (.lst .nil)) (.o2 .ne (.fld (.var 6) "points") (.ix (.var 5) (.lit (.int 0))))) (.o2 .isn (.shows (.var 6) (.cons (.var 0) (.cons (.var 1) .nil))) (.lit (.bl true)))) (.cons (.ret (.lit (.bl false))) .nil) .nil) (.cons (.for (.one 8) (.sq (.var 2)) (.cons (.ifs (.o1 .not (.call 15 (.cons (.shows (.var 6) (.cons (.var 0) (.cons (.var 8) .nil))) (.cons (.call 37 (.cons (.var 0) (.cons (.var 8) (.cons (.var 6) .nil)))) .nil)))) (.cons (.ret (.lit (.bl false))) .nil) .nil) .nil)) (.cons (.ifs (.o2 .ne (.var 5) (.lst .nil)) (.cons (.fapp 6 "points" (.ix (.ix (.var 5) (.lit (.int 0))) (.lit (.int 0)))) (.cons (.ifs (.o2 .isn (.shows (.var 6) (.cons (.var 0) (.cons (.var 1) .nil))) (.lit (.bl false))) (.cons (.ret (.lit (.bl false))) .nil) .nil) .nil)) .nil) .nil)))))))) (.cons (.ret (.lit (.bl true))) .nil))))⟩
/-- _law_right: k03 -/
def fn38_k03 : Fn := ⟨3, 11, true, (.cons (.par 4 5 (.o1 .lst (.var 1)) (.call 43 (.cons (.var 0) (.cons (.var 1) .nil)))) (.cons (.for (.one 3) (.r1 (.lit (.int 2))) (.cons (.asg 6 (.call 40 (.cons (.var 0) (.cons (.var 4) .nil)))) (.cons (.asg 7 (.lst (.cons (.o1 (.ist (.cls 3)) (.var 6)) (.cons (.o1 (.ist (.cls 4)) (.var 6)) .nil)))) (.cons (.ifs (.or (.o1 .not (.o1 (.ist (.cls 0)) (.var 6))) (.or (.o2 .ne (.var 7) (.lst (.cons (.o2 .eq (.var 5) (.lst .nil)) (.cons (.o2 .ne (.var 5) (.lst .nil)) .nil)))) (.o2 .ne (.var 4) (.var 1)))) (.cons (.ret (.lit (.bl false))) .nil) .nil) (.cons (.ifs (.or (.o1 (.ist (.cls 1)) (.var 6)) (.or (.o1 (.ist (.cls 2)) (.var 6)) (.o2 .isn (.shows (.var 6) (.cons (.var 0) (.cons (.var 1) .nil))) (.lit (.bl true))))) (.cons (.ret (.lit (.bl false))) .nil) .nil) (.cons (.ifs (.and (.o2 .ne (.var 5) (.lst .nil)) (.or (.o2 .ne (.fld (.var 6) "point") (.ix (.var 5) (.lit (.int 0)))) (.o1 .not (.o1 (.ist .tup) (.fld (.var 6) "point"))))) (.cons (.ret (.lit (.bl false))) .nil) .nil) (.cons (.for (.one 8) (.sq (.var 2)) (.cons (.asg 9 (.call 43 (.cons (.var 0) (.cons (.var 8) .nil)))) (.cons (.asg 10 (.ite (.o1 (.ist (.cls 3)) (.var 6)) (.o2 .eq (.var 9) (.lst .nil)) (.o2 .mem (.fld (.var 6) "point") (.var 9)))) (.cons (.ifs (.o1 .not (.call 15 (.cons (.shows (.var 6) (.cons (.var 0) (.cons (.var 8) .nil))) (.cons (.var 10) .nil)))) (.cons (.ret (.lit (.bl false))) .nil) .nil) .nil)))) .nil))))))) (.cons (.ret (.lit (.bl true))) .nil)))⟩
/-- _law_right: k05 -/
def fn38_k05 : Fn := ⟨4, 11, true, (.cons (.asg 4 (.compI (.sq (.var 2)) (.one 8) (.o2 .eq (.o1 .len (.var 8)) (.var 1)) (.var 8))) (.cons (.for (.one 5) (.r1 (.lit (.int 2))) (.cons (.asg 6 (.call 52 (.cons (.var 0) (.cons (.var 1) .nil)))) (.cons (.asg 7 (.lst (.cons (.o1 (.ist (.cls 5)) (.var 6)) (.cons (.o1 (.ist (.cls 6)) (.var 6)) .nil)))) (.cons (.ifs (.or (.o1 .not (.o1 (.ist (.cls 0)) (.var 6))) (.o2 .ne (.var 7) (.lst (.cons (.o2 .ne (.var 4) (.lst .nil)) (.cons (.o2 .eq (.var 4) (.lst .nil)) .nil))))) (.cons (.ret (.lit (.bl false))) .nil) .nil) (.cons (.ifs (.or (.o1 (.ist (.cls 1)) (.var 6)) (.or (.o1 (.ist (.cls 2)) (.var 6)) (.o1 .not (.call 37 (.cons (.var 0) (.cons (.var 1) (.cons (.var 6) .nil))))))) (.cons (.ret (.lit (.bl false))) .nil) .nil) (.cons (.ifs (.or (.and (.o2 .ne (.var 4) (.lst .nil)) (.o2 .ne (.fld (.var 6) "points") (.ix (.var 4) (.lit (.int 0))))) (.and (.o2 .eq (.var 4) (.lst .nil)) (.o1 .not (.call 57 (.cons (.fld (.var 6) "tree") .nil))))) (.cons (.ret (.lit (.bl false))) .nil) .nil) (.cons (.ifs (.o2 .isn (.shows (.var 6) (.cons (.var 0) (.cons (.var 1) .nil))) (.lit (.bl true))) (.cons (.ret (.lit (.bl false))) .nil) .nil) (.cons (.for (.many [9, 10]) (.sq (.tup (.cons (.tup (.cons (.var 0) (.cons (.o2 .add (.var 1) (.lit (.int 1))) .nil))) (.cons (.tup (.cons (.var 0) (.cons (.o2 .max (.lit (.int 0)) (.o2 .sub (.var 1) (.lit (.int 1)))) .nil))) (.cons (.tup (.cons (.var 3) (.cons (.var 1) .nil))) .nil))))) (.cons (.ifs (.o1 .not (.call 15 (.cons (.shows (.var 6) (.cons (.var 9) (.cons (.var 10) .nil))) (.cons (.call 37 (.cons (.var 9) (.cons (.var 10) (.cons (.var 6) .nil)))) .nil)))) (.cons (.ret (.lit (.bl false))) .nil) .nil) .nil)) (.cons (.ifs (.o2 .ne (.var 4) (.lst .nil)) (.cons (.fapp 6 "points" (.ite (.o2 .gt (.var 1) (.lit (.int 0))) (.ix (.ix (.var 4) (.lit (.int 0))) (.lit (.int 0))) (.tup (.cons (.lit (.int 0)) (.cons (.lit (.int 0)) .nil))))) (.cons (.ifs (.o2 .isn (.shows (.var 6) (.cons (.var 0) (.cons (.var 1) .nil))) (.lit (.bl false))) (.cons (.ret (.lit (.bl false))) .nil) .nil) .nil)) .nil) .nil))))))))) (.cons (.ret (.lit (.bl true))) .nil)))⟩
/-- check_clear: k03 k12 -/
def fn39 : Fn := ⟨2, 2, true, (.cons (.ex (.call 2 (.cons (.var 0) .nil))) (.cons (.ex (.call 9 (.cons (.var 0) (.cons (.var 1) .nil)))) (.cons (.ifs (.o2 .isn (.call 22 (.cons (.var 0) (.cons (.var 1) .nil))) (.lit .non)) (.cons .fail .nil) .nil) .nil)))⟩
/-- closed: k03 k12 -/
def fn40 : Fn := ⟨2, 3, true, (.cons (.ex (.call 39 (.cons (.var 0) (.cons (.var 1) .nil)))) (.cons (.asg 2 (.call 23 (.cons (.var 0) (.cons (.var 1) .nil)))) (.cons (.ret (.ite (.o2 .is (.var 2) (.lit .non)) (.mk 3 .nil) (.mk 4 (.cons (.var 2) .nil)))) .nil)))⟩
/-- closed_up: k03 k12 -/
def fn41 : Fn := ⟨2, 4, true, (.cons (.ex (.call 39 (.cons (.var 0) (.cons (.var 1) .nil)))) (.cons (.par 2 3 (.o1 .lst (.var 1)) (.call 23 (.cons (.var 0) (.cons (.var 1) .nil)))) (.cons (.whl (.o2 .isn (.var 3) (.lit .non)) (.cons (.asg 2 (.o1 .sort (.o2 .add (.var 2) (.lst (.cons (.var 3) .nil))))) (.cons (.asgF 3 (.call 23 (.cons (.var 0) (.cons (.var 2) .nil)))) .nil))) (.cons (.ret (.var 2)) .nil))))⟩
/-- _law_small: k03 k04 k05 k06 k07 k12 -/
def fn42 : Fn := ⟨2, 3, false, (.cons (.asg 2 (.lst (.cons (.tup (.cons (.lit (.str "space")) (.cons (.lit (.int 1)) .nil))) (.cons (.tup (.cons (.lit (.str "space")) (.cons (.lit (.int 2)) .nil))) (.cons (.tup (.cons (.lit (.str "plane")) (.cons (.lit (.int 2)) .nil))) (.cons (.tup (.cons (.lit (.str "plane")) (.cons (.lit (.int 3)) .nil))) (.cons (.tup (.cons (.lit (.str "floor")) (.cons (.lit (.int 1)) .nil))) (.cons (.tup (.cons (.lit (.str "floor")) (.cons (.lit (.int 2)) .nil))) (.cons (.tup (.cons (.lit (.str "floor")) (.cons (.lit (.int 3)) .nil))) .nil))))))))) (.cons (.ret (.ix (.var 2) (.o2 .mod (.call 14 (.cons (.call 12 (.cons (.var 0) (.cons (.var 1) .nil))) (.cons (.lit (.int 3)) .nil))) (.lit (.int 7))))) .nil))⟩
/-- _law_more: k03 -/
def fn43 : Fn := ⟨2, 9, true, (.cons (.asg 2 (.lst .nil)) (.cons (.for (.one 3) (.sq (.call 17 (.cons (.var 0) .nil))) (.cons (.ifs (.o2 .nmem (.var 3) (.var 1)) (.cons (.asg 4 (.lit (.bl true))) (.cons (.for (.many [5, 6]) (.en (.var 1)) (.cons (.asg 7 (.comp (.sq (.slH (.var 1) (.var 5))) (.one 8) (.call 19 (.cons (.var 0) (.cons (.var 6) (.cons (.var 8) (.cons (.var 3) .nil))))))) (.cons (.asg 4 (.and (.var 4) (.o1 .not (.o1 .any (.var 7))))) .nil))) (.cons (.ifs (.var 4) (.cons (.app 2 (.var 3)) .nil) .nil) .nil))) .nil) .nil)) (.cons (.ret (.var 2)) .nil)))⟩
/-- _law_closed_up: k03 -/
def fn44 : Fn := ⟨2, 4, false, (.cons (.par 2 3 (.o1 .lst (.var 1)) (.call 43 (.cons (.var 0) (.cons (.var 1) .nil)))) (.cons (.whl (.o2 .ne (.var 3) (.lst .nil)) (.cons (.asg 2 (.o1 .sort (.o2 .add (.var 2) (.slH (.var 3) (.lit (.int 1)))))) (.cons (.asg 3 (.call 43 (.cons (.var 0) (.cons (.var 2) .nil)))) .nil))) (.cons (.ret (.var 2)) .nil)))⟩
/-- _law_line_right: k04 -/
def fn45 : Fn := ⟨3, 6, false, (.cons (.asg 3 (.o1 .lst (.var 2))) (.cons (.asg 4 (.mk 2 (.cons (.var 3) .nil))) (.cons (.app 3 (.tup (.cons (.lit (.int 0)) (.cons (.lit (.int 0)) .nil)))) (.cons (.asg 5 (.o2 .mem (.var 2) (.call 34 (.cons (.var 0) (.cons (.var 1) .nil))))) (.cons (.ret (.and (.o2 .eq (.fld (.var 4) "points") (.var 2)) (.call 15 (.cons (.shows (.var 4) (.cons (.var 0) (.cons (.var 1) .nil))) (.cons (.var 5) .nil))))) .nil)))))⟩
/-- _law_point_right: k04 -/
def fn46 : Fn := ⟨3, 4, false, (.cons (.asg 3 (.and (.o2 .mem (.var 2) (.call 17 (.cons (.var 0) .nil))) (.o2 .nmem (.var 2) (.var 1)))) (.cons (.ifs (.var 3) (.cons (.asg 3 (.o2 .eq (.call 34 (.cons (.var 0) (.cons (.o1 .sort (.o2 .add (.var 1) (.lst (.cons (.var 2) .nil)))) .nil))) (.lst .nil))) .nil) .nil) (.cons (.ret (.and (.o2 .eq (.fld (.mk 4 (.cons (.var 2) .nil)) "point") (.var 2)) (.call 15 (.cons (.shows (.mk 4 (.cons (.var 2) .nil)) (.cons (.var 0) (.cons (.var 1) .nil))) (.cons (.var 3) .nil))))) .nil)))⟩
/-- check_small: k05 k07 k12 -/
def fn47 : Fn := ⟨1, 1, true, (.cons (.ex (.call 2 (.cons (.var 0) .nil))) (.cons (.ifs (.o2 .gt (.o1 .len (.call 5 (.cons (.var 0) .nil))) (.lit (.int 16))) (.cons .fail .nil) .nil) .nil))⟩
/-- check_many: k05 k07 k12 -/
def fn48 : Fn := ⟨2, 2, true, (.cons (.ex (.call 47 (.cons (.var 0) .nil))) (.cons (.ifs (.or (.o1 .not (.call 0 (.cons (.var 1) .nil))) (.o1 .not (.ch .le .le (.lit (.int 0)) (.var 1) (.lit (.int 16))))) (.cons .fail .nil) .nil) .nil))⟩
/-- first_so: k05 k12 -/
def fn49 : Fn := ⟨4, 7, false, (.cons (.ifs (.o2 .eq (.o1 .len (.var 2)) (.var 1)) (.cons (.ret (.var 2)) .nil) .nil) (.cons (.ifs (.o2 .lt (.o2 .add (.o1 .len (.var 2)) (.o1 .len (.var 3))) (.var 1)) (.cons (.ret (.lit .non)) .nil) .nil) (.cons (.for (.many [4, 5]) (.en (.var 3)) (.cons (.ifs (.o1 .not (.call 21 (.cons (.var 0) (.cons (.var 2) (.cons (.var 5) .nil))))) (.cons (.asg 6 (.call 49 (.cons (.var 0) (.cons (.var 1) (.cons (.o2 .add (.var 2) (.lst (.cons (.var 5) .nil))) (.cons (.slL (.var 3) (.o2 .add (.var 4) (.lit (.int 1)))) .nil)))))) (.cons (.ifs (.o2 .isn (.var 6) (.lit .non)) (.cons (.ret (.var 6)) .nil) .nil) .nil)) .nil) .nil)) (.cons (.ret (.lit .non)) .nil))))⟩
/-- line_with: k05 k12 -/
def fn50 : Fn := ⟨2, 3, false, (.cons (.asg 2 (.call 22 (.cons (.var 0) (.cons (.var 1) .nil)))) (.cons (.ret (.ite (.o2 .is (.var 2) (.lit .non)) (.lit .non) (.tup (.cons (.lit (.str "line")) (.cons (.ix (.var 2) (.lit (.int 0))) (.cons (.ix (.var 2) (.lit (.int 1))) (.cons (.ix (.var 2) (.lit (.int 2))) .nil))))))) .nil))⟩
/-- tree_of: k05 k12 -/
def fn51 : Fn := ⟨4, 7, false, (.cons (.asg 4 (.call 50 (.cons (.var 0) (.cons (.var 2) .nil)))) (.cons (.ifs (.o2 .isn (.var 4) (.lit .non)) (.cons (.ret (.var 4)) .nil) .nil) (.cons (.ifs (.o2 .lt (.o2 .add (.o1 .len (.var 2)) (.o1 .len (.var 3))) (.var 1)) (.cons (.ret (.tup (.cons (.lit (.str "few")) .nil))) .nil) .nil) (.cons (.par 5 6 (.ix (.var 3) (.lit (.int 0))) (.slL (.var 3) (.lit (.int 1)))) (.cons (.ret (.tup (.cons (.lit (.str "ask")) (.cons (.var 5) (.cons (.call 51 (.cons (.var 0) (.cons (.var 1) (.cons (.var 2) (.cons (.var 6) .nil))))) (.cons (.call 51 (.cons (.var 0) (.cons (.var 1) (.cons (.o2 .add (.var 2) (.lst (.cons (.var 5) .nil))) (.cons (.var 6) .nil))))) .nil)))))) .nil)))))⟩
/-- so_many: k05 k12 -/
def fn52 : Fn := ⟨2, 4, true, (.cons (.ex (.call 48 (.cons (.var 0) (.cons (.var 1) .nil)))) (.cons (.asg 2 (.call 5 (.cons (.var 0) .nil))) (.cons (.asg 3 (.call 49 (.cons (.var 0) (.cons (.var 1) (.cons (.lst .nil) (.cons (.var 2) .nil)))))) (.cons (.ret (.ite (.o2 .is (.var 3) (.lit .non)) (.mk 6 (.cons (.call 51 (.cons (.var 0) (.cons (.var 1) (.cons (.lst .nil) (.cons (.var 2) .nil))))) .nil)) (.mk 5 (.cons (.var 3) .nil)))) .nil))))⟩
/-- most: k05 k12 -/
def fn53 : Fn := ⟨1, 3, false, (.cons (.ex (.call 47 (.cons (.var 0) .nil))) (.cons (.par 1 2 (.call 5 (.cons (.var 0) .nil)) (.lit (.int 0))) (.cons (.whl (.o2 .isn (.call 49 (.cons (.var 0) (.cons (.o2 .add (.var 2) (.lit (.int 1))) (.cons (.lst .nil) (.cons (.var 1) .nil))))) (.lit .non)) (.cons (.asg 2 (.o2 .adi (.var 2) (.lit (.int 1)))) .nil)) (.cons (.ret (.var 2)) .nil))))⟩
/-- _law_bars: k05 k06 -/
def fn54 : Fn := ⟨6, 9, false, (.cons (.ifs (.o2 .eq (.ix (.var 3) (.lit (.int 0))) (.lit (.str "few"))) (.cons (.ret (.o2 .lt (.o2 .add (.o2 .sub (.o1 .len (.var 1)) (.o1 .len (.var 5))) (.o1 .len (.var 4))) (.var 2))) .nil) .nil) (.cons (.ifs (.o2 .eq (.ix (.var 3) (.lit (.int 0))) (.lit (.str "line"))) (.cons (.asg 6 (.o1 .ssort (.slL (.var 3) (.lit (.int 1))))) (.cons (.ifs (.or (.o2 .ne (.o1 .len (.var 6)) (.lit (.int 3))) (.o1 .not (.o1 .all (.comp (.sq (.var 6)) (.one 7) (.o2 .mem (.var 7) (.var 4)))))) (.cons (.ret (.lit (.bl false))) .nil) .nil) (.cons (.ret (.call 19 (.cons (.var 0) (.cons (.ix (.var 6) (.lit (.int 0))) (.cons (.ix (.var 6) (.lit (.int 1))) (.cons (.ix (.var 6) (.lit (.int 2))) .nil)))))) .nil))) .nil) (.cons (.par 7 8 (.ix (.var 3) (.lit (.int 1))) (.o2 .add (.var 5) (.lst (.cons (.ix (.var 3) (.lit (.int 1))) .nil)))) (.cons (.ifs (.or (.o2 .nmem (.var 7) (.var 1)) (.o2 .mem (.var 7) (.var 5))) (.cons (.ret (.lit (.bl false))) .nil) .nil) (.cons (.ifs (.o1 .not (.call 54 (.cons (.var 0) (.cons (.var 1) (.cons (.var 2) (.cons (.ix (.var 3) (.lit (.int 2))) (.cons (.var 4) (.cons (.var 8) .nil)))))))) (.cons (.ret (.lit (.bl false))) .nil) .nil) (.cons (.ret (.call 54 (.cons (.var 0) (.cons (.var 1) (.cons (.var 2) (.cons (.ix (.var 3) (.lit (.int 3))) (.cons (.o2 .add (.var 4) (.lst (.cons (.var 7) .nil))) (.cons (.var 8) .nil)))))))) .nil))))))⟩
/-- _law_lists: k05 k07 -/
def fn55 : Fn := ⟨1, 2, true, (.cons (.asg 1 (.call 17 (.cons (.var 0) .nil))) (.cons (.ret (.call 56 (.cons (.var 0) (.cons (.lst .nil) (.cons (.var 1) .nil))))) .nil))⟩
/-- _law_lists_on: k05 k07 -/
def fn56 : Fn := ⟨3, 11, true, (.cons (.asg 3 (.lst (.cons (.var 1) .nil))) (.cons (.for (.many [4, 5]) (.en (.var 2)) (.cons (.asg 6 (.lit (.bl true))) (.cons (.for (.many [7, 8]) (.en (.var 1)) (.cons (.asg 9 (.comp (.sq (.slH (.var 1) (.var 7))) (.one 10) (.call 19 (.cons (.var 0) (.cons (.var 8) (.cons (.var 10) (.cons (.var 5) .nil))))))) (.cons (.asg 6 (.and (.var 6) (.o1 .not (.o1 .any (.var 9))))) .nil))) (.cons (.ifs (.var 6) (.cons (.asg 3 (.o2 .add (.var 3) (.call 56 (.cons (.var 0) (.cons (.o2 .add (.var 1) (.lst (.cons (.var 5) .nil))) (.cons (.slL (.var 2) (.o2 .add (.var 4) (.lit (.int 1)))) .nil)))))) .nil) .nil) .nil)))) (.cons (.ret (.var 3)) .nil)))⟩
/-- _law_formed: k05 -/
def fn57 : Fn := ⟨1, 1, false, (.cons (.ifs (.or (.o1 .not (.o1 (.ist .tup) (.var 0))) (.or (.o2 .eq (.o1 .len (.var 0)) (.lit (.int 0))) (.o2 .nmem (.ix (.var 0) (.lit (.int 0))) (.tup (.cons (.lit (.str "few")) (.cons (.lit (.str "line")) (.cons (.lit (.str "ask")) .nil))))))) (.cons (.ret (.lit (.bl false))) .nil) .nil) (.cons (.ifs (.o2 .ne (.ix (.var 0) (.lit (.int 0))) (.lit (.str "ask"))) (.cons (.ret (.o2 .eq (.o1 .len (.var 0)) (.ite (.o2 .eq (.ix (.var 0) (.lit (.int 0))) (.lit (.str "few"))) (.lit (.int 1)) (.lit (.int 4))))) .nil) .nil) (.cons (.ret (.and (.o2 .eq (.o1 .len (.var 0)) (.lit (.int 4))) (.and (.call 57 (.cons (.ix (.var 0) (.lit (.int 2))) .nil)) (.call 57 (.cons (.ix (.var 0) (.lit (.int 3))) .nil))))) .nil)))⟩
/-- _law_tree: k06 -/
def fn58 : Fn := ⟨6, 12, false, (.cons (.asg 6 (.call 34 (.cons (.var 0) (.cons (.o1 .sort (.var 3)) .nil)))) (.cons (.ifs (.o2 .ne (.var 6) (.lst .nil)) (.cons (.ret (.tup (.cons (.lit (.str "line")) (.cons (.ix (.ix (.var 6) (.lit (.int 0))) (.lit (.int 2))) (.cons (.ix (.ix (.var 6) (.lit (.int 0))) (.lit (.int 0))) (.cons (.ix (.ix (.var 6) (.lit (.int 0))) (.lit (.int 1))) .nil)))))) .nil) .nil) (.cons (.ifs (.or (.o2 .eq (.var 5) (.lit (.int 0))) (.or (.o2 .eq (.var 4) (.lst .nil)) (.o2 .lt (.o2 .add (.o1 .len (.var 3)) (.o1 .len (.var 4))) (.var 1)))) (.cons (.ret (.tup (.cons (.lit (.str "few")) .nil))) .nil) .nil) (.cons (.asg 7 (.ix (.var 4) (.o2 .mod (.var 2) (.o1 .len (.var 4))))) (.cons (.par 9 10 (.compI (.sq (.var 4)) (.one 11) (.o2 .ne (.var 11) (.var 7)) (.var 11)) (.o2 .add (.o2 .fdiv (.var 2) (.lit (.int 5))) (.lit (.int 3)))) (.cons (.asg 8 (.call 58 (.cons (.var 0) (.cons (.var 1) (.cons (.var 10) (.cons (.var 3) (.cons (.var 9) (.cons (.o2 .sub (.var 5) (.lit (.int 1))) .nil)))))))) (.cons (.ret (.tup (.cons (.lit (.str "ask")) (.cons (.var 7) (.cons (.var 8) (.cons (.call 58 (.cons (.var 0) (.cons (.var 1) (.cons (.var 10) (.cons (.o2 .add (.var 3) (.lst (.cons (.var 7) .nil))) (.cons (.var 9) (.cons (.o2 .sub (.var 5) (.lit (.int 1))) .nil))))))) .nil)))))) .nil)))))))⟩
/-- _law_list_right: k06 -/
def fn59 : Fn := ⟨3, 5, false, (.cons (.asg 3 (.o1 .lst (.var 2))) (.cons (.asg 4 (.mk 5 (.cons (.var 3) .nil))) (.cons (.app 3 (.tup (.cons (.lit (.int 0)) (.cons (.lit (.int 0)) .nil)))) (.cons (.ret (.and (.o2 .eq (.fld (.var 4) "points") (.var 2)) (.call 15 (.cons (.shows (.var 4) (.cons (.var 0) (.cons (.var 1) .nil))) (.cons (.call 37 (.cons (.var 0) (.cons (.var 1) (.cons (.var 4) .nil)))) .nil))))) .nil))))⟩
/-- _law_tree_right: k06 -/
def fn60 : Fn := ⟨3, 4, false, (.cons (.asg 3 (.mk 6 (.cons (.var 2) .nil))) (.cons (.ret (.and (.o2 .eq (.fld (.var 3) "tree") (.var 2)) (.call 15 (.cons (.shows (.var 3) (.cons (.var 0) (.cons (.var 1) .nil))) (.cons (.call 37 (.cons (.var 0) (.cons (.var 1) (.cons (.var 3) .nil)))) .nil))))) .nil))⟩
/-- ways_of: k07 k12 -/
def fn61 : Fn := ⟨4, 7, false, (.cons (.ifs (.o2 .eq (.o1 .len (.var 2)) (.var 1)) (.cons (.ret (.lit (.int 1))) .nil) .nil) (.cons (.ifs (.o2 .lt (.o2 .add (.o1 .len (.var 2)) (.o1 .len (.var 3))) (.var 1)) (.cons (.ret (.lit (.int 0))) .nil) .nil) (.cons (.asg 4 (.lit (.int 0))) (.cons (.for (.many [5, 6]) (.en (.var 3)) (.cons (.ifs (.o1 .not (.call 21 (.cons (.var 0) (.cons (.var 2) (.cons (.var 6) .nil))))) (.cons (.asg 4 (.o2 .adi (.var 4) (.call 61 (.cons (.var 0) (.cons (.var 1) (.cons (.o2 .add (.var 2) (.lst (.cons (.var 6) .nil))) (.cons (.slL (.var 3) (.o2 .add (.var 5) (.lit (.int 1)))) .nil))))))) .nil) .nil) .nil)) (.cons (.ret (.var 4)) .nil)))))⟩
/-- how_many: k07 k12 -/
def fn62 : Fn := ⟨2, 2, false, (.cons (.ex (.call 48 (.cons (.var 0) (.cons (.var 1) .nil)))) (.cons (.ret (.call 61 (.cons (.var 0) (.cons (.var 1) (.cons (.lst .nil) (.cons (.call 5 (.cons (.var 0) .nil)) .nil)))))) .nil))⟩
/-- points_by: k07 k12 -/
def fn63 : Fn := ⟨3, 7, true, (.cons (.ex (.call 48 (.cons (.var 0) (.cons (.var 1) .nil)))) (.cons (.asg 3 (.call 5 (.cons (.var 0) .nil))) (.cons (.ifs (.or (.o1 .not (.call 0 (.cons (.var 2) .nil))) (.o1 .not (.ch .le .lt (.lit (.int 0)) (.var 2) (.call 61 (.cons (.var 0) (.cons (.var 1) (.cons (.lst .nil) (.cons (.var 3) .nil)))))))) (.cons .fail .nil) .nil) (.cons (.asg 4 (.lst .nil)) (.cons (.whl (.o2 .lt (.o1 .len (.var 4)) (.var 1)) (.cons (.par 6 3 (.ix (.var 3) (.lit (.int 0))) (.slL (.var 3) (.lit (.int 1)))) (.cons (.asg 5 (.ite (.call 21 (.cons (.var 0) (.cons (.var 4) (.cons (.var 6) .nil)))) (.lit (.int 0)) (.call 61 (.cons (.var 0) (.cons (.var 1) (.cons (.o2 .add (.var 4) (.lst (.cons (.var 6) .nil))) (.cons (.var 3) .nil))))))) (.cons (.ifs (.o2 .lt (.var 2) (.var 5)) (.cons (.asg 4 (.o2 .add (.var 4) (.lst (.cons (.var 6) .nil)))) .nil) (.cons (.asg 2 (.o2 .sub (.var 2) (.var 5))) .nil)) .nil)))) (.cons (.ret (.var 4)) .nil))))))⟩
/-- number_of: k07 k12 -/
def fn64 : Fn := ⟨2, 6, false, (.cons (.ex (.call 47 (.cons (.var 0) .nil))) (.cons (.ex (.call 9 (.cons (.var 0) (.cons (.var 1) .nil)))) (.cons (.ifs (.o2 .isn (.call 22 (.cons (.var 0) (.cons (.var 1) .nil))) (.lit .non)) (.cons .fail .nil) .nil) (.cons (.unp [3, 4, 5] (.tup (.cons (.lit (.int 0)) (.cons (.lst .nil) (.cons (.call 5 (.cons (.var 0) .nil)) .nil))))) (.cons (.for (.one 2) (.sq (.var 1)) (.cons (.whl (.o2 .ne (.ix (.var 5) (.lit (.int 0))) (.var 2)) (.cons (.ifs (.o1 .not (.call 21 (.cons (.var 0) (.cons (.var 4) (.cons (.ix (.var 5) (.lit (.int 0))) .nil))))) (.cons (.asg 3 (.o2 .adi (.var 3) (.call 61 (.cons (.var 0) (.cons (.o1 .len (.var 1)) (.cons (.o2 .add (.var 4) (.lst (.cons (.ix (.var 5) (.lit (.int 0))) .nil))) (.cons (.slL (.var 5) (.lit (.int 1))) .nil))))))) .nil) .nil) (.cons (.asg 5 (.slL (.var 5) (.lit (.int 1)))) .nil))) (.cons (.par 4 5 (.o2 .add (.var 4) (.lst (.cons (.var 2) .nil))) (.slL (.var 5) (.lit (.int 1)))) .nil))) (.cons (.ret (.var 3)) .nil))))))⟩
/-- parabola: k08 k12 -/
def fn65 : Fn := ⟨1, 2, true, (.cons (.ex (.call 2 (.cons (.var 0) .nil))) (.cons (.ifs (.o2 .ne (.ix (.var 0) (.lit (.int 0))) (.lit (.str "plane"))) (.cons .fail .nil) .nil) (.cons (.ret (.comp (.r1 (.ix (.var 0) (.lit (.int 1)))) (.one 1) (.tup (.cons (.var 1) (.cons (.o2 .mod (.o2 .mul (.var 1) (.var 1)) (.ix (.var 0) (.lit (.int 1)))) .nil))))) .nil)))⟩
/-- bowl: k08 k12 -/
def fn66 : Fn := ⟨0, 3, true, (.cons (.ret (.compI (.sq (.call 5 (.cons (.tup (.cons (.lit (.str "space")) (.cons (.lit (.int 3)) .nil))) .nil))) (.many [0, 1, 2]) (.o2 .eq (.o2 .mod (.o2 .sub (.o2 .sub (.var 2) (.o2 .mul (.var 0) (.var 0))) (.o2 .mul (.var 1) (.var 1))) (.lit (.int 3))) (.lit (.int 0))) (.tup (.cons (.var 0) (.cons (.var 1) (.cons (.var 2) .nil)))))) .nil)⟩
/-- check_space: k08 k12 -/
def fn67 : Fn := ⟨2, 2, true, (.cons (.ex (.call 2 (.cons (.var 0) .nil))) (.cons (.ifs (.o2 .ne (.ix (.var 0) (.lit (.int 0))) (.lit (.str "space"))) (.cons .fail .nil) .nil) (.cons (.ex (.call 9 (.cons (.var 0) (.cons (.var 1) .nil)))) .nil)))⟩
/-- crossed: k08 k12 -/
def fn68 : Fn := ⟨4, 7, true, (.cons (.ex (.call 67 (.cons (.var 0) (.cons (.var 1) .nil)))) (.cons (.ex (.call 67 (.cons (.var 2) (.cons (.var 3) .nil)))) (.cons (.ifs (.o2 .gt (.o2 .add (.ix (.var 0) (.lit (.int 1))) (.ix (.var 2) (.lit (.int 1)))) (.lit (.int 4))) (.cons .fail .nil) .nil) (.cons (.asg 4 (.lst .nil)) (.cons (.for (.one 5) (.sq (.var 1)) (.cons (.ext 4 (.comp (.sq (.var 3)) (.one 6) (.o2 .add (.var 5) (.var 6)))) .nil)) (.cons (.ret (.var 4)) .nil))))))⟩
/-- _law_crossed: k08 -/
def fn69 : Fn := ⟨2, 5, true, (.cons (.asg 2 (.lst .nil)) (.cons (.for (.one 3) (.sq (.var 0)) (.cons (.ext 2 (.comp (.sq (.var 1)) (.one 4) (.o2 .add (.var 3) (.var 4)))) .nil)) (.cons (.ret (.var 2)) .nil)))⟩
/-- _law_crossed_right: k08 -/
def fn70 : Fn := ⟨4, 9, false, (.cons (.par 5 6 (.lst (.cons (.o1 .lst (.var 2)) (.cons (.o1 .lst (.var 3)) .nil))) (.tup (.cons (.lit (.str "space")) (.cons (.o2 .add (.ix (.var 0) (.lit (.int 1))) (.ix (.var 1) (.lit (.int 1)))) .nil)))) (.cons (.par 7 8 (.call 68 (.cons (.var 0) (.cons (.ix (.var 5) (.lit (.int 0))) (.cons (.var 1) (.cons (.ix (.var 5) (.lit (.int 1))) .nil))))) (.o1 .sort (.call 69 (.cons (.var 2) (.cons (.var 3) .nil))))) (.cons (.ifs (.or (.o1 .not (.o1 (.ist .lst) (.var 7))) (.or (.o2 .ne (.var 7) (.var 8)) (.o2 .ne (.var 5) (.lst (.cons (.var 2) (.cons (.var 3) .nil)))))) (.cons (.ret (.lit (.bl false))) .nil) .nil) (.cons (.asg 4 (.and (.o2 .eq (.call 34 (.cons (.var 0) (.cons (.var 2) .nil))) (.lst .nil)) (.o2 .eq (.call 34 (.cons (.var 1) (.cons (.var 3) .nil))) (.lst .nil)))) (.cons (.ifs (.and (.var 4) (.o2 .ne (.call 34 (.cons (.var 6) (.cons (.var 7) .nil))) (.lst .nil))) (.cons (.ret (.lit (.bl false))) .nil) .nil) (.cons (.ifs (.and (.o1 .not (.var 4)) (.and (.o2 .ne (.var 2) (.lst .nil)) (.and (.o2 .ne (.var 3) (.lst .nil)) (.o2 .eq (.call 34 (.cons (.var 6) (.cons (.var 7) .nil))) (.lst .nil))))) (.cons (.ret (.lit (.bl false))) .nil) .nil) (.cons (.app 7 (.tup .nil)) (.cons (.ret (.o2 .eq (.call 68 (.cons (.var 0) (.cons (.ix (.var 5) (.lit (.int 0))) (.cons (.var 1) (.cons (.ix (.var 5) (.lit (.int 1))) .nil))))) (.var 8))) .nil))))))))⟩
/-- is_move: k12 -/
def fn71 : Fn := ⟨2, 2, false, (.cons (.ifs (.or (.o1 .not (.o1 (.ist .tup) (.var 1))) (.or (.o2 .eq (.o1 .len (.var 1)) (.lit (.int 0))) (.o1 .not (.o1 (.ist .str) (.ix (.var 1) (.lit (.int 0))))))) (.cons (.ret (.lit (.bl false))) .nil) .nil) (.cons (.ifs (.o2 .eq (.ix (.var 1) (.lit (.int 0))) (.lit (.str "mirror"))) (.cons (.ret (.and (.o2 .eq (.o1 .len (.var 1)) (.lit (.int 1))) (.o2 .eq (.ix (.var 0) (.lit (.int 0))) (.lit (.str "floor"))))) .nil) .nil) (.cons (.ifs (.o2 .ne (.o1 .len (.var 1)) (.lit (.int 2))) (.cons (.ret (.lit (.bl false))) .nil) .nil) (.cons (.ifs (.o2 .eq (.ix (.var 1) (.lit (.int 0))) (.lit (.str "swap"))) (.cons (.ret (.and (.call 0 (.cons (.ix (.var 1) (.lit (.int 1))) .nil)) (.ch .le .lt (.lit (.int 0)) (.ix (.var 1) (.lit (.int 1))) (.o2 .sub (.call 3 (.cons (.var 0) .nil)) (.lit (.int 1)))))) .nil) .nil) (.cons (.ifs (.o2 .eq (.ix (.var 0) (.lit (.int 0))) (.lit (.str "floor"))) (.cons (.ret (.lit (.bl false))) .nil) .nil) (.cons (.ifs (.o2 .eq (.ix (.var 1) (.lit (.int 0))) (.lit (.str "shift"))) (.cons (.ret (.call 7 (.cons (.var 0) (.cons (.ix (.var 1) (.lit (.int 1))) .nil)))) .nil) .nil) (.cons (.ret (.and (.o2 .eq (.ix (.var 1) (.lit (.int 0))) (.lit (.str "times"))) (.and (.call 0 (.cons (.ix (.var 1) (.lit (.int 1))) .nil)) (.ch .le .lt (.lit (.int 1)) (.ix (.var 1) (.lit (.int 1))) (.call 4 (.cons (.var 0) .nil)))))) .nil)))))))⟩
/-- moved_point: k12 -/
def fn72 : Fn := ⟨3, 7, false, (.cons (.ifs (.o2 .eq (.ix (.var 2) (.lit (.int 0))) (.lit (.str "mirror"))) (.cons (.ret (.tup (.cons (.o2 .sub (.o2 .sub (.ix (.var 0) (.lit (.int 1))) (.lit (.int 1))) (.ix (.var 1) (.lit (.int 0)))) (.cons (.ix (.var 1) (.lit (.int 1))) .nil)))) .nil) .nil) (.cons (.ifs (.o2 .eq (.ix (.var 2) (.lit (.int 0))) (.lit (.str "swap"))) (.cons (.asg 4 (.ix (.var 2) (.lit (.int 1)))) (.cons (.ret (.o2 .add (.o2 .add (.slH (.var 1) (.var 4)) (.tup (.cons (.ix (.var 1) (.o2 .add (.var 4) (.lit (.int 1)))) (.cons (.ix (.var 1) (.var 4)) .nil)))) (.slL (.var 1) (.o2 .add (.var 4) (.lit (.int 2)))))) .nil)) .nil) (.cons (.asg 3 (.call 4 (.cons (.var 0) .nil))) (.cons (.ifs (.o2 .eq (.ix (.var 2) (.lit (.int 0))) (.lit (.str "shift"))) (.cons (.ret (.o1 .tup (.comp (.zp (.var 1) (.ix (.var 2) (.lit (.int 1)))) (.many [5, 6]) (.o2 .mod (.o2 .add (.var 5) (.var 6)) (.var 3))))) .nil) .nil) (.cons (.ret (.o1 .tup (.comp (.sq (.var 1)) (.one 5) (.o2 .mod (.o2 .mul (.var 5) (.ix (.var 2) (.lit (.int 1)))) (.var 3))))) .nil)))))⟩
/-- moved: k12 -/
def fn73 : Fn := ⟨3, 4, true, (.cons (.ex (.call 2 (.cons (.var 0) .nil))) (.cons (.ex (.call 9 (.cons (.var 0) (.cons (.var 1) .nil)))) (.cons (.ifs (.o1 .not (.call 71 (.cons (.var 0) (.cons (.var 2) .nil)))) (.cons .fail .nil) .nil) (.cons (.ret (.o1 .sort (.comp (.sq (.var 1)) (.one 3) (.call 72 (.cons (.var 0) (.cons (.var 3) (.cons (.var 2) .nil))))))) .nil))))⟩
/-- _law_closed_right: k12 -/
def fn86 : Fn := ⟨2, 9, false, (.cons (.asg 2 (.call 41 (.cons (.var 0) (.cons (.var 1) .nil)))) (.cons (.ifs (.or (.o1 .not (.o1 (.ist (.cls 1)) (.call 31 (.cons (.var 0) (.cons (.var 2) .nil))))) (.o1 .not (.o1 (.ist (.cls 3)) (.call 40 (.cons (.var 0) (.cons (.var 2) .nil)))))) (.cons (.ret (.lit (.bl false))) .nil) .nil) (.cons (.ifs (.or (.o1 .not (.o1 .all (.comp (.sq (.var 1)) (.one 3) (.o2 .mem (.var 3) (.var 2))))) (.o2 .ne (.call 32 (.cons (.var 0) (.cons (.var 2) .nil))) (.lit (.int 0)))) (.cons (.ret (.lit (.bl false))) .nil) .nil) (.cons (.for (.one 3) (.sq (.call 6 (.cons (.var 0) .nil))) (.cons (.asg 6 (.ite (.o2 .mem (.var 3) (.var 2)) (.lit .non) (.call 31 (.cons (.var 0) (.cons (.o1 .sort (.o2 .add (.var 2) (.lst (.cons (.var 3) .nil)))) .nil))))) (.cons (.ifs (.and (.o2 .isn (.var 6) (.lit .non)) (.or (.o1 .not (.o1 (.ist (.cls 2)) (.var 6))) (.o2 .isn (.call 11 (.cons (.var 0) (.cons (.fld (.var 6) "points") .nil))) (.lit (.bl true))))) (.cons (.ret (.lit (.bl false))) .nil) .nil) .nil))) (.cons (.asg 4 (.comp (.sq (.var 2)) (.one 7) (.ix (.var 7) (.lit (.int 0))))) (.cons (.ifs (.and (.o2 .eq (.ix (.var 0) (.lit (.int 0))) (.lit (.str "floor"))) (.o1 .any (.comp (.sq (.var 4)) (.one 8) (.o2 .gt (.o2 .cnt (.var 4) (.var 8)) (.lit (.int 2)))))) (.cons (.ret (.lit (.bl false))) .nil) .nil) (.cons (.ifs (.and (.o2 .eq (.ix (.var 0) (.lit (.int 0))) (.lit (.str "plane"))) (.and (.o2 .gt (.ix (.var 0) (.lit (.int 1))) (.lit (.int 2))) (.o2 .gt (.o1 .len (.var 2)) (.o2 .add (.ix (.var 0) (.lit (.int 1))) (.lit (.int 1)))))) (.cons (.ret (.lit (.bl false))) .nil) .nil) (.cons (.asg 5 (.ite (.o2 .gt (.o1 .len (.ix (.var 2) (.lit (.int 0)))) (.lit (.int 1))) (.call 73 (.cons (.var 0) (.cons (.var 2) (.cons (.tup (.cons (.lit (.str "swap")) (.cons (.lit (.int 0)) .nil))) .nil)))) (.var 2))) (.cons (.ret (.o1 (.ist (.cls 3)) (.call 40 (.cons (.var 0) (.cons (.var 5) .nil))))) .nil)))))))))⟩
/-- _law_small_right: k12 -/
def fn87 : Fn := ⟨2, 4, false, (.cons (.asg 2 (.call 53 (.cons (.var 0) .nil))) (.cons (.ifs (.or (.o1 .not (.o1 (.ist (.cls 5)) (.call 52 (.cons (.var 0) (.cons (.var 2) .nil))))) (.o1 .not (.o1 (.ist (.cls 6)) (.call 52 (.cons (.var 0) (.cons (.o2 .add (.var 2) (.lit (.int 1))) .nil)))))) (.cons (.ret (.lit (.bl false))) .nil) .nil) (.cons (.ifs (.or (.o2 .gt (.o1 .len (.var 1)) (.var 2)) (.or (.o2 .ne (.call 62 (.cons (.var 0) (.cons (.o2 .add (.var 2) (.lit (.int 1))) .nil))) (.lit (.int 0))) (.o2 .ne (.call 62 (.cons (.var 0) (.cons (.lit (.int 0)) .nil))) (.lit (.int 1))))) (.cons (.ret (.lit (.bl false))) .nil) .nil) (.cons (.asg 3 (.call 64 (.cons (.var 0) (.cons (.var 1) .nil)))) (.cons (.ret (.and (.o2 .eq (.call 63 (.cons (.var 0) (.cons (.o1 .len (.var 1)) (.cons (.var 3) .nil)))) (.var 1)) (.o2 .gt (.call 62 (.cons (.var 0) (.cons (.o1 .len (.var 1)) .nil))) (.var 3)))) .nil)))))⟩
/-- _law_changed_right: k12 -/
def fn88 : Fn := ⟨2, 5, true, (.cons (.asg 2 (.o1 .lst (.var 1))) (.cons (.for (.one 3) (.r1 (.lit (.int 3))) (.cons (.asg 4 (.o1 .lst (.var 2))) (.cons (.ifs (.or (.o2 .isn (.shows (.call 31 (.cons (.var 0) (.cons (.var 2) .nil))) (.cons (.var 0) (.cons (.var 4) .nil))) (.lit (.bl true))) (.o2 .ne (.call 32 (.cons (.var 0) (.cons (.var 2) .nil))) (.call 32 (.cons (.var 0) (.cons (.var 4) .nil))))) (.cons (.ret (.lit (.bl false))) .nil) .nil) (.cons (.ifs (.o2 .isn (.shows (.call 40 (.cons (.var 0) (.cons (.var 2) .nil))) (.cons (.var 0) (.cons (.var 4) .nil))) (.lit (.bl true))) (.cons (.ret (.lit (.bl false))) .nil) .nil) (.cons (.ifs (.o2 .ne (.call 41 (.cons (.var 0) (.cons (.var 2) .nil))) (.call 41 (.cons (.var 0) (.cons (.var 4) .nil)))) (.cons (.ret (.lit (.bl false))) .nil) .nil) (.cons (.ifs (.o2 .ne (.var 2) (.lst .nil)) (.cons (.popd 2 (.o2 .mod (.var 3) (.o1 .len (.var 2)))) .nil) .nil) .nil)))))) (.cons (.ret (.lit (.bl true))) .nil)))⟩
end Nt

set_option Elab.async false
set_option linter.all false
set_option maxRecDepth 100000
set_option maxHeartbeats 4000000
/-! Plain laws: equality of data, indices, loops. -/
namespace Nt
open PySem PySem.Spec PyProof.Rows L2
abbrev Pt := List Int
abbrev ptsD (ps : List Pt) : D := .lst (ps.map tupD)
abbrev lnsD (ls : List (List Pt)) : D := .lst (ls.map ptsD)
/-! ### == -/
theorem shps_ints : ∀ p : Pt, shps 0 (p.map D.int) = true
  | [] => rfl
  | i :: p => by rw [List.map_cons, shps, shps_ints p]; rfl
theorem deps_ints : ∀ p : Pt, deps (p.map D.int) = 0
  | [] => rfl
  | i :: p => by rw [List.map_cons, deps, deps_ints p]; rfl
theorem shps_tups : ∀ ps : List Pt, shps 0 (ps.map tupD) = true
  | [] => rfl
  | p :: ps => by rw [List.map_cons, shps, shps_tups ps, tupD, shp, shps_ints]; rfl
theorem deps_tups : ∀ ps : List Pt, deps (ps.map tupD) ≤ 1
  | [] => by decide
  | p :: ps => by
    have := deps_tups ps
    rw [List.map_cons, deps, tupD, dep, deps_ints]
    omega
theorem shps_lns : ∀ ps : List (List Pt), shps 0 (ps.map ptsD) = true
  | [] => rfl
  | p :: ps => by rw [List.map_cons, shps, shps_lns ps, shp, shps_tups]; rfl
theorem deps_lns : ∀ ps : List (List Pt), deps (ps.map ptsD) ≤ 2
  | [] => by decide
  | p :: ps => by
    have := deps_lns ps
    have := deps_tups p
    rw [List.map_cons, deps, dep]
    omega
theorem ok_int (i : Int) : ok (.int i) = true := rfl
theorem ok_bl (i : Bool) : ok (.bl i) = true := rfl
theorem ok_tup (p : Pt) : ok (tupD p) = true := by
  unfold ok tupD
  rw [shp, shps_ints, dep, deps_ints]
  rfl
theorem ok_pts (p : List Pt) : ok (ptsD p) = true := by
  have := deps_tups p
  unfold ok
  rw [shp, shps_tups, dep, Bool.true_and, decide_eq_true_eq]
  omega
theorem ok_lns (p : List (List Pt)) : ok (lnsD p) = true := by
  have := deps_lns p
  unfold ok
  rw [shp, shps_lns, dep, Bool.true_and, decide_eq_true_eq]
  omega
theorem eqv_map {α : Type} [DecidableEq α] {f : α → D} (h : ∀ a b, PyData.eqv (toP (f a)) (toP (f b)) = decide (a = b)) : ∀ xs ys : List α, PyData.eqvAll (toPs (xs.map f)) (toPs (ys.map f)) = decide (xs = ys)
  | [], [] => rfl
  | [], _ :: _ => rfl
  | _ :: _, [] => rfl
  | x :: xs, y :: ys => by
    rw [List.map_cons, List.map_cons, toPs, toPs, PyData.eqvAll, h, eqv_map h xs ys]
    by_cases a : x = y <;> by_cases b : xs = ys <;> simp [a, b]
theorem eqv_int (a b : Int) : PyData.eqv (toP (.int a)) (toP (.int b)) = decide (a = b) := by
  rw [toP, toP, PyData.eqv]
  by_cases h : a = b <;> simp [h]
theorem eqv_tup (a b : Pt) : PyData.eqv (toP (tupD a)) (toP (tupD b)) = decide (a = b) := by
  rw [tupD, tupD, toP, toP, PyData.eqv, eqv_map eqv_int]
theorem eqv_pts (a b : List Pt) : PyData.eqv (toP (ptsD a)) (toP (ptsD b)) = decide (a = b) := by
  rw [toP, toP, PyData.eqv, eqv_map eqv_tup]
theorem eqv_lns (a b : List (List Pt)) : PyData.eqv (toP (lnsD a)) (toP (lnsD b)) = decide (a = b) := by
  rw [toP, toP, PyData.eqv, eqv_map eqv_pts]
theorem eq_int (a b : Int) : eqD (.int a) (.int b) = some (decide (a = b)) := by
  unfold eqD deq
  rw [ok_int, ok_int, eqv_int]; rfl
theorem eq_bl (a b : Bool) : eqD (.bl a) (.bl b) = some (a == b) := by
  unfold eqD deq
  rw [ok_bl, ok_bl, toP, toP, PyData.eqv]; rfl
theorem eq_tup (a b : Pt) : eqD (tupD a) (tupD b) = some (decide (a = b)) := by
  unfold eqD deq
  rw [ok_tup, ok_tup, eqv_tup]; rfl
theorem eq_pts (a b : List Pt) : eqD (ptsD a) (ptsD b) = some (decide (a = b)) := by
  unfold eqD deq
  rw [ok_pts, ok_pts, eqv_pts]; rfl
theorem eq_lns (a b : List (List Pt)) : eqD (lnsD a) (lnsD b) = some (decide (a = b)) := by
  unfold eqD deq
  rw [ok_lns, ok_lns, eqv_lns]; rfl
theorem any_map {α : Type} [DecidableEq α] {f : α → D} (h : ∀ a b, deq (f a) (f b) = decide (a = b)) (x : α) : ∀ xs : List α, (xs.map f).any (fun z => deq z (f x)) = decide (x ∈ xs)
  | [] => by simp
  | y :: xs => by
    rw [List.map_cons, List.any_cons, any_map h x xs, h]
    by_cases a : x = y <;> by_cases b : x ∈ xs <;> simp [a, b, eq_comm]
theorem mem_pts (n : Bool) (p : Pt) (ps : List Pt) : memD n (tupD p) (ptsD ps) = some (.bl (n ^^ decide (p ∈ ps))) := by
  unfold memD
  rw [show (tupD p) = .tup (p.map .int) from rfl]
  show (if ok (tupD p) && ok (ptsD ps) then some (D.bl (n ^^ (ps.map tupD).any fun z => deq z (tupD p))) else none) = _
  rw [ok_tup, ok_pts, any_map eqv_tup]; simp
theorem mem_lns (n : Bool) (p : List Pt) (ps : List (List Pt)) : memD n (ptsD p) (lnsD ps) = some (.bl (n ^^ decide (p ∈ ps))) := by
  unfold memD
  show (if ok (ptsD p) && ok (lnsD ps) then some (D.bl (n ^^ (ps.map ptsD).any fun z => deq z (ptsD p))) else none) = _
  rw [ok_pts, ok_lns, any_map eqv_pts]; simp
/-! ### indices, lists of ints -/
theorem ints_map : ∀ p : List Int, intsOf (p.map D.int) = some p
  | [] => rfl
  | i :: p => by rw [List.map_cons, intsOf, ints_map p]; rfl
theorem tups_map : ∀ p : List Pt, tupsOf (p.map tupD) = some p
  | [] => rfl
  | i :: p => by rw [List.map_cons, tupD, tupsOf, ints_map, tups_map p]
theorem bls_map : ∀ p : List Bool, blsOf (p.map D.bl) = some p
  | [] => rfl
  | i :: p => by rw [List.map_cons, blsOf, bls_map p]; rfl
theorem at_nat {α : Type} (xs : List α) (j : Nat) (h : j < xs.length) : atI xs (j : Int) = xs[j]? := by
  unfold atI ixN
  rw [if_pos (by omega), if_pos (by omega)]
  rfl
theorem at0 {α : Type} (x : α) (xs : List α) : atI (x :: xs) 0 = some x := at_nat _ 0 (by simp)
theorem at1 {α : Type} (x y : α) (xs : List α) : atI (x :: y :: xs) 1 = some y := at_nat (x :: y :: xs) 1 (by simp)
theorem at2 {α : Type} (x y z : α) (xs : List α) : atI (x :: y :: z :: xs) 2 = some z := at_nat (x :: y :: z :: xs) 2 (by simp)
theorem nc0 : ((0 : Nat) : Int) = 0 := rfl
theorem nc1 : ((1 : Nat) : Int) = 1 := rfl
theorem nc2 : ((2 : Nat) : Int) = 2 := rfl
theorem nc3 : ((3 : Nat) : Int) = 3 := rfl
theorem nc4 : ((4 : Nat) : Int) = 4 := rfl
/-! ### one call -/
def fin : Option Fl → Option D
  | some (.rt d) => some d
  | some (.nx _) => some .non
  | none => none
theorem run_s {T : Tb} {n k : Nat} {f : Fn} {ds : List D} (h : T.fns[k]? = some f) (hl : ds.length = f.np) : run T (n + 1) k ds = fin (exs { T with lv := n } (run T n) f.body (ds.map some ++ List.replicate (f.ns - f.np) none)) := by
  unfold run
  rw [h]
  show (if ds.length = f.np then _ else _) = _
  rw [if_pos hl]
  cases exs { T with lv := n } (run T n) f.body (ds.map some ++ List.replicate (f.ns - f.np) none) with
  | none => rfl
  | some r => cases r <;> rfl
/-! ### loops -/
theorem comp_map {b : D → Env → Option Env} {c : Env → Option Bool} {e : Env → Option D} {env : Env} {α : Type} {g h : α → D} : ∀ xs : List α, (∀ x ∈ xs, ∃ env1, b (g x) env = some env1 ∧ c env1 = some true ∧ e env1 = some (h x)) → compD b c e (xs.map g) env = some (xs.map h)
  | [], _ => rfl
  | x :: xs, hs => by
    obtain ⟨env1, e1, e2, e3⟩ := hs x (List.mem_cons_self ..)
    rw [List.map_cons, compD, e1]
    show (match c env1 with | some true => _ | some false => _ | none => _) = _
    rw [e2]
    show (match e env1, compD b c e (xs.map g) env with | some x, some r => some (x :: r) | _, _ => none) = _
    rw [e3, comp_map xs fun x m => hs x (List.mem_cons_of_mem _ m)]
    rfl
theorem comp_filter {b : D → Env → Option Env} {c : Env → Option Bool} {e : Env → Option D} {env : Env} {α : Type} {g h : α → D} {t : α → Bool} : ∀ xs : List α, (∀ x ∈ xs, ∃ env1, b (g x) env = some env1 ∧ c env1 = some (t x) ∧ (t x = true → e env1 = some (h x))) → compD b c e (xs.map g) env = some ((xs.filter t).map h)
  | [], _ => rfl
  | x :: xs, hs => by
    obtain ⟨env1, e1, e2, e3⟩ := hs x (List.mem_cons_self ..)
    have ih := comp_filter xs fun x m => hs x (List.mem_cons_of_mem _ m)
    rw [List.map_cons, compD, e1]
    show (match c env1 with | some true => _ | some false => _ | none => _) = _
    rw [e2, List.filter_cons]
    cases ht : t x with
    | true =>
      show (match e env1, compD b c e (xs.map g) env with | some x, some r => some (x :: r) | _, _ => none) = _
      rw [e3 ht, ih, if_pos rfl]
      rfl
    | false =>
      show compD b c e (xs.map g) env = _
      rw [ih, if_neg (by decide)]
theorem loop_inv {b : D → Env → Option Env} {body : Env → Option Fl} {α : Type} {g : α → D} (P : List α → Env → Prop) : ∀ (xs : List α) (env : Env), P xs env → (∀ x xs env, P (x :: xs) env → ∃ env1 env2, b (g x) env = some env1 ∧ body env1 = some (.nx env2) ∧ P xs env2) → ∃ env', loopD b body (xs.map g) env = some (.nx env') ∧ P [] env'
  | [], env, h, _ => ⟨env, rfl, h⟩
  | x :: xs, env, h, hs => by
    obtain ⟨env1, env2, e1, e2, e3⟩ := hs x xs env h
    obtain ⟨env', e4, e5⟩ := loop_inv P xs env2 e3 hs
    refine ⟨env', ?_, e5⟩
    rw [List.map_cons, loopD, e1]
    show (match body env1 with | some (.nx env2) => loopD b body (xs.map g) env2 | r => r) = _
    rw [e2]
    exact e4
theorem all_map (bs : List Bool) : allD (.lst (bs.map D.bl)) = some (.bl (bs.all id)) := by
  unfold allD
  show (blsOf (bs.map D.bl)).map _ = _
  rw [bls_map]
  rfl
/-! ### statements, each as what is left to do -/
def Rt (d : D) (r : Option Fl) : Prop := fin r = some d
def Nx (P : Env → Prop) (r : Option Fl) : Prop := ∃ env, r = some (.nx env) ∧ P env
theorem nx_nx {P : Env → Prop} {env : Env} : Nx P (some (.nx env)) = P env := propext ⟨fun ⟨e, h, p⟩ => by
  cases h
  exact p, fun h => ⟨env, rfl, h⟩⟩
theorem rt_rt {d e : D} : Rt d (some (.rt e)) = (e = d) := propext ⟨fun h => Option.some.inj h, fun h => congrArg some h⟩
theorem rt_nx {env : Env} : Rt .non (some (.nx env)) := rfl
theorem run_r {T : Tb} {n k : Nat} {f : Fn} {ds : List D} {d : D} (h : T.fns[k]? = some f) (hl : ds.length = f.np) (hr : Rt d (exs { T with lv := n } (run T n) f.body (ds.map some ++ List.replicate (f.ns - f.np) none))) : run T (n + 1) k ds = some d := by
  rw [run_s h hl]; exact hr
def Ss.app : Ss → Ss → Ss
  | .nil, b => b
  | .cons s a, b => .cons s (a.app b)
section
variable {T : Tb} {cl : Nat → List D → Option D} {env : Env} {e e' c : E} {i j : Nat} {ss a b : Ss} {is : List Nat}
theorem exs_app : ∀ (a : Ss) (b : Ss) (env : Env), exs T cl (a.app b) env = (match exs T cl a env with | some (.nx env2) => exs T cl b env2 | r => r)
  | .nil, b, env => by rw [exs.eq_1]; rfl
  | .cons s a, b, env => by
    rw [Ss.app, exs.eq_2, exs.eq_2]
    cases h : ex T cl s env with
    | none => rfl
    | some r =>
      cases r with
      | rt d => rfl
      | nx env2 => exact exs_app a b env2
theorem s_nil : exs T cl .nil env = some (.nx env) := by rw [exs.eq_1]
theorem s_asg : exs T cl (.cons (.asg i e) ss) env = (match ev T cl e env with | some d => exs T cl ss (env.set i (some d)) | none => none) := by
  rw [exs.eq_2, ex.eq_1]
  cases ev T cl e env <;> rfl
theorem s_mov : exs T cl (.cons (.mov j i) ss) env = (match gt env i with | some d => exs T cl ss ((env.set i none).set j (some d)) | none => none) := by
  rw [exs.eq_2, ex.eq_2]
  cases gt env i <;> rfl
theorem s_par : exs T cl (.cons (.par i j e e') ss) env = (match ev T cl e env with | some x => (match ev T cl e' env with | some y => exs T cl ss ((env.set i (some x)).set j (some y)) | none => none) | none => none) := by
  rw [exs.eq_2, ex.eq_3]
  cases ev T cl e env with
  | none => rfl
  | some x => cases ev T cl e' env <;> rfl
theorem s_unp {ds : List D} (h : ev T cl e env = some (.tup ds)) : exs T cl (.cons (.unp is e) ss) env = (match setsD env is ds with | some env2 => exs T cl ss env2 | none => none) := by
  rw [exs.eq_2, ex.eq_4, h]
  show (match (setsD env is ds).map Fl.nx with | some (.nx env2) => exs T cl ss env2 | r => r) = _
  cases setsD env is ds <;> rfl
theorem s_app {xs : List D} {d : D} (h : gt env i = some (.lst xs)) (hd : ev T cl e env = some d) (hl : xs.length < LIM) : exs T cl (.cons (.app i e) ss) env = exs T cl ss (env.set i (some (.lst (xs ++ [d])))) := by
  rw [exs.eq_2, ex.eq_5, h, hd]
  show (match (if xs.length < LIM then _ else _ : Option Fl) with | some (.nx env2) => exs T cl ss env2 | r => r) = _
  rw [if_pos hl]
theorem s_ext {xs ys : List D} (h : gt env i = some (.lst xs)) (hd : ev T cl e env = some (.lst ys)) (hl : xs.length + ys.length ≤ LIM) : exs T cl (.cons (.ext i e) ss) env = exs T cl ss (env.set i (some (.lst (xs ++ ys)))) := by
  rw [exs.eq_2, ex.eq_6, h, hd]
  show (match (if xs.length + ys.length ≤ LIM then _ else _ : Option Fl) with | some (.nx env2) => exs T cl ss env2 | r => r) = _
  rw [if_pos hl]
theorem s_ifs : exs T cl (.cons (.ifs c a b) ss) env = (match ev T cl c env with | some (.bl true) => exs T cl (a.app ss) env | some (.bl false) => exs T cl (b.app ss) env | _ => none) := by
  rw [exs.eq_2, ex.eq_10]
  cases ev T cl c env with
  | none => rfl
  | some d =>
    cases d <;> try rfl
    rename_i q
    cases q
    · exact (exs_app b ss env).symm
    · exact (exs_app a ss env).symm
theorem s_ret : exs T cl (.cons (.ret e) ss) env = (match ev T cl e env with | some d => some (.rt d) | none => none) := by
  rw [exs.eq_2, ex.eq_13]
  cases ev T cl e env <;> rfl
theorem s_retn : exs T cl (.cons .retn ss) env = some (.rt .non) := by rw [exs.eq_2, ex.eq_14]
theorem s_ex : exs T cl (.cons (.ex e) ss) env = (match ev T cl e env with | some _ => exs T cl ss env | none => none) := by
  rw [exs.eq_2, ex.eq_15]
  cases ev T cl e env <;> rfl
theorem loop_r {b : D → Env → Option Env} {body : Env → Option Fl} {α : Type} {g : α → D} {R : Option Fl → Prop} (P : List α → Env → Prop) (hk : ∀ env, P [] env → R (some (.nx env))) : ∀ (xs : List α) (env : Env), P xs env → (∀ x xs env, P (x :: xs) env → ∃ env1, b (g x) env = some env1 ∧ Nx (P xs) (body env1)) → R (loopD b body (xs.map g) env)
  | [], env, h, _ => hk env h
  | x :: xs, env, h, hs => by
    obtain ⟨env1, e1, env2, e2, e3⟩ := hs x xs env h
    have ih := loop_r P hk xs env2 e3 hs
    rw [List.map_cons, loopD, e1]
    show R (match body env1 with | some (.nx env2) => loopD b body (xs.map g) env2 | r => r)
    rw [e2]
    exact ih
theorem s_for {t : Tg} {s : Sr} {R : Option Fl → Prop} {α : Type} (g : α → D) (xs : List α) (P : List α → Env → Prop) (hs : evr T cl s env = some (xs.map g)) (h0 : P xs env) (hstep : ∀ x xs env, P (x :: xs) env → ∃ env1, bindD t (g x) env = some env1 ∧ Nx (P xs) (exs T cl b env1)) (hk : ∀ env, P [] env → R (exs T cl ss env)) : R (exs T cl (.cons (.for t s b) ss) env) := by
  rw [exs.eq_2, ex.eq_11, hs]
  exact loop_r (R := fun r => R (match r with | some (.nx env2) => exs T cl ss env2 | r => r)) P (fun env h => hk env h) xs env h0 hstep
/-- comes through with P, or hands back a d with R -/
def NxE (R : Option Fl → Prop) (P : Env → Prop) (r : Option Fl) : Prop := (∃ env, r = some (.nx env) ∧ P env) ∨ ∃ d, r = some (.rt d) ∧ R (some (.rt d))
theorem nxe_nx {R : Option Fl → Prop} {P : Env → Prop} {env : Env} (h : P env) : NxE R P (some (.nx env)) := .inl ⟨env, rfl, h⟩
theorem nxe_rt {R : Option Fl → Prop} {P : Env → Prop} {d : D} (h : R (some (.rt d))) : NxE R P (some (.rt d)) := .inr ⟨d, rfl, h⟩
theorem loop_e {b : D → Env → Option Env} {body : Env → Option Fl} {α : Type} {g : α → D} {R : Option Fl → Prop} (P : List α → Env → Prop) (hk : ∀ env, P [] env → R (some (.nx env))) : ∀ (xs : List α) (env : Env), P xs env → (∀ x xs env, P (x :: xs) env → ∃ env1, b (g x) env = some env1 ∧ NxE R (P xs) (body env1)) → R (loopD b body (xs.map g) env)
  | [], env, h, _ => hk env h
  | x :: xs, env, h, hs => by
    obtain ⟨env1, e1, h2⟩ := hs x xs env h
    rw [List.map_cons, loopD, e1]
    show R (match body env1 with | some (.nx env2) => loopD b body (xs.map g) env2 | r => r)
    rcases h2 with ⟨env2, e2, e3⟩ | ⟨d, e2, e3⟩
    · have ih := loop_e P hk xs env2 e3 hs
      rw [e2]
      exact ih
    · rw [e2]
      exact e3
/-- a for whose body may hand back -/
theorem s_forE {t : Tg} {s : Sr} {R : Option Fl → Prop} {α : Type} (g : α → D) (xs : List α) (P : List α → Env → Prop) (hs : evr T cl s env = some (xs.map g)) (h0 : P xs env) (hstep : ∀ x xs env, P (x :: xs) env → ∃ env1, bindD t (g x) env = some env1 ∧ NxE (fun r => R (match r with | some (.nx env2) => exs T cl ss env2 | r => r)) (P xs) (exs T cl b env1)) (hk : ∀ env, P [] env → R (exs T cl ss env)) : R (exs T cl (.cons (.for t s b) ss) env) := by
  rw [exs.eq_2, ex.eq_11, hs]
  exact loop_e (R := fun r => R (match r with | some (.nx env2) => exs T cl ss env2 | r => r)) P (fun env h => hk env h) xs env h0 hstep
theorem e_comp {t : Tg} {s : Sr} {p : E} {α : Type} {g : α → D} (h : α → D) {xs : List α} (hs : evr T cl s env = some (xs.map g)) (hl : xs.length ≤ LIM) (hb : ∀ x ∈ xs, ∃ env1, bindD t (g x) env = some env1 ∧ ev T cl p env1 = some (h x)) : ev T cl (.comp s t p) env = some (.lst (xs.map h)) := by
  rw [ev.eq_20, hs]
  show (if (xs.map g).length ≤ LIM then _ else _) = _
  rw [List.length_map, if_pos hl, comp_map xs fun x m => by
    obtain ⟨env1, e1, e2⟩ := hb x m
    exact ⟨env1, e1, rfl, e2⟩]
  rfl
theorem e_compI {t : Tg} {s : Sr} {p : E} {α : Type} {g : α → D} (h : α → D) (q : α → Bool) {xs : List α} (hs : evr T cl s env = some (xs.map g)) (hl : xs.length ≤ LIM) (hb : ∀ x ∈ xs, ∃ env1, bindD t (g x) env = some env1 ∧ ev T cl c env1 = some (.bl (q x)) ∧ (q x = true → ev T cl p env1 = some (h x))) : ev T cl (.compI s t c p) env = some (.lst ((xs.filter q).map h)) := by
  rw [ev.eq_21, hs]
  show (if (xs.map g).length ≤ LIM then _ else _) = _
  rw [List.length_map, if_pos hl, comp_filter (t := q) xs fun x m => by
    obtain ⟨env1, e1, e2, e3⟩ := hb x m
    exact ⟨env1, e1, by rw [e2]; rfl, e3⟩]
  rfl
end
/-! ### the evaluator, step by step -/
section
variable {T : Tb} {cl : Nat → List D → Option D} {env : Env}
theorem zv1 {i : Nat} : ev T cl (.var i) env = (gt env i) := by rw [ev.eq_1]; try rfl
theorem zv2 {d : D} : ev T cl (.lit d) env = (some d) := by rw [ev.eq_2]; try rfl
theorem zv3 {es : Es} : ev T cl (.tup es) env = (match evs T cl es env with
    | some ds => some (.tup ds)
    | none => none) := by rw [ev.eq_3]; try rfl
theorem zv4 {es : Es} : ev T cl (.lst es) env = (match evs T cl es env with
    | some ds => some (.lst ds)
    | none => none) := by rw [ev.eq_4]; try rfl
theorem zv5 {o : O1} {a : E} : ev T cl (.o1 o a) env = (match ev T cl a env with
    | some x => op1 T.sub o x
    | none => none) := by rw [ev.eq_5]; try rfl
theorem zv6 {o : O2} {a : E} {b : E} : ev T cl (.o2 o a b) env = (match ev T cl a env with
    | some x => match ev T cl b env with
      | some y => op2 o x y
      | none => none
    | none => none) := by rw [ev.eq_6]; try rfl
theorem zv7 {c : E} {a : E} {b : E} : ev T cl (.ite c a b) env = (match ev T cl c env with
    | some (.bl true) => ev T cl a env
    | some (.bl false) => ev T cl b env
    | _ => none) := by rw [ev.eq_7]; try rfl
theorem zv8 {a : E} {b : E} : ev T cl (.and a b) env = (match ev T cl a env with
    | some (.bl true) => ev T cl b env
    | some (.bl false) => some (.bl false)
    | _ => none) := by rw [ev.eq_8]; try rfl
theorem zv9 {a : E} {b : E} : ev T cl (.or a b) env = (match ev T cl a env with
    | some (.bl true) => some (.bl true)
    | some (.bl false) => ev T cl b env
    | _ => none) := by rw [ev.eq_9]; try rfl
theorem zv10 {o : O2} {o' : O2} {a : E} {b : E} {c : E} : ev T cl (.ch o o' a b c) env = (match ev T cl a env with
    | some x => match ev T cl b env with
      | some y => match op2 o x y with
        | some (.bl true) => match ev T cl c env with
          | some z => op2 o' y z
          | none => none
        | some (.bl false) => some (.bl false)
        | _ => none
      | none => none
    | none => none) := by rw [ev.eq_10]; try rfl
theorem zv11 {k : Nat} {es : Es} : ev T cl (.call k es) env = (match evs T cl es env with
    | some ds => cl k ds
    | none => none) := by rw [ev.eq_11]; try rfl
theorem zv12 {c : Nat} {es : Es} : ev T cl (.mk c es) env = (match evs T cl es env with
    | some ds => match T.cf c with
      | some cf => if 2 ≤ T.lv ∧ ds.length = cf.length ∧ (ds.zip cf).all (fun p => if p.2 then (seqD p.1).isSome else notL p.1) then some (.ins c ((ds.zip cf).map fun p => if p.2 then .lst ((seqD p.1).getD []) else p.1)) else none
      | none => none
    | none => none) := by rw [ev.eq_12]; try rfl
theorem zv13 {o : E} {es : Es} : ev T cl (.shows o es) env = (match ev T cl o env with
    | some (.ins c fs) => match evs T cl es env with
      | some ds => match T.sh c with
        | some k => cl k (.ins c fs :: ds)
        | none => none
      | none => none
    | _ => none) := by rw [ev.eq_13]; try rfl
theorem zv14 {a : E} {f : Str} : ev T cl (.fld a f) env = (match ev T cl a env with
    | some (.ins c fs) => ((T.cn c).zip fs).lookup f
    | _ => none) := by rw [ev.eq_14]; try rfl
theorem zv15 {a : E} {lo : E} : ev T cl (.slL a lo) env = (match ev T cl a env with
    | some x => match ev T cl lo env with
      | some (.int i) => slD (some i) none x
      | _ => none
    | none => none) := by rw [ev.eq_15]; try rfl
theorem zv16 {a : E} {hi : E} : ev T cl (.slH a hi) env = (match ev T cl a env with
    | some x => match ev T cl hi env with
      | some (.int j) => slD none (some j) x
      | _ => none
    | none => none) := by rw [ev.eq_16]; try rfl
theorem zv17 {a : E} {lo : E} {hi : E} : ev T cl (.slB a lo hi) env = (match ev T cl a env with
    | some x => match ev T cl lo env with
      | some (.int i) => match ev T cl hi env with
        | some (.int j) => slD (some i) (some j) x
        | _ => none
      | _ => none
    | none => none) := by rw [ev.eq_17]; try rfl
theorem zv18 {a : E} : ev T cl (.rev a) env = (match ev T cl a env with
    | some (.lst xs) => some (.lst xs.reverse)
    | _ => none) := by rw [ev.eq_18]; try rfl
theorem zv19 {a : E} {i : E} : ev T cl (.ix a i) env = (match ev T cl a env with
    | some x => match ev T cl i env with
      | some y => ixD x y
      | none => none
    | none => none) := by rw [ev.eq_19]; try rfl
theorem zw1 : evs T cl .nil env = (some []) := by rw [evs.eq_1]; try rfl
theorem zw2 {e : E} {es : Es} : evs T cl (.cons e es) env = (match ev T cl e env with
    | some x => match evs T cl es env with
      | some r => some (x :: r)
      | none => none
    | none => none) := by rw [evs.eq_2]; try rfl
theorem zr1 {e : E} : evr T cl (.sq e) env = ((ev T cl e env).bind seqD) := by rw [evr.eq_1]; try rfl
theorem zr2 {a : E} : evr T cl (.r1 a) env = (match ev T cl a env with
    | some (.int j) => if smallI j then some (rangeD 0 j) else none
    | _ => none) := by rw [evr.eq_2]; try rfl
theorem zr3 {a : E} {b : E} : evr T cl (.r2 a b) env = (match ev T cl a env with
    | some (.int i) => match ev T cl b env with
      | some (.int j) => if smallI i && smallI j then some (rangeD i j) else none
      | _ => none
    | _ => none) := by rw [evr.eq_3]; try rfl
theorem zr4 {a : E} {b : E} {c : E} : evr T cl (.r3 a b c) env = (match ev T cl a env with
    | some (.int i) => match ev T cl b env with
      | some (.int j) => match ev T cl c env with
        | some (.int k) => if decide (0 ≤ i) && decide (i ≤ 1000000) && decide (0 ≤ j) && decide (j ≤ 1000000) && decide (0 < k) && decide (k < 1000000) then some (range3D i j k) else none
        | _ => none
      | _ => none
    | _ => none) := by rw [evr.eq_4]; try rfl
theorem zr5 {a : E} {b : E} : evr T cl (.zp a b) env = (match ev T cl a env with
    | some (.lst xs) => match ev T cl b env with
      | some (.lst ys) => some (zipD xs ys)
      | _ => none
    | some (.tup xs) => match ev T cl b env with
      | some (.tup ys) => some (zipD xs ys)
      | _ => none
    | _ => none) := by rw [evr.eq_5]; try rfl
theorem zr6 {a : E} {b : E} {c : E} : evr T cl (.zp3 a b c) env = (match ev T cl a env with
    | some (.tup xs) => match ev T cl b env with
      | some (.tup ys) => match ev T cl c env with
        | some (.tup zs) => if xs.length = ys.length ∧ xs.length = zs.length then some (zip3D xs ys zs) else none
        | _ => none
      | _ => none
    | _ => none) := by rw [evr.eq_6]; try rfl
theorem zr7 {a : E} : evr T cl (.en a) env = (match ev T cl a env with
    | some (.lst xs) => some (enumD 0 xs)
    | _ => none) := by rw [evr.eq_7]; try rfl
end
/-! ### the operations on what is known -/
section
variable {sub : Nat → Nat → Option Bool} {i j : Int} {xs : List D} {p : Pt} {b : Bool}
theorem ix_tup : ixD (.tup xs) (.int i) = atI xs i := rfl
theorem ix_lst : ixD (.lst xs) (.int i) = atI xs i := rfl
theorem len_tup : lenD (.tup xs) = some (.int xs.length) := rfl
theorem len_lst : lenD (.lst xs) = some (.int xs.length) := rfl
theorem not_bl : notD (.bl b) = some (.bl (!b)) := rfl
theorem seq_tup : seqD (.tup xs) = some xs := rfl
theorem seq_lst : seqD (.lst xs) = some xs := rfl
theorem lt_int : ltD (.int i) (.int j) = some (.bl (decide (i < j))) := rfl
theorem sub_int : op2 .sub (.int i) (.int j) = some (.int (i - j)) := rfl
theorem add_int : op2 .add (.int i) (.int j) = some (.int (i + j)) := rfl
theorem le_int : op2 .le (.int i) (.int j) = some (.bl (decide (i ≤ j))) := rfl
theorem gt_int : op2 .gt (.int i) (.int j) = some (.bl (decide (j < i))) := rfl
theorem ge_int : op2 .ge (.int i) (.int j) = some (.bl (decide (j ≤ i))) := rfl
theorem lst_lst : lstD (.lst xs) = some (.lst xs) := rfl
theorem tpl_lst : tplD (.lst xs) = some (.tup xs) := rfl
theorem tpl_tup : tplD (.tup xs) = some (.tup xs) := rfl
theorem mod_int (h : j ≠ 0) : op2 .mod (.int i) (.int j) = some (.int (i.fmod j)) := if_pos h
theorem fdiv_int (h : 0 < j) (h2 : j < 1073741824) : op2 .fdiv (.int i) (.int j) = some (.int (i.fdiv j)) := if_pos ⟨by omega, by omega⟩
theorem mul_int (h : (-18446744073709551616 < i ∧ i < 18446744073709551616) ∨ (-18446744073709551616 < j ∧ j < 18446744073709551616)) : op2 .mul (.int i) (.int j) = some (.int (i * j)) := if_pos (by omega)
theorem o_lt : op2 .lt = ltD := rfl
theorem o_eq {x y : D} : op2 .eq x y = (eqD x y).map .bl := rfl
theorem o_ne {x y : D} : op2 .ne x y = (eqD x y).map fun c => .bl (!c) := rfl
theorem o_mem : op2 .mem = memD false := rfl
theorem o_nmem : op2 .nmem = memD true := rfl
theorem o_is : op2 .is = isD false := rfl
theorem o_isn : op2 .isn = isD true := rfl
theorem o_add : op2 .add = addD := rfl
theorem o_not : op1 sub .not = notD := rfl
theorem o_len : op1 sub .len = lenD := rfl
theorem o_all : op1 sub .all = allD := rfl
theorem o_any : op1 sub .any = anyD := rfl
theorem o_sum : op1 sub .sum = sumD := rfl
theorem o_sort : op1 sub .sort = srtD := rfl
theorem o_ssort : op1 sub .ssort = ssrtD := rfl
theorem o_lst : op1 sub .lst = lstD := rfl
theorem o_tup : op1 sub .tup = tplD := rfl
theorem o_ist {t : Ty} {d : D} : op1 sub (.ist t) d = (isT sub t d).map .bl := rfl
theorem i_int : isT sub .int (.int i) = some true := rfl
theorem i_boolI : isT sub .bool (.int i) = some false := rfl
theorem i_boolB : isT sub .bool (.bl b) = some true := rfl
theorem i_str {x : Str} : isT sub .str (.str x) = some true := rfl
theorem i_tup : isT sub .tup (.tup xs) = some true := rfl
theorem i_lst : isT sub .lst (.lst xs) = some true := rfl
theorem i_tupP : isT sub .tup (tupD p) = some true := rfl
theorem len_tupP : lenD (tupD p) = some (.int p.length) := by
  show some (D.int (p.map D.int).length) = _
  rw [List.length_map]
theorem seq_tupP : seqD (tupD p) = some (p.map .int) := rfl
theorem ix_tupP : ixD (tupD p) (.int i) = (atI p i).map .int := by
  show atI (p.map D.int) i = _
  unfold atI
  rw [List.length_map]
  cases ixN p.length i with
  | none => rfl
  | some j => exact List.getElem?_map ..
theorem is_bb {a : Bool} : isD false (.bl a) (.bl b) = some (.bl (a == b)) := by cases a <;> cases b <;> rfl
theorem isn_bb {a : Bool} : isD true (.bl a) (.bl b) = some (.bl (a != b)) := by cases a <;> cases b <;> rfl
end
/-! ### fields -/
inductive Kd where
  | sp | pl | fl
  deriving DecidableEq
def Kd.nm : Kd → Str
  | .sp => "space" | .pl => "plane" | .fl => "floor"
def fldD (k : Kd) (n : Int) : D := .tup [.str k.nm, .int n]
def okF : Kd → Int → Prop
  | .sp, n => 1 ≤ n ∧ n ≤ 4
  | .pl, n => n ∈ ([2, 3, 5, 7, 11, 13] : List Int)
  | .fl, n => 1 ≤ n ∧ n ≤ 12
def lng : Kd → Int → Int
  | .sp, n => n
  | _, _ => 2
def wid : Kd → Int → Int
  | .sp, _ => 3
  | _, n => n
theorem eq_sp (k : Kd) : eqD (.str k.nm) (.str "space") = some (decide (k = .sp)) := by cases k <;> decide +kernel
theorem eq_pl (k : Kd) : eqD (.str k.nm) (.str "plane") = some (decide (k = .pl)) := by cases k <;> decide +kernel
theorem eq_fl (k : Kd) : eqD (.str k.nm) (.str "floor") = some (decide (k = .fl)) := by cases k <;> decide +kernel
theorem i_tupF {sub : Nat → Nat → Option Bool} {k : Kd} {n : Int} : isT sub .tup (fldD k n) = some true := rfl
theorem len_F {k : Kd} {n : Int} : lenD (fldD k n) = some (.int 2) := rfl
theorem ix_F0 {k : Kd} {n : Int} : ixD (fldD k n) (.int 0) = some (.str k.nm) := rfl
theorem ix_F1 {k : Kd} {n : Int} : ixD (fldD k n) (.int 1) = some (.int n) := rfl
/-! ### lists -/
theorem all_mapf {α : Type} (f : α → Bool) (xs : List α) : allD (.lst (xs.map fun x => D.bl (f x))) = some (.bl (xs.all f)) := by
  have h := all_map (xs.map f)
  rw [List.map_map] at h
  rw [show (fun x => D.bl (f x)) = D.bl ∘ f from rfl, h, List.all_map]
  rfl
theorem lt_tup (a b : Pt) : ltD (tupD a) (tupD b) = some (.bl (HT.lexLt a b)) := by
  unfold ltD tupD
  show (match intsOf (a.map D.int), intsOf (b.map D.int) with | some ns, some ms => some (D.bl (HT.lexLt ns ms)) | _, _ => none) = _
  rw [ints_map, ints_map]
theorem sum_tupD (p : Pt) : sumD (tupD p) = some (.int p.sum) := by
  show (intsOf (p.map D.int)).map _ = _
  rw [ints_map]; rfl
theorem cut_drop (xs : List D) (i : Nat) : cutD xs (some (i : Int)) none = xs.drop i := by
  unfold cutD
  rw [HT.sIx_nat, HT.sIx_none]
  by_cases h : i ≤ xs.length
  · rw [Nat.min_eq_left h, List.take_of_length_le (by rw [List.length_drop]; omega)]
  · rw [Nat.min_eq_right (by omega), List.drop_of_length_le (Nat.le_refl _), List.drop_of_length_le (by omega), List.take_nil]
theorem cut_take (xs : List D) (i : Nat) : cutD xs none (some (i : Int)) = xs.take i := by
  unfold cutD
  rw [HT.sIx_nat, HT.sIx_none, List.drop_zero, Nat.sub_zero]
  by_cases h : i ≤ xs.length
  · rw [Nat.min_eq_left h]
  · rw [Nat.min_eq_right (by omega), List.take_of_length_le (Nat.le_refl _), List.take_of_length_le (by omega)]
theorem range_nat {n : Int} : rangeD 0 n = (List.range n.toNat).map fun (i : Nat) => D.int (i : Int) := by
  unfold rangeD
  rw [Int.sub_zero]
  exact List.map_congr_left fun i _ => by rw [Int.zero_add]
theorem small_nat {n : Int} (h0 : 0 ≤ n) (h : n ≤ 1000000) : smallI n = true := by
  unfold smallI
  rw [Bool.and_eq_true, decide_eq_true_eq, decide_eq_true_eq]
  omega
/-- all points, in order -/
def allP (w : Nat) : Nat → List Pt
  | 0 => [[]]
  | l + 1 => (allP w l).flatMap fun p => (List.range w).map fun (i : Nat) => p ++ [(i : Int)]
def dig (w : Nat) : Nat → Nat → Pt
  | 0, _ => []
  | l + 1, x => dig w l (x / w) ++ [((x % w : Nat) : Int)]
theorem range_mul (b : Nat) : ∀ a : Nat, List.range (a * b) = (List.range a).flatMap fun q => (List.range b).map fun r => q * b + r
  | 0 => by simp
  | a + 1 => by
    rw [Nat.succ_mul, List.range_add, range_mul b a, List.range_succ, List.flatMap_append]
    simp
theorem flatMap_cg {α β : Type} {f g : α → List β} : ∀ {l : List α}, (∀ a ∈ l, f a = g a) → l.flatMap f = l.flatMap g
  | [], _ => rfl
  | a :: l, h => by rw [List.flatMap_cons, List.flatMap_cons, h a (List.mem_cons_self ..), flatMap_cg fun b m => h b (List.mem_cons_of_mem _ m)]
theorem dig_all (w : Nat) : ∀ l, (List.range (w ^ l)).map (dig w l) = allP w l
  | 0 => rfl
  | l + 1 => by
    rw [Nat.pow_succ, range_mul, List.map_flatMap, allP, ← dig_all w l, List.flatMap_map]
    refine flatMap_cg fun q _ => ?_
    rw [List.map_map]
    refine List.map_congr_left fun r hr => ?_
    have hr := List.mem_range.mp hr
    have hw : 0 < w := by omega
    show dig w l ((q * w + r) / w) ++ [(((q * w + r) % w : Nat) : Int)] = _
    rw [Nat.mul_comm, Nat.mul_add_div hw, Nat.div_eq_of_lt hr, Nat.add_zero, Nat.mul_add_mod, Nat.mod_eq_of_lt hr]
theorem all_len (w l : Nat) : (allP w l).length = w ^ l := by rw [← dig_all, List.length_map, List.length_range]
theorem mem_all {w : Nat} : ∀ {l : Nat} {p : Pt}, p ∈ allP w l → p.length = l ∧ ∀ i ∈ p, 0 ≤ i ∧ i < w
  | 0, p, h => by
    have h : p = [] := by simpa [allP] using h
    subst h
    exact ⟨rfl, fun i m => by cases m⟩
  | l + 1, p, h => by
    unfold allP at h
    obtain ⟨q, hq, h2⟩ := List.mem_flatMap.mp h
    obtain ⟨i, hi, rfl⟩ := List.mem_map.mp h2
    obtain ⟨h3, h4⟩ := mem_all hq
    have hi := List.mem_range.mp hi
    refine ⟨by simp [h3], fun j m => ?_⟩
    rcases List.mem_append.mp m with m | m
    · exact h4 j m
    · have e : j = (i : Int) := by simpa using m
      subst e
      omega
end Nt

set_option Elab.async false
set_option linter.all false
set_option maxRecDepth 100000
set_option maxHeartbeats 4000000
/-! Plain laws of the defs that stand in each law. -/
namespace Nt
open PySem PySem.Spec PyProof.Rows L2
structure HA (T : Tb) : Prop where
  h0 : T.fns[0]? = some fn0
  h3 : T.fns[3]? = some fn3
  h4 : T.fns[4]? = some fn4
  h5 : T.fns[5]? = some fn5
  h7 : T.fns[7]? = some fn7
  h8 : T.fns[8]? = some fn8
  h10 : T.fns[10]? = some fn10
  h12 : T.fns[12]? = some fn12
  h13 : T.fns[13]? = some fn13
  h14 : T.fns[14]? = some fn14
  h17 : T.fns[17]? = some fn17
  h18 : T.fns[18]? = some fn18
  h19 : T.fns[19]? = some fn19
structure HB (T : Tb) : Prop where
  h1 : T.fns[1]? = some fn1
  h2 : T.fns[2]? = some fn2
  h9 : T.fns[9]? = some fn9
section
variable {T : Tb} (A : HA T) (B : HB T) {m : Nat} {k : Kd} {n : Int}
include A
theorem q0 {i : Int} : run T (m + 1) 0 [.int i] = some (.bl true) := by
  refine run_r A.h0 rfl ?_
  simp only [fn0, s_nil, s_asg, s_mov, s_par, s_ifs, s_ret, s_retn, s_ex, Ss.app, nx_nx, rt_rt, zv1, zv2, zv3, zv4, zv5, zv6, zv7, zv8, zv9, zv10, zv11, zv13, zv14, zv15, zv16, zv17, zv18, zv19, zw1, zw2, zr1, zr2, zr3, zr4, zr5, zr6, zr7, gt, sub_int, add_int, le_int, gt_int, ge_int, o_lt, o_eq, o_ne, o_mem, o_nmem, o_is, o_isn, o_not, o_len, o_all, o_any, o_sum, o_sort, o_ssort, o_lst, o_tup, o_ist, i_int, i_boolI, i_boolB, i_str, i_tup, i_lst, i_tupP, i_tupF, len_tup, len_lst, len_tupP, len_F, ix_tup, ix_lst, ix_tupP, ix_F0, ix_F1, not_bl, seq_tup, seq_lst, seq_tupP, lt_int, lst_lst, tpl_lst, tpl_tup, is_bb, isn_bb, bindD, setsD, List.length_cons, List.length_nil, List.map_cons, List.map_nil, List.replicate_succ, List.replicate_zero, List.append_nil, List.cons_append, List.nil_append, List.getElem?_cons_zero, List.getElem?_cons_succ, List.set_cons_zero, List.set_cons_succ, if_true, if_false, Nat.zero_add, Nat.sub_self, Nat.reduceAdd, Nat.reduceSub, Option.map_some, Option.map_none, Bool.not_true, Bool.not_false, Option.bind_some, nc0, nc1, nc2, nc3, nc4, Option.some.injEq, D.bl.injEq, D.int.injEq, reduceCtorEq, decide_true, decide_false, Int.reduceEq, Int.reduceNe, not_true_eq_false, not_false_eq_true, ne_eq, Int.reduceLE, Int.reduceLT, at0, at1, at2, eq_int, eq_bl, eq_sp, eq_pl, eq_fl, eq_tup, eq_pts, eq_lns, mem_pts, mem_lns, Bool.false_xor, Bool.true_xor, mod_int, fdiv_int, mul_int, Int.reduceNeg, Nat.reduceLT, Int.reduceAdd, Int.reduceMul, Int.reduceSub, and_self, or_true, true_or, reduceIte, beq_self_eq_true, Bool.and_self, Bool.true_and, Bool.and_true, Bool.false_and, Bool.and_false, Bool.or_true, Bool.true_or, Bool.or_false, Bool.false_or]
theorem q3 : run T (m + 1) 3 [fldD k n] = some (.int (lng k n)) := by
  refine run_r A.h3 rfl ?_
  cases k <;> simp only [fn3, s_nil, s_asg, s_mov, s_par, s_ifs, s_ret, s_retn, s_ex, Ss.app, nx_nx, rt_rt, zv1, zv2, zv3, zv4, zv5, zv6, zv7, zv8, zv9, zv10, zv11, zv13, zv14, zv15, zv16, zv17, zv18, zv19, zw1, zw2, zr1, zr2, zr3, zr4, zr5, zr6, zr7, gt, sub_int, add_int, le_int, gt_int, ge_int, o_lt, o_eq, o_ne, o_mem, o_nmem, o_is, o_isn, o_not, o_len, o_all, o_any, o_sum, o_sort, o_ssort, o_lst, o_tup, o_ist, i_int, i_boolI, i_boolB, i_str, i_tup, i_lst, i_tupP, i_tupF, len_tup, len_lst, len_tupP, len_F, ix_tup, ix_lst, ix_tupP, ix_F0, ix_F1, not_bl, seq_tup, seq_lst, seq_tupP, lt_int, lst_lst, tpl_lst, tpl_tup, is_bb, isn_bb, bindD, setsD, List.length_cons, List.length_nil, List.map_cons, List.map_nil, List.replicate_succ, List.replicate_zero, List.append_nil, List.cons_append, List.nil_append, List.getElem?_cons_zero, List.getElem?_cons_succ, List.set_cons_zero, List.set_cons_succ, if_true, if_false, Nat.zero_add, Nat.sub_self, Nat.reduceAdd, Nat.reduceSub, Option.map_some, Option.map_none, Bool.not_true, Bool.not_false, Option.bind_some, nc0, nc1, nc2, nc3, nc4, Option.some.injEq, D.bl.injEq, D.int.injEq, reduceCtorEq, decide_true, decide_false, Int.reduceEq, Int.reduceNe, not_true_eq_false, not_false_eq_true, ne_eq, Int.reduceLE, Int.reduceLT, at0, at1, at2, eq_int, eq_bl, eq_sp, eq_pl, eq_fl, eq_tup, eq_pts, eq_lns, mem_pts, mem_lns, Bool.false_xor, Bool.true_xor, mod_int, fdiv_int, mul_int, Int.reduceNeg, Nat.reduceLT, Int.reduceAdd, Int.reduceMul, Int.reduceSub, and_self, or_true, true_or, reduceIte, beq_self_eq_true, Bool.and_self, Bool.true_and, Bool.and_true, Bool.false_and, Bool.and_false, Bool.or_true, Bool.true_or, Bool.or_false, Bool.false_or, lng, reduceCtorEq, decide_true, decide_false]
theorem q4 : run T (m + 1) 4 [fldD k n] = some (.int (wid k n)) := by
  refine run_r A.h4 rfl ?_
  cases k <;> simp only [fn4, s_nil, s_asg, s_mov, s_par, s_ifs, s_ret, s_retn, s_ex, Ss.app, nx_nx, rt_rt, zv1, zv2, zv3, zv4, zv5, zv6, zv7, zv8, zv9, zv10, zv11, zv13, zv14, zv15, zv16, zv17, zv18, zv19, zw1, zw2, zr1, zr2, zr3, zr4, zr5, zr6, zr7, gt, sub_int, add_int, le_int, gt_int, ge_int, o_lt, o_eq, o_ne, o_mem, o_nmem, o_is, o_isn, o_not, o_len, o_all, o_any, o_sum, o_sort, o_ssort, o_lst, o_tup, o_ist, i_int, i_boolI, i_boolB, i_str, i_tup, i_lst, i_tupP, i_tupF, len_tup, len_lst, len_tupP, len_F, ix_tup, ix_lst, ix_tupP, ix_F0, ix_F1, not_bl, seq_tup, seq_lst, seq_tupP, lt_int, lst_lst, tpl_lst, tpl_tup, is_bb, isn_bb, bindD, setsD, List.length_cons, List.length_nil, List.map_cons, List.map_nil, List.replicate_succ, List.replicate_zero, List.append_nil, List.cons_append, List.nil_append, List.getElem?_cons_zero, List.getElem?_cons_succ, List.set_cons_zero, List.set_cons_succ, if_true, if_false, Nat.zero_add, Nat.sub_self, Nat.reduceAdd, Nat.reduceSub, Option.map_some, Option.map_none, Bool.not_true, Bool.not_false, Option.bind_some, nc0, nc1, nc2, nc3, nc4, Option.some.injEq, D.bl.injEq, D.int.injEq, reduceCtorEq, decide_true, decide_false, Int.reduceEq, Int.reduceNe, not_true_eq_false, not_false_eq_true, ne_eq, Int.reduceLE, Int.reduceLT, at0, at1, at2, eq_int, eq_bl, eq_sp, eq_pl, eq_fl, eq_tup, eq_pts, eq_lns, mem_pts, mem_lns, Bool.false_xor, Bool.true_xor, mod_int, fdiv_int, mul_int, Int.reduceNeg, Nat.reduceLT, Int.reduceAdd, Int.reduceMul, Int.reduceSub, and_self, or_true, true_or, reduceIte, beq_self_eq_true, Bool.and_self, Bool.true_and, Bool.and_true, Bool.false_and, Bool.and_false, Bool.or_true, Bool.true_or, Bool.or_false, Bool.false_or, wid, reduceCtorEq, decide_true, decide_false]
end
section
variable {T : Tb} (A : HA T) (B : HB T) {m : Nat} {k : Kd} {n : Int}
include A B
theorem q1 (h : okF k n) : run T (m + 2) 1 [fldD k n] = some (.bl true) := by
  refine run_r B.h1 rfl ?_
  cases k
  · obtain ⟨h1, h2⟩ : 1 ≤ n ∧ n ≤ 4 := h
    simp only [fn1, s_nil, s_asg, s_mov, s_par, s_ifs, s_ret, s_retn, s_ex, Ss.app, nx_nx, rt_rt, zv1, zv2, zv3, zv4, zv5, zv6, zv7, zv8, zv9, zv10, zv11, zv13, zv14, zv15, zv16, zv17, zv18, zv19, zw1, zw2, zr1, zr2, zr3, zr4, zr5, zr6, zr7, gt, sub_int, add_int, le_int, gt_int, ge_int, o_lt, o_eq, o_ne, o_mem, o_nmem, o_is, o_isn, o_not, o_len, o_all, o_any, o_sum, o_sort, o_ssort, o_lst, o_tup, o_ist, i_int, i_boolI, i_boolB, i_str, i_tup, i_lst, i_tupP, i_tupF, len_tup, len_lst, len_tupP, len_F, ix_tup, ix_lst, ix_tupP, ix_F0, ix_F1, not_bl, seq_tup, seq_lst, seq_tupP, lt_int, lst_lst, tpl_lst, tpl_tup, is_bb, isn_bb, bindD, setsD, List.length_cons, List.length_nil, List.map_cons, List.map_nil, List.replicate_succ, List.replicate_zero, List.append_nil, List.cons_append, List.nil_append, List.getElem?_cons_zero, List.getElem?_cons_succ, List.set_cons_zero, List.set_cons_succ, if_true, if_false, Nat.zero_add, Nat.sub_self, Nat.reduceAdd, Nat.reduceSub, Option.map_some, Option.map_none, Bool.not_true, Bool.not_false, Option.bind_some, nc0, nc1, nc2, nc3, nc4, Option.some.injEq, D.bl.injEq, D.int.injEq, reduceCtorEq, decide_true, decide_false, Int.reduceEq, Int.reduceNe, not_true_eq_false, not_false_eq_true, ne_eq, Int.reduceLE, Int.reduceLT, at0, at1, at2, eq_int, eq_bl, eq_sp, eq_pl, eq_fl, eq_tup, eq_pts, eq_lns, mem_pts, mem_lns, Bool.false_xor, Bool.true_xor, mod_int, fdiv_int, mul_int, Int.reduceNeg, Nat.reduceLT, Int.reduceAdd, Int.reduceMul, Int.reduceSub, and_self, or_true, true_or, reduceIte, beq_self_eq_true, Bool.and_self, Bool.true_and, Bool.and_true, Bool.false_and, Bool.and_false, Bool.or_true, Bool.true_or, Bool.or_false, Bool.false_or, q0 A, h1, h2]
  · have h : n ∈ ([2, 3, 5, 7, 11, 13] : List Int) := h
    have e : memD false (.int n) (.tup [.int 2, .int 3, .int 5, .int 7, .int 11, .int 13]) = some (.bl true) := by
      show (some (D.bl (false ^^ ([2, 3, 5, 7, 11, 13] : List Int).any fun z => z == n))) = _
      rw [Bool.false_xor, List.any_eq_true.mpr ⟨n, h, by simp⟩]
    simp only [fn1, s_nil, s_asg, s_mov, s_par, s_ifs, s_ret, s_retn, s_ex, Ss.app, nx_nx, rt_rt, zv1, zv2, zv3, zv4, zv5, zv6, zv7, zv8, zv9, zv10, zv11, zv13, zv14, zv15, zv16, zv17, zv18, zv19, zw1, zw2, zr1, zr2, zr3, zr4, zr5, zr6, zr7, gt, sub_int, add_int, le_int, gt_int, ge_int, o_lt, o_eq, o_ne, o_mem, o_nmem, o_is, o_isn, o_not, o_len, o_all, o_any, o_sum, o_sort, o_ssort, o_lst, o_tup, o_ist, i_int, i_boolI, i_boolB, i_str, i_tup, i_lst, i_tupP, i_tupF, len_tup, len_lst, len_tupP, len_F, ix_tup, ix_lst, ix_tupP, ix_F0, ix_F1, not_bl, seq_tup, seq_lst, seq_tupP, lt_int, lst_lst, tpl_lst, tpl_tup, is_bb, isn_bb, bindD, setsD, List.length_cons, List.length_nil, List.map_cons, List.map_nil, List.replicate_succ, List.replicate_zero, List.append_nil, List.cons_append, List.nil_append, List.getElem?_cons_zero, List.getElem?_cons_succ, List.set_cons_zero, List.set_cons_succ, if_true, if_false, Nat.zero_add, Nat.sub_self, Nat.reduceAdd, Nat.reduceSub, Option.map_some, Option.map_none, Bool.not_true, Bool.not_false, Option.bind_some, nc0, nc1, nc2, nc3, nc4, Option.some.injEq, D.bl.injEq, D.int.injEq, reduceCtorEq, decide_true, decide_false, Int.reduceEq, Int.reduceNe, not_true_eq_false, not_false_eq_true, ne_eq, Int.reduceLE, Int.reduceLT, at0, at1, at2, eq_int, eq_bl, eq_sp, eq_pl, eq_fl, eq_tup, eq_pts, eq_lns, mem_pts, mem_lns, Bool.false_xor, Bool.true_xor, mod_int, fdiv_int, mul_int, Int.reduceNeg, Nat.reduceLT, Int.reduceAdd, Int.reduceMul, Int.reduceSub, and_self, or_true, true_or, reduceIte, beq_self_eq_true, Bool.and_self, Bool.true_and, Bool.and_true, Bool.false_and, Bool.and_false, Bool.or_true, Bool.true_or, Bool.or_false, Bool.false_or, q0 A, e]
  · obtain ⟨h1, h2⟩ : 1 ≤ n ∧ n ≤ 12 := h
    simp only [fn1, s_nil, s_asg, s_mov, s_par, s_ifs, s_ret, s_retn, s_ex, Ss.app, nx_nx, rt_rt, zv1, zv2, zv3, zv4, zv5, zv6, zv7, zv8, zv9, zv10, zv11, zv13, zv14, zv15, zv16, zv17, zv18, zv19, zw1, zw2, zr1, zr2, zr3, zr4, zr5, zr6, zr7, gt, sub_int, add_int, le_int, gt_int, ge_int, o_lt, o_eq, o_ne, o_mem, o_nmem, o_is, o_isn, o_not, o_len, o_all, o_any, o_sum, o_sort, o_ssort, o_lst, o_tup, o_ist, i_int, i_boolI, i_boolB, i_str, i_tup, i_lst, i_tupP, i_tupF, len_tup, len_lst, len_tupP, len_F, ix_tup, ix_lst, ix_tupP, ix_F0, ix_F1, not_bl, seq_tup, seq_lst, seq_tupP, lt_int, lst_lst, tpl_lst, tpl_tup, is_bb, isn_bb, bindD, setsD, List.length_cons, List.length_nil, List.map_cons, List.map_nil, List.replicate_succ, List.replicate_zero, List.append_nil, List.cons_append, List.nil_append, List.getElem?_cons_zero, List.getElem?_cons_succ, List.set_cons_zero, List.set_cons_succ, if_true, if_false, Nat.zero_add, Nat.sub_self, Nat.reduceAdd, Nat.reduceSub, Option.map_some, Option.map_none, Bool.not_true, Bool.not_false, Option.bind_some, nc0, nc1, nc2, nc3, nc4, Option.some.injEq, D.bl.injEq, D.int.injEq, reduceCtorEq, decide_true, decide_false, Int.reduceEq, Int.reduceNe, not_true_eq_false, not_false_eq_true, ne_eq, Int.reduceLE, Int.reduceLT, at0, at1, at2, eq_int, eq_bl, eq_sp, eq_pl, eq_fl, eq_tup, eq_pts, eq_lns, mem_pts, mem_lns, Bool.false_xor, Bool.true_xor, mod_int, fdiv_int, mul_int, Int.reduceNeg, Nat.reduceLT, Int.reduceAdd, Int.reduceMul, Int.reduceSub, and_self, or_true, true_or, reduceIte, beq_self_eq_true, Bool.and_self, Bool.true_and, Bool.and_true, Bool.false_and, Bool.and_false, Bool.or_true, Bool.true_or, Bool.or_false, Bool.false_or, q0 A, h1, h2]
theorem q2 (h : okF k n) : run T (m + 3) 2 [fldD k n] = some .non := by
  refine run_r B.h2 rfl ?_
  simp only [fn2, s_nil, s_asg, s_mov, s_par, s_ifs, s_ret, s_retn, s_ex, Ss.app, nx_nx, rt_rt, zv1, zv2, zv3, zv4, zv5, zv6, zv7, zv8, zv9, zv10, zv11, zv13, zv14, zv15, zv16, zv17, zv18, zv19, zw1, zw2, zr1, zr2, zr3, zr4, zr5, zr6, zr7, gt, sub_int, add_int, le_int, gt_int, ge_int, o_lt, o_eq, o_ne, o_mem, o_nmem, o_is, o_isn, o_not, o_len, o_all, o_any, o_sum, o_sort, o_ssort, o_lst, o_tup, o_ist, i_int, i_boolI, i_boolB, i_str, i_tup, i_lst, i_tupP, i_tupF, len_tup, len_lst, len_tupP, len_F, ix_tup, ix_lst, ix_tupP, ix_F0, ix_F1, not_bl, seq_tup, seq_lst, seq_tupP, lt_int, lst_lst, tpl_lst, tpl_tup, is_bb, isn_bb, bindD, setsD, List.length_cons, List.length_nil, List.map_cons, List.map_nil, List.replicate_succ, List.replicate_zero, List.append_nil, List.cons_append, List.nil_append, List.getElem?_cons_zero, List.getElem?_cons_succ, List.set_cons_zero, List.set_cons_succ, if_true, if_false, Nat.zero_add, Nat.sub_self, Nat.reduceAdd, Nat.reduceSub, Option.map_some, Option.map_none, Bool.not_true, Bool.not_false, Option.bind_some, nc0, nc1, nc2, nc3, nc4, Option.some.injEq, D.bl.injEq, D.int.injEq, reduceCtorEq, decide_true, decide_false, Int.reduceEq, Int.reduceNe, not_true_eq_false, not_false_eq_true, ne_eq, Int.reduceLE, Int.reduceLT, at0, at1, at2, eq_int, eq_bl, eq_sp, eq_pl, eq_fl, eq_tup, eq_pts, eq_lns, mem_pts, mem_lns, Bool.false_xor, Bool.true_xor, mod_int, fdiv_int, mul_int, Int.reduceNeg, Nat.reduceLT, Int.reduceAdd, Int.reduceMul, Int.reduceSub, and_self, or_true, true_or, reduceIte, beq_self_eq_true, Bool.and_self, Bool.true_and, Bool.and_true, Bool.false_and, Bool.and_false, Bool.or_true, Bool.true_or, Bool.or_false, Bool.false_or, q1 A B h]
  rfl
end
/-! ### points -/
def isPt (k : Kd) (n : Int) (p : Pt) : Prop := (p.length : Int) = lng k n ∧ ∀ i ∈ p, 0 ≤ i ∧ i < wid k n
instance {k : Kd} {n : Int} {p : Pt} : Decidable (isPt k n p) := inferInstanceAs (Decidable (_ ∧ _))
/-- ascending, none twice -/
def asc (ps : List Pt) : Bool := (ps.zip (ps.drop 1)).all fun z => HT.lexLt z.1 z.2
def areP (k : Kd) (n : Int) (ps : List Pt) : Bool := ps.all (fun p => decide (isPt k n p)) && asc ps
def pairD (z : Pt × Pt) : D := .tup [tupD z.1, tupD z.2]
theorem zip_pts : ∀ ps qs : List Pt, zipD (ps.map tupD) (qs.map tupD) = (ps.zip qs).map pairD
  | [], _ => rfl
  | _ :: _, [] => rfl
  | p :: ps, q :: qs => by
    rw [List.map_cons, List.map_cons, zipD, zip_pts ps qs]
    rfl
def tripD (z : Int × Int × Int) : D := tupD [z.1, z.2.1, z.2.2]
theorem zip3_ints : ∀ p q r : Pt, zip3D (p.map D.int) (q.map D.int) (r.map D.int) = (p.zip (q.zip r)).map tripD
  | [], _, _ => rfl
  | _ :: _, [], _ => rfl
  | _ :: _, _ :: _, [] => rfl
  | a :: p, b :: q, c :: r => by
    rw [List.map_cons, List.map_cons, List.map_cons, zip3D, zip3_ints p q r]
    rfl
/-- in one line of a space -/
def lin3 (p q r : Pt) : Bool := (p.zip (q.zip r)).all fun z => decide ((z.1 + z.2.1 + z.2.2).fmod 3 = 0)
def span (p q r : Pt) : Int := (q.getD 0 0 - p.getD 0 0) * (r.getD 1 0 - p.getD 1 0) - (q.getD 1 0 - p.getD 1 0) * (r.getD 0 0 - p.getD 0 0)
def lin (k : Kd) (n : Int) (p q r : Pt) : Bool := match k with
  | .sp => lin3 p q r
  | .pl => decide ((span p q r).fmod n = 0)
  | .fl => decide (span p q r = 0)
theorem lin3_at : ∀ (p q r : Pt), p.length = q.length → p.length = r.length → ((List.range p.length).all fun i => decide ((p.getD i 0 + q.getD i 0 + r.getD i 0).fmod 3 = 0)) = lin3 p q r
  | [], _, _, _, _ => rfl
  | a :: p, [], _, h, _ => by cases h
  | a :: p, _ :: _, [], _, h => by cases h
  | a :: p, b :: q, c :: r, h, h2 => by
    have ih := lin3_at p q r (by simpa using h) (by simpa using h2)
    unfold lin3 at ih ⊢
    rw [List.length_cons, List.range_succ_eq_map, List.all_cons, List.all_map, List.zip_cons_cons, List.zip_cons_cons, List.all_cons, ← ih]
    rfl
theorem at_getD {p : Pt} {i : Nat} (h : i < p.length) : atI p (i : Int) = some (p.getD i 0) := by
  rw [at_nat _ _ h, List.getElem?_eq_getElem h, List.getD_eq_getElem?_getD, List.getElem?_eq_getElem h]
  rfl
theorem two {p : Pt} {w : Int} (h : (p.length : Int) = 2 ∧ ∀ i ∈ p, 0 ≤ i ∧ i < w) (hw : w ≤ 13) : ∃ a b : Int, p = [a, b] ∧ (0 ≤ a ∧ a < 13) ∧ (0 ≤ b ∧ b < 13) := by
  obtain ⟨h1, h2⟩ := h
  match p, h1, h2 with
  | [a, b], _, h2 =>
    have := h2 a (by simp)
    have := h2 b (by simp)
    exact ⟨a, b, rfl, by omega, by omega⟩
  | [], h1, _ => simp at h1
  | [_], h1, _ => simp at h1
  | _ :: _ :: _ :: _, h1, _ => simp at h1; omega
theorem wid_le {k : Kd} {n : Int} (h : okF k n) : 1 ≤ wid k n ∧ wid k n ≤ 13 := by
  cases k
  · exact ⟨(by decide : (1 : Int) ≤ 3), (by decide : (3 : Int) ≤ 13)⟩
  · have h : n ∈ ([2, 3, 5, 7, 11, 13] : List Int) := h
    show 1 ≤ n ∧ n ≤ 13
    simp at h
    omega
  · have h : 1 ≤ n ∧ n ≤ 12 := h
    show 1 ≤ n ∧ n ≤ 13
    omega
theorem lng_le {k : Kd} {n : Int} (h : okF k n) : 1 ≤ lng k n ∧ lng k n ≤ 4 := by
  cases k
  · exact h
  · exact ⟨(by decide : (1 : Int) ≤ 2), (by decide : (2 : Int) ≤ 4)⟩
  · exact ⟨(by decide : (1 : Int) ≤ 2), (by decide : (2 : Int) ≤ 4)⟩
theorem isPt_len {k : Kd} {n : Int} {p : Pt} (h : okF k n) (hp : isPt k n p) : p.length ≤ 4 := by
  have := lng_le h
  have := hp.1
  omega
section
variable {T : Tb} (A : HA T) (B : HB T) {m : Nat} {k : Kd} {n : Int}
include A
theorem q7 (p : Pt) (hp : p.length ≤ LIM) : run T (m + 2) 7 [fldD k n, tupD p] = some (.bl (decide (isPt k n p))) := by
  refine run_r A.h7 rfl ?_
  simp only [fn7, s_nil, s_asg, s_mov, s_par, s_ifs, s_ret, s_retn, s_ex, Ss.app, nx_nx, rt_rt, zv1, zv2, zv3, zv4, zv5, zv6, zv7, zv8, zv9, zv10, zv11, zv13, zv14, zv15, zv16, zv17, zv18, zv19, zw1, zw2, zr1, zr2, zr3, zr4, zr5, zr6, zr7, gt, sub_int, add_int, le_int, gt_int, ge_int, o_lt, o_eq, o_ne, o_mem, o_nmem, o_is, o_isn, o_not, o_len, o_all, o_any, o_sum, o_sort, o_ssort, o_lst, o_tup, o_ist, i_int, i_boolI, i_boolB, i_str, i_tup, i_lst, i_tupP, i_tupF, len_tup, len_lst, len_tupP, len_F, ix_tup, ix_lst, ix_tupP, ix_F0, ix_F1, not_bl, seq_tup, seq_lst, seq_tupP, lt_int, lst_lst, tpl_lst, tpl_tup, is_bb, isn_bb, bindD, setsD, List.length_cons, List.length_nil, List.map_cons, List.map_nil, List.replicate_succ, List.replicate_zero, List.append_nil, List.cons_append, List.nil_append, List.getElem?_cons_zero, List.getElem?_cons_succ, List.set_cons_zero, List.set_cons_succ, if_true, if_false, Nat.zero_add, Nat.sub_self, Nat.reduceAdd, Nat.reduceSub, Option.map_some, Option.map_none, Bool.not_true, Bool.not_false, Option.bind_some, nc0, nc1, nc2, nc3, nc4, Option.some.injEq, D.bl.injEq, D.int.injEq, reduceCtorEq, decide_true, decide_false, Int.reduceEq, Int.reduceNe, not_true_eq_false, not_false_eq_true, ne_eq, Int.reduceLE, Int.reduceLT, at0, at1, at2, eq_int, eq_bl, eq_sp, eq_pl, eq_fl, eq_tup, eq_pts, eq_lns, mem_pts, mem_lns, Bool.false_xor, Bool.true_xor, mod_int, fdiv_int, mul_int, Int.reduceNeg, Nat.reduceLT, Int.reduceAdd, Int.reduceMul, Int.reduceSub, and_self, or_true, true_or, reduceIte, beq_self_eq_true, Bool.and_self, Bool.true_and, Bool.and_true, Bool.false_and, Bool.and_false, Bool.or_true, Bool.true_or, Bool.or_false, Bool.false_or, q3 A]
  by_cases h : (p.length : Int) = lng k n
  · simp only [h, s_nil, s_asg, s_mov, s_par, s_ifs, s_ret, s_retn, s_ex, Ss.app, nx_nx, rt_rt, zv1, zv2, zv3, zv4, zv5, zv6, zv7, zv8, zv9, zv10, zv11, zv13, zv14, zv15, zv16, zv17, zv18, zv19, zw1, zw2, zr1, zr2, zr3, zr4, zr5, zr6, zr7, gt, sub_int, add_int, le_int, gt_int, ge_int, o_lt, o_eq, o_ne, o_mem, o_nmem, o_is, o_isn, o_not, o_len, o_all, o_any, o_sum, o_sort, o_ssort, o_lst, o_tup, o_ist, i_int, i_boolI, i_boolB, i_str, i_tup, i_lst, i_tupP, i_tupF, len_tup, len_lst, len_tupP, len_F, ix_tup, ix_lst, ix_tupP, ix_F0, ix_F1, not_bl, seq_tup, seq_lst, seq_tupP, lt_int, lst_lst, tpl_lst, tpl_tup, is_bb, isn_bb, bindD, setsD, List.length_cons, List.length_nil, List.map_cons, List.map_nil, List.replicate_succ, List.replicate_zero, List.append_nil, List.cons_append, List.nil_append, List.getElem?_cons_zero, List.getElem?_cons_succ, List.set_cons_zero, List.set_cons_succ, if_true, if_false, Nat.zero_add, Nat.sub_self, Nat.reduceAdd, Nat.reduceSub, Option.map_some, Option.map_none, Bool.not_true, Bool.not_false, Option.bind_some, nc0, nc1, nc2, nc3, nc4, Option.some.injEq, D.bl.injEq, D.int.injEq, reduceCtorEq, decide_true, decide_false, Int.reduceEq, Int.reduceNe, not_true_eq_false, not_false_eq_true, ne_eq, Int.reduceLE, Int.reduceLT, at0, at1, at2, eq_int, eq_bl, eq_sp, eq_pl, eq_fl, eq_tup, eq_pts, eq_lns, mem_pts, mem_lns, Bool.false_xor, Bool.true_xor, mod_int, fdiv_int, mul_int, Int.reduceNeg, Nat.reduceLT, Int.reduceAdd, Int.reduceMul, Int.reduceSub, and_self, or_true, true_or, reduceIte, beq_self_eq_true, Bool.and_self, Bool.true_and, Bool.and_true, Bool.false_and, Bool.and_false, Bool.or_true, Bool.true_or, Bool.or_false, Bool.false_or]
    rw [e_comp (g := D.int) (xs := p) (fun i => D.bl (decide (0 ≤ i ∧ i < wid k n))) (by simp only [s_nil, s_asg, s_mov, s_par, s_ifs, s_ret, s_retn, s_ex, Ss.app, nx_nx, rt_rt, zv1, zv2, zv3, zv4, zv5, zv6, zv7, zv8, zv9, zv10, zv11, zv13, zv14, zv15, zv16, zv17, zv18, zv19, zw1, zw2, zr1, zr2, zr3, zr4, zr5, zr6, zr7, gt, sub_int, add_int, le_int, gt_int, ge_int, o_lt, o_eq, o_ne, o_mem, o_nmem, o_is, o_isn, o_not, o_len, o_all, o_any, o_sum, o_sort, o_ssort, o_lst, o_tup, o_ist, i_int, i_boolI, i_boolB, i_str, i_tup, i_lst, i_tupP, i_tupF, len_tup, len_lst, len_tupP, len_F, ix_tup, ix_lst, ix_tupP, ix_F0, ix_F1, not_bl, seq_tup, seq_lst, seq_tupP, lt_int, lst_lst, tpl_lst, tpl_tup, is_bb, isn_bb, bindD, setsD, List.length_cons, List.length_nil, List.map_cons, List.map_nil, List.replicate_succ, List.replicate_zero, List.append_nil, List.cons_append, List.nil_append, List.getElem?_cons_zero, List.getElem?_cons_succ, List.set_cons_zero, List.set_cons_succ, if_true, if_false, Nat.zero_add, Nat.sub_self, Nat.reduceAdd, Nat.reduceSub, Option.map_some, Option.map_none, Bool.not_true, Bool.not_false, Option.bind_some, nc0, nc1, nc2, nc3, nc4, Option.some.injEq, D.bl.injEq, D.int.injEq, reduceCtorEq, decide_true, decide_false, Int.reduceEq, Int.reduceNe, not_true_eq_false, not_false_eq_true, ne_eq, Int.reduceLE, Int.reduceLT, at0, at1, at2, eq_int, eq_bl, eq_sp, eq_pl, eq_fl, eq_tup, eq_pts, eq_lns, mem_pts, mem_lns, Bool.false_xor, Bool.true_xor, mod_int, fdiv_int, mul_int, Int.reduceNeg, Nat.reduceLT, Int.reduceAdd, Int.reduceMul, Int.reduceSub, and_self, or_true, true_or, reduceIte, beq_self_eq_true, Bool.and_self, Bool.true_and, Bool.and_true, Bool.false_and, Bool.and_false, Bool.or_true, Bool.true_or, Bool.or_false, Bool.false_or]) hp (fun i _ => ⟨_, rfl, by
      simp only [s_nil, s_asg, s_mov, s_par, s_ifs, s_ret, s_retn, s_ex, Ss.app, nx_nx, rt_rt, zv1, zv2, zv3, zv4, zv5, zv6, zv7, zv8, zv9, zv10, zv11, zv13, zv14, zv15, zv16, zv17, zv18, zv19, zw1, zw2, zr1, zr2, zr3, zr4, zr5, zr6, zr7, gt, sub_int, add_int, le_int, gt_int, ge_int, o_lt, o_eq, o_ne, o_mem, o_nmem, o_is, o_isn, o_not, o_len, o_all, o_any, o_sum, o_sort, o_ssort, o_lst, o_tup, o_ist, i_int, i_boolI, i_boolB, i_str, i_tup, i_lst, i_tupP, i_tupF, len_tup, len_lst, len_tupP, len_F, ix_tup, ix_lst, ix_tupP, ix_F0, ix_F1, not_bl, seq_tup, seq_lst, seq_tupP, lt_int, lst_lst, tpl_lst, tpl_tup, is_bb, isn_bb, bindD, setsD, List.length_cons, List.length_nil, List.map_cons, List.map_nil, List.replicate_succ, List.replicate_zero, List.append_nil, List.cons_append, List.nil_append, List.getElem?_cons_zero, List.getElem?_cons_succ, List.set_cons_zero, List.set_cons_succ, if_true, if_false, Nat.zero_add, Nat.sub_self, Nat.reduceAdd, Nat.reduceSub, Option.map_some, Option.map_none, Bool.not_true, Bool.not_false, Option.bind_some, nc0, nc1, nc2, nc3, nc4, Option.some.injEq, D.bl.injEq, D.int.injEq, reduceCtorEq, decide_true, decide_false, Int.reduceEq, Int.reduceNe, not_true_eq_false, not_false_eq_true, ne_eq, Int.reduceLE, Int.reduceLT, at0, at1, at2, eq_int, eq_bl, eq_sp, eq_pl, eq_fl, eq_tup, eq_pts, eq_lns, mem_pts, mem_lns, Bool.false_xor, Bool.true_xor, mod_int, fdiv_int, mul_int, Int.reduceNeg, Nat.reduceLT, Int.reduceAdd, Int.reduceMul, Int.reduceSub, and_self, or_true, true_or, reduceIte, beq_self_eq_true, Bool.and_self, Bool.true_and, Bool.and_true, Bool.false_and, Bool.and_false, Bool.or_true, Bool.true_or, Bool.or_false, Bool.false_or, q0 A, q4 A]
      by_cases h0 : 0 ≤ i <;> simp only [h0, s_nil, s_asg, s_mov, s_par, s_ifs, s_ret, s_retn, s_ex, Ss.app, nx_nx, rt_rt, zv1, zv2, zv3, zv4, zv5, zv6, zv7, zv8, zv9, zv10, zv11, zv13, zv14, zv15, zv16, zv17, zv18, zv19, zw1, zw2, zr1, zr2, zr3, zr4, zr5, zr6, zr7, gt, sub_int, add_int, le_int, gt_int, ge_int, o_lt, o_eq, o_ne, o_mem, o_nmem, o_is, o_isn, o_not, o_len, o_all, o_any, o_sum, o_sort, o_ssort, o_lst, o_tup, o_ist, i_int, i_boolI, i_boolB, i_str, i_tup, i_lst, i_tupP, i_tupF, len_tup, len_lst, len_tupP, len_F, ix_tup, ix_lst, ix_tupP, ix_F0, ix_F1, not_bl, seq_tup, seq_lst, seq_tupP, lt_int, lst_lst, tpl_lst, tpl_tup, is_bb, isn_bb, bindD, setsD, List.length_cons, List.length_nil, List.map_cons, List.map_nil, List.replicate_succ, List.replicate_zero, List.append_nil, List.cons_append, List.nil_append, List.getElem?_cons_zero, List.getElem?_cons_succ, List.set_cons_zero, List.set_cons_succ, if_true, if_false, Nat.zero_add, Nat.sub_self, Nat.reduceAdd, Nat.reduceSub, Option.map_some, Option.map_none, Bool.not_true, Bool.not_false, Option.bind_some, nc0, nc1, nc2, nc3, nc4, Option.some.injEq, D.bl.injEq, D.int.injEq, reduceCtorEq, decide_true, decide_false, Int.reduceEq, Int.reduceNe, not_true_eq_false, not_false_eq_true, ne_eq, Int.reduceLE, Int.reduceLT, at0, at1, at2, eq_int, eq_bl, eq_sp, eq_pl, eq_fl, eq_tup, eq_pts, eq_lns, mem_pts, mem_lns, Bool.false_xor, Bool.true_xor, mod_int, fdiv_int, mul_int, Int.reduceNeg, Nat.reduceLT, Int.reduceAdd, Int.reduceMul, Int.reduceSub, and_self, or_true, true_or, reduceIte, beq_self_eq_true, Bool.and_self, Bool.true_and, Bool.and_true, Bool.false_and, Bool.and_false, Bool.or_true, Bool.true_or, Bool.or_false, Bool.false_or, true_and, false_and]⟩)]
    simp only [s_nil, s_asg, s_mov, s_par, s_ifs, s_ret, s_retn, s_ex, Ss.app, nx_nx, rt_rt, zv1, zv2, zv3, zv4, zv5, zv6, zv7, zv8, zv9, zv10, zv11, zv13, zv14, zv15, zv16, zv17, zv18, zv19, zw1, zw2, zr1, zr2, zr3, zr4, zr5, zr6, zr7, gt, sub_int, add_int, le_int, gt_int, ge_int, o_lt, o_eq, o_ne, o_mem, o_nmem, o_is, o_isn, o_not, o_len, o_all, o_any, o_sum, o_sort, o_ssort, o_lst, o_tup, o_ist, i_int, i_boolI, i_boolB, i_str, i_tup, i_lst, i_tupP, i_tupF, len_tup, len_lst, len_tupP, len_F, ix_tup, ix_lst, ix_tupP, ix_F0, ix_F1, not_bl, seq_tup, seq_lst, seq_tupP, lt_int, lst_lst, tpl_lst, tpl_tup, is_bb, isn_bb, bindD, setsD, List.length_cons, List.length_nil, List.map_cons, List.map_nil, List.replicate_succ, List.replicate_zero, List.append_nil, List.cons_append, List.nil_append, List.getElem?_cons_zero, List.getElem?_cons_succ, List.set_cons_zero, List.set_cons_succ, if_true, if_false, Nat.zero_add, Nat.sub_self, Nat.reduceAdd, Nat.reduceSub, Option.map_some, Option.map_none, Bool.not_true, Bool.not_false, Option.bind_some, nc0, nc1, nc2, nc3, nc4, Option.some.injEq, D.bl.injEq, D.int.injEq, reduceCtorEq, decide_true, decide_false, Int.reduceEq, Int.reduceNe, not_true_eq_false, not_false_eq_true, ne_eq, Int.reduceLE, Int.reduceLT, at0, at1, at2, eq_int, eq_bl, eq_sp, eq_pl, eq_fl, eq_tup, eq_pts, eq_lns, mem_pts, mem_lns, Bool.false_xor, Bool.true_xor, mod_int, fdiv_int, mul_int, Int.reduceNeg, Nat.reduceLT, Int.reduceAdd, Int.reduceMul, Int.reduceSub, and_self, or_true, true_or, reduceIte, beq_self_eq_true, Bool.and_self, Bool.true_and, Bool.and_true, Bool.false_and, Bool.and_false, Bool.or_true, Bool.true_or, Bool.or_false, Bool.false_or, all_mapf, isPt, h, true_and, List.all_eq]
    exact decide_eq_decide.mpr (by simp)
  · simp only [h, s_nil, s_asg, s_mov, s_par, s_ifs, s_ret, s_retn, s_ex, Ss.app, nx_nx, rt_rt, zv1, zv2, zv3, zv4, zv5, zv6, zv7, zv8, zv9, zv10, zv11, zv13, zv14, zv15, zv16, zv17, zv18, zv19, zw1, zw2, zr1, zr2, zr3, zr4, zr5, zr6, zr7, gt, sub_int, add_int, le_int, gt_int, ge_int, o_lt, o_eq, o_ne, o_mem, o_nmem, o_is, o_isn, o_not, o_len, o_all, o_any, o_sum, o_sort, o_ssort, o_lst, o_tup, o_ist, i_int, i_boolI, i_boolB, i_str, i_tup, i_lst, i_tupP, i_tupF, len_tup, len_lst, len_tupP, len_F, ix_tup, ix_lst, ix_tupP, ix_F0, ix_F1, not_bl, seq_tup, seq_lst, seq_tupP, lt_int, lst_lst, tpl_lst, tpl_tup, is_bb, isn_bb, bindD, setsD, List.length_cons, List.length_nil, List.map_cons, List.map_nil, List.replicate_succ, List.replicate_zero, List.append_nil, List.cons_append, List.nil_append, List.getElem?_cons_zero, List.getElem?_cons_succ, List.set_cons_zero, List.set_cons_succ, if_true, if_false, Nat.zero_add, Nat.sub_self, Nat.reduceAdd, Nat.reduceSub, Option.map_some, Option.map_none, Bool.not_true, Bool.not_false, Option.bind_some, nc0, nc1, nc2, nc3, nc4, Option.some.injEq, D.bl.injEq, D.int.injEq, reduceCtorEq, decide_true, decide_false, Int.reduceEq, Int.reduceNe, not_true_eq_false, not_false_eq_true, ne_eq, Int.reduceLE, Int.reduceLT, at0, at1, at2, eq_int, eq_bl, eq_sp, eq_pl, eq_fl, eq_tup, eq_pts, eq_lns, mem_pts, mem_lns, Bool.false_xor, Bool.true_xor, mod_int, fdiv_int, mul_int, Int.reduceNeg, Nat.reduceLT, Int.reduceAdd, Int.reduceMul, Int.reduceSub, and_self, or_true, true_or, reduceIte, beq_self_eq_true, Bool.and_self, Bool.true_and, Bool.and_true, Bool.false_and, Bool.and_false, Bool.or_true, Bool.true_or, Bool.or_false, Bool.false_or]
    simp only [isPt, h, s_nil, s_asg, s_mov, s_par, s_ifs, s_ret, s_retn, s_ex, Ss.app, nx_nx, rt_rt, zv1, zv2, zv3, zv4, zv5, zv6, zv7, zv8, zv9, zv10, zv11, zv13, zv14, zv15, zv16, zv17, zv18, zv19, zw1, zw2, zr1, zr2, zr3, zr4, zr5, zr6, zr7, gt, sub_int, add_int, le_int, gt_int, ge_int, o_lt, o_eq, o_ne, o_mem, o_nmem, o_is, o_isn, o_not, o_len, o_all, o_any, o_sum, o_sort, o_ssort, o_lst, o_tup, o_ist, i_int, i_boolI, i_boolB, i_str, i_tup, i_lst, i_tupP, i_tupF, len_tup, len_lst, len_tupP, len_F, ix_tup, ix_lst, ix_tupP, ix_F0, ix_F1, not_bl, seq_tup, seq_lst, seq_tupP, lt_int, lst_lst, tpl_lst, tpl_tup, is_bb, isn_bb, bindD, setsD, List.length_cons, List.length_nil, List.map_cons, List.map_nil, List.replicate_succ, List.replicate_zero, List.append_nil, List.cons_append, List.nil_append, List.getElem?_cons_zero, List.getElem?_cons_succ, List.set_cons_zero, List.set_cons_succ, if_true, if_false, Nat.zero_add, Nat.sub_self, Nat.reduceAdd, Nat.reduceSub, Option.map_some, Option.map_none, Bool.not_true, Bool.not_false, Option.bind_some, nc0, nc1, nc2, nc3, nc4, Option.some.injEq, D.bl.injEq, D.int.injEq, reduceCtorEq, decide_true, decide_false, Int.reduceEq, Int.reduceNe, not_true_eq_false, not_false_eq_true, ne_eq, Int.reduceLE, Int.reduceLT, at0, at1, at2, eq_int, eq_bl, eq_sp, eq_pl, eq_fl, eq_tup, eq_pts, eq_lns, mem_pts, mem_lns, Bool.false_xor, Bool.true_xor, mod_int, fdiv_int, mul_int, Int.reduceNeg, Nat.reduceLT, Int.reduceAdd, Int.reduceMul, Int.reduceSub, and_self, or_true, true_or, reduceIte, beq_self_eq_true, Bool.and_self, Bool.true_and, Bool.and_true, Bool.false_and, Bool.and_false, Bool.or_true, Bool.true_or, Bool.or_false, Bool.false_or, false_and]
theorem q8 (ps : List Pt) (hl : ps.length ≤ LIM) (hp : ∀ p ∈ ps, p.length ≤ LIM) : run T (m + 3) 8 [fldD k n, ptsD ps] = some (.bl (areP k n ps)) := by
  refine run_r A.h8 rfl ?_
  simp only [fn8, s_nil, s_asg, s_mov, s_par, s_ifs, s_ret, s_retn, s_ex, Ss.app, nx_nx, rt_rt, zv1, zv2, zv3, zv4, zv5, zv6, zv7, zv8, zv9, zv10, zv11, zv13, zv14, zv15, zv16, zv17, zv18, zv19, zw1, zw2, zr1, zr2, zr3, zr4, zr5, zr6, zr7, gt, sub_int, add_int, le_int, gt_int, ge_int, o_lt, o_eq, o_ne, o_mem, o_nmem, o_is, o_isn, o_not, o_len, o_all, o_any, o_sum, o_sort, o_ssort, o_lst, o_tup, o_ist, i_int, i_boolI, i_boolB, i_str, i_tup, i_lst, i_tupP, i_tupF, len_tup, len_lst, len_tupP, len_F, ix_tup, ix_lst, ix_tupP, ix_F0, ix_F1, not_bl, seq_tup, seq_lst, seq_tupP, lt_int, lst_lst, tpl_lst, tpl_tup, is_bb, isn_bb, bindD, setsD, List.length_cons, List.length_nil, List.map_cons, List.map_nil, List.replicate_succ, List.replicate_zero, List.append_nil, List.cons_append, List.nil_append, List.getElem?_cons_zero, List.getElem?_cons_succ, List.set_cons_zero, List.set_cons_succ, if_true, if_false, Nat.zero_add, Nat.sub_self, Nat.reduceAdd, Nat.reduceSub, Option.map_some, Option.map_none, Bool.not_true, Bool.not_false, Option.bind_some, nc0, nc1, nc2, nc3, nc4, Option.some.injEq, D.bl.injEq, D.int.injEq, reduceCtorEq, decide_true, decide_false, Int.reduceEq, Int.reduceNe, not_true_eq_false, not_false_eq_true, ne_eq, Int.reduceLE, Int.reduceLT, at0, at1, at2, eq_int, eq_bl, eq_sp, eq_pl, eq_fl, eq_tup, eq_pts, eq_lns, mem_pts, mem_lns, Bool.false_xor, Bool.true_xor, mod_int, fdiv_int, mul_int, Int.reduceNeg, Nat.reduceLT, Int.reduceAdd, Int.reduceMul, Int.reduceSub, and_self, or_true, true_or, reduceIte, beq_self_eq_true, Bool.and_self, Bool.true_and, Bool.and_true, Bool.false_and, Bool.and_false, Bool.or_true, Bool.true_or, Bool.or_false, Bool.false_or]
  rw [e_comp (g := tupD) (xs := ps) (fun p => D.bl (decide (isPt k n p))) (by simp only [s_nil, s_asg, s_mov, s_par, s_ifs, s_ret, s_retn, s_ex, Ss.app, nx_nx, rt_rt, zv1, zv2, zv3, zv4, zv5, zv6, zv7, zv8, zv9, zv10, zv11, zv13, zv14, zv15, zv16, zv17, zv18, zv19, zw1, zw2, zr1, zr2, zr3, zr4, zr5, zr6, zr7, gt, sub_int, add_int, le_int, gt_int, ge_int, o_lt, o_eq, o_ne, o_mem, o_nmem, o_is, o_isn, o_not, o_len, o_all, o_any, o_sum, o_sort, o_ssort, o_lst, o_tup, o_ist, i_int, i_boolI, i_boolB, i_str, i_tup, i_lst, i_tupP, i_tupF, len_tup, len_lst, len_tupP, len_F, ix_tup, ix_lst, ix_tupP, ix_F0, ix_F1, not_bl, seq_tup, seq_lst, seq_tupP, lt_int, lst_lst, tpl_lst, tpl_tup, is_bb, isn_bb, bindD, setsD, List.length_cons, List.length_nil, List.map_cons, List.map_nil, List.replicate_succ, List.replicate_zero, List.append_nil, List.cons_append, List.nil_append, List.getElem?_cons_zero, List.getElem?_cons_succ, List.set_cons_zero, List.set_cons_succ, if_true, if_false, Nat.zero_add, Nat.sub_self, Nat.reduceAdd, Nat.reduceSub, Option.map_some, Option.map_none, Bool.not_true, Bool.not_false, Option.bind_some, nc0, nc1, nc2, nc3, nc4, Option.some.injEq, D.bl.injEq, D.int.injEq, reduceCtorEq, decide_true, decide_false, Int.reduceEq, Int.reduceNe, not_true_eq_false, not_false_eq_true, ne_eq, Int.reduceLE, Int.reduceLT, at0, at1, at2, eq_int, eq_bl, eq_sp, eq_pl, eq_fl, eq_tup, eq_pts, eq_lns, mem_pts, mem_lns, Bool.false_xor, Bool.true_xor, mod_int, fdiv_int, mul_int, Int.reduceNeg, Nat.reduceLT, Int.reduceAdd, Int.reduceMul, Int.reduceSub, and_self, or_true, true_or, reduceIte, beq_self_eq_true, Bool.and_self, Bool.true_and, Bool.and_true, Bool.false_and, Bool.and_false, Bool.or_true, Bool.true_or, Bool.or_false, Bool.false_or]) hl (fun p m => ⟨_, rfl, by simp only [s_nil, s_asg, s_mov, s_par, s_ifs, s_ret, s_retn, s_ex, Ss.app, nx_nx, rt_rt, zv1, zv2, zv3, zv4, zv5, zv6, zv7, zv8, zv9, zv10, zv11, zv13, zv14, zv15, zv16, zv17, zv18, zv19, zw1, zw2, zr1, zr2, zr3, zr4, zr5, zr6, zr7, gt, sub_int, add_int, le_int, gt_int, ge_int, o_lt, o_eq, o_ne, o_mem, o_nmem, o_is, o_isn, o_not, o_len, o_all, o_any, o_sum, o_sort, o_ssort, o_lst, o_tup, o_ist, i_int, i_boolI, i_boolB, i_str, i_tup, i_lst, i_tupP, i_tupF, len_tup, len_lst, len_tupP, len_F, ix_tup, ix_lst, ix_tupP, ix_F0, ix_F1, not_bl, seq_tup, seq_lst, seq_tupP, lt_int, lst_lst, tpl_lst, tpl_tup, is_bb, isn_bb, bindD, setsD, List.length_cons, List.length_nil, List.map_cons, List.map_nil, List.replicate_succ, List.replicate_zero, List.append_nil, List.cons_append, List.nil_append, List.getElem?_cons_zero, List.getElem?_cons_succ, List.set_cons_zero, List.set_cons_succ, if_true, if_false, Nat.zero_add, Nat.sub_self, Nat.reduceAdd, Nat.reduceSub, Option.map_some, Option.map_none, Bool.not_true, Bool.not_false, Option.bind_some, nc0, nc1, nc2, nc3, nc4, Option.some.injEq, D.bl.injEq, D.int.injEq, reduceCtorEq, decide_true, decide_false, Int.reduceEq, Int.reduceNe, not_true_eq_false, not_false_eq_true, ne_eq, Int.reduceLE, Int.reduceLT, at0, at1, at2, eq_int, eq_bl, eq_sp, eq_pl, eq_fl, eq_tup, eq_pts, eq_lns, mem_pts, mem_lns, Bool.false_xor, Bool.true_xor, mod_int, fdiv_int, mul_int, Int.reduceNeg, Nat.reduceLT, Int.reduceAdd, Int.reduceMul, Int.reduceSub, and_self, or_true, true_or, reduceIte, beq_self_eq_true, Bool.and_self, Bool.true_and, Bool.and_true, Bool.false_and, Bool.and_false, Bool.or_true, Bool.true_or, Bool.or_false, Bool.false_or, q7 A p (hp p m)]⟩)]
  simp only [s_nil, s_asg, s_mov, s_par, s_ifs, s_ret, s_retn, s_ex, Ss.app, nx_nx, rt_rt, zv1, zv2, zv3, zv4, zv5, zv6, zv7, zv8, zv9, zv10, zv11, zv13, zv14, zv15, zv16, zv17, zv18, zv19, zw1, zw2, zr1, zr2, zr3, zr4, zr5, zr6, zr7, gt, sub_int, add_int, le_int, gt_int, ge_int, o_lt, o_eq, o_ne, o_mem, o_nmem, o_is, o_isn, o_not, o_len, o_all, o_any, o_sum, o_sort, o_ssort, o_lst, o_tup, o_ist, i_int, i_boolI, i_boolB, i_str, i_tup, i_lst, i_tupP, i_tupF, len_tup, len_lst, len_tupP, len_F, ix_tup, ix_lst, ix_tupP, ix_F0, ix_F1, not_bl, seq_tup, seq_lst, seq_tupP, lt_int, lst_lst, tpl_lst, tpl_tup, is_bb, isn_bb, bindD, setsD, List.length_cons, List.length_nil, List.map_cons, List.map_nil, List.replicate_succ, List.replicate_zero, List.append_nil, List.cons_append, List.nil_append, List.getElem?_cons_zero, List.getElem?_cons_succ, List.set_cons_zero, List.set_cons_succ, if_true, if_false, Nat.zero_add, Nat.sub_self, Nat.reduceAdd, Nat.reduceSub, Option.map_some, Option.map_none, Bool.not_true, Bool.not_false, Option.bind_some, nc0, nc1, nc2, nc3, nc4, Option.some.injEq, D.bl.injEq, D.int.injEq, reduceCtorEq, decide_true, decide_false, Int.reduceEq, Int.reduceNe, not_true_eq_false, not_false_eq_true, ne_eq, Int.reduceLE, Int.reduceLT, at0, at1, at2, eq_int, eq_bl, eq_sp, eq_pl, eq_fl, eq_tup, eq_pts, eq_lns, mem_pts, mem_lns, Bool.false_xor, Bool.true_xor, mod_int, fdiv_int, mul_int, Int.reduceNeg, Nat.reduceLT, Int.reduceAdd, Int.reduceMul, Int.reduceSub, and_self, or_true, true_or, reduceIte, beq_self_eq_true, Bool.and_self, Bool.true_and, Bool.and_true, Bool.false_and, Bool.and_false, Bool.or_true, Bool.true_or, Bool.or_false, Bool.false_or, all_mapf]
  cases h : ps.all fun p => decide (isPt k n p) with
  | false =>
    simp only [s_nil, s_asg, s_mov, s_par, s_ifs, s_ret, s_retn, s_ex, Ss.app, nx_nx, rt_rt, zv1, zv2, zv3, zv4, zv5, zv6, zv7, zv8, zv9, zv10, zv11, zv13, zv14, zv15, zv16, zv17, zv18, zv19, zw1, zw2, zr1, zr2, zr3, zr4, zr5, zr6, zr7, gt, sub_int, add_int, le_int, gt_int, ge_int, o_lt, o_eq, o_ne, o_mem, o_nmem, o_is, o_isn, o_not, o_len, o_all, o_any, o_sum, o_sort, o_ssort, o_lst, o_tup, o_ist, i_int, i_boolI, i_boolB, i_str, i_tup, i_lst, i_tupP, i_tupF, len_tup, len_lst, len_tupP, len_F, ix_tup, ix_lst, ix_tupP, ix_F0, ix_F1, not_bl, seq_tup, seq_lst, seq_tupP, lt_int, lst_lst, tpl_lst, tpl_tup, is_bb, isn_bb, bindD, setsD, List.length_cons, List.length_nil, List.map_cons, List.map_nil, List.replicate_succ, List.replicate_zero, List.append_nil, List.cons_append, List.nil_append, List.getElem?_cons_zero, List.getElem?_cons_succ, List.set_cons_zero, List.set_cons_succ, if_true, if_false, Nat.zero_add, Nat.sub_self, Nat.reduceAdd, Nat.reduceSub, Option.map_some, Option.map_none, Bool.not_true, Bool.not_false, Option.bind_some, nc0, nc1, nc2, nc3, nc4, Option.some.injEq, D.bl.injEq, D.int.injEq, reduceCtorEq, decide_true, decide_false, Int.reduceEq, Int.reduceNe, not_true_eq_false, not_false_eq_true, ne_eq, Int.reduceLE, Int.reduceLT, at0, at1, at2, eq_int, eq_bl, eq_sp, eq_pl, eq_fl, eq_tup, eq_pts, eq_lns, mem_pts, mem_lns, Bool.false_xor, Bool.true_xor, mod_int, fdiv_int, mul_int, Int.reduceNeg, Nat.reduceLT, Int.reduceAdd, Int.reduceMul, Int.reduceSub, and_self, or_true, true_or, reduceIte, beq_self_eq_true, Bool.and_self, Bool.true_and, Bool.and_true, Bool.false_and, Bool.and_false, Bool.or_true, Bool.true_or, Bool.or_false, Bool.false_or, areP, h, Bool.false_and]
  | true =>
    simp only [s_nil, s_asg, s_mov, s_par, s_ifs, s_ret, s_retn, s_ex, Ss.app, nx_nx, rt_rt, zv1, zv2, zv3, zv4, zv5, zv6, zv7, zv8, zv9, zv10, zv11, zv13, zv14, zv15, zv16, zv17, zv18, zv19, zw1, zw2, zr1, zr2, zr3, zr4, zr5, zr6, zr7, gt, sub_int, add_int, le_int, gt_int, ge_int, o_lt, o_eq, o_ne, o_mem, o_nmem, o_is, o_isn, o_not, o_len, o_all, o_any, o_sum, o_sort, o_ssort, o_lst, o_tup, o_ist, i_int, i_boolI, i_boolB, i_str, i_tup, i_lst, i_tupP, i_tupF, len_tup, len_lst, len_tupP, len_F, ix_tup, ix_lst, ix_tupP, ix_F0, ix_F1, not_bl, seq_tup, seq_lst, seq_tupP, lt_int, lst_lst, tpl_lst, tpl_tup, is_bb, isn_bb, bindD, setsD, List.length_cons, List.length_nil, List.map_cons, List.map_nil, List.replicate_succ, List.replicate_zero, List.append_nil, List.cons_append, List.nil_append, List.getElem?_cons_zero, List.getElem?_cons_succ, List.set_cons_zero, List.set_cons_succ, if_true, if_false, Nat.zero_add, Nat.sub_self, Nat.reduceAdd, Nat.reduceSub, Option.map_some, Option.map_none, Bool.not_true, Bool.not_false, Option.bind_some, nc0, nc1, nc2, nc3, nc4, Option.some.injEq, D.bl.injEq, D.int.injEq, reduceCtorEq, decide_true, decide_false, Int.reduceEq, Int.reduceNe, not_true_eq_false, not_false_eq_true, ne_eq, Int.reduceLE, Int.reduceLT, at0, at1, at2, eq_int, eq_bl, eq_sp, eq_pl, eq_fl, eq_tup, eq_pts, eq_lns, mem_pts, mem_lns, Bool.false_xor, Bool.true_xor, mod_int, fdiv_int, mul_int, Int.reduceNeg, Nat.reduceLT, Int.reduceAdd, Int.reduceMul, Int.reduceSub, and_self, or_true, true_or, reduceIte, beq_self_eq_true, Bool.and_self, Bool.true_and, Bool.and_true, Bool.false_and, Bool.and_false, Bool.or_true, Bool.true_or, Bool.or_false, Bool.false_or]
    rw [e_comp (g := pairD) (xs := ps.zip (ps.drop 1)) (fun z => D.bl (HT.lexLt z.1 z.2)) (by
      simp only [s_nil, s_asg, s_mov, s_par, s_ifs, s_ret, s_retn, s_ex, Ss.app, nx_nx, rt_rt, zv1, zv2, zv3, zv4, zv5, zv6, zv7, zv8, zv9, zv10, zv11, zv13, zv14, zv15, zv16, zv17, zv18, zv19, zw1, zw2, zr1, zr2, zr3, zr4, zr5, zr6, zr7, gt, sub_int, add_int, le_int, gt_int, ge_int, o_lt, o_eq, o_ne, o_mem, o_nmem, o_is, o_isn, o_not, o_len, o_all, o_any, o_sum, o_sort, o_ssort, o_lst, o_tup, o_ist, i_int, i_boolI, i_boolB, i_str, i_tup, i_lst, i_tupP, i_tupF, len_tup, len_lst, len_tupP, len_F, ix_tup, ix_lst, ix_tupP, ix_F0, ix_F1, not_bl, seq_tup, seq_lst, seq_tupP, lt_int, lst_lst, tpl_lst, tpl_tup, is_bb, isn_bb, bindD, setsD, List.length_cons, List.length_nil, List.map_cons, List.map_nil, List.replicate_succ, List.replicate_zero, List.append_nil, List.cons_append, List.nil_append, List.getElem?_cons_zero, List.getElem?_cons_succ, List.set_cons_zero, List.set_cons_succ, if_true, if_false, Nat.zero_add, Nat.sub_self, Nat.reduceAdd, Nat.reduceSub, Option.map_some, Option.map_none, Bool.not_true, Bool.not_false, Option.bind_some, nc0, nc1, nc2, nc3, nc4, Option.some.injEq, D.bl.injEq, D.int.injEq, reduceCtorEq, decide_true, decide_false, Int.reduceEq, Int.reduceNe, not_true_eq_false, not_false_eq_true, ne_eq, Int.reduceLE, Int.reduceLT, at0, at1, at2, eq_int, eq_bl, eq_sp, eq_pl, eq_fl, eq_tup, eq_pts, eq_lns, mem_pts, mem_lns, Bool.false_xor, Bool.true_xor, mod_int, fdiv_int, mul_int, Int.reduceNeg, Nat.reduceLT, Int.reduceAdd, Int.reduceMul, Int.reduceSub, and_self, or_true, true_or, reduceIte, beq_self_eq_true, Bool.and_self, Bool.true_and, Bool.and_true, Bool.false_and, Bool.and_false, Bool.or_true, Bool.true_or, Bool.or_false, Bool.false_or, slD]
      rw [show (1 : Int) = ((1 : Nat) : Int) from rfl, cut_drop, ← List.map_drop, zip_pts]) (by rw [List.length_zip]; omega) (fun z _ => ⟨_, rfl, by simp only [s_nil, s_asg, s_mov, s_par, s_ifs, s_ret, s_retn, s_ex, Ss.app, nx_nx, rt_rt, zv1, zv2, zv3, zv4, zv5, zv6, zv7, zv8, zv9, zv10, zv11, zv13, zv14, zv15, zv16, zv17, zv18, zv19, zw1, zw2, zr1, zr2, zr3, zr4, zr5, zr6, zr7, gt, sub_int, add_int, le_int, gt_int, ge_int, o_lt, o_eq, o_ne, o_mem, o_nmem, o_is, o_isn, o_not, o_len, o_all, o_any, o_sum, o_sort, o_ssort, o_lst, o_tup, o_ist, i_int, i_boolI, i_boolB, i_str, i_tup, i_lst, i_tupP, i_tupF, len_tup, len_lst, len_tupP, len_F, ix_tup, ix_lst, ix_tupP, ix_F0, ix_F1, not_bl, seq_tup, seq_lst, seq_tupP, lt_int, lst_lst, tpl_lst, tpl_tup, is_bb, isn_bb, bindD, setsD, List.length_cons, List.length_nil, List.map_cons, List.map_nil, List.replicate_succ, List.replicate_zero, List.append_nil, List.cons_append, List.nil_append, List.getElem?_cons_zero, List.getElem?_cons_succ, List.set_cons_zero, List.set_cons_succ, if_true, if_false, Nat.zero_add, Nat.sub_self, Nat.reduceAdd, Nat.reduceSub, Option.map_some, Option.map_none, Bool.not_true, Bool.not_false, Option.bind_some, nc0, nc1, nc2, nc3, nc4, Option.some.injEq, D.bl.injEq, D.int.injEq, reduceCtorEq, decide_true, decide_false, Int.reduceEq, Int.reduceNe, not_true_eq_false, not_false_eq_true, ne_eq, Int.reduceLE, Int.reduceLT, at0, at1, at2, eq_int, eq_bl, eq_sp, eq_pl, eq_fl, eq_tup, eq_pts, eq_lns, mem_pts, mem_lns, Bool.false_xor, Bool.true_xor, mod_int, fdiv_int, mul_int, Int.reduceNeg, Nat.reduceLT, Int.reduceAdd, Int.reduceMul, Int.reduceSub, and_self, or_true, true_or, reduceIte, beq_self_eq_true, Bool.and_self, Bool.true_and, Bool.and_true, Bool.false_and, Bool.and_false, Bool.or_true, Bool.true_or, Bool.or_false, Bool.false_or, lt_tup]⟩)]
    simp only [s_nil, s_asg, s_mov, s_par, s_ifs, s_ret, s_retn, s_ex, Ss.app, nx_nx, rt_rt, zv1, zv2, zv3, zv4, zv5, zv6, zv7, zv8, zv9, zv10, zv11, zv13, zv14, zv15, zv16, zv17, zv18, zv19, zw1, zw2, zr1, zr2, zr3, zr4, zr5, zr6, zr7, gt, sub_int, add_int, le_int, gt_int, ge_int, o_lt, o_eq, o_ne, o_mem, o_nmem, o_is, o_isn, o_not, o_len, o_all, o_any, o_sum, o_sort, o_ssort, o_lst, o_tup, o_ist, i_int, i_boolI, i_boolB, i_str, i_tup, i_lst, i_tupP, i_tupF, len_tup, len_lst, len_tupP, len_F, ix_tup, ix_lst, ix_tupP, ix_F0, ix_F1, not_bl, seq_tup, seq_lst, seq_tupP, lt_int, lst_lst, tpl_lst, tpl_tup, is_bb, isn_bb, bindD, setsD, List.length_cons, List.length_nil, List.map_cons, List.map_nil, List.replicate_succ, List.replicate_zero, List.append_nil, List.cons_append, List.nil_append, List.getElem?_cons_zero, List.getElem?_cons_succ, List.set_cons_zero, List.set_cons_succ, if_true, if_false, Nat.zero_add, Nat.sub_self, Nat.reduceAdd, Nat.reduceSub, Option.map_some, Option.map_none, Bool.not_true, Bool.not_false, Option.bind_some, nc0, nc1, nc2, nc3, nc4, Option.some.injEq, D.bl.injEq, D.int.injEq, reduceCtorEq, decide_true, decide_false, Int.reduceEq, Int.reduceNe, not_true_eq_false, not_false_eq_true, ne_eq, Int.reduceLE, Int.reduceLT, at0, at1, at2, eq_int, eq_bl, eq_sp, eq_pl, eq_fl, eq_tup, eq_pts, eq_lns, mem_pts, mem_lns, Bool.false_xor, Bool.true_xor, mod_int, fdiv_int, mul_int, Int.reduceNeg, Nat.reduceLT, Int.reduceAdd, Int.reduceMul, Int.reduceSub, and_self, or_true, true_or, reduceIte, beq_self_eq_true, Bool.and_self, Bool.true_and, Bool.and_true, Bool.false_and, Bool.and_false, Bool.or_true, Bool.true_or, Bool.or_false, Bool.false_or, all_mapf, areP, h, asc, Bool.true_and]
theorem q10 (hf : okF k n) {p q r : Pt} (h1 : isPt k n p) (h2 : isPt k n q) (h3 : isPt k n r) : run T (m + 1) 10 [fldD k n, tupD p, tupD q, tupD r] = some (.bl (lin k n p q r)) := by
  refine run_r A.h10 rfl ?_
  have l1 := isPt_len hf h1
  cases k
  · simp only [fn10, s_nil, s_asg, s_mov, s_par, s_ifs, s_ret, s_retn, s_ex, Ss.app, nx_nx, rt_rt, zv1, zv2, zv3, zv4, zv5, zv6, zv7, zv8, zv9, zv10, zv11, zv13, zv14, zv15, zv16, zv17, zv18, zv19, zw1, zw2, zr1, zr2, zr3, zr4, zr5, zr6, zr7, gt, sub_int, add_int, le_int, gt_int, ge_int, o_lt, o_eq, o_ne, o_mem, o_nmem, o_is, o_isn, o_not, o_len, o_all, o_any, o_sum, o_sort, o_ssort, o_lst, o_tup, o_ist, i_int, i_boolI, i_boolB, i_str, i_tup, i_lst, i_tupP, i_tupF, len_tup, len_lst, len_tupP, len_F, ix_tup, ix_lst, ix_tupP, ix_F0, ix_F1, not_bl, seq_tup, seq_lst, seq_tupP, lt_int, lst_lst, tpl_lst, tpl_tup, is_bb, isn_bb, bindD, setsD, List.length_cons, List.length_nil, List.map_cons, List.map_nil, List.replicate_succ, List.replicate_zero, List.append_nil, List.cons_append, List.nil_append, List.getElem?_cons_zero, List.getElem?_cons_succ, List.set_cons_zero, List.set_cons_succ, if_true, if_false, Nat.zero_add, Nat.sub_self, Nat.reduceAdd, Nat.reduceSub, Option.map_some, Option.map_none, Bool.not_true, Bool.not_false, Option.bind_some, nc0, nc1, nc2, nc3, nc4, Option.some.injEq, D.bl.injEq, D.int.injEq, reduceCtorEq, decide_true, decide_false, Int.reduceEq, Int.reduceNe, not_true_eq_false, not_false_eq_true, ne_eq, Int.reduceLE, Int.reduceLT, at0, at1, at2, eq_int, eq_bl, eq_sp, eq_pl, eq_fl, eq_tup, eq_pts, eq_lns, mem_pts, mem_lns, Bool.false_xor, Bool.true_xor, mod_int, fdiv_int, mul_int, Int.reduceNeg, Nat.reduceLT, Int.reduceAdd, Int.reduceMul, Int.reduceSub, and_self, or_true, true_or, reduceIte, beq_self_eq_true, Bool.and_self, Bool.true_and, Bool.and_true, Bool.false_and, Bool.and_false, Bool.or_true, Bool.true_or, Bool.or_false, Bool.false_or]
    rw [e_comp (g := tripD) (xs := p.zip (q.zip r)) (fun z => D.bl (decide ((z.1 + z.2.1 + z.2.2).fmod 3 = 0))) (by
      have e1 : (p.length : Int) = n := h1.1
      have e2 : (q.length : Int) = n := h2.1
      have e3 : (r.length : Int) = n := h3.1
      simp only [s_nil, s_asg, s_mov, s_par, s_ifs, s_ret, s_retn, s_ex, Ss.app, nx_nx, rt_rt, zv1, zv2, zv3, zv4, zv5, zv6, zv7, zv8, zv9, zv10, zv11, zv13, zv14, zv15, zv16, zv17, zv18, zv19, zw1, zw2, zr1, zr2, zr3, zr4, zr5, zr6, zr7, gt, sub_int, add_int, le_int, gt_int, ge_int, o_lt, o_eq, o_ne, o_mem, o_nmem, o_is, o_isn, o_not, o_len, o_all, o_any, o_sum, o_sort, o_ssort, o_lst, o_tup, o_ist, i_int, i_boolI, i_boolB, i_str, i_tup, i_lst, i_tupP, i_tupF, len_tup, len_lst, len_tupP, len_F, ix_tup, ix_lst, ix_tupP, ix_F0, ix_F1, not_bl, seq_tup, seq_lst, seq_tupP, lt_int, lst_lst, tpl_lst, tpl_tup, is_bb, isn_bb, bindD, setsD, List.length_cons, List.length_nil, List.map_cons, List.map_nil, List.replicate_succ, List.replicate_zero, List.append_nil, List.cons_append, List.nil_append, List.getElem?_cons_zero, List.getElem?_cons_succ, List.set_cons_zero, List.set_cons_succ, if_true, if_false, Nat.zero_add, Nat.sub_self, Nat.reduceAdd, Nat.reduceSub, Option.map_some, Option.map_none, Bool.not_true, Bool.not_false, Option.bind_some, nc0, nc1, nc2, nc3, nc4, Option.some.injEq, D.bl.injEq, D.int.injEq, reduceCtorEq, decide_true, decide_false, Int.reduceEq, Int.reduceNe, not_true_eq_false, not_false_eq_true, ne_eq, Int.reduceLE, Int.reduceLT, at0, at1, at2, eq_int, eq_bl, eq_sp, eq_pl, eq_fl, eq_tup, eq_pts, eq_lns, mem_pts, mem_lns, Bool.false_xor, Bool.true_xor, mod_int, fdiv_int, mul_int, Int.reduceNeg, Nat.reduceLT, Int.reduceAdd, Int.reduceMul, Int.reduceSub, and_self, or_true, true_or, reduceIte, beq_self_eq_true, Bool.and_self, Bool.true_and, Bool.and_true, Bool.false_and, Bool.and_false, Bool.or_true, Bool.true_or, Bool.or_false, Bool.false_or, tupD, List.length_map]
      rw [if_pos (by omega), zip3_ints]) (by rw [List.length_zip]; unfold LIM; omega) (fun z _ => ⟨_, rfl, by
        simp only [s_nil, s_asg, s_mov, s_par, s_ifs, s_ret, s_retn, s_ex, Ss.app, nx_nx, rt_rt, zv1, zv2, zv3, zv4, zv5, zv6, zv7, zv8, zv9, zv10, zv11, zv13, zv14, zv15, zv16, zv17, zv18, zv19, zw1, zw2, zr1, zr2, zr3, zr4, zr5, zr6, zr7, gt, sub_int, add_int, le_int, gt_int, ge_int, o_lt, o_eq, o_ne, o_mem, o_nmem, o_is, o_isn, o_not, o_len, o_all, o_any, o_sum, o_sort, o_ssort, o_lst, o_tup, o_ist, i_int, i_boolI, i_boolB, i_str, i_tup, i_lst, i_tupP, i_tupF, len_tup, len_lst, len_tupP, len_F, ix_tup, ix_lst, ix_tupP, ix_F0, ix_F1, not_bl, seq_tup, seq_lst, seq_tupP, lt_int, lst_lst, tpl_lst, tpl_tup, is_bb, isn_bb, bindD, setsD, List.length_cons, List.length_nil, List.map_cons, List.map_nil, List.replicate_succ, List.replicate_zero, List.append_nil, List.cons_append, List.nil_append, List.getElem?_cons_zero, List.getElem?_cons_succ, List.set_cons_zero, List.set_cons_succ, if_true, if_false, Nat.zero_add, Nat.sub_self, Nat.reduceAdd, Nat.reduceSub, Option.map_some, Option.map_none, Bool.not_true, Bool.not_false, Option.bind_some, nc0, nc1, nc2, nc3, nc4, Option.some.injEq, D.bl.injEq, D.int.injEq, reduceCtorEq, decide_true, decide_false, Int.reduceEq, Int.reduceNe, not_true_eq_false, not_false_eq_true, ne_eq, Int.reduceLE, Int.reduceLT, at0, at1, at2, eq_int, eq_bl, eq_sp, eq_pl, eq_fl, eq_tup, eq_pts, eq_lns, mem_pts, mem_lns, Bool.false_xor, Bool.true_xor, mod_int, fdiv_int, mul_int, Int.reduceNeg, Nat.reduceLT, Int.reduceAdd, Int.reduceMul, Int.reduceSub, and_self, or_true, true_or, reduceIte, beq_self_eq_true, Bool.and_self, Bool.true_and, Bool.and_true, Bool.false_and, Bool.and_false, Bool.or_true, Bool.true_or, Bool.or_false, Bool.false_or, tripD, sum_tupD, List.sum_cons, List.sum_nil, Int.add_zero, Int.add_assoc]⟩)]
    simp only [s_nil, s_asg, s_mov, s_par, s_ifs, s_ret, s_retn, s_ex, Ss.app, nx_nx, rt_rt, zv1, zv2, zv3, zv4, zv5, zv6, zv7, zv8, zv9, zv10, zv11, zv13, zv14, zv15, zv16, zv17, zv18, zv19, zw1, zw2, zr1, zr2, zr3, zr4, zr5, zr6, zr7, gt, sub_int, add_int, le_int, gt_int, ge_int, o_lt, o_eq, o_ne, o_mem, o_nmem, o_is, o_isn, o_not, o_len, o_all, o_any, o_sum, o_sort, o_ssort, o_lst, o_tup, o_ist, i_int, i_boolI, i_boolB, i_str, i_tup, i_lst, i_tupP, i_tupF, len_tup, len_lst, len_tupP, len_F, ix_tup, ix_lst, ix_tupP, ix_F0, ix_F1, not_bl, seq_tup, seq_lst, seq_tupP, lt_int, lst_lst, tpl_lst, tpl_tup, is_bb, isn_bb, bindD, setsD, List.length_cons, List.length_nil, List.map_cons, List.map_nil, List.replicate_succ, List.replicate_zero, List.append_nil, List.cons_append, List.nil_append, List.getElem?_cons_zero, List.getElem?_cons_succ, List.set_cons_zero, List.set_cons_succ, if_true, if_false, Nat.zero_add, Nat.sub_self, Nat.reduceAdd, Nat.reduceSub, Option.map_some, Option.map_none, Bool.not_true, Bool.not_false, Option.bind_some, nc0, nc1, nc2, nc3, nc4, Option.some.injEq, D.bl.injEq, D.int.injEq, reduceCtorEq, decide_true, decide_false, Int.reduceEq, Int.reduceNe, not_true_eq_false, not_false_eq_true, ne_eq, Int.reduceLE, Int.reduceLT, at0, at1, at2, eq_int, eq_bl, eq_sp, eq_pl, eq_fl, eq_tup, eq_pts, eq_lns, mem_pts, mem_lns, Bool.false_xor, Bool.true_xor, mod_int, fdiv_int, mul_int, Int.reduceNeg, Nat.reduceLT, Int.reduceAdd, Int.reduceMul, Int.reduceSub, and_self, or_true, true_or, reduceIte, beq_self_eq_true, Bool.and_self, Bool.true_and, Bool.and_true, Bool.false_and, Bool.and_false, Bool.or_true, Bool.true_or, Bool.or_false, Bool.false_or, all_mapf, lin, lin3]
  all_goals
    obtain ⟨w1, w2⟩ := wid_le hf
    obtain ⟨a1, b1, rfl, c1, d1⟩ := two h1 w2
    obtain ⟨a2, b2, rfl, c2, d2⟩ := two h2 w2
    obtain ⟨a3, b3, rfl, c3, d3⟩ := two h3 w2
    have g1 : -18446744073709551616 < a2 - a1 ∧ a2 - a1 < 18446744073709551616 := by omega
    have g2 : -18446744073709551616 < b2 - b1 ∧ b2 - b1 < 18446744073709551616 := by omega
    have hn : n ≠ 0 := by
      intro z
      subst z
      exact absurd w1 (by decide)
    simp only [fn10, s_nil, s_asg, s_mov, s_par, s_ifs, s_ret, s_retn, s_ex, Ss.app, nx_nx, rt_rt, zv1, zv2, zv3, zv4, zv5, zv6, zv7, zv8, zv9, zv10, zv11, zv13, zv14, zv15, zv16, zv17, zv18, zv19, zw1, zw2, zr1, zr2, zr3, zr4, zr5, zr6, zr7, gt, sub_int, add_int, le_int, gt_int, ge_int, o_lt, o_eq, o_ne, o_mem, o_nmem, o_is, o_isn, o_not, o_len, o_all, o_any, o_sum, o_sort, o_ssort, o_lst, o_tup, o_ist, i_int, i_boolI, i_boolB, i_str, i_tup, i_lst, i_tupP, i_tupF, len_tup, len_lst, len_tupP, len_F, ix_tup, ix_lst, ix_tupP, ix_F0, ix_F1, not_bl, seq_tup, seq_lst, seq_tupP, lt_int, lst_lst, tpl_lst, tpl_tup, is_bb, isn_bb, bindD, setsD, List.length_cons, List.length_nil, List.map_cons, List.map_nil, List.replicate_succ, List.replicate_zero, List.append_nil, List.cons_append, List.nil_append, List.getElem?_cons_zero, List.getElem?_cons_succ, List.set_cons_zero, List.set_cons_succ, if_true, if_false, Nat.zero_add, Nat.sub_self, Nat.reduceAdd, Nat.reduceSub, Option.map_some, Option.map_none, Bool.not_true, Bool.not_false, Option.bind_some, nc0, nc1, nc2, nc3, nc4, Option.some.injEq, D.bl.injEq, D.int.injEq, reduceCtorEq, decide_true, decide_false, Int.reduceEq, Int.reduceNe, not_true_eq_false, not_false_eq_true, ne_eq, Int.reduceLE, Int.reduceLT, at0, at1, at2, eq_int, eq_bl, eq_sp, eq_pl, eq_fl, eq_tup, eq_pts, eq_lns, mem_pts, mem_lns, Bool.false_xor, Bool.true_xor, mod_int, fdiv_int, mul_int, Int.reduceNeg, Nat.reduceLT, Int.reduceAdd, Int.reduceMul, Int.reduceSub, and_self, or_true, true_or, reduceIte, beq_self_eq_true, Bool.and_self, Bool.true_and, Bool.and_true, Bool.false_and, Bool.and_false, Bool.or_true, Bool.true_or, Bool.or_false, Bool.false_or, mul_int (.inl g1), mul_int (.inl g2), mod_int hn, lin, span, List.getD_cons_zero, List.getD_cons_succ]
end
end Nt

set_option Elab.async false
set_option linter.all false
set_option maxRecDepth 100000
set_option maxHeartbeats 4000000
namespace Nt
open PySem PySem.Spec PyProof.Rows L2
section
variable {T : Tb} (A : HA T) (B : HB T) {m : Nat} {k : Kd} {n : Int}
include A
theorem q19c {t : Tb} {cl : Nat → List D → Option D} {p q r : Pt} (l1 : p.length ≤ 4) (e2 : p.length = q.length) (e3 : p.length = r.length) :
    ev t cl (.o1 .all (.comp (.r1 (.o1 .len (.var 1))) (.one 6) (.o2 .eq (.o2 .mod (.o2 .add (.o2 .add (.ix (.var 1) (.var 6)) (.ix (.var 2) (.var 6))) (.ix (.var 3) (.var 6))) (.lit (.int 3))) (.lit (.int 0))))) [some (fldD .sp n), some (tupD p), some (tupD q), some (tupD r), none, none, none] = some (.bl (lin3 p q r)) := by
  rw [zv5, e_comp (g := fun (i : Nat) => D.int (i : Int)) (xs := List.range p.length) (fun i => D.bl (decide ((p.getD i 0 + q.getD i 0 + r.getD i 0).fmod 3 = 0))) (by
    rw [zr2, zv5, zv1]
    show (match lenD (tupD p) with | some (.int j) => if smallI j then some (rangeD 0 j) else none | _ => none) = _
    rw [len_tupP]
    show (if smallI (p.length : Int) then some (rangeD 0 (p.length : Int)) else none) = _
    rw [if_pos (small_nat (by omega) (by omega)), range_nat, Int.toNat_natCast]) (by rw [List.length_range]; unfold LIM; omega) (fun i hi => ⟨_, rfl, by
      have hi := List.mem_range.mp hi
      simp only [s_nil, s_asg, s_mov, s_par, s_ifs, s_ret, s_retn, s_ex, Ss.app, nx_nx, rt_rt, zv1, zv2, zv3, zv4, zv5, zv6, zv7, zv8, zv9, zv10, zv11, zv13, zv14, zv15, zv16, zv17, zv18, zv19, zw1, zw2, zr1, zr2, zr3, zr4, zr5, zr6, zr7, gt, sub_int, add_int, le_int, gt_int, ge_int, o_lt, o_eq, o_ne, o_mem, o_nmem, o_is, o_isn, o_not, o_len, o_all, o_any, o_sum, o_sort, o_ssort, o_lst, o_tup, o_ist, i_int, i_boolI, i_boolB, i_str, i_tup, i_lst, i_tupP, i_tupF, len_tup, len_lst, len_tupP, len_F, ix_tup, ix_lst, ix_tupP, ix_F0, ix_F1, not_bl, seq_tup, seq_lst, seq_tupP, lt_int, lst_lst, tpl_lst, tpl_tup, is_bb, isn_bb, bindD, setsD, List.length_cons, List.length_nil, List.map_cons, List.map_nil, List.replicate_succ, List.replicate_zero, List.append_nil, List.cons_append, List.nil_append, List.getElem?_cons_zero, List.getElem?_cons_succ, List.set_cons_zero, List.set_cons_succ, if_true, if_false, Nat.zero_add, Nat.sub_self, Nat.reduceAdd, Nat.reduceSub, Option.map_some, Option.map_none, Bool.not_true, Bool.not_false, Option.bind_some, nc0, nc1, nc2, nc3, nc4, Option.some.injEq, D.bl.injEq, D.int.injEq, reduceCtorEq, decide_true, decide_false, Int.reduceEq, Int.reduceNe, not_true_eq_false, not_false_eq_true, ne_eq, Int.reduceLE, Int.reduceLT, at0, at1, at2, eq_int, eq_bl, eq_sp, eq_pl, eq_fl, eq_tup, eq_pts, eq_lns, mem_pts, mem_lns, Bool.false_xor, Bool.true_xor, mod_int, fdiv_int, mul_int, Int.reduceNeg, Nat.reduceLT, Int.reduceAdd, Int.reduceMul, Int.reduceSub, and_self, or_true, true_or, reduceIte, beq_self_eq_true, Bool.and_self, Bool.true_and, Bool.and_true, Bool.false_and, Bool.and_false, Bool.or_true, Bool.true_or, Bool.or_false, Bool.false_or, at_getD hi, at_getD (p := q) (i := i) (by omega), at_getD (p := r) (i := i) (by omega)]⟩)]
  show op1 t.sub .all (.lst ((List.range p.length).map fun i => D.bl (decide ((p.getD i 0 + q.getD i 0 + r.getD i 0).fmod 3 = 0)))) = _
  rw [o_all, all_mapf, lin3_at p q r e2 e3]
theorem q19s (hf : okF .sp n) {p q r : Pt} (h1 : isPt .sp n p) (h2 : isPt .sp n q) (h3 : isPt .sp n r) : run T (m + 1) 19 [fldD .sp n, tupD p, tupD q, tupD r] = some (.bl (lin .sp n p q r)) := by
  have l1 := isPt_len hf h1
  have e1 : (p.length : Int) = n := h1.1
  have e2 : (q.length : Int) = n := h2.1
  have e3 : (r.length : Int) = n := h3.1
  have c := q19c A (n := n) (t := { T with lv := m }) (cl := run T m) l1 (q := q) (r := r) (by omega) (by omega)
  refine run_r A.h19 rfl ?_
  show Rt _ (exs { T with lv := m } (run T m) fn19.body [some (fldD .sp n), some (tupD p), some (tupD q), some (tupD r), none, none, none])
  unfold fn19
  rw [s_ifs, zv6, zv19, zv1, zv2, zv2]
  show Rt _ (match (match ixD (fldD .sp n) (.int 0) with | some x => op2 .eq x (.str "space") | none => none) with | some (.bl true) => exs { T with lv := m } (run T m) _ _ | some (.bl false) => _ | _ => none)
  rw [ix_F0]
  show Rt _ (match op2 .eq (.str Kd.sp.nm) (.str "space") with | some (.bl true) => exs { T with lv := m } (run T m) _ _ | some (.bl false) => _ | _ => none)
  rw [o_eq, eq_sp]
  show Rt _ (exs { T with lv := m } (run T m) (.cons (.ret _) _) _)
  rw [s_ret, c]
  rfl
theorem q19p {w : Int} (hw : w = n) (k1 : k ≠ .sp) (w1 : 1 ≤ w) (w2 : w ≤ 13) {p q r : Pt} (h1 : (p.length : Int) = 2 ∧ ∀ i ∈ p, 0 ≤ i ∧ i < w) (h2 : (q.length : Int) = 2 ∧ ∀ i ∈ q, 0 ≤ i ∧ i < w) (h3 : (r.length : Int) = 2 ∧ ∀ i ∈ r, 0 ≤ i ∧ i < w) : run T (m + 1) 19 [fldD k n, tupD p, tupD q, tupD r] = some (.bl (lin k n p q r)) := by
  refine run_r A.h19 rfl ?_
  subst hw
  obtain ⟨a1, b1, rfl, c1, d1⟩ := two h1 w2
  obtain ⟨a2, b2, rfl, c2, d2⟩ := two h2 w2
  obtain ⟨a3, b3, rfl, c3, d3⟩ := two h3 w2
  have g1 : -18446744073709551616 < a2 - a1 ∧ a2 - a1 < 18446744073709551616 := by omega
  have g2 : -18446744073709551616 < b2 - b1 ∧ b2 - b1 < 18446744073709551616 := by omega
  have hn : w ≠ 0 := by
    intro z
    subst z
    exact absurd w1 (by decide)
  cases k
  · exact absurd rfl k1
  all_goals
    by_cases hz : (a2 - a1) * (b3 - b1) - (b2 - b1) * (a3 - a1) = 0
    · simp only [fn19, s_nil, s_asg, s_mov, s_par, s_ifs, s_ret, s_retn, s_ex, Ss.app, nx_nx, rt_rt, zv1, zv2, zv3, zv4, zv5, zv6, zv7, zv8, zv9, zv10, zv11, zv13, zv14, zv15, zv16, zv17, zv18, zv19, zw1, zw2, zr1, zr2, zr3, zr4, zr5, zr6, zr7, gt, sub_int, add_int, le_int, gt_int, ge_int, o_lt, o_eq, o_ne, o_mem, o_nmem, o_is, o_isn, o_not, o_len, o_all, o_any, o_sum, o_sort, o_ssort, o_lst, o_tup, o_ist, i_int, i_boolI, i_boolB, i_str, i_tup, i_lst, i_tupP, i_tupF, len_tup, len_lst, len_tupP, len_F, ix_tup, ix_lst, ix_tupP, ix_F0, ix_F1, not_bl, seq_tup, seq_lst, seq_tupP, lt_int, lst_lst, tpl_lst, tpl_tup, is_bb, isn_bb, bindD, setsD, List.length_cons, List.length_nil, List.map_cons, List.map_nil, List.replicate_succ, List.replicate_zero, List.append_nil, List.cons_append, List.nil_append, List.getElem?_cons_zero, List.getElem?_cons_succ, List.set_cons_zero, List.set_cons_succ, if_true, if_false, Nat.zero_add, Nat.sub_self, Nat.reduceAdd, Nat.reduceSub, Option.map_some, Option.map_none, Bool.not_true, Bool.not_false, Option.bind_some, nc0, nc1, nc2, nc3, nc4, Option.some.injEq, D.bl.injEq, D.int.injEq, reduceCtorEq, decide_true, decide_false, Int.reduceEq, Int.reduceNe, not_true_eq_false, not_false_eq_true, ne_eq, Int.reduceLE, Int.reduceLT, at0, at1, at2, eq_int, eq_bl, eq_sp, eq_pl, eq_fl, eq_tup, eq_pts, eq_lns, mem_pts, mem_lns, Bool.false_xor, Bool.true_xor, mod_int, fdiv_int, mul_int, Int.reduceNeg, Nat.reduceLT, Int.reduceAdd, Int.reduceMul, Int.reduceSub, and_self, or_true, true_or, reduceIte, beq_self_eq_true, Bool.and_self, Bool.true_and, Bool.and_true, Bool.false_and, Bool.and_false, Bool.or_true, Bool.true_or, Bool.or_false, Bool.false_or, mul_int (.inl g1), mul_int (.inl g2), mod_int hn, lin, span, List.getD_cons_zero, List.getD_cons_succ, hz, Int.zero_fmod]
    · simp only [fn19, s_nil, s_asg, s_mov, s_par, s_ifs, s_ret, s_retn, s_ex, Ss.app, nx_nx, rt_rt, zv1, zv2, zv3, zv4, zv5, zv6, zv7, zv8, zv9, zv10, zv11, zv13, zv14, zv15, zv16, zv17, zv18, zv19, zw1, zw2, zr1, zr2, zr3, zr4, zr5, zr6, zr7, gt, sub_int, add_int, le_int, gt_int, ge_int, o_lt, o_eq, o_ne, o_mem, o_nmem, o_is, o_isn, o_not, o_len, o_all, o_any, o_sum, o_sort, o_ssort, o_lst, o_tup, o_ist, i_int, i_boolI, i_boolB, i_str, i_tup, i_lst, i_tupP, i_tupF, len_tup, len_lst, len_tupP, len_F, ix_tup, ix_lst, ix_tupP, ix_F0, ix_F1, not_bl, seq_tup, seq_lst, seq_tupP, lt_int, lst_lst, tpl_lst, tpl_tup, is_bb, isn_bb, bindD, setsD, List.length_cons, List.length_nil, List.map_cons, List.map_nil, List.replicate_succ, List.replicate_zero, List.append_nil, List.cons_append, List.nil_append, List.getElem?_cons_zero, List.getElem?_cons_succ, List.set_cons_zero, List.set_cons_succ, if_true, if_false, Nat.zero_add, Nat.sub_self, Nat.reduceAdd, Nat.reduceSub, Option.map_some, Option.map_none, Bool.not_true, Bool.not_false, Option.bind_some, nc0, nc1, nc2, nc3, nc4, Option.some.injEq, D.bl.injEq, D.int.injEq, reduceCtorEq, decide_true, decide_false, Int.reduceEq, Int.reduceNe, not_true_eq_false, not_false_eq_true, ne_eq, Int.reduceLE, Int.reduceLT, at0, at1, at2, eq_int, eq_bl, eq_sp, eq_pl, eq_fl, eq_tup, eq_pts, eq_lns, mem_pts, mem_lns, Bool.false_xor, Bool.true_xor, mod_int, fdiv_int, mul_int, Int.reduceNeg, Nat.reduceLT, Int.reduceAdd, Int.reduceMul, Int.reduceSub, and_self, or_true, true_or, reduceIte, beq_self_eq_true, Bool.and_self, Bool.true_and, Bool.and_true, Bool.false_and, Bool.and_false, Bool.or_true, Bool.true_or, Bool.or_false, Bool.false_or, mul_int (.inl g1), mul_int (.inl g2), mod_int hn, lin, span, List.getD_cons_zero, List.getD_cons_succ, hz]
theorem q19 (hf : okF k n) {p q r : Pt} (h1 : isPt k n p) (h2 : isPt k n q) (h3 : isPt k n r) : run T (m + 1) 19 [fldD k n, tupD p, tupD q, tupD r] = some (.bl (lin k n p q r)) := by
  obtain ⟨w1, w2⟩ := wid_le hf
  cases k
  · exact q19s A hf h1 h2 h3
  · exact q19p A rfl (by decide) w1 w2 h1 h2 h3
  · exact q19p A rfl (by decide) w1 w2 h1 h2 h3
end
section
variable {T : Tb} (A : HA T) (B : HB T) {m : Nat} {k : Kd} {n : Int}
include A B
theorem q9 (ps : List Pt) (hl : ps.length ≤ LIM) (hp : ∀ p ∈ ps, p.length ≤ LIM) (h : areP k n ps = true) : run T (m + 4) 9 [fldD k n, ptsD ps] = some .non := by
  refine run_r B.h9 rfl ?_
  simp only [fn9, s_nil, s_asg, s_mov, s_par, s_ifs, s_ret, s_retn, s_ex, Ss.app, nx_nx, rt_rt, zv1, zv2, zv3, zv4, zv5, zv6, zv7, zv8, zv9, zv10, zv11, zv13, zv14, zv15, zv16, zv17, zv18, zv19, zw1, zw2, zr1, zr2, zr3, zr4, zr5, zr6, zr7, gt, sub_int, add_int, le_int, gt_int, ge_int, o_lt, o_eq, o_ne, o_mem, o_nmem, o_is, o_isn, o_not, o_len, o_all, o_any, o_sum, o_sort, o_ssort, o_lst, o_tup, o_ist, i_int, i_boolI, i_boolB, i_str, i_tup, i_lst, i_tupP, i_tupF, len_tup, len_lst, len_tupP, len_F, ix_tup, ix_lst, ix_tupP, ix_F0, ix_F1, not_bl, seq_tup, seq_lst, seq_tupP, lt_int, lst_lst, tpl_lst, tpl_tup, is_bb, isn_bb, bindD, setsD, List.length_cons, List.length_nil, List.map_cons, List.map_nil, List.replicate_succ, List.replicate_zero, List.append_nil, List.cons_append, List.nil_append, List.getElem?_cons_zero, List.getElem?_cons_succ, List.set_cons_zero, List.set_cons_succ, if_true, if_false, Nat.zero_add, Nat.sub_self, Nat.reduceAdd, Nat.reduceSub, Option.map_some, Option.map_none, Bool.not_true, Bool.not_false, Option.bind_some, nc0, nc1, nc2, nc3, nc4, Option.some.injEq, D.bl.injEq, D.int.injEq, reduceCtorEq, decide_true, decide_false, Int.reduceEq, Int.reduceNe, not_true_eq_false, not_false_eq_true, ne_eq, Int.reduceLE, Int.reduceLT, at0, at1, at2, eq_int, eq_bl, eq_sp, eq_pl, eq_fl, eq_tup, eq_pts, eq_lns, mem_pts, mem_lns, Bool.false_xor, Bool.true_xor, mod_int, fdiv_int, mul_int, Int.reduceNeg, Nat.reduceLT, Int.reduceAdd, Int.reduceMul, Int.reduceSub, and_self, or_true, true_or, reduceIte, beq_self_eq_true, Bool.and_self, Bool.true_and, Bool.and_true, Bool.false_and, Bool.and_false, Bool.or_true, Bool.true_or, Bool.or_false, Bool.false_or, q8 A ps hl hp, h]
  rfl
end
/-! ### all points, by the program and by the law -/
def every (k : Kd) (n : Int) : List Pt := allP (wid k n).toNat (lng k n).toNat
theorem every_small {k : Kd} {n : Int} (h : okF k n) : (wid k n).toNat ^ (lng k n).toNat ≤ 28561 := by
  have h1 := wid_le h
  have h2 := lng_le h
  have a : (wid k n).toNat ≤ 13 := by omega
  have b : (lng k n).toNat ≤ 4 := by omega
  calc (wid k n).toNat ^ (lng k n).toNat ≤ 13 ^ (lng k n).toNat := Nat.pow_le_pow_left a _
    _ ≤ 13 ^ 4 := Nat.pow_le_pow_right (by decide) b
theorem pow_le_28561 {w l : Nat} (hw : w ≤ 13) (hl : l ≤ 4) : w ^ l ≤ 28561 := 
  calc w ^ l ≤ 13 ^ l := Nat.pow_le_pow_left hw _
    _ ≤ 13 ^ 4 := Nat.pow_le_pow_right (by decide) hl
theorem add_tup (p q : Pt) (h : p.length + q.length ≤ LIM) : op2 .add (tupD p) (tupD q) = some (tupD (p ++ q)) := by
  show (if (p.map D.int).length + (q.map D.int).length ≤ LIM then some (D.tup (p.map D.int ++ q.map D.int)) else none) = _
  rw [List.length_map, List.length_map, if_pos h, ← List.map_append]
  rfl
theorem add_lst (p q : List D) (h : p.length + q.length ≤ LIM) : op2 .add (.lst p) (.lst q) = some (.lst (p ++ q)) := if_pos h
theorem len_flat {α β : Type} {f : α → List β} {w : Nat} : ∀ {l : List α}, (∀ a ∈ l, (f a).length = w) → (l.flatMap f).length = l.length * w
  | [], _ => by simp
  | a :: l, h => by
    rw [List.flatMap_cons, List.length_append, h a (List.mem_cons_self ..), len_flat fun b m => h b (List.mem_cons_of_mem _ m), List.length_cons, Nat.succ_mul, Nat.add_comm]
section
variable {T : Tb} (A : HA T) {m : Nat} {k : Kd} {n : Int}
include A
theorem q5 (hf : okF k n) : run T (m + 2) 5 [fldD k n] = some (ptsD (every k n)) := by
  refine run_r A.h5 rfl ?_
  obtain ⟨w1, w2⟩ := wid_le hf
  obtain ⟨l1, l2⟩ := lng_le hf
  generalize hw : (wid k n).toNat = w
  generalize hl : (lng k n).toNat = l
  have hb := pow_le_28561 (w := w) (l := l) (by omega) (by omega)
  simp only [fn5, s_nil, s_asg, s_mov, s_par, s_ifs, s_ret, s_retn, s_ex, Ss.app, nx_nx, rt_rt, zv1, zv2, zv3, zv4, zv5, zv6, zv7, zv8, zv9, zv10, zv11, zv13, zv14, zv15, zv16, zv17, zv18, zv19, zw1, zw2, zr1, zr2, zr3, zr4, zr5, zr6, zr7, gt, sub_int, add_int, le_int, gt_int, ge_int, o_lt, o_eq, o_ne, o_mem, o_nmem, o_is, o_isn, o_not, o_len, o_all, o_any, o_sum, o_sort, o_ssort, o_lst, o_tup, o_ist, i_int, i_boolI, i_boolB, i_str, i_tup, i_lst, i_tupP, i_tupF, len_tup, len_lst, len_tupP, len_F, ix_tup, ix_lst, ix_tupP, ix_F0, ix_F1, not_bl, seq_tup, seq_lst, seq_tupP, lt_int, lst_lst, tpl_lst, tpl_tup, is_bb, isn_bb, bindD, setsD, List.length_cons, List.length_nil, List.map_cons, List.map_nil, List.replicate_succ, List.replicate_zero, List.append_nil, List.cons_append, List.nil_append, List.getElem?_cons_zero, List.getElem?_cons_succ, List.set_cons_zero, List.set_cons_succ, if_true, if_false, Nat.zero_add, Nat.sub_self, Nat.reduceAdd, Nat.reduceSub, Option.map_some, Option.map_none, Bool.not_true, Bool.not_false, Option.bind_some, nc0, nc1, nc2, nc3, nc4, Option.some.injEq, D.bl.injEq, D.int.injEq, reduceCtorEq, decide_true, decide_false, Int.reduceEq, Int.reduceNe, not_true_eq_false, not_false_eq_true, ne_eq, Int.reduceLE, Int.reduceLT, at0, at1, at2, eq_int, eq_bl, eq_sp, eq_pl, eq_fl, eq_tup, eq_pts, eq_lns, mem_pts, mem_lns, Bool.false_xor, Bool.true_xor, mod_int, fdiv_int, mul_int, Int.reduceNeg, Nat.reduceLT, Int.reduceAdd, Int.reduceMul, Int.reduceSub, and_self, or_true, true_or, reduceIte, beq_self_eq_true, Bool.and_self, Bool.true_and, Bool.and_true, Bool.false_and, Bool.and_false, Bool.or_true, Bool.true_or, Bool.or_false, Bool.false_or]
  refine s_for (g := fun (i : Nat) => D.int (i : Int)) (xs := List.range l) (P := fun xs env => ∃ x2 x4 x5, xs.length ≤ l ∧ env = [some (fldD k n), some (ptsD (allP w (l - xs.length))), x2, none, x4, x5]) ?_ ?_ ?_ ?_
  · simp only [s_nil, s_asg, s_mov, s_par, s_ifs, s_ret, s_retn, s_ex, Ss.app, nx_nx, rt_rt, zv1, zv2, zv3, zv4, zv5, zv6, zv7, zv8, zv9, zv10, zv11, zv13, zv14, zv15, zv16, zv17, zv18, zv19, zw1, zw2, zr1, zr2, zr3, zr4, zr5, zr6, zr7, gt, sub_int, add_int, le_int, gt_int, ge_int, o_lt, o_eq, o_ne, o_mem, o_nmem, o_is, o_isn, o_not, o_len, o_all, o_any, o_sum, o_sort, o_ssort, o_lst, o_tup, o_ist, i_int, i_boolI, i_boolB, i_str, i_tup, i_lst, i_tupP, i_tupF, len_tup, len_lst, len_tupP, len_F, ix_tup, ix_lst, ix_tupP, ix_F0, ix_F1, not_bl, seq_tup, seq_lst, seq_tupP, lt_int, lst_lst, tpl_lst, tpl_tup, is_bb, isn_bb, bindD, setsD, List.length_cons, List.length_nil, List.map_cons, List.map_nil, List.replicate_succ, List.replicate_zero, List.append_nil, List.cons_append, List.nil_append, List.getElem?_cons_zero, List.getElem?_cons_succ, List.set_cons_zero, List.set_cons_succ, if_true, if_false, Nat.zero_add, Nat.sub_self, Nat.reduceAdd, Nat.reduceSub, Option.map_some, Option.map_none, Bool.not_true, Bool.not_false, Option.bind_some, nc0, nc1, nc2, nc3, nc4, Option.some.injEq, D.bl.injEq, D.int.injEq, reduceCtorEq, decide_true, decide_false, Int.reduceEq, Int.reduceNe, not_true_eq_false, not_false_eq_true, ne_eq, Int.reduceLE, Int.reduceLT, at0, at1, at2, eq_int, eq_bl, eq_sp, eq_pl, eq_fl, eq_tup, eq_pts, eq_lns, mem_pts, mem_lns, Bool.false_xor, Bool.true_xor, mod_int, fdiv_int, mul_int, Int.reduceNeg, Nat.reduceLT, Int.reduceAdd, Int.reduceMul, Int.reduceSub, and_self, or_true, true_or, reduceIte, beq_self_eq_true, Bool.and_self, Bool.true_and, Bool.and_true, Bool.false_and, Bool.and_false, Bool.or_true, Bool.true_or, Bool.or_false, Bool.false_or, q3 A, small_nat (n := lng k n) (by omega) (by omega), range_nat, hl]
  · refine ⟨none, none, none, by simp, ?_⟩
    rw [List.length_range, Nat.sub_self]
    rfl
  · rintro x xs env ⟨x2, x4, x5, hle, rfl⟩
    refine ⟨_, rfl, ?_⟩
    rw [List.length_cons] at hle
    simp only [s_nil, s_asg, s_mov, s_par, s_ifs, s_ret, s_retn, s_ex, Ss.app, nx_nx, rt_rt, zv1, zv2, zv3, zv4, zv5, zv6, zv7, zv8, zv9, zv10, zv11, zv13, zv14, zv15, zv16, zv17, zv18, zv19, zw1, zw2, zr1, zr2, zr3, zr4, zr5, zr6, zr7, gt, sub_int, add_int, le_int, gt_int, ge_int, o_lt, o_eq, o_ne, o_mem, o_nmem, o_is, o_isn, o_not, o_len, o_all, o_any, o_sum, o_sort, o_ssort, o_lst, o_tup, o_ist, i_int, i_boolI, i_boolB, i_str, i_tup, i_lst, i_tupP, i_tupF, len_tup, len_lst, len_tupP, len_F, ix_tup, ix_lst, ix_tupP, ix_F0, ix_F1, not_bl, seq_tup, seq_lst, seq_tupP, lt_int, lst_lst, tpl_lst, tpl_tup, is_bb, isn_bb, bindD, setsD, List.length_cons, List.length_nil, List.map_cons, List.map_nil, List.replicate_succ, List.replicate_zero, List.append_nil, List.cons_append, List.nil_append, List.getElem?_cons_zero, List.getElem?_cons_succ, List.set_cons_zero, List.set_cons_succ, if_true, if_false, Nat.zero_add, Nat.sub_self, Nat.reduceAdd, Nat.reduceSub, Option.map_some, Option.map_none, Bool.not_true, Bool.not_false, Option.bind_some, nc0, nc1, nc2, nc3, nc4, Option.some.injEq, D.bl.injEq, D.int.injEq, reduceCtorEq, decide_true, decide_false, Int.reduceEq, Int.reduceNe, not_true_eq_false, not_false_eq_true, ne_eq, Int.reduceLE, Int.reduceLT, at0, at1, at2, eq_int, eq_bl, eq_sp, eq_pl, eq_fl, eq_tup, eq_pts, eq_lns, mem_pts, mem_lns, Bool.false_xor, Bool.true_xor, mod_int, fdiv_int, mul_int, Int.reduceNeg, Nat.reduceLT, Int.reduceAdd, Int.reduceMul, Int.reduceSub, and_self, or_true, true_or, reduceIte, beq_self_eq_true, Bool.and_self, Bool.true_and, Bool.and_true, Bool.false_and, Bool.and_false, Bool.or_true, Bool.true_or, Bool.or_false, Bool.false_or]
    have hlen : ∀ j ≤ l, (allP w j).length ≤ 28561 := fun j hj => by
      rw [all_len]
      exact pow_le_28561 (by omega) (by omega)
    refine s_for (g := tupD) (xs := allP w (l - (xs.length + 1))) (P := fun ys env => ∃ zs x4 x5, allP w (l - (xs.length + 1)) = zs ++ ys ∧ env = [some (fldD k n), some (ptsD (allP w (l - (xs.length + 1)))), some (.int x), some (ptsD (zs.flatMap fun p => (List.range w).map fun (i : Nat) => p ++ [(i : Int)])), x4, x5]) ?_ ?_ ?_ ?_
    · simp only [s_nil, s_asg, s_mov, s_par, s_ifs, s_ret, s_retn, s_ex, Ss.app, nx_nx, rt_rt, zv1, zv2, zv3, zv4, zv5, zv6, zv7, zv8, zv9, zv10, zv11, zv13, zv14, zv15, zv16, zv17, zv18, zv19, zw1, zw2, zr1, zr2, zr3, zr4, zr5, zr6, zr7, gt, sub_int, add_int, le_int, gt_int, ge_int, o_lt, o_eq, o_ne, o_mem, o_nmem, o_is, o_isn, o_not, o_len, o_all, o_any, o_sum, o_sort, o_ssort, o_lst, o_tup, o_ist, i_int, i_boolI, i_boolB, i_str, i_tup, i_lst, i_tupP, i_tupF, len_tup, len_lst, len_tupP, len_F, ix_tup, ix_lst, ix_tupP, ix_F0, ix_F1, not_bl, seq_tup, seq_lst, seq_tupP, lt_int, lst_lst, tpl_lst, tpl_tup, is_bb, isn_bb, bindD, setsD, List.length_cons, List.length_nil, List.map_cons, List.map_nil, List.replicate_succ, List.replicate_zero, List.append_nil, List.cons_append, List.nil_append, List.getElem?_cons_zero, List.getElem?_cons_succ, List.set_cons_zero, List.set_cons_succ, if_true, if_false, Nat.zero_add, Nat.sub_self, Nat.reduceAdd, Nat.reduceSub, Option.map_some, Option.map_none, Bool.not_true, Bool.not_false, Option.bind_some, nc0, nc1, nc2, nc3, nc4, Option.some.injEq, D.bl.injEq, D.int.injEq, reduceCtorEq, decide_true, decide_false, Int.reduceEq, Int.reduceNe, not_true_eq_false, not_false_eq_true, ne_eq, Int.reduceLE, Int.reduceLT, at0, at1, at2, eq_int, eq_bl, eq_sp, eq_pl, eq_fl, eq_tup, eq_pts, eq_lns, mem_pts, mem_lns, Bool.false_xor, Bool.true_xor, mod_int, fdiv_int, mul_int, Int.reduceNeg, Nat.reduceLT, Int.reduceAdd, Int.reduceMul, Int.reduceSub, and_self, or_true, true_or, reduceIte, beq_self_eq_true, Bool.and_self, Bool.true_and, Bool.and_true, Bool.false_and, Bool.and_false, Bool.or_true, Bool.true_or, Bool.or_false, Bool.false_or]
    · exact ⟨[], x4, x5, rfl, rfl⟩
    · rintro p ys env ⟨zs, x4, x5, e, rfl⟩
      refine ⟨_, rfl, ?_⟩
      have hp : p ∈ allP w (l - (xs.length + 1)) := by rw [e]; simp
      have hpl := (mem_all hp).1
      have hz : zs.length * w + w ≤ 28561 := by
        have h1 := hlen (l - xs.length) (by omega)
        rw [show l - xs.length = (l - (xs.length + 1)) + 1 by omega, all_len, Nat.pow_succ, ← all_len] at h1
        rw [e, List.length_append, List.length_cons] at h1
        have : (zs.length + 1) * w ≤ (zs.length + (ys.length + 1)) * w := Nat.mul_le_mul_right _ (by omega)
        rw [Nat.succ_mul] at this
        omega
      simp only [s_nil, s_asg, s_mov, s_par, s_ifs, s_ret, s_retn, s_ex, Ss.app, nx_nx, rt_rt, zv1, zv2, zv3, zv4, zv5, zv6, zv7, zv8, zv9, zv10, zv11, zv13, zv14, zv15, zv16, zv17, zv18, zv19, zw1, zw2, zr1, zr2, zr3, zr4, zr5, zr6, zr7, gt, sub_int, add_int, le_int, gt_int, ge_int, o_lt, o_eq, o_ne, o_mem, o_nmem, o_is, o_isn, o_not, o_len, o_all, o_any, o_sum, o_sort, o_ssort, o_lst, o_tup, o_ist, i_int, i_boolI, i_boolB, i_str, i_tup, i_lst, i_tupP, i_tupF, len_tup, len_lst, len_tupP, len_F, ix_tup, ix_lst, ix_tupP, ix_F0, ix_F1, not_bl, seq_tup, seq_lst, seq_tupP, lt_int, lst_lst, tpl_lst, tpl_tup, is_bb, isn_bb, bindD, setsD, List.length_cons, List.length_nil, List.map_cons, List.map_nil, List.replicate_succ, List.replicate_zero, List.append_nil, List.cons_append, List.nil_append, List.getElem?_cons_zero, List.getElem?_cons_succ, List.set_cons_zero, List.set_cons_succ, if_true, if_false, Nat.zero_add, Nat.sub_self, Nat.reduceAdd, Nat.reduceSub, Option.map_some, Option.map_none, Bool.not_true, Bool.not_false, Option.bind_some, nc0, nc1, nc2, nc3, nc4, Option.some.injEq, D.bl.injEq, D.int.injEq, reduceCtorEq, decide_true, decide_false, Int.reduceEq, Int.reduceNe, not_true_eq_false, not_false_eq_true, ne_eq, Int.reduceLE, Int.reduceLT, at0, at1, at2, eq_int, eq_bl, eq_sp, eq_pl, eq_fl, eq_tup, eq_pts, eq_lns, mem_pts, mem_lns, Bool.false_xor, Bool.true_xor, mod_int, fdiv_int, mul_int, Int.reduceNeg, Nat.reduceLT, Int.reduceAdd, Int.reduceMul, Int.reduceSub, and_self, or_true, true_or, reduceIte, beq_self_eq_true, Bool.and_self, Bool.true_and, Bool.and_true, Bool.false_and, Bool.and_false, Bool.or_true, Bool.true_or, Bool.or_false, Bool.false_or]
      rw [s_ext (xs := (zs.flatMap fun p => (List.range w).map fun (i : Nat) => p ++ [(i : Int)]).map tupD) (ys := ((List.range w).map fun (i : Nat) => p ++ [(i : Int)]).map tupD) rfl (by
        rw [e_comp (g := fun (i : Nat) => D.int (i : Int)) (xs := List.range w) (fun i => tupD (p ++ [(i : Int)])) (by
          simp only [s_nil, s_asg, s_mov, s_par, s_ifs, s_ret, s_retn, s_ex, Ss.app, nx_nx, rt_rt, zv1, zv2, zv3, zv4, zv5, zv6, zv7, zv8, zv9, zv10, zv11, zv13, zv14, zv15, zv16, zv17, zv18, zv19, zw1, zw2, zr1, zr2, zr3, zr4, zr5, zr6, zr7, gt, sub_int, add_int, le_int, gt_int, ge_int, o_lt, o_eq, o_ne, o_mem, o_nmem, o_is, o_isn, o_not, o_len, o_all, o_any, o_sum, o_sort, o_ssort, o_lst, o_tup, o_ist, i_int, i_boolI, i_boolB, i_str, i_tup, i_lst, i_tupP, i_tupF, len_tup, len_lst, len_tupP, len_F, ix_tup, ix_lst, ix_tupP, ix_F0, ix_F1, not_bl, seq_tup, seq_lst, seq_tupP, lt_int, lst_lst, tpl_lst, tpl_tup, is_bb, isn_bb, bindD, setsD, List.length_cons, List.length_nil, List.map_cons, List.map_nil, List.replicate_succ, List.replicate_zero, List.append_nil, List.cons_append, List.nil_append, List.getElem?_cons_zero, List.getElem?_cons_succ, List.set_cons_zero, List.set_cons_succ, if_true, if_false, Nat.zero_add, Nat.sub_self, Nat.reduceAdd, Nat.reduceSub, Option.map_some, Option.map_none, Bool.not_true, Bool.not_false, Option.bind_some, nc0, nc1, nc2, nc3, nc4, Option.some.injEq, D.bl.injEq, D.int.injEq, reduceCtorEq, decide_true, decide_false, Int.reduceEq, Int.reduceNe, not_true_eq_false, not_false_eq_true, ne_eq, Int.reduceLE, Int.reduceLT, at0, at1, at2, eq_int, eq_bl, eq_sp, eq_pl, eq_fl, eq_tup, eq_pts, eq_lns, mem_pts, mem_lns, Bool.false_xor, Bool.true_xor, mod_int, fdiv_int, mul_int, Int.reduceNeg, Nat.reduceLT, Int.reduceAdd, Int.reduceMul, Int.reduceSub, and_self, or_true, true_or, reduceIte, beq_self_eq_true, Bool.and_self, Bool.true_and, Bool.and_true, Bool.false_and, Bool.and_false, Bool.or_true, Bool.true_or, Bool.or_false, Bool.false_or, q4 A, small_nat (n := wid k n) (by omega) (by omega), range_nat, hw]) (by rw [List.length_range]; unfold LIM; omega) (fun i _ => ⟨_, rfl, by
            simp only [s_nil, s_asg, s_mov, s_par, s_ifs, s_ret, s_retn, s_ex, Ss.app, nx_nx, rt_rt, zv1, zv2, zv3, zv4, zv5, zv6, zv7, zv8, zv9, zv10, zv11, zv13, zv14, zv15, zv16, zv17, zv18, zv19, zw1, zw2, zr1, zr2, zr3, zr4, zr5, zr6, zr7, gt, sub_int, add_int, le_int, gt_int, ge_int, o_lt, o_eq, o_ne, o_mem, o_nmem, o_is, o_isn, o_not, o_len, o_all, o_any, o_sum, o_sort, o_ssort, o_lst, o_tup, o_ist, i_int, i_boolI, i_boolB, i_str, i_tup, i_lst, i_tupP, i_tupF, len_tup, len_lst, len_tupP, len_F, ix_tup, ix_lst, ix_tupP, ix_F0, ix_F1, not_bl, seq_tup, seq_lst, seq_tupP, lt_int, lst_lst, tpl_lst, tpl_tup, is_bb, isn_bb, bindD, setsD, List.length_cons, List.length_nil, List.map_cons, List.map_nil, List.replicate_succ, List.replicate_zero, List.append_nil, List.cons_append, List.nil_append, List.getElem?_cons_zero, List.getElem?_cons_succ, List.set_cons_zero, List.set_cons_succ, if_true, if_false, Nat.zero_add, Nat.sub_self, Nat.reduceAdd, Nat.reduceSub, Option.map_some, Option.map_none, Bool.not_true, Bool.not_false, Option.bind_some, nc0, nc1, nc2, nc3, nc4, Option.some.injEq, D.bl.injEq, D.int.injEq, reduceCtorEq, decide_true, decide_false, Int.reduceEq, Int.reduceNe, not_true_eq_false, not_false_eq_true, ne_eq, Int.reduceLE, Int.reduceLT, at0, at1, at2, eq_int, eq_bl, eq_sp, eq_pl, eq_fl, eq_tup, eq_pts, eq_lns, mem_pts, mem_lns, Bool.false_xor, Bool.true_xor, mod_int, fdiv_int, mul_int, Int.reduceNeg, Nat.reduceLT, Int.reduceAdd, Int.reduceMul, Int.reduceSub, and_self, or_true, true_or, reduceIte, beq_self_eq_true, Bool.and_self, Bool.true_and, Bool.and_true, Bool.false_and, Bool.and_false, Bool.or_true, Bool.true_or, Bool.or_false, Bool.false_or]
            exact add_tup p [(i : Int)] (by simp [LIM]; omega)⟩), List.map_map]
        rfl) (by
        rw [List.length_map, List.length_map, List.length_map, List.length_range, len_flat (w := w) fun a _ => by rw [List.length_map, List.length_range]]
        unfold LIM
        omega)]
      simp only [s_nil, s_asg, s_mov, s_par, s_ifs, s_ret, s_retn, s_ex, Ss.app, nx_nx, rt_rt, zv1, zv2, zv3, zv4, zv5, zv6, zv7, zv8, zv9, zv10, zv11, zv13, zv14, zv15, zv16, zv17, zv18, zv19, zw1, zw2, zr1, zr2, zr3, zr4, zr5, zr6, zr7, gt, sub_int, add_int, le_int, gt_int, ge_int, o_lt, o_eq, o_ne, o_mem, o_nmem, o_is, o_isn, o_not, o_len, o_all, o_any, o_sum, o_sort, o_ssort, o_lst, o_tup, o_ist, i_int, i_boolI, i_boolB, i_str, i_tup, i_lst, i_tupP, i_tupF, len_tup, len_lst, len_tupP, len_F, ix_tup, ix_lst, ix_tupP, ix_F0, ix_F1, not_bl, seq_tup, seq_lst, seq_tupP, lt_int, lst_lst, tpl_lst, tpl_tup, is_bb, isn_bb, bindD, setsD, List.length_cons, List.length_nil, List.map_cons, List.map_nil, List.replicate_succ, List.replicate_zero, List.append_nil, List.cons_append, List.nil_append, List.getElem?_cons_zero, List.getElem?_cons_succ, List.set_cons_zero, List.set_cons_succ, if_true, if_false, Nat.zero_add, Nat.sub_self, Nat.reduceAdd, Nat.reduceSub, Option.map_some, Option.map_none, Bool.not_true, Bool.not_false, Option.bind_some, nc0, nc1, nc2, nc3, nc4, Option.some.injEq, D.bl.injEq, D.int.injEq, reduceCtorEq, decide_true, decide_false, Int.reduceEq, Int.reduceNe, not_true_eq_false, not_false_eq_true, ne_eq, Int.reduceLE, Int.reduceLT, at0, at1, at2, eq_int, eq_bl, eq_sp, eq_pl, eq_fl, eq_tup, eq_pts, eq_lns, mem_pts, mem_lns, Bool.false_xor, Bool.true_xor, mod_int, fdiv_int, mul_int, Int.reduceNeg, Nat.reduceLT, Int.reduceAdd, Int.reduceMul, Int.reduceSub, and_self, or_true, true_or, reduceIte, beq_self_eq_true, Bool.and_self, Bool.true_and, Bool.and_true, Bool.false_and, Bool.and_false, Bool.or_true, Bool.true_or, Bool.or_false, Bool.false_or]
      refine ⟨zs ++ [p], some (tupD p), x5, by rw [e]; simp, ?_⟩
      simp only [ptsD, List.flatMap_append, List.map_append, List.flatMap_cons, List.flatMap_nil, List.append_nil]
    · rintro env ⟨zs, x4, x5, e, rfl⟩
      rw [List.append_nil] at e
      subst e
      simp only [s_nil, s_asg, s_mov, s_par, s_ifs, s_ret, s_retn, s_ex, Ss.app, nx_nx, rt_rt, zv1, zv2, zv3, zv4, zv5, zv6, zv7, zv8, zv9, zv10, zv11, zv13, zv14, zv15, zv16, zv17, zv18, zv19, zw1, zw2, zr1, zr2, zr3, zr4, zr5, zr6, zr7, gt, sub_int, add_int, le_int, gt_int, ge_int, o_lt, o_eq, o_ne, o_mem, o_nmem, o_is, o_isn, o_not, o_len, o_all, o_any, o_sum, o_sort, o_ssort, o_lst, o_tup, o_ist, i_int, i_boolI, i_boolB, i_str, i_tup, i_lst, i_tupP, i_tupF, len_tup, len_lst, len_tupP, len_F, ix_tup, ix_lst, ix_tupP, ix_F0, ix_F1, not_bl, seq_tup, seq_lst, seq_tupP, lt_int, lst_lst, tpl_lst, tpl_tup, is_bb, isn_bb, bindD, setsD, List.length_cons, List.length_nil, List.map_cons, List.map_nil, List.replicate_succ, List.replicate_zero, List.append_nil, List.cons_append, List.nil_append, List.getElem?_cons_zero, List.getElem?_cons_succ, List.set_cons_zero, List.set_cons_succ, if_true, if_false, Nat.zero_add, Nat.sub_self, Nat.reduceAdd, Nat.reduceSub, Option.map_some, Option.map_none, Bool.not_true, Bool.not_false, Option.bind_some, nc0, nc1, nc2, nc3, nc4, Option.some.injEq, D.bl.injEq, D.int.injEq, reduceCtorEq, decide_true, decide_false, Int.reduceEq, Int.reduceNe, not_true_eq_false, not_false_eq_true, ne_eq, Int.reduceLE, Int.reduceLT, at0, at1, at2, eq_int, eq_bl, eq_sp, eq_pl, eq_fl, eq_tup, eq_pts, eq_lns, mem_pts, mem_lns, Bool.false_xor, Bool.true_xor, mod_int, fdiv_int, mul_int, Int.reduceNeg, Nat.reduceLT, Int.reduceAdd, Int.reduceMul, Int.reduceSub, and_self, or_true, true_or, reduceIte, beq_self_eq_true, Bool.and_self, Bool.true_and, Bool.and_true, Bool.false_and, Bool.and_false, Bool.or_true, Bool.true_or, Bool.or_false, Bool.false_or]
      refine ⟨some (.int x), x4, x5, by omega, ?_⟩
      rw [show l - xs.length = (l - (xs.length + 1)) + 1 by omega]
      rfl
  · rintro env ⟨x2, x4, x5, _, rfl⟩
    simp only [s_nil, s_asg, s_mov, s_par, s_ifs, s_ret, s_retn, s_ex, Ss.app, nx_nx, rt_rt, zv1, zv2, zv3, zv4, zv5, zv6, zv7, zv8, zv9, zv10, zv11, zv13, zv14, zv15, zv16, zv17, zv18, zv19, zw1, zw2, zr1, zr2, zr3, zr4, zr5, zr6, zr7, gt, sub_int, add_int, le_int, gt_int, ge_int, o_lt, o_eq, o_ne, o_mem, o_nmem, o_is, o_isn, o_not, o_len, o_all, o_any, o_sum, o_sort, o_ssort, o_lst, o_tup, o_ist, i_int, i_boolI, i_boolB, i_str, i_tup, i_lst, i_tupP, i_tupF, len_tup, len_lst, len_tupP, len_F, ix_tup, ix_lst, ix_tupP, ix_F0, ix_F1, not_bl, seq_tup, seq_lst, seq_tupP, lt_int, lst_lst, tpl_lst, tpl_tup, is_bb, isn_bb, bindD, setsD, List.length_cons, List.length_nil, List.map_cons, List.map_nil, List.replicate_succ, List.replicate_zero, List.append_nil, List.cons_append, List.nil_append, List.getElem?_cons_zero, List.getElem?_cons_succ, List.set_cons_zero, List.set_cons_succ, if_true, if_false, Nat.zero_add, Nat.sub_self, Nat.reduceAdd, Nat.reduceSub, Option.map_some, Option.map_none, Bool.not_true, Bool.not_false, Option.bind_some, nc0, nc1, nc2, nc3, nc4, Option.some.injEq, D.bl.injEq, D.int.injEq, reduceCtorEq, decide_true, decide_false, Int.reduceEq, Int.reduceNe, not_true_eq_false, not_false_eq_true, ne_eq, Int.reduceLE, Int.reduceLT, at0, at1, at2, eq_int, eq_bl, eq_sp, eq_pl, eq_fl, eq_tup, eq_pts, eq_lns, mem_pts, mem_lns, Bool.false_xor, Bool.true_xor, mod_int, fdiv_int, mul_int, Int.reduceNeg, Nat.reduceLT, Int.reduceAdd, Int.reduceMul, Int.reduceSub, and_self, or_true, true_or, reduceIte, beq_self_eq_true, Bool.and_self, Bool.true_and, Bool.and_true, Bool.false_and, Bool.and_false, Bool.or_true, Bool.true_or, Bool.or_false, Bool.false_or]
    show ptsD (allP w l) = _
    rw [← hw, ← hl]
    rfl
end
end Nt

set_option Elab.async false
set_option linter.all false
set_option maxRecDepth 100000
set_option maxHeartbeats 4000000
/-! The law's own helpers. -/
namespace Nt
open PySem PySem.Spec PyProof.Rows L2
theorem fmod_nn (a : Int) {b : Int} (h : 0 < b) : 0 ≤ a.fmod b ∧ a.fmod b < b := by
  rw [Int.fmod_eq_emod_of_nonneg a (by omega)]
  exact ⟨Int.emod_nonneg _ (by omega), Int.emod_lt_of_pos _ h⟩
theorem at_map {p : List Int} {i : Int} (h0 : 0 ≤ i) (h : i < p.length) : atI (p.map D.int) i = some (.int (p.getD i.toNat 0)) := by
  have e : i = (i.toNat : Int) := by omega
  rw [e, at_nat _ _ (by rw [List.length_map]; omega), List.getElem?_map, List.getElem?_eq_getElem (by omega), List.getD_eq_getElem?_getD, Int.toNat_natCast, List.getElem?_eq_getElem (by omega)]
  rfl
def prm : List Int := [1000003, 1000033, 1000037, 1000039, 1000081, 1000099, 1000117, 1000121, 1000133, 1000151, 1000159, 1000171, 1000183, 1000187, 1000193, 1000199]
theorem prm_pos : ∀ j : Nat, j < 16 → 0 < prm.getD j 0 := by decide
def drw (c k m : Int) : Int := ((c * 48271 + k * 69621).fmod (prm.getD (k.fmod 16).toNat 0)).fmod m
def val (c t : Int) : Int := if 1000000000000000000 ≤ c then (c - 1000000000000000000).fmod 10000000000000000000000000000000000000000 / 2 ^ (3 * t).toNat
  else drw ((c.fmod 1000000000000000000 + 977 * t) * (c.fmod 1000000000000000000 + 31 * t + 5)) (t.fmod 9 + 1) 999983 * 1000003 + drw ((c.fmod 1000000000000000000 + 31 * t) * (c.fmod 1000000000000000000 + 7) + 977 * t) (t.fmod 7 + 2) 1000003
theorem drw_nn {c k m : Int} (h : 0 < m) : 0 ≤ drw c k m := (fmod_nn _ h).1
theorem val_nn (c t : Int) : 0 ≤ val c t := by
  unfold val
  split
  · exact Int.ediv_nonneg (fmod_nn _ (by decide)).1 (Int.le_of_lt (Int.pow_pos (by decide)))
  · have := drw_nn (c := (c.fmod 1000000000000000000 + 977 * t) * (c.fmod 1000000000000000000 + 31 * t + 5)) (k := t.fmod 9 + 1) (m := 999983) (by decide)
    have := drw_nn (c := (c.fmod 1000000000000000000 + 31 * t) * (c.fmod 1000000000000000000 + 7) + 977 * t) (k := t.fmod 7 + 2) (m := 1000003) (by decide)
    omega
theorem pow18 : op2 .pow (.int 10) (.int 18) = some (.int 1000000000000000000) := by rfl
theorem pow40 : op2 .pow (.int 10) (.int 40) = some (.int 10000000000000000000000000000000000000000) := by rfl
theorem shr_int {i j : Int} (h : 0 ≤ j) : op2 .shr (.int i) (.int j) = some (.int (i / 2 ^ j.toNat)) := if_pos h
def cel (ns : List Int) (i : Int) : Int := ns.getD i.toNat 0
def fldM (c : Int) : Kd × Int := if (val c 1).fmod 3 = 0 then (.sp, 1 + (val c 2).fmod 4) else if (val c 1).fmod 3 = 1 then (.pl, ([2, 3, 5, 7, 11, 13] : List Int).getD ((val c 2).fmod 6).toNat 0) else (.fl, 1 + (val c 2).fmod 12)
theorem okF_fldM (c : Int) : okF (fldM c).1 (fldM c).2 := by
  unfold fldM
  split
  · have := fmod_nn (val c 2) (b := 4) (by decide)
    show 1 ≤ 1 + (val c 2).fmod 4 ∧ 1 + (val c 2).fmod 4 ≤ 4
    omega
  · split
    · have h := fmod_nn (val c 2) (b := 6) (by decide)
      have e : ∀ j : Nat, j < 6 → ([2, 3, 5, 7, 11, 13] : List Int).getD j 0 ∈ ([2, 3, 5, 7, 11, 13] : List Int) := by decide
      exact e _ (by omega)
    · have := fmod_nn (val c 2) (b := 12) (by decide)
      show 1 ≤ 1 + (val c 2).fmod 12 ∧ 1 + (val c 2).fmod 12 ≤ 12
      omega
section
variable {T : Tb} (A : HA T) {m : Nat} {k : Kd} {n : Int}
include A
theorem q13 {c k q : Int} (hq : q ≠ 0) : run T (m + 1) 13 [.int c, .int k, .int q] = some (.int (drw c k q)) := by
  refine run_r A.h13 rfl ?_
  have h16 := fmod_nn k (b := 16) (by decide)
  have hp := prm_pos (k.fmod 16).toNat (by omega)
  have e : ixD (.tup [.int 1000003, .int 1000033, .int 1000037, .int 1000039, .int 1000081, .int 1000099, .int 1000117, .int 1000121, .int 1000133, .int 1000151, .int 1000159, .int 1000171, .int 1000183, .int 1000187, .int 1000193, .int 1000199]) (.int (k.fmod 16)) = some (.int (prm.getD (k.fmod 16).toNat 0)) := at_map (p := prm) h16.1 h16.2
  have hp2 : prm.getD (k.fmod 16).toNat 0 ≠ 0 := by omega
  simp only [fn13, s_asg, s_ret, zv1, zv2, zv3, zw1, zw2, zv6, zv19, gt, List.map_cons, List.map_nil, List.replicate_succ, List.replicate_zero, Nat.reduceSub, List.cons_append, List.nil_append, List.set_cons_succ, List.set_cons_zero, List.getElem?_cons_zero, List.getElem?_cons_succ, mul_int (i := c) (j := 48271) (.inr (by decide)), mul_int (i := k) (j := 69621) (.inr (by decide)), mod_int (i := k) (j := 16) (by decide), add_int, e, mod_int hp2, mod_int hq]
  rfl
theorem q14 {c t : Int} (h0 : 0 ≤ t) (h1 : t ≤ 1000) : run T (m + 2) 14 [.int c, .int t] = some (.int (val c t)) := by
  refine run_r A.h14 rfl ?_
  by_cases hc : 1000000000000000000 ≤ c
  · simp only [fn14, s_ifs, s_asg, s_ret, Ss.app, zv1, zv2, zv3, zw1, zw2, zv6, zv11, gt, List.map_cons, List.map_nil, List.replicate_succ, List.replicate_zero, Nat.reduceSub, List.cons_append, List.nil_append, List.set_cons_succ, List.set_cons_zero, List.getElem?_cons_zero, List.getElem?_cons_succ, pow18, pow40, ge_int, hc, decide_true, sub_int, mod_int (j := 10000000000000000000000000000000000000000) (by decide), mul_int (i := 3) (j := t) (.inl (by decide)), shr_int (j := 3 * t) (by omega), rt_rt, val, if_true]
  · have hr := fmod_nn c (b := 1000000000000000000) (by decide)
    simp only [fn14, s_ifs, s_asg, s_ret, Ss.app, zv1, zv2, zv3, zw1, zw2, zv6, zv11, gt, List.map_cons, List.map_nil, List.replicate_succ, List.replicate_zero, Nat.reduceSub, List.cons_append, List.nil_append, List.set_cons_succ, List.set_cons_zero, List.getElem?_cons_zero, List.getElem?_cons_succ, pow18, pow40, ge_int, hc, decide_false, mod_int (i := c) (j := 1000000000000000000) (by decide), mul_int (i := 977) (j := t) (.inl (by decide)), mul_int (i := 31) (j := t) (.inl (by decide)), add_int, mul_int (i := c.fmod 1000000000000000000 + 977 * t) (.inl (by omega)), mul_int (i := c.fmod 1000000000000000000 + 31 * t) (.inl (by omega)), mod_int (i := t) (j := 9) (by decide), mod_int (i := t) (j := 7) (by decide), q13 A (q := 999983) (by decide), q13 A (q := 1000003) (by decide), mul_int (j := 1000003) (.inr (by decide)), rt_rt, val, if_false]
theorem q12 {ns : List Int} {i : Int} (h : 0 ≤ i) : run T (m + 1) 12 [.lst (ns.map .int), .int i] = some (.int (cel ns i)) := by
  refine run_r A.h12 rfl ?_
  by_cases hi : i < (ns.length : Int)
  · have e := at_map (p := ns) h hi
    simp only [fn12, s_nil, s_asg, s_mov, s_par, s_ifs, s_ret, s_retn, s_ex, Ss.app, nx_nx, rt_rt, zv1, zv2, zv3, zv4, zv5, zv6, zv7, zv8, zv9, zv10, zv11, zv13, zv14, zv15, zv16, zv17, zv18, zv19, zw1, zw2, zr1, zr2, zr3, zr4, zr5, zr6, zr7, gt, sub_int, add_int, le_int, gt_int, ge_int, o_lt, o_eq, o_ne, o_mem, o_nmem, o_is, o_isn, o_not, o_len, o_all, o_any, o_sum, o_sort, o_ssort, o_lst, o_tup, o_ist, i_int, i_boolI, i_boolB, i_str, i_tup, i_lst, i_tupP, i_tupF, len_tup, len_lst, len_tupP, len_F, ix_tup, ix_lst, ix_tupP, ix_F0, ix_F1, not_bl, seq_tup, seq_lst, seq_tupP, lt_int, lst_lst, tpl_lst, tpl_tup, is_bb, isn_bb, bindD, setsD, List.length_cons, List.length_nil, List.map_cons, List.map_nil, List.replicate_succ, List.replicate_zero, List.append_nil, List.cons_append, List.nil_append, List.getElem?_cons_zero, List.getElem?_cons_succ, List.set_cons_zero, List.set_cons_succ, if_true, if_false, Nat.zero_add, Nat.sub_self, Nat.reduceAdd, Nat.reduceSub, Option.map_some, Option.map_none, Bool.not_true, Bool.not_false, Option.bind_some, nc0, nc1, nc2, nc3, nc4, Option.some.injEq, D.bl.injEq, D.int.injEq, reduceCtorEq, decide_true, decide_false, Int.reduceEq, Int.reduceNe, not_true_eq_false, not_false_eq_true, ne_eq, Int.reduceLE, Int.reduceLT, at0, at1, at2, eq_int, eq_bl, eq_sp, eq_pl, eq_fl, eq_tup, eq_pts, eq_lns, mem_pts, mem_lns, Bool.false_xor, Bool.true_xor, mod_int, fdiv_int, mul_int, Int.reduceNeg, Nat.reduceLT, Int.reduceAdd, Int.reduceMul, Int.reduceSub, and_self, or_true, true_or, reduceIte, beq_self_eq_true, Bool.and_self, Bool.true_and, Bool.and_true, Bool.false_and, Bool.and_false, Bool.or_true, Bool.true_or, Bool.or_false, Bool.false_or, List.length_map, hi, e, cel]
  · have e : ns.getD i.toNat 0 = 0 := by
      rw [List.getD_eq_getElem?_getD, List.getElem?_eq_none (by omega)]; rfl
    simp only [fn12, s_nil, s_asg, s_mov, s_par, s_ifs, s_ret, s_retn, s_ex, Ss.app, nx_nx, rt_rt, zv1, zv2, zv3, zv4, zv5, zv6, zv7, zv8, zv9, zv10, zv11, zv13, zv14, zv15, zv16, zv17, zv18, zv19, zw1, zw2, zr1, zr2, zr3, zr4, zr5, zr6, zr7, gt, sub_int, add_int, le_int, gt_int, ge_int, o_lt, o_eq, o_ne, o_mem, o_nmem, o_is, o_isn, o_not, o_len, o_all, o_any, o_sum, o_sort, o_ssort, o_lst, o_tup, o_ist, i_int, i_boolI, i_boolB, i_str, i_tup, i_lst, i_tupP, i_tupF, len_tup, len_lst, len_tupP, len_F, ix_tup, ix_lst, ix_tupP, ix_F0, ix_F1, not_bl, seq_tup, seq_lst, seq_tupP, lt_int, lst_lst, tpl_lst, tpl_tup, is_bb, isn_bb, bindD, setsD, List.length_cons, List.length_nil, List.map_cons, List.map_nil, List.replicate_succ, List.replicate_zero, List.append_nil, List.cons_append, List.nil_append, List.getElem?_cons_zero, List.getElem?_cons_succ, List.set_cons_zero, List.set_cons_succ, if_true, if_false, Nat.zero_add, Nat.sub_self, Nat.reduceAdd, Nat.reduceSub, Option.map_some, Option.map_none, Bool.not_true, Bool.not_false, Option.bind_some, nc0, nc1, nc2, nc3, nc4, Option.some.injEq, D.bl.injEq, D.int.injEq, reduceCtorEq, decide_true, decide_false, Int.reduceEq, Int.reduceNe, not_true_eq_false, not_false_eq_true, ne_eq, Int.reduceLE, Int.reduceLT, at0, at1, at2, eq_int, eq_bl, eq_sp, eq_pl, eq_fl, eq_tup, eq_pts, eq_lns, mem_pts, mem_lns, Bool.false_xor, Bool.true_xor, mod_int, fdiv_int, mul_int, Int.reduceNeg, Nat.reduceLT, Int.reduceAdd, Int.reduceMul, Int.reduceSub, and_self, or_true, true_or, reduceIte, beq_self_eq_true, Bool.and_self, Bool.true_and, Bool.and_true, Bool.false_and, Bool.and_false, Bool.or_true, Bool.true_or, Bool.or_false, Bool.false_or, List.length_map, hi, cel, e]
theorem q16 (h16 : T.fns[16]? = some fn16) {ns : List Int} {b : Int} (h : 0 ≤ b) : run T (m + 3) 16 [.lst (ns.map .int), .int b] = some (fldD (fldM (cel ns b)).1 (fldM (cel ns b)).2) := by
  refine run_r h16 rfl ?_
  have h6 := fmod_nn (val (cel ns b) 2) (b := 6) (by decide)
  have e : ixD (.tup [.int 2, .int 3, .int 5, .int 7, .int 11, .int 13]) (.int ((val (cel ns b) 2).fmod 6)) = some (.int (([2, 3, 5, 7, 11, 13] : List Int).getD ((val (cel ns b) 2).fmod 6).toNat 0)) := at_map (p := [2, 3, 5, 7, 11, 13]) h6.1 h6.2
  by_cases c0 : (val (cel ns b) 1).fmod 3 = 0
  · simp only [fn16, s_ifs, s_asg, s_par, s_ret, Ss.app, zv1, zv2, zv3, zw1, zw2, zv6, zv7, zv11, zv19, gt, List.map_cons, List.map_nil, List.replicate_succ, List.replicate_zero, Nat.reduceSub, List.cons_append, List.nil_append, List.set_cons_succ, List.set_cons_zero, List.getElem?_cons_zero, List.getElem?_cons_succ, q12 A h, q14 A (t := 1) (by decide) (by decide), q14 A (t := 2) (by decide) (by decide), mod_int (j := 3) (by decide), o_eq, eq_int, c0, decide_true, Option.map_some, mod_int (j := 4) (by decide), add_int, rt_rt, fldM, if_true]
    rfl
  · by_cases c1 : (val (cel ns b) 1).fmod 3 = 1
    · simp only [fn16, s_ifs, s_asg, s_par, s_ret, Ss.app, zv1, zv2, zv3, zw1, zw2, zv6, zv7, zv11, zv19, gt, List.map_cons, List.map_nil, List.replicate_succ, List.replicate_zero, Nat.reduceSub, List.cons_append, List.nil_append, List.set_cons_succ, List.set_cons_zero, List.getElem?_cons_zero, List.getElem?_cons_succ, q12 A h, q14 A (t := 1) (by decide) (by decide), q14 A (t := 2) (by decide) (by decide), mod_int (j := 3) (by decide), o_eq, eq_int, c1, decide_true, decide_false, Option.map_some, mod_int (j := 6) (by decide), e, Int.reduceEq, rt_rt, fldM, if_true, if_false]
      rfl
    · simp only [fn16, s_ifs, s_asg, s_par, s_ret, Ss.app, zv1, zv2, zv3, zw1, zw2, zv6, zv7, zv11, zv19, gt, List.map_cons, List.map_nil, List.replicate_succ, List.replicate_zero, Nat.reduceSub, List.cons_append, List.nil_append, List.set_cons_succ, List.set_cons_zero, List.getElem?_cons_zero, List.getElem?_cons_succ, q12 A h, q14 A (t := 1) (by decide) (by decide), q14 A (t := 2) (by decide) (by decide), mod_int (j := 3) (by decide), o_eq, eq_int, c0, c1, decide_true, decide_false, Option.map_some, mod_int (j := 12) (by decide), add_int, rt_rt, fldM, if_false]
      rfl
theorem q15 (h15 : T.fns[15]? = some fn15) {a b : Bool} : run T (m + 1) 15 [.bl a, .bl b] = some (.bl (a == b)) := by
  refine run_r h15 rfl ?_
  simp only [fn15, s_nil, s_asg, s_mov, s_par, s_ifs, s_ret, s_retn, s_ex, Ss.app, nx_nx, rt_rt, zv1, zv2, zv3, zv4, zv5, zv6, zv7, zv8, zv9, zv10, zv11, zv13, zv14, zv15, zv16, zv17, zv18, zv19, zw1, zw2, zr1, zr2, zr3, zr4, zr5, zr6, zr7, gt, sub_int, add_int, le_int, gt_int, ge_int, o_lt, o_eq, o_ne, o_mem, o_nmem, o_is, o_isn, o_not, o_len, o_all, o_any, o_sum, o_sort, o_ssort, o_lst, o_tup, o_ist, i_int, i_boolI, i_boolB, i_str, i_tup, i_lst, i_tupP, i_tupF, len_tup, len_lst, len_tupP, len_F, ix_tup, ix_lst, ix_tupP, ix_F0, ix_F1, not_bl, seq_tup, seq_lst, seq_tupP, lt_int, lst_lst, tpl_lst, tpl_tup, is_bb, isn_bb, bindD, setsD, List.length_cons, List.length_nil, List.map_cons, List.map_nil, List.replicate_succ, List.replicate_zero, List.append_nil, List.cons_append, List.nil_append, List.getElem?_cons_zero, List.getElem?_cons_succ, List.set_cons_zero, List.set_cons_succ, if_true, if_false, Nat.zero_add, Nat.sub_self, Nat.reduceAdd, Nat.reduceSub, Option.map_some, Option.map_none, Bool.not_true, Bool.not_false, Option.bind_some, nc0, nc1, nc2, nc3, nc4, Option.some.injEq, D.bl.injEq, D.int.injEq, reduceCtorEq, decide_true, decide_false, Int.reduceEq, Int.reduceNe, not_true_eq_false, not_false_eq_true, ne_eq, Int.reduceLE, Int.reduceLT, at0, at1, at2, eq_int, eq_bl, eq_sp, eq_pl, eq_fl, eq_tup, eq_pts, eq_lns, mem_pts, mem_lns, Bool.false_xor, Bool.true_xor, mod_int, fdiv_int, mul_int, Int.reduceNeg, Nat.reduceLT, Int.reduceAdd, Int.reduceMul, Int.reduceSub, and_self, or_true, true_or, reduceIte, beq_self_eq_true, Bool.and_self, Bool.true_and, Bool.and_true, Bool.false_and, Bool.and_false, Bool.or_true, Bool.true_or, Bool.or_false, Bool.false_or]
end
end Nt

set_option Elab.async false
set_option linter.all false
set_option maxRecDepth 100000
set_option maxHeartbeats 4000000
/-! The law's list of all points; all_points, in_line. -/
namespace Nt
open PySem PySem.Spec PyProof.Rows L2
theorem dig_cons (w : Nat) : ∀ (i x : Nat), dig w (i + 1) x = ((x / w ^ i % w : Nat) : Int) :: dig w i x
  | 0, x => by simp [dig]
  | i + 1, x => by
    rw [dig, dig_cons w i (x / w), Nat.div_div_eq_div_mul, ← Nat.pow_succ', dig]
    rfl
section
variable {T : Tb} (A : HA T) {m : Nat} {k : Kd} {n : Int}
include A
theorem q18 {w l : Nat} (hw : w ≤ 13) (hl : l ≤ 4) : run T (m + 1) 18 [.int w, .int l] = some (.int ((w ^ l : Nat) : Int)) := by
  refine run_r A.h18 rfl ?_
  simp only [fn18, s_nil, s_asg, s_mov, s_par, s_ifs, s_ret, s_retn, s_ex, Ss.app, nx_nx, rt_rt, zv1, zv2, zv3, zv4, zv5, zv6, zv7, zv8, zv9, zv10, zv11, zv13, zv14, zv15, zv16, zv17, zv18, zv19, zw1, zw2, zr1, zr2, zr3, zr4, zr5, zr6, zr7, gt, sub_int, add_int, le_int, gt_int, ge_int, o_lt, o_eq, o_ne, o_mem, o_nmem, o_is, o_isn, o_not, o_len, o_all, o_any, o_sum, o_sort, o_ssort, o_lst, o_tup, o_ist, i_int, i_boolI, i_boolB, i_str, i_tup, i_lst, i_tupP, i_tupF, len_tup, len_lst, len_tupP, len_F, ix_tup, ix_lst, ix_tupP, ix_F0, ix_F1, not_bl, seq_tup, seq_lst, seq_tupP, lt_int, lst_lst, tpl_lst, tpl_tup, is_bb, isn_bb, bindD, setsD, List.length_cons, List.length_nil, List.map_cons, List.map_nil, List.replicate_succ, List.replicate_zero, List.append_nil, List.cons_append, List.nil_append, List.getElem?_cons_zero, List.getElem?_cons_succ, List.set_cons_zero, List.set_cons_succ, if_true, if_false, Nat.zero_add, Nat.sub_self, Nat.reduceAdd, Nat.reduceSub, Option.map_some, Option.map_none, Bool.not_true, Bool.not_false, Option.bind_some, nc0, nc1, nc2, nc3, nc4, Option.some.injEq, D.bl.injEq, D.int.injEq, reduceCtorEq, decide_true, decide_false, Int.reduceEq, Int.reduceNe, not_true_eq_false, not_false_eq_true, ne_eq, Int.reduceLE, Int.reduceLT, at0, at1, at2, eq_int, eq_bl, eq_sp, eq_pl, eq_fl, eq_tup, eq_pts, eq_lns, mem_pts, mem_lns, Bool.false_xor, Bool.true_xor, mod_int, fdiv_int, mul_int, Int.reduceNeg, Nat.reduceLT, Int.reduceAdd, Int.reduceMul, Int.reduceSub, and_self, or_true, true_or, reduceIte, beq_self_eq_true, Bool.and_self, Bool.true_and, Bool.and_true, Bool.false_and, Bool.and_false, Bool.or_true, Bool.true_or, Bool.or_false, Bool.false_or]
  refine s_for (g := fun (i : Nat) => D.int (i : Int)) (xs := List.range l) (P := fun xs env => ∃ x3, xs.length ≤ l ∧ env = [some (.int (w : Int)), some (.int (l : Int)), some (.int ((w ^ (l - xs.length) : Nat) : Int)), x3]) ?_ ?_ ?_ ?_
  · simp only [s_nil, s_asg, s_mov, s_par, s_ifs, s_ret, s_retn, s_ex, Ss.app, nx_nx, rt_rt, zv1, zv2, zv3, zv4, zv5, zv6, zv7, zv8, zv9, zv10, zv11, zv13, zv14, zv15, zv16, zv17, zv18, zv19, zw1, zw2, zr1, zr2, zr3, zr4, zr5, zr6, zr7, gt, sub_int, add_int, le_int, gt_int, ge_int, o_lt, o_eq, o_ne, o_mem, o_nmem, o_is, o_isn, o_not, o_len, o_all, o_any, o_sum, o_sort, o_ssort, o_lst, o_tup, o_ist, i_int, i_boolI, i_boolB, i_str, i_tup, i_lst, i_tupP, i_tupF, len_tup, len_lst, len_tupP, len_F, ix_tup, ix_lst, ix_tupP, ix_F0, ix_F1, not_bl, seq_tup, seq_lst, seq_tupP, lt_int, lst_lst, tpl_lst, tpl_tup, is_bb, isn_bb, bindD, setsD, List.length_cons, List.length_nil, List.map_cons, List.map_nil, List.replicate_succ, List.replicate_zero, List.append_nil, List.cons_append, List.nil_append, List.getElem?_cons_zero, List.getElem?_cons_succ, List.set_cons_zero, List.set_cons_succ, if_true, if_false, Nat.zero_add, Nat.sub_self, Nat.reduceAdd, Nat.reduceSub, Option.map_some, Option.map_none, Bool.not_true, Bool.not_false, Option.bind_some, nc0, nc1, nc2, nc3, nc4, Option.some.injEq, D.bl.injEq, D.int.injEq, reduceCtorEq, decide_true, decide_false, Int.reduceEq, Int.reduceNe, not_true_eq_false, not_false_eq_true, ne_eq, Int.reduceLE, Int.reduceLT, at0, at1, at2, eq_int, eq_bl, eq_sp, eq_pl, eq_fl, eq_tup, eq_pts, eq_lns, mem_pts, mem_lns, Bool.false_xor, Bool.true_xor, mod_int, fdiv_int, mul_int, Int.reduceNeg, Nat.reduceLT, Int.reduceAdd, Int.reduceMul, Int.reduceSub, and_self, or_true, true_or, reduceIte, beq_self_eq_true, Bool.and_self, Bool.true_and, Bool.and_true, Bool.false_and, Bool.and_false, Bool.or_true, Bool.true_or, Bool.or_false, Bool.false_or, small_nat (n := (l : Int)) (by omega) (by omega), range_nat, Int.toNat_natCast]
  · exact ⟨none, by simp, by rw [List.length_range, Nat.sub_self]; rfl⟩
  · rintro x xs env ⟨x3, hle, rfl⟩
    rw [List.length_cons] at hle
    refine ⟨_, rfl, ?_⟩
    simp only [s_nil, s_asg, s_mov, s_par, s_ifs, s_ret, s_retn, s_ex, Ss.app, nx_nx, rt_rt, zv1, zv2, zv3, zv4, zv5, zv6, zv7, zv8, zv9, zv10, zv11, zv13, zv14, zv15, zv16, zv17, zv18, zv19, zw1, zw2, zr1, zr2, zr3, zr4, zr5, zr6, zr7, gt, sub_int, add_int, le_int, gt_int, ge_int, o_lt, o_eq, o_ne, o_mem, o_nmem, o_is, o_isn, o_not, o_len, o_all, o_any, o_sum, o_sort, o_ssort, o_lst, o_tup, o_ist, i_int, i_boolI, i_boolB, i_str, i_tup, i_lst, i_tupP, i_tupF, len_tup, len_lst, len_tupP, len_F, ix_tup, ix_lst, ix_tupP, ix_F0, ix_F1, not_bl, seq_tup, seq_lst, seq_tupP, lt_int, lst_lst, tpl_lst, tpl_tup, is_bb, isn_bb, bindD, setsD, List.length_cons, List.length_nil, List.map_cons, List.map_nil, List.replicate_succ, List.replicate_zero, List.append_nil, List.cons_append, List.nil_append, List.getElem?_cons_zero, List.getElem?_cons_succ, List.set_cons_zero, List.set_cons_succ, if_true, if_false, Nat.zero_add, Nat.sub_self, Nat.reduceAdd, Nat.reduceSub, Option.map_some, Option.map_none, Bool.not_true, Bool.not_false, Option.bind_some, nc0, nc1, nc2, nc3, nc4, Option.some.injEq, D.bl.injEq, D.int.injEq, reduceCtorEq, decide_true, decide_false, Int.reduceEq, Int.reduceNe, not_true_eq_false, not_false_eq_true, ne_eq, Int.reduceLE, Int.reduceLT, at0, at1, at2, eq_int, eq_bl, eq_sp, eq_pl, eq_fl, eq_tup, eq_pts, eq_lns, mem_pts, mem_lns, Bool.false_xor, Bool.true_xor, mod_int, fdiv_int, mul_int, Int.reduceNeg, Nat.reduceLT, Int.reduceAdd, Int.reduceMul, Int.reduceSub, and_self, or_true, true_or, reduceIte, beq_self_eq_true, Bool.and_self, Bool.true_and, Bool.and_true, Bool.false_and, Bool.and_false, Bool.or_true, Bool.true_or, Bool.or_false, Bool.false_or, mul_int (j := (w : Int)) (.inr ⟨by omega, by omega⟩)]
    refine ⟨some (.int x), by omega, ?_⟩
    rw [show l - xs.length = (l - (xs.length + 1)) + 1 by omega, Nat.pow_succ, Int.natCast_mul]
  · rintro env ⟨x3, _, rfl⟩
    simp only [s_nil, s_asg, s_mov, s_par, s_ifs, s_ret, s_retn, s_ex, Ss.app, nx_nx, rt_rt, zv1, zv2, zv3, zv4, zv5, zv6, zv7, zv8, zv9, zv10, zv11, zv13, zv14, zv15, zv16, zv17, zv18, zv19, zw1, zw2, zr1, zr2, zr3, zr4, zr5, zr6, zr7, gt, sub_int, add_int, le_int, gt_int, ge_int, o_lt, o_eq, o_ne, o_mem, o_nmem, o_is, o_isn, o_not, o_len, o_all, o_any, o_sum, o_sort, o_ssort, o_lst, o_tup, o_ist, i_int, i_boolI, i_boolB, i_str, i_tup, i_lst, i_tupP, i_tupF, len_tup, len_lst, len_tupP, len_F, ix_tup, ix_lst, ix_tupP, ix_F0, ix_F1, not_bl, seq_tup, seq_lst, seq_tupP, lt_int, lst_lst, tpl_lst, tpl_tup, is_bb, isn_bb, bindD, setsD, List.length_cons, List.length_nil, List.map_cons, List.map_nil, List.replicate_succ, List.replicate_zero, List.append_nil, List.cons_append, List.nil_append, List.getElem?_cons_zero, List.getElem?_cons_succ, List.set_cons_zero, List.set_cons_succ, if_true, if_false, Nat.zero_add, Nat.sub_self, Nat.reduceAdd, Nat.reduceSub, Option.map_some, Option.map_none, Bool.not_true, Bool.not_false, Option.bind_some, nc0, nc1, nc2, nc3, nc4, Option.some.injEq, D.bl.injEq, D.int.injEq, reduceCtorEq, decide_true, decide_false, Int.reduceEq, Int.reduceNe, not_true_eq_false, not_false_eq_true, ne_eq, Int.reduceLE, Int.reduceLT, at0, at1, at2, eq_int, eq_bl, eq_sp, eq_pl, eq_fl, eq_tup, eq_pts, eq_lns, mem_pts, mem_lns, Bool.false_xor, Bool.true_xor, mod_int, fdiv_int, mul_int, Int.reduceNeg, Nat.reduceLT, Int.reduceAdd, Int.reduceMul, Int.reduceSub, and_self, or_true, true_or, reduceIte, beq_self_eq_true, Bool.and_self, Bool.true_and, Bool.and_true, Bool.false_and, Bool.and_false, Bool.or_true, Bool.true_or, Bool.or_false, Bool.false_or, Nat.sub_zero]
theorem q17 (hf : okF k n) : run T (m + 2) 17 [fldD k n] = some (ptsD (every k n)) := by
  refine run_r A.h17 rfl ?_
  obtain ⟨w1, w2⟩ := wid_le hf
  obtain ⟨l1, l2⟩ := lng_le hf
  generalize hw : (wid k n).toNat = w
  generalize hl : (lng k n).toNat = l
  have hb := pow_le_28561 (w := w) (l := l) (by omega) (by omega)
  have hwi : wid k n = (w : Int) := by omega
  have hli : lng k n = (l : Int) := by omega
  have hwp : 0 < w := by omega
  simp only [fn17, List.map_cons, List.map_nil, List.replicate_succ, List.replicate_zero, Nat.reduceSub, List.cons_append, List.nil_append]
  rw [s_unp (ds := [.int (l : Int), .int (w : Int)]) (by
    rw [← hwi, ← hli]
    cases k <;> simp only [s_nil, s_asg, s_mov, s_par, s_ifs, s_ret, s_retn, s_ex, Ss.app, nx_nx, rt_rt, zv1, zv2, zv3, zv4, zv5, zv6, zv7, zv8, zv9, zv10, zv11, zv13, zv14, zv15, zv16, zv17, zv18, zv19, zw1, zw2, zr1, zr2, zr3, zr4, zr5, zr6, zr7, gt, sub_int, add_int, le_int, gt_int, ge_int, o_lt, o_eq, o_ne, o_mem, o_nmem, o_is, o_isn, o_not, o_len, o_all, o_any, o_sum, o_sort, o_ssort, o_lst, o_tup, o_ist, i_int, i_boolI, i_boolB, i_str, i_tup, i_lst, i_tupP, i_tupF, len_tup, len_lst, len_tupP, len_F, ix_tup, ix_lst, ix_tupP, ix_F0, ix_F1, not_bl, seq_tup, seq_lst, seq_tupP, lt_int, lst_lst, tpl_lst, tpl_tup, is_bb, isn_bb, bindD, setsD, List.length_cons, List.length_nil, List.map_cons, List.map_nil, List.replicate_succ, List.replicate_zero, List.append_nil, List.cons_append, List.nil_append, List.getElem?_cons_zero, List.getElem?_cons_succ, List.set_cons_zero, List.set_cons_succ, if_true, if_false, Nat.zero_add, Nat.sub_self, Nat.reduceAdd, Nat.reduceSub, Option.map_some, Option.map_none, Bool.not_true, Bool.not_false, Option.bind_some, nc0, nc1, nc2, nc3, nc4, Option.some.injEq, D.bl.injEq, D.int.injEq, reduceCtorEq, decide_true, decide_false, Int.reduceEq, Int.reduceNe, not_true_eq_false, not_false_eq_true, ne_eq, Int.reduceLE, Int.reduceLT, at0, at1, at2, eq_int, eq_bl, eq_sp, eq_pl, eq_fl, eq_tup, eq_pts, eq_lns, mem_pts, mem_lns, Bool.false_xor, Bool.true_xor, mod_int, fdiv_int, mul_int, Int.reduceNeg, Nat.reduceLT, Int.reduceAdd, Int.reduceMul, Int.reduceSub, and_self, or_true, true_or, reduceIte, beq_self_eq_true, Bool.and_self, Bool.true_and, Bool.and_true, Bool.false_and, Bool.and_false, Bool.or_true, Bool.true_or, Bool.or_false, Bool.false_or, lng, wid])]
  simp only [s_nil, s_asg, s_mov, s_par, s_ifs, s_ret, s_retn, s_ex, Ss.app, nx_nx, rt_rt, zv1, zv2, zv3, zv4, zv5, zv6, zv7, zv8, zv9, zv10, zv11, zv13, zv14, zv15, zv16, zv17, zv18, zv19, zw1, zw2, zr1, zr2, zr3, zr4, zr5, zr6, zr7, gt, sub_int, add_int, le_int, gt_int, ge_int, o_lt, o_eq, o_ne, o_mem, o_nmem, o_is, o_isn, o_not, o_len, o_all, o_any, o_sum, o_sort, o_ssort, o_lst, o_tup, o_ist, i_int, i_boolI, i_boolB, i_str, i_tup, i_lst, i_tupP, i_tupF, len_tup, len_lst, len_tupP, len_F, ix_tup, ix_lst, ix_tupP, ix_F0, ix_F1, not_bl, seq_tup, seq_lst, seq_tupP, lt_int, lst_lst, tpl_lst, tpl_tup, is_bb, isn_bb, bindD, setsD, List.length_cons, List.length_nil, List.map_cons, List.map_nil, List.replicate_succ, List.replicate_zero, List.append_nil, List.cons_append, List.nil_append, List.getElem?_cons_zero, List.getElem?_cons_succ, List.set_cons_zero, List.set_cons_succ, if_true, if_false, Nat.zero_add, Nat.sub_self, Nat.reduceAdd, Nat.reduceSub, Option.map_some, Option.map_none, Bool.not_true, Bool.not_false, Option.bind_some, nc0, nc1, nc2, nc3, nc4, Option.some.injEq, D.bl.injEq, D.int.injEq, reduceCtorEq, decide_true, decide_false, Int.reduceEq, Int.reduceNe, not_true_eq_false, not_false_eq_true, ne_eq, Int.reduceLE, Int.reduceLT, at0, at1, at2, eq_int, eq_bl, eq_sp, eq_pl, eq_fl, eq_tup, eq_pts, eq_lns, mem_pts, mem_lns, Bool.false_xor, Bool.true_xor, mod_int, fdiv_int, mul_int, Int.reduceNeg, Nat.reduceLT, Int.reduceAdd, Int.reduceMul, Int.reduceSub, and_self, or_true, true_or, reduceIte, beq_self_eq_true, Bool.and_self, Bool.true_and, Bool.and_true, Bool.false_and, Bool.and_false, Bool.or_true, Bool.true_or, Bool.or_false, Bool.false_or]
  refine s_for (g := fun (i : Nat) => D.int (i : Int)) (xs := List.range (w ^ l)) (P := fun xs env => ∃ zs x2 x5 x6, List.range (w ^ l) = zs ++ xs ∧ env = [some (fldD k n), some (ptsD (zs.map (dig w l))), x2, some (.int (l : Int)), some (.int (w : Int)), x5, x6]) ?_ ?_ ?_ ?_
  · simp only [s_nil, s_asg, s_mov, s_par, s_ifs, s_ret, s_retn, s_ex, Ss.app, nx_nx, rt_rt, zv1, zv2, zv3, zv4, zv5, zv6, zv7, zv8, zv9, zv10, zv11, zv13, zv14, zv15, zv16, zv17, zv18, zv19, zw1, zw2, zr1, zr2, zr3, zr4, zr5, zr6, zr7, gt, sub_int, add_int, le_int, gt_int, ge_int, o_lt, o_eq, o_ne, o_mem, o_nmem, o_is, o_isn, o_not, o_len, o_all, o_any, o_sum, o_sort, o_ssort, o_lst, o_tup, o_ist, i_int, i_boolI, i_boolB, i_str, i_tup, i_lst, i_tupP, i_tupF, len_tup, len_lst, len_tupP, len_F, ix_tup, ix_lst, ix_tupP, ix_F0, ix_F1, not_bl, seq_tup, seq_lst, seq_tupP, lt_int, lst_lst, tpl_lst, tpl_tup, is_bb, isn_bb, bindD, setsD, List.length_cons, List.length_nil, List.map_cons, List.map_nil, List.replicate_succ, List.replicate_zero, List.append_nil, List.cons_append, List.nil_append, List.getElem?_cons_zero, List.getElem?_cons_succ, List.set_cons_zero, List.set_cons_succ, if_true, if_false, Nat.zero_add, Nat.sub_self, Nat.reduceAdd, Nat.reduceSub, Option.map_some, Option.map_none, Bool.not_true, Bool.not_false, Option.bind_some, nc0, nc1, nc2, nc3, nc4, Option.some.injEq, D.bl.injEq, D.int.injEq, reduceCtorEq, decide_true, decide_false, Int.reduceEq, Int.reduceNe, not_true_eq_false, not_false_eq_true, ne_eq, Int.reduceLE, Int.reduceLT, at0, at1, at2, eq_int, eq_bl, eq_sp, eq_pl, eq_fl, eq_tup, eq_pts, eq_lns, mem_pts, mem_lns, Bool.false_xor, Bool.true_xor, mod_int, fdiv_int, mul_int, Int.reduceNeg, Nat.reduceLT, Int.reduceAdd, Int.reduceMul, Int.reduceSub, and_self, or_true, true_or, reduceIte, beq_self_eq_true, Bool.and_self, Bool.true_and, Bool.and_true, Bool.false_and, Bool.and_false, Bool.or_true, Bool.true_or, Bool.or_false, Bool.false_or, q18 A (w := w) (l := l) (by omega) (by omega), small_nat (n := ((w ^ l : Nat) : Int)) (by omega) (by omega), range_nat, Int.toNat_natCast]
  · exact ⟨[], none, none, none, rfl, rfl⟩
  · rintro x xs env ⟨zs, x2, x5, x6, e, rfl⟩
    refine ⟨_, rfl, ?_⟩
    have hx : x < w ^ l := List.mem_range.mp (by rw [e]; simp)
    have hzl : zs.length < w ^ l := by
      have := congrArg List.length e
      rw [List.length_range, List.length_append, List.length_cons] at this
      omega
    simp only [s_nil, s_asg, s_mov, s_par, s_ifs, s_ret, s_retn, s_ex, Ss.app, nx_nx, rt_rt, zv1, zv2, zv3, zv4, zv5, zv6, zv7, zv8, zv9, zv10, zv11, zv13, zv14, zv15, zv16, zv17, zv18, zv19, zw1, zw2, zr1, zr2, zr3, zr4, zr5, zr6, zr7, gt, sub_int, add_int, le_int, gt_int, ge_int, o_lt, o_eq, o_ne, o_mem, o_nmem, o_is, o_isn, o_not, o_len, o_all, o_any, o_sum, o_sort, o_ssort, o_lst, o_tup, o_ist, i_int, i_boolI, i_boolB, i_str, i_tup, i_lst, i_tupP, i_tupF, len_tup, len_lst, len_tupP, len_F, ix_tup, ix_lst, ix_tupP, ix_F0, ix_F1, not_bl, seq_tup, seq_lst, seq_tupP, lt_int, lst_lst, tpl_lst, tpl_tup, is_bb, isn_bb, bindD, setsD, List.length_cons, List.length_nil, List.map_cons, List.map_nil, List.replicate_succ, List.replicate_zero, List.append_nil, List.cons_append, List.nil_append, List.getElem?_cons_zero, List.getElem?_cons_succ, List.set_cons_zero, List.set_cons_succ, if_true, if_false, Nat.zero_add, Nat.sub_self, Nat.reduceAdd, Nat.reduceSub, Option.map_some, Option.map_none, Bool.not_true, Bool.not_false, Option.bind_some, nc0, nc1, nc2, nc3, nc4, Option.some.injEq, D.bl.injEq, D.int.injEq, reduceCtorEq, decide_true, decide_false, Int.reduceEq, Int.reduceNe, not_true_eq_false, not_false_eq_true, ne_eq, Int.reduceLE, Int.reduceLT, at0, at1, at2, eq_int, eq_bl, eq_sp, eq_pl, eq_fl, eq_tup, eq_pts, eq_lns, mem_pts, mem_lns, Bool.false_xor, Bool.true_xor, mod_int, fdiv_int, mul_int, Int.reduceNeg, Nat.reduceLT, Int.reduceAdd, Int.reduceMul, Int.reduceSub, and_self, or_true, true_or, reduceIte, beq_self_eq_true, Bool.and_self, Bool.true_and, Bool.and_true, Bool.false_and, Bool.and_false, Bool.or_true, Bool.true_or, Bool.or_false, Bool.false_or]
    refine s_for (g := fun (i : Nat) => D.int (i : Int)) (xs := List.range l) (P := fun ys env => ∃ x6, ys.length ≤ l ∧ env = [some (fldD k n), some (ptsD (zs.map (dig w l))), some (.int ((x / w ^ (l - ys.length) : Nat) : Int)), some (.int (l : Int)), some (.int (w : Int)), some (.lst ((dig w (l - ys.length) x).map .int)), x6]) ?_ ?_ ?_ ?_
    · simp only [s_nil, s_asg, s_mov, s_par, s_ifs, s_ret, s_retn, s_ex, Ss.app, nx_nx, rt_rt, zv1, zv2, zv3, zv4, zv5, zv6, zv7, zv8, zv9, zv10, zv11, zv13, zv14, zv15, zv16, zv17, zv18, zv19, zw1, zw2, zr1, zr2, zr3, zr4, zr5, zr6, zr7, gt, sub_int, add_int, le_int, gt_int, ge_int, o_lt, o_eq, o_ne, o_mem, o_nmem, o_is, o_isn, o_not, o_len, o_all, o_any, o_sum, o_sort, o_ssort, o_lst, o_tup, o_ist, i_int, i_boolI, i_boolB, i_str, i_tup, i_lst, i_tupP, i_tupF, len_tup, len_lst, len_tupP, len_F, ix_tup, ix_lst, ix_tupP, ix_F0, ix_F1, not_bl, seq_tup, seq_lst, seq_tupP, lt_int, lst_lst, tpl_lst, tpl_tup, is_bb, isn_bb, bindD, setsD, List.length_cons, List.length_nil, List.map_cons, List.map_nil, List.replicate_succ, List.replicate_zero, List.append_nil, List.cons_append, List.nil_append, List.getElem?_cons_zero, List.getElem?_cons_succ, List.set_cons_zero, List.set_cons_succ, if_true, if_false, Nat.zero_add, Nat.sub_self, Nat.reduceAdd, Nat.reduceSub, Option.map_some, Option.map_none, Bool.not_true, Bool.not_false, Option.bind_some, nc0, nc1, nc2, nc3, nc4, Option.some.injEq, D.bl.injEq, D.int.injEq, reduceCtorEq, decide_true, decide_false, Int.reduceEq, Int.reduceNe, not_true_eq_false, not_false_eq_true, ne_eq, Int.reduceLE, Int.reduceLT, at0, at1, at2, eq_int, eq_bl, eq_sp, eq_pl, eq_fl, eq_tup, eq_pts, eq_lns, mem_pts, mem_lns, Bool.false_xor, Bool.true_xor, mod_int, fdiv_int, mul_int, Int.reduceNeg, Nat.reduceLT, Int.reduceAdd, Int.reduceMul, Int.reduceSub, and_self, or_true, true_or, reduceIte, beq_self_eq_true, Bool.and_self, Bool.true_and, Bool.and_true, Bool.false_and, Bool.and_false, Bool.or_true, Bool.true_or, Bool.or_false, Bool.false_or, small_nat (n := (l : Int)) (by omega) (by omega), range_nat, Int.toNat_natCast]
    · exact ⟨x6, by simp, by rw [List.length_range, Nat.sub_self, Nat.pow_zero, Nat.div_one]; rfl⟩
    · rintro y ys env ⟨x6, hle, rfl⟩
      rw [List.length_cons] at hle
      refine ⟨_, rfl, ?_⟩
      have hdl : ∀ i x, (dig w i x).length = i := by
        intro i
        induction i with
        | zero => intro x; rfl
        | succ i ih => intro x; rw [dig, List.length_append, ih]; rfl
      simp only [s_nil, s_asg, s_mov, s_par, s_ifs, s_ret, s_retn, s_ex, Ss.app, nx_nx, rt_rt, zv1, zv2, zv3, zv4, zv5, zv6, zv7, zv8, zv9, zv10, zv11, zv13, zv14, zv15, zv16, zv17, zv18, zv19, zw1, zw2, zr1, zr2, zr3, zr4, zr5, zr6, zr7, gt, sub_int, add_int, le_int, gt_int, ge_int, o_lt, o_eq, o_ne, o_mem, o_nmem, o_is, o_isn, o_not, o_len, o_all, o_any, o_sum, o_sort, o_ssort, o_lst, o_tup, o_ist, i_int, i_boolI, i_boolB, i_str, i_tup, i_lst, i_tupP, i_tupF, len_tup, len_lst, len_tupP, len_F, ix_tup, ix_lst, ix_tupP, ix_F0, ix_F1, not_bl, seq_tup, seq_lst, seq_tupP, lt_int, lst_lst, tpl_lst, tpl_tup, is_bb, isn_bb, bindD, setsD, List.length_cons, List.length_nil, List.map_cons, List.map_nil, List.replicate_succ, List.replicate_zero, List.append_nil, List.cons_append, List.nil_append, List.getElem?_cons_zero, List.getElem?_cons_succ, List.set_cons_zero, List.set_cons_succ, if_true, if_false, Nat.zero_add, Nat.sub_self, Nat.reduceAdd, Nat.reduceSub, Option.map_some, Option.map_none, Bool.not_true, Bool.not_false, Option.bind_some, nc0, nc1, nc2, nc3, nc4, Option.some.injEq, D.bl.injEq, D.int.injEq, reduceCtorEq, decide_true, decide_false, Int.reduceEq, Int.reduceNe, not_true_eq_false, not_false_eq_true, ne_eq, Int.reduceLE, Int.reduceLT, at0, at1, at2, eq_int, eq_bl, eq_sp, eq_pl, eq_fl, eq_tup, eq_pts, eq_lns, mem_pts, mem_lns, Bool.false_xor, Bool.true_xor, mod_int, fdiv_int, mul_int, Int.reduceNeg, Nat.reduceLT, Int.reduceAdd, Int.reduceMul, Int.reduceSub, and_self, or_true, true_or, reduceIte, beq_self_eq_true, Bool.and_self, Bool.true_and, Bool.and_true, Bool.false_and, Bool.and_false, Bool.or_true, Bool.true_or, Bool.or_false, Bool.false_or, mod_int (j := (w : Int)) (by omega), fdiv_int (j := (w : Int)) (by omega) (by omega)]
      rw [add_lst _ _ (by rw [List.length_map, hdl]; simp [LIM]; omega)]
      simp only [s_nil, s_asg, s_mov, s_par, s_ifs, s_ret, s_retn, s_ex, Ss.app, nx_nx, rt_rt, zv1, zv2, zv3, zv4, zv5, zv6, zv7, zv8, zv9, zv10, zv11, zv13, zv14, zv15, zv16, zv17, zv18, zv19, zw1, zw2, zr1, zr2, zr3, zr4, zr5, zr6, zr7, gt, sub_int, add_int, le_int, gt_int, ge_int, o_lt, o_eq, o_ne, o_mem, o_nmem, o_is, o_isn, o_not, o_len, o_all, o_any, o_sum, o_sort, o_ssort, o_lst, o_tup, o_ist, i_int, i_boolI, i_boolB, i_str, i_tup, i_lst, i_tupP, i_tupF, len_tup, len_lst, len_tupP, len_F, ix_tup, ix_lst, ix_tupP, ix_F0, ix_F1, not_bl, seq_tup, seq_lst, seq_tupP, lt_int, lst_lst, tpl_lst, tpl_tup, is_bb, isn_bb, bindD, setsD, List.length_cons, List.length_nil, List.map_cons, List.map_nil, List.replicate_succ, List.replicate_zero, List.append_nil, List.cons_append, List.nil_append, List.getElem?_cons_zero, List.getElem?_cons_succ, List.set_cons_zero, List.set_cons_succ, if_true, if_false, Nat.zero_add, Nat.sub_self, Nat.reduceAdd, Nat.reduceSub, Option.map_some, Option.map_none, Bool.not_true, Bool.not_false, Option.bind_some, nc0, nc1, nc2, nc3, nc4, Option.some.injEq, D.bl.injEq, D.int.injEq, reduceCtorEq, decide_true, decide_false, Int.reduceEq, Int.reduceNe, not_true_eq_false, not_false_eq_true, ne_eq, Int.reduceLE, Int.reduceLT, at0, at1, at2, eq_int, eq_bl, eq_sp, eq_pl, eq_fl, eq_tup, eq_pts, eq_lns, mem_pts, mem_lns, Bool.false_xor, Bool.true_xor, mod_int, fdiv_int, mul_int, Int.reduceNeg, Nat.reduceLT, Int.reduceAdd, Int.reduceMul, Int.reduceSub, and_self, or_true, true_or, reduceIte, beq_self_eq_true, Bool.and_self, Bool.true_and, Bool.and_true, Bool.false_and, Bool.and_false, Bool.or_true, Bool.true_or, Bool.or_false, Bool.false_or]
      refine ⟨some (.int y), by omega, ?_⟩
      rw [show l - ys.length = (l - (ys.length + 1)) + 1 by omega, dig_cons, Int.fmod_eq_emod_of_nonneg _ (by omega), Int.fdiv_eq_ediv_of_nonneg _ (by omega), Nat.pow_succ, ← Nat.div_div_eq_div_mul, Int.natCast_ediv, Int.natCast_emod]
      rfl
    · rintro env ⟨x6, _, rfl⟩
      rw [s_app (xs := (zs.map (dig w l)).map tupD) (d := tupD (dig w l x)) rfl (by simp only [s_nil, s_asg, s_mov, s_par, s_ifs, s_ret, s_retn, s_ex, Ss.app, nx_nx, rt_rt, zv1, zv2, zv3, zv4, zv5, zv6, zv7, zv8, zv9, zv10, zv11, zv13, zv14, zv15, zv16, zv17, zv18, zv19, zw1, zw2, zr1, zr2, zr3, zr4, zr5, zr6, zr7, gt, sub_int, add_int, le_int, gt_int, ge_int, o_lt, o_eq, o_ne, o_mem, o_nmem, o_is, o_isn, o_not, o_len, o_all, o_any, o_sum, o_sort, o_ssort, o_lst, o_tup, o_ist, i_int, i_boolI, i_boolB, i_str, i_tup, i_lst, i_tupP, i_tupF, len_tup, len_lst, len_tupP, len_F, ix_tup, ix_lst, ix_tupP, ix_F0, ix_F1, not_bl, seq_tup, seq_lst, seq_tupP, lt_int, lst_lst, tpl_lst, tpl_tup, is_bb, isn_bb, bindD, setsD, List.length_cons, List.length_nil, List.map_cons, List.map_nil, List.replicate_succ, List.replicate_zero, List.append_nil, List.cons_append, List.nil_append, List.getElem?_cons_zero, List.getElem?_cons_succ, List.set_cons_zero, List.set_cons_succ, if_true, if_false, Nat.zero_add, Nat.sub_self, Nat.reduceAdd, Nat.reduceSub, Option.map_some, Option.map_none, Bool.not_true, Bool.not_false, Option.bind_some, nc0, nc1, nc2, nc3, nc4, Option.some.injEq, D.bl.injEq, D.int.injEq, reduceCtorEq, decide_true, decide_false, Int.reduceEq, Int.reduceNe, not_true_eq_false, not_false_eq_true, ne_eq, Int.reduceLE, Int.reduceLT, at0, at1, at2, eq_int, eq_bl, eq_sp, eq_pl, eq_fl, eq_tup, eq_pts, eq_lns, mem_pts, mem_lns, Bool.false_xor, Bool.true_xor, mod_int, fdiv_int, mul_int, Int.reduceNeg, Nat.reduceLT, Int.reduceAdd, Int.reduceMul, Int.reduceSub, and_self, or_true, true_or, reduceIte, beq_self_eq_true, Bool.and_self, Bool.true_and, Bool.and_true, Bool.false_and, Bool.and_false, Bool.or_true, Bool.true_or, Bool.or_false, Bool.false_or, Nat.sub_zero]; rfl) (by rw [List.length_map, List.length_map]; unfold LIM; omega)]
      simp only [s_nil, s_asg, s_mov, s_par, s_ifs, s_ret, s_retn, s_ex, Ss.app, nx_nx, rt_rt, zv1, zv2, zv3, zv4, zv5, zv6, zv7, zv8, zv9, zv10, zv11, zv13, zv14, zv15, zv16, zv17, zv18, zv19, zw1, zw2, zr1, zr2, zr3, zr4, zr5, zr6, zr7, gt, sub_int, add_int, le_int, gt_int, ge_int, o_lt, o_eq, o_ne, o_mem, o_nmem, o_is, o_isn, o_not, o_len, o_all, o_any, o_sum, o_sort, o_ssort, o_lst, o_tup, o_ist, i_int, i_boolI, i_boolB, i_str, i_tup, i_lst, i_tupP, i_tupF, len_tup, len_lst, len_tupP, len_F, ix_tup, ix_lst, ix_tupP, ix_F0, ix_F1, not_bl, seq_tup, seq_lst, seq_tupP, lt_int, lst_lst, tpl_lst, tpl_tup, is_bb, isn_bb, bindD, setsD, List.length_cons, List.length_nil, List.map_cons, List.map_nil, List.replicate_succ, List.replicate_zero, List.append_nil, List.cons_append, List.nil_append, List.getElem?_cons_zero, List.getElem?_cons_succ, List.set_cons_zero, List.set_cons_succ, if_true, if_false, Nat.zero_add, Nat.sub_self, Nat.reduceAdd, Nat.reduceSub, Option.map_some, Option.map_none, Bool.not_true, Bool.not_false, Option.bind_some, nc0, nc1, nc2, nc3, nc4, Option.some.injEq, D.bl.injEq, D.int.injEq, reduceCtorEq, decide_true, decide_false, Int.reduceEq, Int.reduceNe, not_true_eq_false, not_false_eq_true, ne_eq, Int.reduceLE, Int.reduceLT, at0, at1, at2, eq_int, eq_bl, eq_sp, eq_pl, eq_fl, eq_tup, eq_pts, eq_lns, mem_pts, mem_lns, Bool.false_xor, Bool.true_xor, mod_int, fdiv_int, mul_int, Int.reduceNeg, Nat.reduceLT, Int.reduceAdd, Int.reduceMul, Int.reduceSub, and_self, or_true, true_or, reduceIte, beq_self_eq_true, Bool.and_self, Bool.true_and, Bool.and_true, Bool.false_and, Bool.and_false, Bool.or_true, Bool.true_or, Bool.or_false, Bool.false_or]
      exact ⟨zs ++ [x], _, _, _, by rw [e]; simp, by rw [List.map_append, List.map_cons, List.map_nil, ptsD, List.map_append]; rfl⟩
  · rintro env ⟨zs, x2, x5, x6, e, rfl⟩
    rw [List.append_nil] at e
    subst e
    simp only [s_nil, s_asg, s_mov, s_par, s_ifs, s_ret, s_retn, s_ex, Ss.app, nx_nx, rt_rt, zv1, zv2, zv3, zv4, zv5, zv6, zv7, zv8, zv9, zv10, zv11, zv13, zv14, zv15, zv16, zv17, zv18, zv19, zw1, zw2, zr1, zr2, zr3, zr4, zr5, zr6, zr7, gt, sub_int, add_int, le_int, gt_int, ge_int, o_lt, o_eq, o_ne, o_mem, o_nmem, o_is, o_isn, o_not, o_len, o_all, o_any, o_sum, o_sort, o_ssort, o_lst, o_tup, o_ist, i_int, i_boolI, i_boolB, i_str, i_tup, i_lst, i_tupP, i_tupF, len_tup, len_lst, len_tupP, len_F, ix_tup, ix_lst, ix_tupP, ix_F0, ix_F1, not_bl, seq_tup, seq_lst, seq_tupP, lt_int, lst_lst, tpl_lst, tpl_tup, is_bb, isn_bb, bindD, setsD, List.length_cons, List.length_nil, List.map_cons, List.map_nil, List.replicate_succ, List.replicate_zero, List.append_nil, List.cons_append, List.nil_append, List.getElem?_cons_zero, List.getElem?_cons_succ, List.set_cons_zero, List.set_cons_succ, if_true, if_false, Nat.zero_add, Nat.sub_self, Nat.reduceAdd, Nat.reduceSub, Option.map_some, Option.map_none, Bool.not_true, Bool.not_false, Option.bind_some, nc0, nc1, nc2, nc3, nc4, Option.some.injEq, D.bl.injEq, D.int.injEq, reduceCtorEq, decide_true, decide_false, Int.reduceEq, Int.reduceNe, not_true_eq_false, not_false_eq_true, ne_eq, Int.reduceLE, Int.reduceLT, at0, at1, at2, eq_int, eq_bl, eq_sp, eq_pl, eq_fl, eq_tup, eq_pts, eq_lns, mem_pts, mem_lns, Bool.false_xor, Bool.true_xor, mod_int, fdiv_int, mul_int, Int.reduceNeg, Nat.reduceLT, Int.reduceAdd, Int.reduceMul, Int.reduceSub, and_self, or_true, true_or, reduceIte, beq_self_eq_true, Bool.and_self, Bool.true_and, Bool.and_true, Bool.false_and, Bool.and_false, Bool.or_true, Bool.true_or, Bool.or_false, Bool.false_or]
    show ptsD _ = _
    rw [dig_all, ← hw, ← hl]
    rfl
end
section
variable {T : Tb} (A : HA T) (B : HB T) {m : Nat} {k : Kd} {n : Int}
include A B
theorem q6 (h6 : T.fns[6]? = some fn6) (hf : okF k n) : run T (m + 4) 6 [fldD k n] = some (ptsD (every k n)) := by
  refine run_r h6 rfl ?_
  simp only [fn6, s_nil, s_asg, s_mov, s_par, s_ifs, s_ret, s_retn, s_ex, Ss.app, nx_nx, rt_rt, zv1, zv2, zv3, zv4, zv5, zv6, zv7, zv8, zv9, zv10, zv11, zv13, zv14, zv15, zv16, zv17, zv18, zv19, zw1, zw2, zr1, zr2, zr3, zr4, zr5, zr6, zr7, gt, sub_int, add_int, le_int, gt_int, ge_int, o_lt, o_eq, o_ne, o_mem, o_nmem, o_is, o_isn, o_not, o_len, o_all, o_any, o_sum, o_sort, o_ssort, o_lst, o_tup, o_ist, i_int, i_boolI, i_boolB, i_str, i_tup, i_lst, i_tupP, i_tupF, len_tup, len_lst, len_tupP, len_F, ix_tup, ix_lst, ix_tupP, ix_F0, ix_F1, not_bl, seq_tup, seq_lst, seq_tupP, lt_int, lst_lst, tpl_lst, tpl_tup, is_bb, isn_bb, bindD, setsD, List.length_cons, List.length_nil, List.map_cons, List.map_nil, List.replicate_succ, List.replicate_zero, List.append_nil, List.cons_append, List.nil_append, List.getElem?_cons_zero, List.getElem?_cons_succ, List.set_cons_zero, List.set_cons_succ, if_true, if_false, Nat.zero_add, Nat.sub_self, Nat.reduceAdd, Nat.reduceSub, Option.map_some, Option.map_none, Bool.not_true, Bool.not_false, Option.bind_some, nc0, nc1, nc2, nc3, nc4, Option.some.injEq, D.bl.injEq, D.int.injEq, reduceCtorEq, decide_true, decide_false, Int.reduceEq, Int.reduceNe, not_true_eq_false, not_false_eq_true, ne_eq, Int.reduceLE, Int.reduceLT, at0, at1, at2, eq_int, eq_bl, eq_sp, eq_pl, eq_fl, eq_tup, eq_pts, eq_lns, mem_pts, mem_lns, Bool.false_xor, Bool.true_xor, mod_int, fdiv_int, mul_int, Int.reduceNeg, Nat.reduceLT, Int.reduceAdd, Int.reduceMul, Int.reduceSub, and_self, or_true, true_or, reduceIte, beq_self_eq_true, Bool.and_self, Bool.true_and, Bool.and_true, Bool.false_and, Bool.and_false, Bool.or_true, Bool.true_or, Bool.or_false, Bool.false_or, q2 A B hf, q5 A hf]
theorem q11 (h11 : T.fns[11]? = some fn11) (hf : okF k n) {p q r : Pt} (h : areP k n [p, q, r] = true) (h1 : isPt k n p) (h2 : isPt k n q) (h3 : isPt k n r) : run T (m + 5) 11 [fldD k n, ptsD [p, q, r]] = some (.bl (lin k n p q r)) := by
  refine run_r h11 rfl ?_
  have a1 := isPt_len hf h1
  have a2 := isPt_len hf h2
  have a3 := isPt_len hf h3
  have e9 := q9 A B (m := m) [p, q, r] (by simp [LIM]) (by unfold LIM; intro z hz; rcases List.mem_cons.mp hz with rfl | hz; omega; rcases List.mem_cons.mp hz with rfl | hz; omega; rcases List.mem_cons.mp hz with rfl | hz; omega; cases hz) h
  simp only [List.map_cons, List.map_nil, ptsD] at e9 ⊢
  simp only [fn11, s_nil, s_asg, s_mov, s_par, s_ifs, s_ret, s_retn, s_ex, Ss.app, nx_nx, rt_rt, zv1, zv2, zv3, zv4, zv5, zv6, zv7, zv8, zv9, zv10, zv11, zv13, zv14, zv15, zv16, zv17, zv18, zv19, zw1, zw2, zr1, zr2, zr3, zr4, zr5, zr6, zr7, gt, sub_int, add_int, le_int, gt_int, ge_int, o_lt, o_eq, o_ne, o_mem, o_nmem, o_is, o_isn, o_not, o_len, o_all, o_any, o_sum, o_sort, o_ssort, o_lst, o_tup, o_ist, i_int, i_boolI, i_boolB, i_str, i_tup, i_lst, i_tupP, i_tupF, len_tup, len_lst, len_tupP, len_F, ix_tup, ix_lst, ix_tupP, ix_F0, ix_F1, not_bl, seq_tup, seq_lst, seq_tupP, lt_int, lst_lst, tpl_lst, tpl_tup, is_bb, isn_bb, bindD, setsD, List.length_cons, List.length_nil, List.map_cons, List.map_nil, List.replicate_succ, List.replicate_zero, List.append_nil, List.cons_append, List.nil_append, List.getElem?_cons_zero, List.getElem?_cons_succ, List.set_cons_zero, List.set_cons_succ, if_true, if_false, Nat.zero_add, Nat.sub_self, Nat.reduceAdd, Nat.reduceSub, Option.map_some, Option.map_none, Bool.not_true, Bool.not_false, Option.bind_some, nc0, nc1, nc2, nc3, nc4, Option.some.injEq, D.bl.injEq, D.int.injEq, reduceCtorEq, decide_true, decide_false, Int.reduceEq, Int.reduceNe, not_true_eq_false, not_false_eq_true, ne_eq, Int.reduceLE, Int.reduceLT, at0, at1, at2, eq_int, eq_bl, eq_sp, eq_pl, eq_fl, eq_tup, eq_pts, eq_lns, mem_pts, mem_lns, Bool.false_xor, Bool.true_xor, mod_int, fdiv_int, mul_int, Int.reduceNeg, Nat.reduceLT, Int.reduceAdd, Int.reduceMul, Int.reduceSub, and_self, or_true, true_or, reduceIte, beq_self_eq_true, Bool.and_self, Bool.true_and, Bool.and_true, Bool.false_and, Bool.and_false, Bool.or_true, Bool.true_or, Bool.or_false, Bool.false_or, q2 A B hf, e9, q10 A hf h1 h2 h3]
end
end Nt

set_option Elab.async false
set_option linter.all false
set_option maxRecDepth 100000
set_option maxHeartbeats 4000000
/-! Sorted sets of points. -/
namespace Nt
open PySem PySem.Spec PyProof.Rows L2
instance (k : Kd) (n : Int) : Decidable (okF k n) := match k with
  | .sp => inferInstanceAs (Decidable (1 ≤ n ∧ n ≤ 4))
  | .pl => inferInstanceAs (Decidable (n ∈ ([2, 3, 5, 7, 11, 13] : List Int)))
  | .fl => inferInstanceAs (Decidable (1 ≤ n ∧ n ≤ 12))
theorem even_pts {d : Nat} {qs : List Pt} (hd : 1 ≤ d) (h : ∀ q ∈ qs, q.length = d ∧ ∀ i ∈ q, 0 ≤ i ∧ i < 1000) : evenL qs = true := by
  cases qs with
  | nil => rfl
  | cons x xs =>
    have hx := h x (List.mem_cons_self ..)
    unfold evenL
    rw [Bool.and_eq_true]
    refine ⟨?_, List.all_eq_true.mpr fun y hy => ?_⟩
    · cases x with
      | nil => simp at hx; omega
      | cons => rfl
    · have hy := h y hy
      rw [Bool.and_eq_true]
      refine ⟨by rw [hy.1, hx.1]; simp, List.all_eq_true.mpr fun i hi => ?_⟩
      have := hy.2 i hi
      rw [Bool.and_eq_true, decide_eq_true_eq, decide_eq_true_eq]
      exact this
theorem ssort_pts {d : Nat} {qs : List Pt} (hd : 1 ≤ d) (h : ∀ q ∈ qs, q.length = d ∧ ∀ i ∈ q, 0 ≤ i ∧ i < 1000) (hl : qs.length < 64) : ssrtD (ptsD qs) = some (ptsD (sortU qs)) := by
  show sortD sortU (qs.map tupD) = _
  unfold sortD
  rw [tups_map]
  show (if (evenL qs && decide (qs.length < 64)) = true then some (D.lst ((sortU qs).map tupD)) else none) = _
  rw [even_pts hd h, decide_eq_true hl]
  rfl
theorem asc_cons (x y : Pt) (ys : List Pt) : asc (x :: y :: ys) = (HT.lexLt x y && asc (y :: ys)) := rfl
theorem asc_of : ∀ {ps : List Pt}, (ps.Pairwise fun a b => HT.lexLt a b = true) → asc ps = true
  | [], _ => rfl
  | [_], _ => rfl
  | x :: y :: ys, h => by
    have h2 := List.pairwise_cons.mp h
    rw [asc_cons, h2.1 y (List.mem_cons_self ..), asc_of h2.2]
    rfl
theorem asc_sortU {d : Nat} {qs : List Pt} (hd : 1 ≤ d) (h : ∀ q ∈ qs, q.length = d ∧ ∀ i ∈ q, 0 ≤ i ∧ i < 1000) : asc (sortU qs) = true := by
  have hm : ∀ z ∈ sortU qs, z.length = d ∧ TS.Bd 1000 z := fun z hz => h z ((sortU_mem z qs).mp hz)
  refine asc_of ((sortU_sorted (d := d) qs h).imp_of_mem fun {a b} ha hb q => ?_)
  rw [lex_code ((hm a ha).1.trans (hm b hb).1.symm) (hm a ha).2 (hm b hb).2]
  exact decide_eq_true q
theorem every_pt {k : Kd} {n : Int} {p : Pt} (hf : okF k n) (h : p ∈ every k n) : isPt k n p ∧ p.length = (lng k n).toNat ∧ ∀ i ∈ p, 0 ≤ i ∧ i < 1000 := by
  obtain ⟨h1, h2⟩ := mem_all h
  have w := wid_le hf
  have l := lng_le hf
  refine ⟨⟨by omega, fun i hi => ?_⟩, h1, fun i hi => ?_⟩
  · have := h2 i hi
    omega
  · have := h2 i hi
    omega
theorem every_len {k : Kd} {n : Int} (hf : okF k n) : (every k n).length ≤ 28561 ∧ 1 ≤ (every k n).length := by
  have w := wid_le hf
  unfold every
  rw [all_len]
  exact ⟨every_small hf, Nat.pow_pos (by omega)⟩
theorem at_pts {qs : List Pt} {i : Int} (h0 : 0 ≤ i) (h : i < qs.length) : atI (qs.map tupD) i = some (tupD (qs.getD i.toNat [])) ∧ qs.getD i.toNat [] ∈ qs := by
  have e : i = (i.toNat : Int) := by omega
  have hl : i.toNat < qs.length := by omega
  refine ⟨?_, ?_⟩
  · rw [e, at_nat _ _ (by rw [List.length_map]; omega), List.getElem?_map, List.getElem?_eq_getElem hl, List.getD_eq_getElem?_getD, Int.toNat_natCast, List.getElem?_eq_getElem hl]
    rfl
  · rw [List.getD_eq_getElem?_getD, List.getElem?_eq_getElem hl]
    exact List.getElem_mem hl
end Nt

set_option Elab.async false
set_option linter.all false
set_option maxRecDepth 100000
set_option maxHeartbeats 4000000
/-! Loops as searches and folds; all threes in a line. -/
namespace Nt
open PySem PySem.Spec PyProof.Rows L2
/-- ended by a value, or through with P -/
def Fd (P : Env → Prop) (o : Option D) (r : Option Fl) : Prop := match o with
  | some d => r = some (.rt d)
  | none => Nx P r
section
variable {T : Tb} {cl : Nat → List D → Option D} {env : Env} {ss b : Ss}
theorem Fd.imp {P P' : Env → Prop} (h : ∀ env, P env → P' env) {o : Option D} {r : Option Fl} (q : Fd P o r) : Fd P' o r := by
  cases o with
  | some d => exact q
  | none =>
    obtain ⟨env, e, p⟩ := q
    exact ⟨env, e, h env p⟩
theorem Nx.imp {P P' : Env → Prop} (h : ∀ env, P env → P' env) {r : Option Fl} (q : Nx P r) : Nx P' r := by
  obtain ⟨env, e, p⟩ := q
  exact ⟨env, e, h env p⟩
theorem fd_rt {P : Env → Prop} {d e : D} (h : e = d) : Fd P (some d) (some (.rt e)) := by rw [h]; rfl
theorem fd_nx {P : Env → Prop} {env : Env} (h : P env) : Fd P none (some (.nx env)) := ⟨env, rfl, h⟩
theorem loop_find {bb : D → Env → Option Env} {body : Env → Option Fl} {α : Type} {g : α → D} (P : Env → Prop) (f : α → Option D) : ∀ (xs : List α) (env : Env), P env → (∀ x ∈ xs, ∀ env, P env → ∃ env1, bb (g x) env = some env1 ∧ Fd P (f x) (body env1)) → Fd P (xs.findSome? f) (loopD bb body (xs.map g) env)
  | [], env, h, _ => ⟨env, rfl, h⟩
  | x :: xs, env, h, hs => by
    obtain ⟨env1, e1, e2⟩ := hs x (List.mem_cons_self ..) env h
    rw [List.map_cons, loopD, e1, List.findSome?_cons]
    show Fd P _ (match body env1 with | some (.nx env2) => loopD bb body (xs.map g) env2 | r => r)
    cases hf : f x with
    | some d =>
      rw [hf] at e2
      rw [show body env1 = some (.rt d) from e2]
      rfl
    | none =>
      rw [hf] at e2
      obtain ⟨env2, e3, e4⟩ := e2
      rw [e3]
      exact loop_find P f xs env2 e4 fun y m => hs y (List.mem_cons_of_mem _ m)
theorem s_find {t : Tg} {s : Sr} {R : Option Fl → Prop} {α : Type} (g : α → D) (xs : List α) (P : Env → Prop) (f : α → Option D) (hs : evr T cl s env = some (xs.map g)) (h0 : P env) (hstep : ∀ x ∈ xs, ∀ env, P env → ∃ env1, bindD t (g x) env = some env1 ∧ Fd P (f x) (exs T cl b env1))
    (hk1 : ∀ d, xs.findSome? f = some d → R (some (.rt d))) (hk2 : xs.findSome? f = none → ∀ env, P env → R (exs T cl ss env)) : R (exs T cl (.cons (.for t s b) ss) env) := by
  rw [exs.eq_2, ex.eq_11, hs]
  show R (match loopD (bindD t) (fun env => exs T cl b env) (xs.map g) env with | some (.nx env2) => exs T cl ss env2 | r => r)
  have h := loop_find P f xs env h0 hstep
  cases hf : xs.findSome? f with
  | some d =>
    rw [hf] at h
    rw [show loopD (bindD t) (fun env => exs T cl b env) (xs.map g) env = some (.rt d) from h]
    exact hk1 d hf
  | none =>
    rw [hf] at h
    obtain ⟨env2, e3, e4⟩ := h
    rw [e3]
    exact hk2 hf env2 e4
/-- the last statement is a search -/
theorem s_findE {t : Tg} {s : Sr} {α : Type} (g : α → D) (xs : List α) (P : Env → Prop) (f : α → Option D) (hs : evr T cl s env = some (xs.map g)) (h0 : P env) (hstep : ∀ x ∈ xs, ∀ env, P env → ∃ env1, bindD t (g x) env = some env1 ∧ Fd P (f x) (exs T cl b env1)) : Fd P (xs.findSome? f) (exs T cl (.cons (.for t s b) .nil) env) := by
  refine s_find (R := Fd P (xs.findSome? f)) g xs P f hs h0 hstep (fun d e => by rw [e]; rfl) fun e env p => ?_
  rw [e, s_nil]
  exact ⟨env, rfl, p⟩
/-- a loop that carries a value -/
theorem s_fold {t : Tg} {s : Sr} {R : Option Fl → Prop} {α σ : Type} (g : α → D) (xs : List α) (P : σ → Env → Prop) (f : σ → α → σ) (a : σ) (hs : evr T cl s env = some (xs.map g)) (h0 : P a env) (hstep : ∀ a, ∀ x ∈ xs, ∀ env, P a env → ∃ env1, bindD t (g x) env = some env1 ∧ Nx (P (f a x)) (exs T cl b env1)) (hk : ∀ env, P (xs.foldl f a) env → R (exs T cl ss env)) : R (exs T cl (.cons (.for t s b) ss) env) := by
  refine s_for g xs (fun ys env => ∃ a', P a' env ∧ ys.foldl f a' = xs.foldl f a ∧ ∀ y ∈ ys, y ∈ xs) hs ⟨a, h0, rfl, fun _ m => m⟩ ?_ ?_
  · rintro x ys env ⟨a', p, e, m⟩
    obtain ⟨env1, e1, env2, e2, e3⟩ := hstep a' x (m x (List.mem_cons_self ..)) env p
    exact ⟨env1, e1, env2, e2, _, e3, e, fun y my => m y (List.mem_cons_of_mem _ my)⟩
  · rintro env ⟨a', p, e, _⟩
    have e : a' = _ := e
    subst e
    exact hk env p
/-- the same, with what stands ahead -/
theorem s_foldP {t : Tg} {s : Sr} {R : Option Fl → Prop} {α σ : Type} (g : α → D) (xs : List α) (P : σ → Env → Prop) (f : σ → α → σ) (a : σ) (hs : evr T cl s env = some (xs.map g)) (h0 : P a env) (hstep : ∀ pre x post, xs = pre ++ x :: post → ∀ env, P (pre.foldl f a) env → ∃ env1, bindD t (g x) env = some env1 ∧ Nx (P (f (pre.foldl f a) x)) (exs T cl b env1)) (hk : ∀ env, P (xs.foldl f a) env → R (exs T cl ss env)) : R (exs T cl (.cons (.for t s b) ss) env) := by
  refine s_for g xs (fun ys env => ∃ pre, xs = pre ++ ys ∧ P (pre.foldl f a) env) hs ⟨[], rfl, h0⟩ ?_ ?_
  · rintro x ys env ⟨pre, e, p⟩
    obtain ⟨env1, e1, env2, e2, e3⟩ := hstep pre x ys e env p
    exact ⟨env1, e1, env2, e2, pre ++ [x], by rw [e]; simp, by rw [List.foldl_append]; exact e3⟩
  · rintro env ⟨pre, e, p⟩
    rw [List.append_nil] at e
    subst e
    exact hk env p
theorem foldl_app {α β : Type} (f : α → List β) : ∀ (xs : List α) (a : List β), xs.foldl (fun a x => a ++ f x) a = a ++ xs.flatMap f
  | [], a => by simp
  | x :: xs, a => by rw [List.foldl_cons, foldl_app f xs, List.flatMap_cons, List.append_assoc]
/-- a loop that makes a list longer -/
theorem s_acc {t : Tg} {s : Sr} {R : Option Fl → Prop} {α β : Type} (g : α → D) (xs : List α) (P : List β → Env → Prop) (f : α → List β) (a : List β) (hs : evr T cl s env = some (xs.map g)) (h0 : P a env) (hstep : ∀ a, ∀ x ∈ xs, ∀ env, P a env → ∃ env1, bindD t (g x) env = some env1 ∧ Nx (P (a ++ f x)) (exs T cl b env1)) (hk : ∀ env, P (a ++ xs.flatMap f) env → R (exs T cl ss env)) : R (exs T cl (.cons (.for t s b) ss) env) :=
  s_fold g xs P (fun a x => a ++ f x) a hs h0 hstep fun env p => hk env (by rwa [foldl_app] at p)
/-- the same as the last statement -/
theorem s_accE {t : Tg} {s : Sr} {α β : Type} (g : α → D) (xs : List α) (P : List β → Env → Prop) (f : α → List β) (a : List β) (hs : evr T cl s env = some (xs.map g)) (h0 : P a env) (hstep : ∀ a, ∀ x ∈ xs, ∀ env, P a env → ∃ env1, bindD t (g x) env = some env1 ∧ Nx (P (a ++ f x)) (exs T cl b env1)) : Nx (P (a ++ xs.flatMap f)) (exs T cl (.cons (.for t s b) .nil) env) :=
  s_acc (R := Nx (P (a ++ xs.flatMap f))) g xs P f a hs h0 hstep fun env p => by rw [s_nil]; exact ⟨env, rfl, p⟩
/-- the same, with what stands ahead -/
theorem s_accP {t : Tg} {s : Sr} {R : Option Fl → Prop} {α β : Type} (g : α → D) (xs : List α) (P : List β → Env → Prop) (f : α → List β) (a : List β) (hs : evr T cl s env = some (xs.map g)) (h0 : P a env) (hstep : ∀ pre x post, xs = pre ++ x :: post → ∀ env, P (a ++ pre.flatMap f) env → ∃ env1, bindD t (g x) env = some env1 ∧ Nx (P (a ++ pre.flatMap f ++ f x)) (exs T cl b env1)) (hk : ∀ env, P (a ++ xs.flatMap f) env → R (exs T cl ss env)) : R (exs T cl (.cons (.for t s b) ss) env) := by
  refine s_for g xs (fun ys env => ∃ pre, xs = pre ++ ys ∧ P (a ++ pre.flatMap f) env) hs ⟨[], rfl, by simpa using h0⟩ ?_ ?_
  · rintro x ys env ⟨pre, e, p⟩
    obtain ⟨env1, e1, env2, e2, e3⟩ := hstep pre x ys e env p
    refine ⟨env1, e1, env2, e2, pre ++ [x], by rw [e]; simp, ?_⟩
    rw [List.flatMap_append, List.flatMap_cons, List.flatMap_nil, List.append_nil, ← List.append_assoc]
    exact e3
  · rintro env ⟨pre, e, p⟩
    rw [List.append_nil] at e
    subst e
    exact hk env p
theorem s_accPE {t : Tg} {s : Sr} {α β : Type} (g : α → D) (xs : List α) (P : List β → Env → Prop) (f : α → List β) (a : List β) (hs : evr T cl s env = some (xs.map g)) (h0 : P a env) (hstep : ∀ pre x post, xs = pre ++ x :: post → ∀ env, P (a ++ pre.flatMap f) env → ∃ env1, bindD t (g x) env = some env1 ∧ Nx (P (a ++ pre.flatMap f ++ f x)) (exs T cl b env1)) : Nx (P (a ++ xs.flatMap f)) (exs T cl (.cons (.for t s b) .nil) env) :=
  s_accP (R := Nx (P (a ++ xs.flatMap f))) g xs P f a hs h0 hstep fun env p => by rw [s_nil]; exact ⟨env, rfl, p⟩
/-- a loop that changes nothing that is asked -/
theorem s_skip {t : Tg} {s : Sr} {R : Option Fl → Prop} {α : Type} (g : α → D) (xs : List α) (P : Env → Prop) (hs : evr T cl s env = some (xs.map g)) (h0 : P env) (hstep : ∀ x ∈ xs, ∀ env, P env → ∃ env1, bindD t (g x) env = some env1 ∧ Nx P (exs T cl b env1)) (hk : ∀ env, P env → R (exs T cl ss env)) : R (exs T cl (.cons (.for t s b) ss) env) :=
  s_fold (σ := Unit) g xs (fun _ env => P env) (fun _ _ => ()) () hs h0 (fun _ => hstep) hk
theorem s_skipE {t : Tg} {s : Sr} {α : Type} (g : α → D) (xs : List α) (P : Env → Prop) (hs : evr T cl s env = some (xs.map g)) (h0 : P env) (hstep : ∀ x ∈ xs, ∀ env, P env → ∃ env1, bindD t (g x) env = some env1 ∧ Nx P (exs T cl b env1)) : Nx P (exs T cl (.cons (.for t s b) .nil) env) :=
  s_skip (R := Nx P) g xs P hs h0 hstep fun env p => by rw [s_nil]; exact ⟨env, rfl, p⟩
end
/-! ### index and rest -/
def enP {α : Type} : Nat → List α → List (Nat × α)
  | _, [] => []
  | i, p :: ps => (i, p) :: enP (i + 1) ps
def ipD (z : Nat × Pt) : D := .tup [.int (z.1 : Int), tupD z.2]
theorem enum_map {α : Type} (g : α → D) : ∀ (ps : List α) (i : Nat), enumD i (ps.map g) = (enP i ps).map fun z => .tup [.int (z.1 : Int), g z.2]
  | [], _ => rfl
  | p :: ps, i => by rw [List.map_cons, enumD, enum_map g ps, enP, List.map_cons]
theorem enum_pts (ps : List Pt) : enumD 0 (ps.map tupD) = (enP 0 ps).map ipD := enum_map tupD ps 0
theorem mem_enP {α : Type} {d : α} : ∀ {ps : List α} {i : Nat} {z : Nat × α}, z ∈ enP i ps → i ≤ z.1 ∧ z.1 < i + ps.length ∧ z.2 = ps.getD (z.1 - i) d ∧ z.2 ∈ ps
  | p :: ps, i, z, h => by
    rcases List.mem_cons.mp h with rfl | h
    · refine ⟨Nat.le_refl _, by simp, by simp, List.mem_cons_self ..⟩
    · obtain ⟨h1, h2, h3, h4⟩ := mem_enP (d := d) h
      refine ⟨by omega, by rw [List.length_cons]; omega, ?_, List.mem_cons_of_mem _ h4⟩
      rw [h3, show z.1 - i = (z.1 - (i + 1)) + 1 by omega, List.getD_cons_succ]
  | [], _, _, h => by cases h
def tfl {α β : Type} (F : α → List α → List β) : List α → List β
  | [] => []
  | x :: xs => F x xs ++ tfl F xs
theorem idx_fl {α β : Type} (d : α) (F : α → List α → List β) (ps : List α) : ∀ (m a : Nat), a + m = ps.length → (List.range' a m).flatMap (fun s => F (ps.getD s d) (ps.drop (s + 1))) = tfl F (ps.drop a)
  | 0, a, h => by
    rw [List.drop_of_length_le (by omega)]
    rfl
  | m + 1, a, h => by
    have hl : a < ps.length := by omega
    rw [List.range'_succ, List.flatMap_cons, idx_fl d F ps m (a + 1) (by omega), List.drop_eq_getElem_cons hl, tfl, List.getD_eq_getElem?_getD, List.getElem?_eq_getElem hl]
    rfl
theorem en_fl {α β : Type} (F : α → List α → List β) (ps : List α) : ∀ (xs : List α) (i : Nat), ps.drop i = xs → (enP i xs).flatMap (fun z => F z.2 (ps.drop (z.1 + 1))) = tfl F xs
  | [], _, _ => rfl
  | x :: xs, i, h => by
    have h2 : ps.drop (i + 1) = xs := by rw [← List.drop_drop, h]; rfl
    rw [enP, List.flatMap_cons, en_fl F ps xs (i + 1) h2, tfl]
    show F x (ps.drop (i + 1)) ++ _ = _
    rw [h2]
theorem en_fl0 {α β : Type} (F : α → List α → List β) (ps : List α) : (enP 0 ps).flatMap (fun z => F z.2 (ps.drop (z.1 + 1))) = tfl F ps := en_fl F ps ps 0 rfl
theorem mem_tfl {α β : Type} {F : α → List α → List β} {y : β} : ∀ {xs : List α}, y ∈ tfl F xs ↔ ∃ a x b, xs = a ++ x :: b ∧ y ∈ F x b
  | [] => by
    constructor
    · intro h; cases h
    · rintro ⟨a, x, b, h, _⟩
      cases a <;> cases h
  | x :: xs => by
    rw [tfl, List.mem_append, mem_tfl (xs := xs)]
    constructor
    · rintro (h | ⟨a, z, b, rfl, h⟩)
      · exact ⟨[], x, xs, rfl, h⟩
      · exact ⟨x :: a, z, b, rfl, h⟩
    · rintro ⟨a, z, b, e, h⟩
      cases a with
      | nil =>
        cases e
        exact .inl h
      | cons w a =>
        cases e
        exact .inr ⟨a, z, b, rfl, h⟩
theorem range_up {i j : Nat} (h : i ≤ j) : rangeD (i : Int) (j : Int) = (List.range' i (j - i)).map fun (s : Nat) => D.int (s : Int) := by
  unfold rangeD
  rw [show ((j : Int) - (i : Int)).toNat = j - i by omega, List.range'_eq_map_range, List.map_map]
  exact List.map_congr_left fun x _ => congrArg D.int (by show (i : Int) + (x : Int) = ((i + x : Nat) : Int); omega)
theorem small_up2 {i j : Nat} (h : i ≤ LIM) (h2 : j ≤ LIM) : (smallI (i : Int) && smallI (j : Int)) = true := by
  unfold LIM at h h2
  rw [small_nat (by omega) (by omega), small_nat (by omega) (by omega)]
  rfl
theorem find_if {α : Type} (c : α → Bool) (h : α → D) : ∀ xs : List α, (xs.findSome? fun x => if c x then some (h x) else none) = ((xs.filter c).map h).head?
  | [] => rfl
  | x :: xs => by
    rw [List.findSome?_cons, List.filter_cons]
    cases hc : c x with
    | true => rw [if_pos rfl, if_pos rfl]; rfl
    | false => rw [if_neg (by decide), if_neg (by decide)]; exact find_if c h xs
theorem find_head {α β : Type} (G : α → List β) (xs : List α) : (xs.findSome? fun x => (G x).head?) = (xs.flatMap G).head? := (List.head?_flatMap ..).symm
/-! ### all threes in a line -/
section
variable (k : Kd) (n : Int)
def thr2 (p : Pt) : List Pt → List (List Pt) := tfl fun q r2 => (r2.filter (lin k n p q)).map fun r => [p, q, r]
def thr (ps : List Pt) : List (List Pt) := tfl (thr2 k n) ps
/-- the same by places -/
def thrI (ps : List Pt) (z : Nat × Pt) : List (List Pt) := (List.range' (z.1 + 1) (ps.length - (z.1 + 1))).flatMap fun s => ((ps.drop (s + 1)).filter (lin k n z.2 (ps.getD s []))).map fun r => [z.2, ps.getD s [], r]
theorem thrI_eq (ps : List Pt) {z : Nat × Pt} (h : z.1 < ps.length) : thrI k n ps z = thr2 k n z.2 (ps.drop (z.1 + 1)) :=
  idx_fl [] (fun q r2 => (r2.filter (lin k n z.2 q)).map fun r => [z.2, q, r]) ps _ _ (by omega)
theorem thr_places (ps : List Pt) : (enP 0 ps).flatMap (thrI k n ps) = thr k n ps := by
  unfold thr
  rw [← en_fl0]
  refine flatMap_cg fun z m => thrI_eq k n ps ?_
  have := (mem_enP (d := []) m).2.1
  omega
end
theorem tfl_len {α β : Type} {F : α → List α → List β} {c N : Nat} (h : ∀ x b, b.length ≤ N → (F x b).length ≤ c) : ∀ xs : List α, xs.length ≤ N + 1 → (tfl F xs).length ≤ xs.length * c
  | [], _ => by simp [tfl]
  | x :: xs, hl => by
    rw [List.length_cons] at hl
    have := tfl_len h xs (by omega)
    have := h x xs (by omega)
    rw [tfl, List.length_append, List.length_cons, Nat.succ_mul]
    omega
theorem thr_len (k : Kd) (n : Int) (ps : List Pt) : (thr k n ps).length ≤ ps.length * (ps.length * ps.length) := by
  refine tfl_len (N := ps.length) (fun x b hb => ?_) ps (by omega)
  have := tfl_len (F := fun q r2 => (r2.filter (lin k n x q)).map fun r => [x, q, r]) (c := ps.length) (N := ps.length) (fun q r2 h2 => by
    rw [List.length_map]
    have := List.length_filter_le (lin k n x q) r2
    omega) b (by omega)
  exact Nat.le_trans this (Nat.mul_le_mul_right _ hb)
section
variable {k : Kd} {n : Int}
theorem mem_thr {ps : List Pt} {l : List Pt} : l ∈ thr k n ps ↔ ∃ p q r, l = [p, q, r] ∧ [p, q, r].Sublist ps ∧ lin k n p q r = true := by
  unfold thr thr2
  constructor
  · intro h
    obtain ⟨a, p, b, e1, h⟩ := mem_tfl.mp h
    obtain ⟨a2, q, b2, e2, h⟩ := mem_tfl.mp h
    obtain ⟨r, h3, e3⟩ := List.mem_map.mp h
    obtain ⟨h1, h2⟩ := List.mem_filter.mp h3
    refine ⟨p, q, r, e3.symm, ?_, h2⟩
    rw [e1]
    refine List.Sublist.trans (List.Sublist.cons_cons p ?_) (List.sublist_append_right a _)
    rw [e2]
    exact List.Sublist.trans (List.Sublist.cons_cons q (List.singleton_sublist.mpr h1)) (List.sublist_append_right a2 _)
  · rintro ⟨p, q, r, rfl, hs, hl⟩
    have split : ∀ {x : Pt} {xs ps : List Pt}, (x :: xs).Sublist ps → ∃ a b, ps = a ++ x :: b ∧ xs.Sublist b := by
      intro x xs ps
      induction ps with
      | nil => intro h; cases h
      | cons y ps ih =>
        intro h
        cases h with
        | cons _ h =>
          obtain ⟨a, b, e, h⟩ := ih h
          exact ⟨y :: a, b, by rw [e]; rfl, h⟩
        | cons_cons _ h => exact ⟨[], ps, rfl, h⟩
    obtain ⟨a, b, rfl, h1⟩ := split hs
    obtain ⟨a2, b2, rfl, h2⟩ := split h1
    exact mem_tfl.mpr ⟨a, p, _, rfl, mem_tfl.mpr ⟨a2, q, b2, rfl, List.mem_map.mpr ⟨r, List.mem_filter.mpr ⟨List.singleton_sublist.mp h2, hl⟩, rfl⟩⟩⟩
end
/-- what first_line says -/
def linO (l : List (List Pt)) : D := match l.head? with
  | some t => ptsD t
  | none => .non
/-! ### indices, slices, classes -/
theorem ix_pts {ps : List Pt} {s : Nat} (h : s < ps.length) : atI (ps.map tupD) (s : Int) = some (tupD (ps.getD s [])) := (at_pts (qs := ps) (i := (s : Int)) (by omega) (by omega)).1
theorem sl_drop (ps : List Pt) (s : Nat) : slD (some ((s : Int) + 1)) none (.lst (ps.map tupD)) = some (.lst ((ps.drop (s + 1)).map tupD)) := by
  show some (D.lst (cutD (ps.map tupD) (some ((s : Int) + 1)) none)) = _
  rw [show (s : Int) + 1 = ((s + 1 : Nat) : Int) from rfl, cut_drop, List.map_drop]
theorem sl_take (ps : List Pt) (s : Nat) : slD none (some (s : Int)) (.lst (ps.map tupD)) = some (.lst ((ps.take s).map tupD)) := by
  show some (D.lst (cutD (ps.map tupD) none (some (s : Int)))) = _
  rw [cut_take, List.map_take]
theorem eq_lns_nil (ls : List (List Pt)) : eqD (.lst (ls.map ptsD)) (.lst []) = some (decide (ls = [])) := eq_lns ls []
theorem eq_pts_nil (ls : List Pt) : eqD (.lst (ls.map tupD)) (.lst []) = some (decide (ls = [])) := eq_pts ls []
theorem eq_b2 (a b c d : Bool) : eqD (.lst [.bl a, .bl b]) (.lst [.bl c, .bl d]) = some ((a == c) && (b == d)) := by cases a <;> cases b <;> cases c <;> cases d <;> rfl
theorem lns_snoc (l : List (List Pt)) (t : List Pt) : D.lst (l.map ptsD ++ [ptsD t]) = lnsD (l ++ [t]) := by simp
theorem pts_snoc (l : List Pt) (t : Pt) : D.lst (l.map tupD ++ [tupD t]) = ptsD (l ++ [t]) := by simp
theorem find_any {α : Type} (c : α → Bool) (d : D) : ∀ xs : List α, (xs.findSome? fun x => if c x then some d else none) = if xs.any c then some d else none
  | [] => rfl
  | x :: xs => by
    rw [List.findSome?_cons, List.any_cons]
    cases hc : c x with
    | true => rfl
    | false =>
      rw [if_neg (by decide), Bool.false_or]
      exact find_any c d xs
theorem any_mapf {α : Type} (f : α → Bool) (xs : List α) : anyD (.lst (xs.map fun x => D.bl (f x))) = some (.bl (xs.any f)) := by
  have e : blsOf (xs.map fun x => D.bl (f x)) = some (xs.map f) := by
    have := bls_map (xs.map f)
    rwa [List.map_map] at this
  unfold anyD
  show (blsOf (xs.map fun x => D.bl (f x))).map _ = _
  rw [e]
  show some (D.bl ((xs.map f).any id)) = _
  rw [List.any_map]
  rfl
section
variable {T : Tb} {cl : Nat → List D → Option D} {env : Env} {c : Nat} {e : E} {f : Str}
theorem mk0 (h : T.cf c = some []) (h2 : 2 ≤ T.lv) : ev T cl (.mk c .nil) env = some (.ins c []) := by
  rw [ev.eq_12, zw1]
  show (match T.cf c with | some cf => if 2 ≤ T.lv ∧ ([] : List D).length = cf.length ∧ (([] : List D).zip cf).all (fun (p : D × Bool) => if p.2 then (seqD p.1).isSome else notL p.1) then some (D.ins c ((([] : List D).zip cf).map fun (p : D × Bool) => if p.2 then .lst ((seqD p.1).getD []) else p.1)) else none | none => none) = _
  rw [h]
  exact if_pos ⟨h2, rfl, rfl⟩
theorem mk1t (h : T.cf c = some [true]) (h2 : 2 ≤ T.lv) : ev T cl (.mk c (.cons e .nil)) env = (match ev T cl e env with | some x => (match seqD x with | some xs => some (.ins c [.lst xs]) | none => none) | none => none) := by
  rw [ev.eq_12, zw2, zw1]
  cases he : ev T cl e env with
  | none => rfl
  | some x =>
    show (match T.cf c with | some cf => if 2 ≤ T.lv ∧ [x].length = cf.length ∧ ([x].zip cf).all (fun (p : D × Bool) => if p.2 then (seqD p.1).isSome else notL p.1) then some (D.ins c (([x].zip cf).map fun (p : D × Bool) => if p.2 then .lst ((seqD p.1).getD []) else p.1)) else none | none => none) = _
    rw [h]
    cases hs : seqD x with
    | none =>
      show (if 2 ≤ T.lv ∧ [x].length = [true].length ∧ ([x].zip [true]).all (fun (p : D × Bool) => if p.2 then (seqD p.1).isSome else notL p.1) then some (D.ins c (([x].zip [true]).map fun (p : D × Bool) => if p.2 then .lst ((seqD p.1).getD []) else p.1)) else none) = (match seqD x with | some xs => some (.ins c [.lst xs]) | none => none)
      rw [hs]
      refine if_neg ?_
      rintro ⟨_, _, z⟩
      simp [hs] at z
    | some xs =>
      show (if _ then _ else _) = _
      rw [if_pos ⟨h2, rfl, by simp [hs]⟩]
      simp [hs]
theorem mk1f (h : T.cf c = some [false]) (h2 : 2 ≤ T.lv) : ev T cl (.mk c (.cons e .nil)) env = (match ev T cl e env with | some x => if notL x then some (.ins c [x]) else none | none => none) := by
  rw [ev.eq_12, zw2, zw1]
  cases he : ev T cl e env with
  | none => rfl
  | some x =>
    show (match T.cf c with | some cf => if 2 ≤ T.lv ∧ [x].length = cf.length ∧ ([x].zip cf).all (fun (p : D × Bool) => if p.2 then (seqD p.1).isSome else notL p.1) then some (D.ins c (([x].zip cf).map fun (p : D × Bool) => if p.2 then .lst ((seqD p.1).getD []) else p.1)) else none | none => none) = _
    rw [h]
    cases hs : notL x with
    | false =>
      refine (if_neg fun z => by simp [hs] at z).trans ?_
      show none = (if notL x then _ else _)
      rw [hs]
      rfl
    | true =>
      refine (if_pos ⟨h2, rfl, by simp [hs]⟩).trans ?_
      show _ = (if notL x then _ else _)
      rw [hs]
      simp
theorem s_fapp {i : Nat} {ss : Ss} {xs : List D} {d : D} (h : gt env i = some (.ins c [.lst xs])) (hd : ev T cl e env = some d) (hc : T.cn c = [f]) (hl : xs.length < LIM) : exs T cl (.cons (.fapp i f e) ss) env = exs T cl ss (env.set i (some (.ins c [.lst (xs ++ [d])]))) := by
  rw [exs.eq_2, ex.eq_9, h]
  show (match (match ev T cl e env with | some d => if T.cn c = [f] ∧ xs.length < LIM then some (Fl.nx (env.set i (some (.ins c [.lst (xs ++ [d])])))) else none | none => none) with | some (.nx env2) => exs T cl ss env2 | r => r) = _
  rw [hd]
  show (match (if T.cn c = [f] ∧ xs.length < LIM then some (Fl.nx (env.set i (some (.ins c [.lst (xs ++ [d])])))) else none) with | some (.nx env2) => exs T cl ss env2 | r => r) = _
  rw [if_pos ⟨hc, hl⟩]
end
theorem fld1 {cn : Nat → List Str} {c : Nat} {f : Str} {d : D} (h : cn c = [f]) : ((cn c).zip [d]).lookup f = some d := by
  rw [h]
  simp [List.lookup]
theorem i_cls {sub : Nat → Nat → Option Bool} {c c' : Nat} {ds : List D} : isT sub (.cls c) (.ins c' ds) = sub c' c := rfl
theorem is_non : isD false .non .non = some (.bl true) := rfl
theorem isn_non : isD true .non .non = some (.bl false) := rfl
theorem is_lst {xs : List D} : isD false (.lst xs) .non = some (.bl false) := rfl
theorem isn_lst {xs : List D} : isD true (.lst xs) .non = some (.bl true) := rfl
theorem is_tup {xs : List D} : isD false (.tup xs) .non = some (.bl false) := rfl
theorem isn_tup {xs : List D} : isD true (.tup xs) .non = some (.bl true) := rfl
/-- a class: how its fields are kept, their names, its shows -/
structure CF (T : Tb) (c : Nat) (cf : List Bool) (cn : List Str) (sh : Nat) : Prop where
  cf : T.cf c = some cf
  cn : T.cn c = cn
  sh : T.sh c = some sh
abbrev C1 (T : Tb) := CF T 1 [] [] 25
abbrev C2 (T : Tb) := CF T 2 [true] [("points" : Str)] 26
abbrev C3 (T : Tb) := CF T 3 [] [] 27
abbrev C4 (T : Tb) := CF T 4 [false] [("point" : Str)] 28
abbrev C5 (T : Tb) := CF T 5 [true] [("points" : Str)] 29
abbrev C6 (T : Tb) := CF T 6 [false] [("tree" : Str)] 30
section
variable {T : Tb} (A : HA T) {m : Nat} {k : Kd} {n : Int}
include A
/-- whether a point lies in a line with two of some -/
def linW (k : Kd) (n : Int) (ps : List Pt) (p : Pt) : Bool := (enP 0 ps).any fun z => (ps.take z.1).any fun t => lin k n z.2 t p
theorem q21 (h21 : T.fns[21]? = some fn21) (hf : okF k n) (ps : List Pt) (p : Pt) (hl : ps.length ≤ 100000) (hp : ∀ p ∈ ps, isPt k n p) (hq : isPt k n p) : run T (m + 2) 21 [fldD k n, ptsD ps, tupD p] = some (.bl (linW k n ps p)) := by
  refine run_r h21 rfl ?_
  simp only [fn21, s_nil, s_asg, s_mov, s_par, s_ifs, s_ret, s_retn, s_ex, Ss.app, nx_nx, rt_rt, zv1, zv2, zv3, zv4, zv5, zv6, zv7, zv8, zv9, zv10, zv11, zv13, zv14, zv15, zv16, zv17, zv18, zv19, zw1, zw2, zr1, zr2, zr3, zr4, zr5, zr6, zr7, gt, sub_int, add_int, le_int, gt_int, ge_int, o_lt, o_eq, o_ne, o_mem, o_nmem, o_is, o_isn, o_not, o_len, o_all, o_any, o_sum, o_sort, o_ssort, o_lst, o_tup, o_ist, i_int, i_boolI, i_boolB, i_str, i_tup, i_lst, i_tupP, i_tupF, len_tup, len_lst, len_tupP, len_F, ix_tup, ix_lst, ix_tupP, ix_F0, ix_F1, not_bl, seq_tup, seq_lst, seq_tupP, lt_int, lst_lst, tpl_lst, tpl_tup, is_bb, isn_bb, bindD, setsD, List.length_cons, List.length_nil, List.map_cons, List.map_nil, List.replicate_succ, List.replicate_zero, List.append_nil, List.cons_append, List.nil_append, List.getElem?_cons_zero, List.getElem?_cons_succ, List.set_cons_zero, List.set_cons_succ, if_true, if_false, Nat.zero_add, Nat.sub_self, Nat.reduceAdd, Nat.reduceSub, Option.map_some, Option.map_none, Bool.not_true, Bool.not_false, Option.bind_some, nc0, nc1, nc2, nc3, nc4, Option.some.injEq, D.bl.injEq, D.int.injEq, reduceCtorEq, decide_true, decide_false, Int.reduceEq, Int.reduceNe, not_true_eq_false, not_false_eq_true, ne_eq, Int.reduceLE, Int.reduceLT, at0, at1, at2, eq_int, eq_bl, eq_sp, eq_pl, eq_fl, eq_tup, eq_pts, eq_lns, mem_pts, mem_lns, Bool.false_xor, Bool.true_xor, mod_int, fdiv_int, mul_int, Int.reduceNeg, Nat.reduceLT, Int.reduceAdd, Int.reduceMul, Int.reduceSub, and_self, or_true, true_or, reduceIte, beq_self_eq_true, Bool.and_self, Bool.true_and, Bool.and_true, Bool.false_and, Bool.and_false, Bool.or_true, Bool.true_or, Bool.or_false, Bool.false_or]
  refine s_find (g := ipD) (xs := enP 0 ps) (P := fun env => ∃ x3 x4 x5, env = [some (fldD k n), some (ptsD ps), some (tupD p), x3, x4, x5]) (f := fun z => if (ps.take z.1).any fun t => lin k n z.2 t p then some (.bl true) else none) ?_ ⟨_, _, _, rfl⟩ ?_ ?_ ?_
  · simp only [s_nil, s_asg, s_mov, s_par, s_ifs, s_ret, s_retn, s_ex, Ss.app, nx_nx, rt_rt, zv1, zv2, zv3, zv4, zv5, zv6, zv7, zv8, zv9, zv10, zv11, zv13, zv14, zv15, zv16, zv17, zv18, zv19, zw1, zw2, zr1, zr2, zr3, zr4, zr5, zr6, zr7, gt, sub_int, add_int, le_int, gt_int, ge_int, o_lt, o_eq, o_ne, o_mem, o_nmem, o_is, o_isn, o_not, o_len, o_all, o_any, o_sum, o_sort, o_ssort, o_lst, o_tup, o_ist, i_int, i_boolI, i_boolB, i_str, i_tup, i_lst, i_tupP, i_tupF, len_tup, len_lst, len_tupP, len_F, ix_tup, ix_lst, ix_tupP, ix_F0, ix_F1, not_bl, seq_tup, seq_lst, seq_tupP, lt_int, lst_lst, tpl_lst, tpl_tup, is_bb, isn_bb, bindD, setsD, List.length_cons, List.length_nil, List.map_cons, List.map_nil, List.replicate_succ, List.replicate_zero, List.append_nil, List.cons_append, List.nil_append, List.getElem?_cons_zero, List.getElem?_cons_succ, List.set_cons_zero, List.set_cons_succ, if_true, if_false, Nat.zero_add, Nat.sub_self, Nat.reduceAdd, Nat.reduceSub, Option.map_some, Option.map_none, Bool.not_true, Bool.not_false, Option.bind_some, nc0, nc1, nc2, nc3, nc4, Option.some.injEq, D.bl.injEq, D.int.injEq, reduceCtorEq, decide_true, decide_false, Int.reduceEq, Int.reduceNe, not_true_eq_false, not_false_eq_true, ne_eq, Int.reduceLE, Int.reduceLT, at0, at1, at2, eq_int, eq_bl, eq_sp, eq_pl, eq_fl, eq_tup, eq_pts, eq_lns, mem_pts, mem_lns, Bool.false_xor, Bool.true_xor, mod_int, fdiv_int, mul_int, Int.reduceNeg, Nat.reduceLT, Int.reduceAdd, Int.reduceMul, Int.reduceSub, and_self, or_true, true_or, reduceIte, beq_self_eq_true, Bool.and_self, Bool.true_and, Bool.and_true, Bool.false_and, Bool.and_false, Bool.or_true, Bool.true_or, Bool.or_false, Bool.false_or, enum_pts]
  · rintro z hz env ⟨x2, x3, x4, rfl⟩
    refine ⟨_, rfl, ?_⟩
    obtain ⟨_, z1, _, z2⟩ := mem_enP (d := []) hz
    have z2 := hp _ z2
    simp only [s_nil, s_asg, s_mov, s_par, s_ifs, s_ret, s_retn, s_ex, Ss.app, nx_nx, rt_rt, zv1, zv2, zv3, zv4, zv5, zv6, zv7, zv8, zv9, zv10, zv11, zv13, zv14, zv15, zv16, zv17, zv18, zv19, zw1, zw2, zr1, zr2, zr3, zr4, zr5, zr6, zr7, gt, sub_int, add_int, le_int, gt_int, ge_int, o_lt, o_eq, o_ne, o_mem, o_nmem, o_is, o_isn, o_not, o_len, o_all, o_any, o_sum, o_sort, o_ssort, o_lst, o_tup, o_ist, i_int, i_boolI, i_boolB, i_str, i_tup, i_lst, i_tupP, i_tupF, len_tup, len_lst, len_tupP, len_F, ix_tup, ix_lst, ix_tupP, ix_F0, ix_F1, not_bl, seq_tup, seq_lst, seq_tupP, lt_int, lst_lst, tpl_lst, tpl_tup, is_bb, isn_bb, bindD, setsD, List.length_cons, List.length_nil, List.map_cons, List.map_nil, List.replicate_succ, List.replicate_zero, List.append_nil, List.cons_append, List.nil_append, List.getElem?_cons_zero, List.getElem?_cons_succ, List.set_cons_zero, List.set_cons_succ, if_true, if_false, Nat.zero_add, Nat.sub_self, Nat.reduceAdd, Nat.reduceSub, Option.map_some, Option.map_none, Bool.not_true, Bool.not_false, Option.bind_some, nc0, nc1, nc2, nc3, nc4, Option.some.injEq, D.bl.injEq, D.int.injEq, reduceCtorEq, decide_true, decide_false, Int.reduceEq, Int.reduceNe, not_true_eq_false, not_false_eq_true, ne_eq, Int.reduceLE, Int.reduceLT, at0, at1, at2, eq_int, eq_bl, eq_sp, eq_pl, eq_fl, eq_tup, eq_pts, eq_lns, mem_pts, mem_lns, Bool.false_xor, Bool.true_xor, mod_int, fdiv_int, mul_int, Int.reduceNeg, Nat.reduceLT, Int.reduceAdd, Int.reduceMul, Int.reduceSub, and_self, or_true, true_or, reduceIte, beq_self_eq_true, Bool.and_self, Bool.true_and, Bool.and_true, Bool.false_and, Bool.and_false, Bool.or_true, Bool.true_or, Bool.or_false, Bool.false_or]
    rw [e_comp (g := tupD) (xs := ps.take z.1) (fun t => D.bl (lin k n z.2 t p)) (by simp only [s_nil, s_asg, s_mov, s_par, s_ifs, s_ret, s_retn, s_ex, Ss.app, nx_nx, rt_rt, zv1, zv2, zv3, zv4, zv5, zv6, zv7, zv8, zv9, zv10, zv11, zv13, zv14, zv15, zv16, zv17, zv18, zv19, zw1, zw2, zr1, zr2, zr3, zr4, zr5, zr6, zr7, gt, sub_int, add_int, le_int, gt_int, ge_int, o_lt, o_eq, o_ne, o_mem, o_nmem, o_is, o_isn, o_not, o_len, o_all, o_any, o_sum, o_sort, o_ssort, o_lst, o_tup, o_ist, i_int, i_boolI, i_boolB, i_str, i_tup, i_lst, i_tupP, i_tupF, len_tup, len_lst, len_tupP, len_F, ix_tup, ix_lst, ix_tupP, ix_F0, ix_F1, not_bl, seq_tup, seq_lst, seq_tupP, lt_int, lst_lst, tpl_lst, tpl_tup, is_bb, isn_bb, bindD, setsD, List.length_cons, List.length_nil, List.map_cons, List.map_nil, List.replicate_succ, List.replicate_zero, List.append_nil, List.cons_append, List.nil_append, List.getElem?_cons_zero, List.getElem?_cons_succ, List.set_cons_zero, List.set_cons_succ, if_true, if_false, Nat.zero_add, Nat.sub_self, Nat.reduceAdd, Nat.reduceSub, Option.map_some, Option.map_none, Bool.not_true, Bool.not_false, Option.bind_some, nc0, nc1, nc2, nc3, nc4, Option.some.injEq, D.bl.injEq, D.int.injEq, reduceCtorEq, decide_true, decide_false, Int.reduceEq, Int.reduceNe, not_true_eq_false, not_false_eq_true, ne_eq, Int.reduceLE, Int.reduceLT, at0, at1, at2, eq_int, eq_bl, eq_sp, eq_pl, eq_fl, eq_tup, eq_pts, eq_lns, mem_pts, mem_lns, Bool.false_xor, Bool.true_xor, mod_int, fdiv_int, mul_int, Int.reduceNeg, Nat.reduceLT, Int.reduceAdd, Int.reduceMul, Int.reduceSub, and_self, or_true, true_or, reduceIte, beq_self_eq_true, Bool.and_self, Bool.true_and, Bool.and_true, Bool.false_and, Bool.and_false, Bool.or_true, Bool.true_or, Bool.or_false, Bool.false_or, sl_take]) (by rw [List.length_take]; unfold LIM; omega) (fun t m => ⟨_, rfl, by simp only [s_nil, s_asg, s_mov, s_par, s_ifs, s_ret, s_retn, s_ex, Ss.app, nx_nx, rt_rt, zv1, zv2, zv3, zv4, zv5, zv6, zv7, zv8, zv9, zv10, zv11, zv13, zv14, zv15, zv16, zv17, zv18, zv19, zw1, zw2, zr1, zr2, zr3, zr4, zr5, zr6, zr7, gt, sub_int, add_int, le_int, gt_int, ge_int, o_lt, o_eq, o_ne, o_mem, o_nmem, o_is, o_isn, o_not, o_len, o_all, o_any, o_sum, o_sort, o_ssort, o_lst, o_tup, o_ist, i_int, i_boolI, i_boolB, i_str, i_tup, i_lst, i_tupP, i_tupF, len_tup, len_lst, len_tupP, len_F, ix_tup, ix_lst, ix_tupP, ix_F0, ix_F1, not_bl, seq_tup, seq_lst, seq_tupP, lt_int, lst_lst, tpl_lst, tpl_tup, is_bb, isn_bb, bindD, setsD, List.length_cons, List.length_nil, List.map_cons, List.map_nil, List.replicate_succ, List.replicate_zero, List.append_nil, List.cons_append, List.nil_append, List.getElem?_cons_zero, List.getElem?_cons_succ, List.set_cons_zero, List.set_cons_succ, if_true, if_false, Nat.zero_add, Nat.sub_self, Nat.reduceAdd, Nat.reduceSub, Option.map_some, Option.map_none, Bool.not_true, Bool.not_false, Option.bind_some, nc0, nc1, nc2, nc3, nc4, Option.some.injEq, D.bl.injEq, D.int.injEq, reduceCtorEq, decide_true, decide_false, Int.reduceEq, Int.reduceNe, not_true_eq_false, not_false_eq_true, ne_eq, Int.reduceLE, Int.reduceLT, at0, at1, at2, eq_int, eq_bl, eq_sp, eq_pl, eq_fl, eq_tup, eq_pts, eq_lns, mem_pts, mem_lns, Bool.false_xor, Bool.true_xor, mod_int, fdiv_int, mul_int, Int.reduceNeg, Nat.reduceLT, Int.reduceAdd, Int.reduceMul, Int.reduceSub, and_self, or_true, true_or, reduceIte, beq_self_eq_true, Bool.and_self, Bool.true_and, Bool.and_true, Bool.false_and, Bool.and_false, Bool.or_true, Bool.true_or, Bool.or_false, Bool.false_or, q10 A hf z2 (hp t (List.mem_of_mem_take m)) hq]⟩)]
    simp only [s_nil, s_asg, s_mov, s_par, s_ifs, s_ret, s_retn, s_ex, Ss.app, nx_nx, rt_rt, zv1, zv2, zv3, zv4, zv5, zv6, zv7, zv8, zv9, zv10, zv11, zv13, zv14, zv15, zv16, zv17, zv18, zv19, zw1, zw2, zr1, zr2, zr3, zr4, zr5, zr6, zr7, gt, sub_int, add_int, le_int, gt_int, ge_int, o_lt, o_eq, o_ne, o_mem, o_nmem, o_is, o_isn, o_not, o_len, o_all, o_any, o_sum, o_sort, o_ssort, o_lst, o_tup, o_ist, i_int, i_boolI, i_boolB, i_str, i_tup, i_lst, i_tupP, i_tupF, len_tup, len_lst, len_tupP, len_F, ix_tup, ix_lst, ix_tupP, ix_F0, ix_F1, not_bl, seq_tup, seq_lst, seq_tupP, lt_int, lst_lst, tpl_lst, tpl_tup, is_bb, isn_bb, bindD, setsD, List.length_cons, List.length_nil, List.map_cons, List.map_nil, List.replicate_succ, List.replicate_zero, List.append_nil, List.cons_append, List.nil_append, List.getElem?_cons_zero, List.getElem?_cons_succ, List.set_cons_zero, List.set_cons_succ, if_true, if_false, Nat.zero_add, Nat.sub_self, Nat.reduceAdd, Nat.reduceSub, Option.map_some, Option.map_none, Bool.not_true, Bool.not_false, Option.bind_some, nc0, nc1, nc2, nc3, nc4, Option.some.injEq, D.bl.injEq, D.int.injEq, reduceCtorEq, decide_true, decide_false, Int.reduceEq, Int.reduceNe, not_true_eq_false, not_false_eq_true, ne_eq, Int.reduceLE, Int.reduceLT, at0, at1, at2, eq_int, eq_bl, eq_sp, eq_pl, eq_fl, eq_tup, eq_pts, eq_lns, mem_pts, mem_lns, Bool.false_xor, Bool.true_xor, mod_int, fdiv_int, mul_int, Int.reduceNeg, Nat.reduceLT, Int.reduceAdd, Int.reduceMul, Int.reduceSub, and_self, or_true, true_or, reduceIte, beq_self_eq_true, Bool.and_self, Bool.true_and, Bool.and_true, Bool.false_and, Bool.and_false, Bool.or_true, Bool.true_or, Bool.or_false, Bool.false_or, any_mapf]
    cases (ps.take z.1).any fun t => lin k n z.2 t p with
    | true => simp only [s_nil, s_asg, s_mov, s_par, s_ifs, s_ret, s_retn, s_ex, Ss.app, nx_nx, rt_rt, zv1, zv2, zv3, zv4, zv5, zv6, zv7, zv8, zv9, zv10, zv11, zv13, zv14, zv15, zv16, zv17, zv18, zv19, zw1, zw2, zr1, zr2, zr3, zr4, zr5, zr6, zr7, gt, sub_int, add_int, le_int, gt_int, ge_int, o_lt, o_eq, o_ne, o_mem, o_nmem, o_is, o_isn, o_not, o_len, o_all, o_any, o_sum, o_sort, o_ssort, o_lst, o_tup, o_ist, i_int, i_boolI, i_boolB, i_str, i_tup, i_lst, i_tupP, i_tupF, len_tup, len_lst, len_tupP, len_F, ix_tup, ix_lst, ix_tupP, ix_F0, ix_F1, not_bl, seq_tup, seq_lst, seq_tupP, lt_int, lst_lst, tpl_lst, tpl_tup, is_bb, isn_bb, bindD, setsD, List.length_cons, List.length_nil, List.map_cons, List.map_nil, List.replicate_succ, List.replicate_zero, List.append_nil, List.cons_append, List.nil_append, List.getElem?_cons_zero, List.getElem?_cons_succ, List.set_cons_zero, List.set_cons_succ, if_true, if_false, Nat.zero_add, Nat.sub_self, Nat.reduceAdd, Nat.reduceSub, Option.map_some, Option.map_none, Bool.not_true, Bool.not_false, Option.bind_some, nc0, nc1, nc2, nc3, nc4, Option.some.injEq, D.bl.injEq, D.int.injEq, reduceCtorEq, decide_true, decide_false, Int.reduceEq, Int.reduceNe, not_true_eq_false, not_false_eq_true, ne_eq, Int.reduceLE, Int.reduceLT, at0, at1, at2, eq_int, eq_bl, eq_sp, eq_pl, eq_fl, eq_tup, eq_pts, eq_lns, mem_pts, mem_lns, Bool.false_xor, Bool.true_xor, mod_int, fdiv_int, mul_int, Int.reduceNeg, Nat.reduceLT, Int.reduceAdd, Int.reduceMul, Int.reduceSub, and_self, or_true, true_or, reduceIte, beq_self_eq_true, Bool.and_self, Bool.true_and, Bool.and_true, Bool.false_and, Bool.and_false, Bool.or_true, Bool.true_or, Bool.or_false, Bool.false_or]; rfl
    | false => simp only [s_nil, s_asg, s_mov, s_par, s_ifs, s_ret, s_retn, s_ex, Ss.app, nx_nx, rt_rt, zv1, zv2, zv3, zv4, zv5, zv6, zv7, zv8, zv9, zv10, zv11, zv13, zv14, zv15, zv16, zv17, zv18, zv19, zw1, zw2, zr1, zr2, zr3, zr4, zr5, zr6, zr7, gt, sub_int, add_int, le_int, gt_int, ge_int, o_lt, o_eq, o_ne, o_mem, o_nmem, o_is, o_isn, o_not, o_len, o_all, o_any, o_sum, o_sort, o_ssort, o_lst, o_tup, o_ist, i_int, i_boolI, i_boolB, i_str, i_tup, i_lst, i_tupP, i_tupF, len_tup, len_lst, len_tupP, len_F, ix_tup, ix_lst, ix_tupP, ix_F0, ix_F1, not_bl, seq_tup, seq_lst, seq_tupP, lt_int, lst_lst, tpl_lst, tpl_tup, is_bb, isn_bb, bindD, setsD, List.length_cons, List.length_nil, List.map_cons, List.map_nil, List.replicate_succ, List.replicate_zero, List.append_nil, List.cons_append, List.nil_append, List.getElem?_cons_zero, List.getElem?_cons_succ, List.set_cons_zero, List.set_cons_succ, if_true, if_false, Nat.zero_add, Nat.sub_self, Nat.reduceAdd, Nat.reduceSub, Option.map_some, Option.map_none, Bool.not_true, Bool.not_false, Option.bind_some, nc0, nc1, nc2, nc3, nc4, Option.some.injEq, D.bl.injEq, D.int.injEq, reduceCtorEq, decide_true, decide_false, Int.reduceEq, Int.reduceNe, not_true_eq_false, not_false_eq_true, ne_eq, Int.reduceLE, Int.reduceLT, at0, at1, at2, eq_int, eq_bl, eq_sp, eq_pl, eq_fl, eq_tup, eq_pts, eq_lns, mem_pts, mem_lns, Bool.false_xor, Bool.true_xor, mod_int, fdiv_int, mul_int, Int.reduceNeg, Nat.reduceLT, Int.reduceAdd, Int.reduceMul, Int.reduceSub, and_self, or_true, true_or, reduceIte, beq_self_eq_true, Bool.and_self, Bool.true_and, Bool.and_true, Bool.false_and, Bool.and_false, Bool.or_true, Bool.true_or, Bool.or_false, Bool.false_or]; exact ⟨_, rfl, _, _, _, rfl⟩
  · intro d e
    rw [find_any] at e
    unfold linW
    split at e
    · rename_i h
      cases e
      rw [h]; rfl
    · cases e
  · rintro e env ⟨x2, x3, x4, rfl⟩
    rw [find_any] at e
    unfold linW
    split at e
    · cases e
    · rename_i h
      simp only [s_nil, s_asg, s_mov, s_par, s_ifs, s_ret, s_retn, s_ex, Ss.app, nx_nx, rt_rt, zv1, zv2, zv3, zv4, zv5, zv6, zv7, zv8, zv9, zv10, zv11, zv13, zv14, zv15, zv16, zv17, zv18, zv19, zw1, zw2, zr1, zr2, zr3, zr4, zr5, zr6, zr7, gt, sub_int, add_int, le_int, gt_int, ge_int, o_lt, o_eq, o_ne, o_mem, o_nmem, o_is, o_isn, o_not, o_len, o_all, o_any, o_sum, o_sort, o_ssort, o_lst, o_tup, o_ist, i_int, i_boolI, i_boolB, i_str, i_tup, i_lst, i_tupP, i_tupF, len_tup, len_lst, len_tupP, len_F, ix_tup, ix_lst, ix_tupP, ix_F0, ix_F1, not_bl, seq_tup, seq_lst, seq_tupP, lt_int, lst_lst, tpl_lst, tpl_tup, is_bb, isn_bb, bindD, setsD, List.length_cons, List.length_nil, List.map_cons, List.map_nil, List.replicate_succ, List.replicate_zero, List.append_nil, List.cons_append, List.nil_append, List.getElem?_cons_zero, List.getElem?_cons_succ, List.set_cons_zero, List.set_cons_succ, if_true, if_false, Nat.zero_add, Nat.sub_self, Nat.reduceAdd, Nat.reduceSub, Option.map_some, Option.map_none, Bool.not_true, Bool.not_false, Option.bind_some, nc0, nc1, nc2, nc3, nc4, Option.some.injEq, D.bl.injEq, D.int.injEq, reduceCtorEq, decide_true, decide_false, Int.reduceEq, Int.reduceNe, not_true_eq_false, not_false_eq_true, ne_eq, Int.reduceLE, Int.reduceLT, at0, at1, at2, eq_int, eq_bl, eq_sp, eq_pl, eq_fl, eq_tup, eq_pts, eq_lns, mem_pts, mem_lns, Bool.false_xor, Bool.true_xor, mod_int, fdiv_int, mul_int, Int.reduceNeg, Nat.reduceLT, Int.reduceAdd, Int.reduceMul, Int.reduceSub, and_self, or_true, true_or, reduceIte, beq_self_eq_true, Bool.and_self, Bool.true_and, Bool.and_true, Bool.false_and, Bool.and_false, Bool.or_true, Bool.true_or, Bool.or_false, Bool.false_or]
      rw [Bool.not_eq_true] at h
      rw [h]
theorem q22 (h22 : T.fns[22]? = some fn22) (hf : okF k n) (ps : List Pt) (hl : ps.length ≤ 100000) (hp : ∀ p ∈ ps, isPt k n p) : run T (m + 2) 22 [fldD k n, ptsD ps] = some (linO (thr k n ps)) := by
  refine run_r h22 rfl ?_
  simp only [fn22, s_nil, s_asg, s_mov, s_par, s_ifs, s_ret, s_retn, s_ex, Ss.app, nx_nx, rt_rt, zv1, zv2, zv3, zv4, zv5, zv6, zv7, zv8, zv9, zv10, zv11, zv13, zv14, zv15, zv16, zv17, zv18, zv19, zw1, zw2, zr1, zr2, zr3, zr4, zr5, zr6, zr7, gt, sub_int, add_int, le_int, gt_int, ge_int, o_lt, o_eq, o_ne, o_mem, o_nmem, o_is, o_isn, o_not, o_len, o_all, o_any, o_sum, o_sort, o_ssort, o_lst, o_tup, o_ist, i_int, i_boolI, i_boolB, i_str, i_tup, i_lst, i_tupP, i_tupF, len_tup, len_lst, len_tupP, len_F, ix_tup, ix_lst, ix_tupP, ix_F0, ix_F1, not_bl, seq_tup, seq_lst, seq_tupP, lt_int, lst_lst, tpl_lst, tpl_tup, is_bb, isn_bb, bindD, setsD, List.length_cons, List.length_nil, List.map_cons, List.map_nil, List.replicate_succ, List.replicate_zero, List.append_nil, List.cons_append, List.nil_append, List.getElem?_cons_zero, List.getElem?_cons_succ, List.set_cons_zero, List.set_cons_succ, if_true, if_false, Nat.zero_add, Nat.sub_self, Nat.reduceAdd, Nat.reduceSub, Option.map_some, Option.map_none, Bool.not_true, Bool.not_false, Option.bind_some, nc0, nc1, nc2, nc3, nc4, Option.some.injEq, D.bl.injEq, D.int.injEq, reduceCtorEq, decide_true, decide_false, Int.reduceEq, Int.reduceNe, not_true_eq_false, not_false_eq_true, ne_eq, Int.reduceLE, Int.reduceLT, at0, at1, at2, eq_int, eq_bl, eq_sp, eq_pl, eq_fl, eq_tup, eq_pts, eq_lns, mem_pts, mem_lns, Bool.false_xor, Bool.true_xor, mod_int, fdiv_int, mul_int, Int.reduceNeg, Nat.reduceLT, Int.reduceAdd, Int.reduceMul, Int.reduceSub, and_self, or_true, true_or, reduceIte, beq_self_eq_true, Bool.and_self, Bool.true_and, Bool.and_true, Bool.false_and, Bool.and_false, Bool.or_true, Bool.true_or, Bool.or_false, Bool.false_or]
  have eq : (enP 0 ps).findSome? (fun z => ((thrI k n ps z).map ptsD).head?) = ((thr k n ps).map ptsD).head? := by
    rw [find_head, ← thr_places, List.map_flatMap]
  refine s_find (g := ipD) (xs := enP 0 ps) (P := fun env => ∃ x2 x3 x4 x5, env = [some (fldD k n), some (ptsD ps), x2, x3, x4, x5]) (f := fun z => ((thrI k n ps z).map ptsD).head?) ?_ ⟨_, _, _, _, rfl⟩ ?_ ?_ ?_
  · simp only [s_nil, s_asg, s_mov, s_par, s_ifs, s_ret, s_retn, s_ex, Ss.app, nx_nx, rt_rt, zv1, zv2, zv3, zv4, zv5, zv6, zv7, zv8, zv9, zv10, zv11, zv13, zv14, zv15, zv16, zv17, zv18, zv19, zw1, zw2, zr1, zr2, zr3, zr4, zr5, zr6, zr7, gt, sub_int, add_int, le_int, gt_int, ge_int, o_lt, o_eq, o_ne, o_mem, o_nmem, o_is, o_isn, o_not, o_len, o_all, o_any, o_sum, o_sort, o_ssort, o_lst, o_tup, o_ist, i_int, i_boolI, i_boolB, i_str, i_tup, i_lst, i_tupP, i_tupF, len_tup, len_lst, len_tupP, len_F, ix_tup, ix_lst, ix_tupP, ix_F0, ix_F1, not_bl, seq_tup, seq_lst, seq_tupP, lt_int, lst_lst, tpl_lst, tpl_tup, is_bb, isn_bb, bindD, setsD, List.length_cons, List.length_nil, List.map_cons, List.map_nil, List.replicate_succ, List.replicate_zero, List.append_nil, List.cons_append, List.nil_append, List.getElem?_cons_zero, List.getElem?_cons_succ, List.set_cons_zero, List.set_cons_succ, if_true, if_false, Nat.zero_add, Nat.sub_self, Nat.reduceAdd, Nat.reduceSub, Option.map_some, Option.map_none, Bool.not_true, Bool.not_false, Option.bind_some, nc0, nc1, nc2, nc3, nc4, Option.some.injEq, D.bl.injEq, D.int.injEq, reduceCtorEq, decide_true, decide_false, Int.reduceEq, Int.reduceNe, not_true_eq_false, not_false_eq_true, ne_eq, Int.reduceLE, Int.reduceLT, at0, at1, at2, eq_int, eq_bl, eq_sp, eq_pl, eq_fl, eq_tup, eq_pts, eq_lns, mem_pts, mem_lns, Bool.false_xor, Bool.true_xor, mod_int, fdiv_int, mul_int, Int.reduceNeg, Nat.reduceLT, Int.reduceAdd, Int.reduceMul, Int.reduceSub, and_self, or_true, true_or, reduceIte, beq_self_eq_true, Bool.and_self, Bool.true_and, Bool.and_true, Bool.false_and, Bool.and_false, Bool.or_true, Bool.true_or, Bool.or_false, Bool.false_or, enum_pts]
  · rintro z hz env ⟨x2, x3, x4, x5, rfl⟩
    refine ⟨_, rfl, ?_⟩
    obtain ⟨_, z1, _, z2⟩ := mem_enP (d := []) hz
    have z2 := hp _ z2
    simp only [s_nil, s_asg, s_mov, s_par, s_ifs, s_ret, s_retn, s_ex, Ss.app, nx_nx, rt_rt, zv1, zv2, zv3, zv4, zv5, zv6, zv7, zv8, zv9, zv10, zv11, zv13, zv14, zv15, zv16, zv17, zv18, zv19, zw1, zw2, zr1, zr2, zr3, zr4, zr5, zr6, zr7, gt, sub_int, add_int, le_int, gt_int, ge_int, o_lt, o_eq, o_ne, o_mem, o_nmem, o_is, o_isn, o_not, o_len, o_all, o_any, o_sum, o_sort, o_ssort, o_lst, o_tup, o_ist, i_int, i_boolI, i_boolB, i_str, i_tup, i_lst, i_tupP, i_tupF, len_tup, len_lst, len_tupP, len_F, ix_tup, ix_lst, ix_tupP, ix_F0, ix_F1, not_bl, seq_tup, seq_lst, seq_tupP, lt_int, lst_lst, tpl_lst, tpl_tup, is_bb, isn_bb, bindD, setsD, List.length_cons, List.length_nil, List.map_cons, List.map_nil, List.replicate_succ, List.replicate_zero, List.append_nil, List.cons_append, List.nil_append, List.getElem?_cons_zero, List.getElem?_cons_succ, List.set_cons_zero, List.set_cons_succ, if_true, if_false, Nat.zero_add, Nat.sub_self, Nat.reduceAdd, Nat.reduceSub, Option.map_some, Option.map_none, Bool.not_true, Bool.not_false, Option.bind_some, nc0, nc1, nc2, nc3, nc4, Option.some.injEq, D.bl.injEq, D.int.injEq, reduceCtorEq, decide_true, decide_false, Int.reduceEq, Int.reduceNe, not_true_eq_false, not_false_eq_true, ne_eq, Int.reduceLE, Int.reduceLT, at0, at1, at2, eq_int, eq_bl, eq_sp, eq_pl, eq_fl, eq_tup, eq_pts, eq_lns, mem_pts, mem_lns, Bool.false_xor, Bool.true_xor, mod_int, fdiv_int, mul_int, Int.reduceNeg, Nat.reduceLT, Int.reduceAdd, Int.reduceMul, Int.reduceSub, and_self, or_true, true_or, reduceIte, beq_self_eq_true, Bool.and_self, Bool.true_and, Bool.and_true, Bool.false_and, Bool.and_false, Bool.or_true, Bool.true_or, Bool.or_false, Bool.false_or]
    rw [thrI, List.map_flatMap, ← find_head]
    refine Fd.imp (P := fun env => ∃ x4 x5, env = [some (fldD k n), some (ptsD ps), some (.int (z.1 : Int)), some (tupD z.2), x4, x5]) (fun env ⟨x4, x5, e⟩ => ⟨_, _, x4, x5, e⟩) (s_findE (g := fun (s : Nat) => D.int (s : Int)) (xs := List.range' (z.1 + 1) (ps.length - (z.1 + 1))) _ (fun s => ((((ps.drop (s + 1)).filter (lin k n z.2 (ps.getD s []))).map fun r => [z.2, ps.getD s [], r]).map ptsD).head?) ?_ ⟨_, _, rfl⟩ ?_)
    · have e := small_up2 (i := z.1 + 1) (j := ps.length) (by unfold LIM; omega) (by unfold LIM; omega)
      have e2 := range_up (i := z.1 + 1) (j := ps.length) (by omega)
      rw [Int.natCast_add, nc1] at e e2
      simp only [s_nil, s_asg, s_mov, s_par, s_ifs, s_ret, s_retn, s_ex, Ss.app, nx_nx, rt_rt, zv1, zv2, zv3, zv4, zv5, zv6, zv7, zv8, zv9, zv10, zv11, zv13, zv14, zv15, zv16, zv17, zv18, zv19, zw1, zw2, zr1, zr2, zr3, zr4, zr5, zr6, zr7, gt, sub_int, add_int, le_int, gt_int, ge_int, o_lt, o_eq, o_ne, o_mem, o_nmem, o_is, o_isn, o_not, o_len, o_all, o_any, o_sum, o_sort, o_ssort, o_lst, o_tup, o_ist, i_int, i_boolI, i_boolB, i_str, i_tup, i_lst, i_tupP, i_tupF, len_tup, len_lst, len_tupP, len_F, ix_tup, ix_lst, ix_tupP, ix_F0, ix_F1, not_bl, seq_tup, seq_lst, seq_tupP, lt_int, lst_lst, tpl_lst, tpl_tup, is_bb, isn_bb, bindD, setsD, List.length_cons, List.length_nil, List.map_cons, List.map_nil, List.replicate_succ, List.replicate_zero, List.append_nil, List.cons_append, List.nil_append, List.getElem?_cons_zero, List.getElem?_cons_succ, List.set_cons_zero, List.set_cons_succ, if_true, if_false, Nat.zero_add, Nat.sub_self, Nat.reduceAdd, Nat.reduceSub, Option.map_some, Option.map_none, Bool.not_true, Bool.not_false, Option.bind_some, nc0, nc1, nc2, nc3, nc4, Option.some.injEq, D.bl.injEq, D.int.injEq, reduceCtorEq, decide_true, decide_false, Int.reduceEq, Int.reduceNe, not_true_eq_false, not_false_eq_true, ne_eq, Int.reduceLE, Int.reduceLT, at0, at1, at2, eq_int, eq_bl, eq_sp, eq_pl, eq_fl, eq_tup, eq_pts, eq_lns, mem_pts, mem_lns, Bool.false_xor, Bool.true_xor, mod_int, fdiv_int, mul_int, Int.reduceNeg, Nat.reduceLT, Int.reduceAdd, Int.reduceMul, Int.reduceSub, and_self, or_true, true_or, reduceIte, beq_self_eq_true, Bool.and_self, Bool.true_and, Bool.and_true, Bool.false_and, Bool.and_false, Bool.or_true, Bool.true_or, Bool.or_false, Bool.false_or, List.length_map, e, e2]
    · rintro s hs env ⟨x4, x5, rfl⟩
      refine ⟨_, rfl, ?_⟩
      have hs := List.mem_range'_1.mp hs
      have hs2 : s < ps.length := by omega
      have is : isPt k n (ps.getD s []) := by
        rw [List.getD_eq_getElem?_getD, List.getElem?_eq_getElem hs2]
        exact hp _ (List.getElem_mem hs2)
      simp only [s_nil, s_asg, s_mov, s_par, s_ifs, s_ret, s_retn, s_ex, Ss.app, nx_nx, rt_rt, zv1, zv2, zv3, zv4, zv5, zv6, zv7, zv8, zv9, zv10, zv11, zv13, zv14, zv15, zv16, zv17, zv18, zv19, zw1, zw2, zr1, zr2, zr3, zr4, zr5, zr6, zr7, gt, sub_int, add_int, le_int, gt_int, ge_int, o_lt, o_eq, o_ne, o_mem, o_nmem, o_is, o_isn, o_not, o_len, o_all, o_any, o_sum, o_sort, o_ssort, o_lst, o_tup, o_ist, i_int, i_boolI, i_boolB, i_str, i_tup, i_lst, i_tupP, i_tupF, len_tup, len_lst, len_tupP, len_F, ix_tup, ix_lst, ix_tupP, ix_F0, ix_F1, not_bl, seq_tup, seq_lst, seq_tupP, lt_int, lst_lst, tpl_lst, tpl_tup, is_bb, isn_bb, bindD, setsD, List.length_cons, List.length_nil, List.map_cons, List.map_nil, List.replicate_succ, List.replicate_zero, List.append_nil, List.cons_append, List.nil_append, List.getElem?_cons_zero, List.getElem?_cons_succ, List.set_cons_zero, List.set_cons_succ, if_true, if_false, Nat.zero_add, Nat.sub_self, Nat.reduceAdd, Nat.reduceSub, Option.map_some, Option.map_none, Bool.not_true, Bool.not_false, Option.bind_some, nc0, nc1, nc2, nc3, nc4, Option.some.injEq, D.bl.injEq, D.int.injEq, reduceCtorEq, decide_true, decide_false, Int.reduceEq, Int.reduceNe, not_true_eq_false, not_false_eq_true, ne_eq, Int.reduceLE, Int.reduceLT, at0, at1, at2, eq_int, eq_bl, eq_sp, eq_pl, eq_fl, eq_tup, eq_pts, eq_lns, mem_pts, mem_lns, Bool.false_xor, Bool.true_xor, mod_int, fdiv_int, mul_int, Int.reduceNeg, Nat.reduceLT, Int.reduceAdd, Int.reduceMul, Int.reduceSub, and_self, or_true, true_or, reduceIte, beq_self_eq_true, Bool.and_self, Bool.true_and, Bool.and_true, Bool.false_and, Bool.and_false, Bool.or_true, Bool.true_or, Bool.or_false, Bool.false_or]
      rw [List.map_map, ← find_if]
      refine Fd.imp (P := fun env => ∃ x5, env = [some (fldD k n), some (ptsD ps), some (.int (z.1 : Int)), some (tupD z.2), some (.int (s : Int)), x5]) (fun env ⟨x5, e⟩ => ⟨_, x5, e⟩) (s_findE (g := tupD) (xs := ps.drop (s + 1)) _ _ ?_ ⟨_, rfl⟩ ?_)
      · simp only [s_nil, s_asg, s_mov, s_par, s_ifs, s_ret, s_retn, s_ex, Ss.app, nx_nx, rt_rt, zv1, zv2, zv3, zv4, zv5, zv6, zv7, zv8, zv9, zv10, zv11, zv13, zv14, zv15, zv16, zv17, zv18, zv19, zw1, zw2, zr1, zr2, zr3, zr4, zr5, zr6, zr7, gt, sub_int, add_int, le_int, gt_int, ge_int, o_lt, o_eq, o_ne, o_mem, o_nmem, o_is, o_isn, o_not, o_len, o_all, o_any, o_sum, o_sort, o_ssort, o_lst, o_tup, o_ist, i_int, i_boolI, i_boolB, i_str, i_tup, i_lst, i_tupP, i_tupF, len_tup, len_lst, len_tupP, len_F, ix_tup, ix_lst, ix_tupP, ix_F0, ix_F1, not_bl, seq_tup, seq_lst, seq_tupP, lt_int, lst_lst, tpl_lst, tpl_tup, is_bb, isn_bb, bindD, setsD, List.length_cons, List.length_nil, List.map_cons, List.map_nil, List.replicate_succ, List.replicate_zero, List.append_nil, List.cons_append, List.nil_append, List.getElem?_cons_zero, List.getElem?_cons_succ, List.set_cons_zero, List.set_cons_succ, if_true, if_false, Nat.zero_add, Nat.sub_self, Nat.reduceAdd, Nat.reduceSub, Option.map_some, Option.map_none, Bool.not_true, Bool.not_false, Option.bind_some, nc0, nc1, nc2, nc3, nc4, Option.some.injEq, D.bl.injEq, D.int.injEq, reduceCtorEq, decide_true, decide_false, Int.reduceEq, Int.reduceNe, not_true_eq_false, not_false_eq_true, ne_eq, Int.reduceLE, Int.reduceLT, at0, at1, at2, eq_int, eq_bl, eq_sp, eq_pl, eq_fl, eq_tup, eq_pts, eq_lns, mem_pts, mem_lns, Bool.false_xor, Bool.true_xor, mod_int, fdiv_int, mul_int, Int.reduceNeg, Nat.reduceLT, Int.reduceAdd, Int.reduceMul, Int.reduceSub, and_self, or_true, true_or, reduceIte, beq_self_eq_true, Bool.and_self, Bool.true_and, Bool.and_true, Bool.false_and, Bool.and_false, Bool.or_true, Bool.true_or, Bool.or_false, Bool.false_or, sl_drop]
      · rintro r hr env ⟨x5, rfl⟩
        refine ⟨_, rfl, ?_⟩
        have ir := hp r (List.mem_of_mem_drop hr)
        simp only [s_nil, s_asg, s_mov, s_par, s_ifs, s_ret, s_retn, s_ex, Ss.app, nx_nx, rt_rt, zv1, zv2, zv3, zv4, zv5, zv6, zv7, zv8, zv9, zv10, zv11, zv13, zv14, zv15, zv16, zv17, zv18, zv19, zw1, zw2, zr1, zr2, zr3, zr4, zr5, zr6, zr7, gt, sub_int, add_int, le_int, gt_int, ge_int, o_lt, o_eq, o_ne, o_mem, o_nmem, o_is, o_isn, o_not, o_len, o_all, o_any, o_sum, o_sort, o_ssort, o_lst, o_tup, o_ist, i_int, i_boolI, i_boolB, i_str, i_tup, i_lst, i_tupP, i_tupF, len_tup, len_lst, len_tupP, len_F, ix_tup, ix_lst, ix_tupP, ix_F0, ix_F1, not_bl, seq_tup, seq_lst, seq_tupP, lt_int, lst_lst, tpl_lst, tpl_tup, is_bb, isn_bb, bindD, setsD, List.length_cons, List.length_nil, List.map_cons, List.map_nil, List.replicate_succ, List.replicate_zero, List.append_nil, List.cons_append, List.nil_append, List.getElem?_cons_zero, List.getElem?_cons_succ, List.set_cons_zero, List.set_cons_succ, if_true, if_false, Nat.zero_add, Nat.sub_self, Nat.reduceAdd, Nat.reduceSub, Option.map_some, Option.map_none, Bool.not_true, Bool.not_false, Option.bind_some, nc0, nc1, nc2, nc3, nc4, Option.some.injEq, D.bl.injEq, D.int.injEq, reduceCtorEq, decide_true, decide_false, Int.reduceEq, Int.reduceNe, not_true_eq_false, not_false_eq_true, ne_eq, Int.reduceLE, Int.reduceLT, at0, at1, at2, eq_int, eq_bl, eq_sp, eq_pl, eq_fl, eq_tup, eq_pts, eq_lns, mem_pts, mem_lns, Bool.false_xor, Bool.true_xor, mod_int, fdiv_int, mul_int, Int.reduceNeg, Nat.reduceLT, Int.reduceAdd, Int.reduceMul, Int.reduceSub, and_self, or_true, true_or, reduceIte, beq_self_eq_true, Bool.and_self, Bool.true_and, Bool.and_true, Bool.false_and, Bool.and_false, Bool.or_true, Bool.true_or, Bool.or_false, Bool.false_or, ix_pts hs2, q10 A hf z2 is ir]
        cases lin k n z.2 (ps.getD s []) r with
        | true =>
          simp only [s_nil, s_asg, s_mov, s_par, s_ifs, s_ret, s_retn, s_ex, Ss.app, nx_nx, rt_rt, zv1, zv2, zv3, zv4, zv5, zv6, zv7, zv8, zv9, zv10, zv11, zv13, zv14, zv15, zv16, zv17, zv18, zv19, zw1, zw2, zr1, zr2, zr3, zr4, zr5, zr6, zr7, gt, sub_int, add_int, le_int, gt_int, ge_int, o_lt, o_eq, o_ne, o_mem, o_nmem, o_is, o_isn, o_not, o_len, o_all, o_any, o_sum, o_sort, o_ssort, o_lst, o_tup, o_ist, i_int, i_boolI, i_boolB, i_str, i_tup, i_lst, i_tupP, i_tupF, len_tup, len_lst, len_tupP, len_F, ix_tup, ix_lst, ix_tupP, ix_F0, ix_F1, not_bl, seq_tup, seq_lst, seq_tupP, lt_int, lst_lst, tpl_lst, tpl_tup, is_bb, isn_bb, bindD, setsD, List.length_cons, List.length_nil, List.map_cons, List.map_nil, List.replicate_succ, List.replicate_zero, List.append_nil, List.cons_append, List.nil_append, List.getElem?_cons_zero, List.getElem?_cons_succ, List.set_cons_zero, List.set_cons_succ, if_true, if_false, Nat.zero_add, Nat.sub_self, Nat.reduceAdd, Nat.reduceSub, Option.map_some, Option.map_none, Bool.not_true, Bool.not_false, Option.bind_some, nc0, nc1, nc2, nc3, nc4, Option.some.injEq, D.bl.injEq, D.int.injEq, reduceCtorEq, decide_true, decide_false, Int.reduceEq, Int.reduceNe, not_true_eq_false, not_false_eq_true, ne_eq, Int.reduceLE, Int.reduceLT, at0, at1, at2, eq_int, eq_bl, eq_sp, eq_pl, eq_fl, eq_tup, eq_pts, eq_lns, mem_pts, mem_lns, Bool.false_xor, Bool.true_xor, mod_int, fdiv_int, mul_int, Int.reduceNeg, Nat.reduceLT, Int.reduceAdd, Int.reduceMul, Int.reduceSub, and_self, or_true, true_or, reduceIte, beq_self_eq_true, Bool.and_self, Bool.true_and, Bool.and_true, Bool.false_and, Bool.and_false, Bool.or_true, Bool.true_or, Bool.or_false, Bool.false_or, ix_pts hs2]
          rfl
        | false =>
          simp only [s_nil, s_asg, s_mov, s_par, s_ifs, s_ret, s_retn, s_ex, Ss.app, nx_nx, rt_rt, zv1, zv2, zv3, zv4, zv5, zv6, zv7, zv8, zv9, zv10, zv11, zv13, zv14, zv15, zv16, zv17, zv18, zv19, zw1, zw2, zr1, zr2, zr3, zr4, zr5, zr6, zr7, gt, sub_int, add_int, le_int, gt_int, ge_int, o_lt, o_eq, o_ne, o_mem, o_nmem, o_is, o_isn, o_not, o_len, o_all, o_any, o_sum, o_sort, o_ssort, o_lst, o_tup, o_ist, i_int, i_boolI, i_boolB, i_str, i_tup, i_lst, i_tupP, i_tupF, len_tup, len_lst, len_tupP, len_F, ix_tup, ix_lst, ix_tupP, ix_F0, ix_F1, not_bl, seq_tup, seq_lst, seq_tupP, lt_int, lst_lst, tpl_lst, tpl_tup, is_bb, isn_bb, bindD, setsD, List.length_cons, List.length_nil, List.map_cons, List.map_nil, List.replicate_succ, List.replicate_zero, List.append_nil, List.cons_append, List.nil_append, List.getElem?_cons_zero, List.getElem?_cons_succ, List.set_cons_zero, List.set_cons_succ, if_true, if_false, Nat.zero_add, Nat.sub_self, Nat.reduceAdd, Nat.reduceSub, Option.map_some, Option.map_none, Bool.not_true, Bool.not_false, Option.bind_some, nc0, nc1, nc2, nc3, nc4, Option.some.injEq, D.bl.injEq, D.int.injEq, reduceCtorEq, decide_true, decide_false, Int.reduceEq, Int.reduceNe, not_true_eq_false, not_false_eq_true, ne_eq, Int.reduceLE, Int.reduceLT, at0, at1, at2, eq_int, eq_bl, eq_sp, eq_pl, eq_fl, eq_tup, eq_pts, eq_lns, mem_pts, mem_lns, Bool.false_xor, Bool.true_xor, mod_int, fdiv_int, mul_int, Int.reduceNeg, Nat.reduceLT, Int.reduceAdd, Int.reduceMul, Int.reduceSub, and_self, or_true, true_or, reduceIte, beq_self_eq_true, Bool.and_self, Bool.true_and, Bool.and_true, Bool.false_and, Bool.and_false, Bool.or_true, Bool.true_or, Bool.or_false, Bool.false_or]
          exact ⟨_, rfl, _, rfl⟩
  · intro d e
    rw [eq] at e
    unfold linO
    rw [List.head?_map] at e
    cases h : (thr k n ps).head? with
    | none => rw [h] at e; cases e
    | some t =>
      rw [h] at e
      cases e
      rfl
  · rintro e env ⟨x2, x3, x4, x5, rfl⟩
    rw [eq, List.head?_map] at e
    unfold linO
    cases h : (thr k n ps).head? with
    | none => simp only [s_nil, s_asg, s_mov, s_par, s_ifs, s_ret, s_retn, s_ex, Ss.app, nx_nx, rt_rt, zv1, zv2, zv3, zv4, zv5, zv6, zv7, zv8, zv9, zv10, zv11, zv13, zv14, zv15, zv16, zv17, zv18, zv19, zw1, zw2, zr1, zr2, zr3, zr4, zr5, zr6, zr7, gt, sub_int, add_int, le_int, gt_int, ge_int, o_lt, o_eq, o_ne, o_mem, o_nmem, o_is, o_isn, o_not, o_len, o_all, o_any, o_sum, o_sort, o_ssort, o_lst, o_tup, o_ist, i_int, i_boolI, i_boolB, i_str, i_tup, i_lst, i_tupP, i_tupF, len_tup, len_lst, len_tupP, len_F, ix_tup, ix_lst, ix_tupP, ix_F0, ix_F1, not_bl, seq_tup, seq_lst, seq_tupP, lt_int, lst_lst, tpl_lst, tpl_tup, is_bb, isn_bb, bindD, setsD, List.length_cons, List.length_nil, List.map_cons, List.map_nil, List.replicate_succ, List.replicate_zero, List.append_nil, List.cons_append, List.nil_append, List.getElem?_cons_zero, List.getElem?_cons_succ, List.set_cons_zero, List.set_cons_succ, if_true, if_false, Nat.zero_add, Nat.sub_self, Nat.reduceAdd, Nat.reduceSub, Option.map_some, Option.map_none, Bool.not_true, Bool.not_false, Option.bind_some, nc0, nc1, nc2, nc3, nc4, Option.some.injEq, D.bl.injEq, D.int.injEq, reduceCtorEq, decide_true, decide_false, Int.reduceEq, Int.reduceNe, not_true_eq_false, not_false_eq_true, ne_eq, Int.reduceLE, Int.reduceLT, at0, at1, at2, eq_int, eq_bl, eq_sp, eq_pl, eq_fl, eq_tup, eq_pts, eq_lns, mem_pts, mem_lns, Bool.false_xor, Bool.true_xor, mod_int, fdiv_int, mul_int, Int.reduceNeg, Nat.reduceLT, Int.reduceAdd, Int.reduceMul, Int.reduceSub, and_self, or_true, true_or, reduceIte, beq_self_eq_true, Bool.and_self, Bool.true_and, Bool.and_true, Bool.false_and, Bool.and_false, Bool.or_true, Bool.true_or, Bool.or_false, Bool.false_or]
    | some t => rw [h] at e; cases e
theorem q34 (h34 : T.fns[34]? = some fn34) (hf : okF k n) (ps : List Pt) (hl : ps.length ≤ 99) (hp : ∀ p ∈ ps, isPt k n p) : run T (m + 2) 34 [fldD k n, ptsD ps] = some (lnsD (thr k n ps)) := by
  refine run_r h34 rfl ?_
  simp only [fn34, s_nil, s_asg, s_mov, s_par, s_ifs, s_ret, s_retn, s_ex, Ss.app, nx_nx, rt_rt, zv1, zv2, zv3, zv4, zv5, zv6, zv7, zv8, zv9, zv10, zv11, zv13, zv14, zv15, zv16, zv17, zv18, zv19, zw1, zw2, zr1, zr2, zr3, zr4, zr5, zr6, zr7, gt, sub_int, add_int, le_int, gt_int, ge_int, o_lt, o_eq, o_ne, o_mem, o_nmem, o_is, o_isn, o_not, o_len, o_all, o_any, o_sum, o_sort, o_ssort, o_lst, o_tup, o_ist, i_int, i_boolI, i_boolB, i_str, i_tup, i_lst, i_tupP, i_tupF, len_tup, len_lst, len_tupP, len_F, ix_tup, ix_lst, ix_tupP, ix_F0, ix_F1, not_bl, seq_tup, seq_lst, seq_tupP, lt_int, lst_lst, tpl_lst, tpl_tup, is_bb, isn_bb, bindD, setsD, List.length_cons, List.length_nil, List.map_cons, List.map_nil, List.replicate_succ, List.replicate_zero, List.append_nil, List.cons_append, List.nil_append, List.getElem?_cons_zero, List.getElem?_cons_succ, List.set_cons_zero, List.set_cons_succ, if_true, if_false, Nat.zero_add, Nat.sub_self, Nat.reduceAdd, Nat.reduceSub, Option.map_some, Option.map_none, Bool.not_true, Bool.not_false, Option.bind_some, nc0, nc1, nc2, nc3, nc4, Option.some.injEq, D.bl.injEq, D.int.injEq, reduceCtorEq, decide_true, decide_false, Int.reduceEq, Int.reduceNe, not_true_eq_false, not_false_eq_true, ne_eq, Int.reduceLE, Int.reduceLT, at0, at1, at2, eq_int, eq_bl, eq_sp, eq_pl, eq_fl, eq_tup, eq_pts, eq_lns, mem_pts, mem_lns, Bool.false_xor, Bool.true_xor, mod_int, fdiv_int, mul_int, Int.reduceNeg, Nat.reduceLT, Int.reduceAdd, Int.reduceMul, Int.reduceSub, and_self, or_true, true_or, reduceIte, beq_self_eq_true, Bool.and_self, Bool.true_and, Bool.and_true, Bool.false_and, Bool.and_false, Bool.or_true, Bool.true_or, Bool.or_false, Bool.false_or]
  have tot : (thr k n ps).length < LIM := by
    have := thr_len k n ps
    have : ps.length * (ps.length * ps.length) ≤ 99 * (99 * 99) := Nat.mul_le_mul hl (Nat.mul_le_mul hl hl)
    unfold LIM
    omega
  rw [← thr_places] at tot ⊢
  refine s_accP (g := ipD) (xs := enP 0 ps) (P := fun acc env => ∃ x3 x4 x5 x6, env = [some (fldD k n), some (ptsD ps), some (lnsD acc), x3, x4, x5, x6]) (thrI k n ps) [] ?_ ⟨_, _, _, _, rfl⟩ ?_ ?_
  · simp only [s_nil, s_asg, s_mov, s_par, s_ifs, s_ret, s_retn, s_ex, Ss.app, nx_nx, rt_rt, zv1, zv2, zv3, zv4, zv5, zv6, zv7, zv8, zv9, zv10, zv11, zv13, zv14, zv15, zv16, zv17, zv18, zv19, zw1, zw2, zr1, zr2, zr3, zr4, zr5, zr6, zr7, gt, sub_int, add_int, le_int, gt_int, ge_int, o_lt, o_eq, o_ne, o_mem, o_nmem, o_is, o_isn, o_not, o_len, o_all, o_any, o_sum, o_sort, o_ssort, o_lst, o_tup, o_ist, i_int, i_boolI, i_boolB, i_str, i_tup, i_lst, i_tupP, i_tupF, len_tup, len_lst, len_tupP, len_F, ix_tup, ix_lst, ix_tupP, ix_F0, ix_F1, not_bl, seq_tup, seq_lst, seq_tupP, lt_int, lst_lst, tpl_lst, tpl_tup, is_bb, isn_bb, bindD, setsD, List.length_cons, List.length_nil, List.map_cons, List.map_nil, List.replicate_succ, List.replicate_zero, List.append_nil, List.cons_append, List.nil_append, List.getElem?_cons_zero, List.getElem?_cons_succ, List.set_cons_zero, List.set_cons_succ, if_true, if_false, Nat.zero_add, Nat.sub_self, Nat.reduceAdd, Nat.reduceSub, Option.map_some, Option.map_none, Bool.not_true, Bool.not_false, Option.bind_some, nc0, nc1, nc2, nc3, nc4, Option.some.injEq, D.bl.injEq, D.int.injEq, reduceCtorEq, decide_true, decide_false, Int.reduceEq, Int.reduceNe, not_true_eq_false, not_false_eq_true, ne_eq, Int.reduceLE, Int.reduceLT, at0, at1, at2, eq_int, eq_bl, eq_sp, eq_pl, eq_fl, eq_tup, eq_pts, eq_lns, mem_pts, mem_lns, Bool.false_xor, Bool.true_xor, mod_int, fdiv_int, mul_int, Int.reduceNeg, Nat.reduceLT, Int.reduceAdd, Int.reduceMul, Int.reduceSub, and_self, or_true, true_or, reduceIte, beq_self_eq_true, Bool.and_self, Bool.true_and, Bool.and_true, Bool.false_and, Bool.and_false, Bool.or_true, Bool.true_or, Bool.or_false, Bool.false_or, enum_pts]
  · rintro pre z post hz0 env ⟨x2, x3, x4, x5, rfl⟩
    refine ⟨_, rfl, ?_⟩
    have hz : z ∈ enP 0 ps := by rw [hz0]; simp
    obtain ⟨_, z1, _, z2⟩ := mem_enP (d := []) hz
    have z2 := hp _ z2
    rw [hz0, List.flatMap_append, List.flatMap_cons, List.length_append, List.length_append] at tot
    generalize hacc : [] ++ pre.flatMap (thrI k n ps) = acc at *
    have hal : acc.length = (pre.flatMap (thrI k n ps)).length := by rw [← hacc]; rfl
    rw [← hal] at tot
    clear hacc hal
    simp only [s_nil, s_asg, s_mov, s_par, s_ifs, s_ret, s_retn, s_ex, Ss.app, nx_nx, rt_rt, zv1, zv2, zv3, zv4, zv5, zv6, zv7, zv8, zv9, zv10, zv11, zv13, zv14, zv15, zv16, zv17, zv18, zv19, zw1, zw2, zr1, zr2, zr3, zr4, zr5, zr6, zr7, gt, sub_int, add_int, le_int, gt_int, ge_int, o_lt, o_eq, o_ne, o_mem, o_nmem, o_is, o_isn, o_not, o_len, o_all, o_any, o_sum, o_sort, o_ssort, o_lst, o_tup, o_ist, i_int, i_boolI, i_boolB, i_str, i_tup, i_lst, i_tupP, i_tupF, len_tup, len_lst, len_tupP, len_F, ix_tup, ix_lst, ix_tupP, ix_F0, ix_F1, not_bl, seq_tup, seq_lst, seq_tupP, lt_int, lst_lst, tpl_lst, tpl_tup, is_bb, isn_bb, bindD, setsD, List.length_cons, List.length_nil, List.map_cons, List.map_nil, List.replicate_succ, List.replicate_zero, List.append_nil, List.cons_append, List.nil_append, List.getElem?_cons_zero, List.getElem?_cons_succ, List.set_cons_zero, List.set_cons_succ, if_true, if_false, Nat.zero_add, Nat.sub_self, Nat.reduceAdd, Nat.reduceSub, Option.map_some, Option.map_none, Bool.not_true, Bool.not_false, Option.bind_some, nc0, nc1, nc2, nc3, nc4, Option.some.injEq, D.bl.injEq, D.int.injEq, reduceCtorEq, decide_true, decide_false, Int.reduceEq, Int.reduceNe, not_true_eq_false, not_false_eq_true, ne_eq, Int.reduceLE, Int.reduceLT, at0, at1, at2, eq_int, eq_bl, eq_sp, eq_pl, eq_fl, eq_tup, eq_pts, eq_lns, mem_pts, mem_lns, Bool.false_xor, Bool.true_xor, mod_int, fdiv_int, mul_int, Int.reduceNeg, Nat.reduceLT, Int.reduceAdd, Int.reduceMul, Int.reduceSub, and_self, or_true, true_or, reduceIte, beq_self_eq_true, Bool.and_self, Bool.true_and, Bool.and_true, Bool.false_and, Bool.and_false, Bool.or_true, Bool.true_or, Bool.or_false, Bool.false_or]
    unfold thrI at tot ⊢
    refine Nx.imp (P := fun env => ∃ x5 x6, env = [some (fldD k n), some (ptsD ps), some (lnsD (acc ++ (List.range' (z.1 + 1) (ps.length - (z.1 + 1))).flatMap fun s => ((ps.drop (s + 1)).filter (lin k n z.2 (ps.getD s []))).map fun r => [z.2, ps.getD s [], r])), some (.int (z.1 : Int)), some (tupD z.2), x5, x6]) (fun env ⟨x5, x6, e⟩ => ⟨_, _, x5, x6, e⟩) (s_accPE (g := fun (s : Nat) => D.int (s : Int)) (xs := List.range' (z.1 + 1) (ps.length - (z.1 + 1))) (fun acc env => ∃ x5 x6, env = [some (fldD k n), some (ptsD ps), some (lnsD acc), some (.int (z.1 : Int)), some (tupD z.2), x5, x6]) _ acc ?_ ⟨_, _, rfl⟩ ?_)
    · have e := small_up2 (i := z.1 + 1) (j := ps.length) (by unfold LIM; omega) (by unfold LIM; omega)
      have e2 := range_up (i := z.1 + 1) (j := ps.length) (by omega)
      rw [Int.natCast_add, nc1] at e e2
      simp only [s_nil, s_asg, s_mov, s_par, s_ifs, s_ret, s_retn, s_ex, Ss.app, nx_nx, rt_rt, zv1, zv2, zv3, zv4, zv5, zv6, zv7, zv8, zv9, zv10, zv11, zv13, zv14, zv15, zv16, zv17, zv18, zv19, zw1, zw2, zr1, zr2, zr3, zr4, zr5, zr6, zr7, gt, sub_int, add_int, le_int, gt_int, ge_int, o_lt, o_eq, o_ne, o_mem, o_nmem, o_is, o_isn, o_not, o_len, o_all, o_any, o_sum, o_sort, o_ssort, o_lst, o_tup, o_ist, i_int, i_boolI, i_boolB, i_str, i_tup, i_lst, i_tupP, i_tupF, len_tup, len_lst, len_tupP, len_F, ix_tup, ix_lst, ix_tupP, ix_F0, ix_F1, not_bl, seq_tup, seq_lst, seq_tupP, lt_int, lst_lst, tpl_lst, tpl_tup, is_bb, isn_bb, bindD, setsD, List.length_cons, List.length_nil, List.map_cons, List.map_nil, List.replicate_succ, List.replicate_zero, List.append_nil, List.cons_append, List.nil_append, List.getElem?_cons_zero, List.getElem?_cons_succ, List.set_cons_zero, List.set_cons_succ, if_true, if_false, Nat.zero_add, Nat.sub_self, Nat.reduceAdd, Nat.reduceSub, Option.map_some, Option.map_none, Bool.not_true, Bool.not_false, Option.bind_some, nc0, nc1, nc2, nc3, nc4, Option.some.injEq, D.bl.injEq, D.int.injEq, reduceCtorEq, decide_true, decide_false, Int.reduceEq, Int.reduceNe, not_true_eq_false, not_false_eq_true, ne_eq, Int.reduceLE, Int.reduceLT, at0, at1, at2, eq_int, eq_bl, eq_sp, eq_pl, eq_fl, eq_tup, eq_pts, eq_lns, mem_pts, mem_lns, Bool.false_xor, Bool.true_xor, mod_int, fdiv_int, mul_int, Int.reduceNeg, Nat.reduceLT, Int.reduceAdd, Int.reduceMul, Int.reduceSub, and_self, or_true, true_or, reduceIte, beq_self_eq_true, Bool.and_self, Bool.true_and, Bool.and_true, Bool.false_and, Bool.and_false, Bool.or_true, Bool.true_or, Bool.or_false, Bool.false_or, List.length_map, e, e2]
    · rintro pre2 s post2 hs0 env ⟨x4, x5, rfl⟩
      refine ⟨_, rfl, ?_⟩
      have hs : s ∈ List.range' (z.1 + 1) (ps.length - (z.1 + 1)) := by rw [hs0]; simp
      have hs := List.mem_range'_1.mp hs
      have hs2 : s < ps.length := by omega
      have is : isPt k n (ps.getD s []) := by
        rw [List.getD_eq_getElem?_getD, List.getElem?_eq_getElem hs2]
        exact hp _ (List.getElem_mem hs2)
      rw [hs0, List.flatMap_append, List.flatMap_cons, List.length_append, List.length_append] at tot
      generalize hacc2 : acc ++ pre2.flatMap _ = acc2 at *
      have hal2 : acc2.length = acc.length + (pre2.flatMap fun s => ((ps.drop (s + 1)).filter (lin k n z.2 (ps.getD s []))).map fun r => [z.2, ps.getD s [], r]).length := by rw [← hacc2, List.length_append]
      simp only [s_nil, s_asg, s_mov, s_par, s_ifs, s_ret, s_retn, s_ex, Ss.app, nx_nx, rt_rt, zv1, zv2, zv3, zv4, zv5, zv6, zv7, zv8, zv9, zv10, zv11, zv13, zv14, zv15, zv16, zv17, zv18, zv19, zw1, zw2, zr1, zr2, zr3, zr4, zr5, zr6, zr7, gt, sub_int, add_int, le_int, gt_int, ge_int, o_lt, o_eq, o_ne, o_mem, o_nmem, o_is, o_isn, o_not, o_len, o_all, o_any, o_sum, o_sort, o_ssort, o_lst, o_tup, o_ist, i_int, i_boolI, i_boolB, i_str, i_tup, i_lst, i_tupP, i_tupF, len_tup, len_lst, len_tupP, len_F, ix_tup, ix_lst, ix_tupP, ix_F0, ix_F1, not_bl, seq_tup, seq_lst, seq_tupP, lt_int, lst_lst, tpl_lst, tpl_tup, is_bb, isn_bb, bindD, setsD, List.length_cons, List.length_nil, List.map_cons, List.map_nil, List.replicate_succ, List.replicate_zero, List.append_nil, List.cons_append, List.nil_append, List.getElem?_cons_zero, List.getElem?_cons_succ, List.set_cons_zero, List.set_cons_succ, if_true, if_false, Nat.zero_add, Nat.sub_self, Nat.reduceAdd, Nat.reduceSub, Option.map_some, Option.map_none, Bool.not_true, Bool.not_false, Option.bind_some, nc0, nc1, nc2, nc3, nc4, Option.some.injEq, D.bl.injEq, D.int.injEq, reduceCtorEq, decide_true, decide_false, Int.reduceEq, Int.reduceNe, not_true_eq_false, not_false_eq_true, ne_eq, Int.reduceLE, Int.reduceLT, at0, at1, at2, eq_int, eq_bl, eq_sp, eq_pl, eq_fl, eq_tup, eq_pts, eq_lns, mem_pts, mem_lns, Bool.false_xor, Bool.true_xor, mod_int, fdiv_int, mul_int, Int.reduceNeg, Nat.reduceLT, Int.reduceAdd, Int.reduceMul, Int.reduceSub, and_self, or_true, true_or, reduceIte, beq_self_eq_true, Bool.and_self, Bool.true_and, Bool.and_true, Bool.false_and, Bool.and_false, Bool.or_true, Bool.true_or, Bool.or_false, Bool.false_or]
      have eqf : ∀ xs : List Pt, (xs.filter (lin k n z.2 (ps.getD s []))).map (fun r => [z.2, ps.getD s [], r]) = xs.flatMap fun r => if lin k n z.2 (ps.getD s []) r then [[z.2, ps.getD s [], r]] else [] := by
        intro xs
        induction xs with
        | nil => rfl
        | cons x xs ih =>
          rw [List.flatMap_cons, ← ih, List.filter_cons]
          cases lin k n z.2 (ps.getD s []) x <;> rfl
      rw [eqf] at tot ⊢
      refine Nx.imp (P := fun env => ∃ x6, env = [some (fldD k n), some (ptsD ps), some (lnsD (acc2 ++ (ps.drop (s + 1)).flatMap fun r => if lin k n z.2 (ps.getD s []) r then [[z.2, ps.getD s [], r]] else [])), some (.int (z.1 : Int)), some (tupD z.2), some (.int (s : Int)), x6]) (fun env ⟨x6, e⟩ => ⟨_, x6, e⟩) (s_accPE (g := tupD) (xs := ps.drop (s + 1)) (fun acc env => ∃ x6, env = [some (fldD k n), some (ptsD ps), some (lnsD acc), some (.int (z.1 : Int)), some (tupD z.2), some (.int (s : Int)), x6]) _ acc2 ?_ ⟨_, rfl⟩ ?_)
      · simp only [s_nil, s_asg, s_mov, s_par, s_ifs, s_ret, s_retn, s_ex, Ss.app, nx_nx, rt_rt, zv1, zv2, zv3, zv4, zv5, zv6, zv7, zv8, zv9, zv10, zv11, zv13, zv14, zv15, zv16, zv17, zv18, zv19, zw1, zw2, zr1, zr2, zr3, zr4, zr5, zr6, zr7, gt, sub_int, add_int, le_int, gt_int, ge_int, o_lt, o_eq, o_ne, o_mem, o_nmem, o_is, o_isn, o_not, o_len, o_all, o_any, o_sum, o_sort, o_ssort, o_lst, o_tup, o_ist, i_int, i_boolI, i_boolB, i_str, i_tup, i_lst, i_tupP, i_tupF, len_tup, len_lst, len_tupP, len_F, ix_tup, ix_lst, ix_tupP, ix_F0, ix_F1, not_bl, seq_tup, seq_lst, seq_tupP, lt_int, lst_lst, tpl_lst, tpl_tup, is_bb, isn_bb, bindD, setsD, List.length_cons, List.length_nil, List.map_cons, List.map_nil, List.replicate_succ, List.replicate_zero, List.append_nil, List.cons_append, List.nil_append, List.getElem?_cons_zero, List.getElem?_cons_succ, List.set_cons_zero, List.set_cons_succ, if_true, if_false, Nat.zero_add, Nat.sub_self, Nat.reduceAdd, Nat.reduceSub, Option.map_some, Option.map_none, Bool.not_true, Bool.not_false, Option.bind_some, nc0, nc1, nc2, nc3, nc4, Option.some.injEq, D.bl.injEq, D.int.injEq, reduceCtorEq, decide_true, decide_false, Int.reduceEq, Int.reduceNe, not_true_eq_false, not_false_eq_true, ne_eq, Int.reduceLE, Int.reduceLT, at0, at1, at2, eq_int, eq_bl, eq_sp, eq_pl, eq_fl, eq_tup, eq_pts, eq_lns, mem_pts, mem_lns, Bool.false_xor, Bool.true_xor, mod_int, fdiv_int, mul_int, Int.reduceNeg, Nat.reduceLT, Int.reduceAdd, Int.reduceMul, Int.reduceSub, and_self, or_true, true_or, reduceIte, beq_self_eq_true, Bool.and_self, Bool.true_and, Bool.and_true, Bool.false_and, Bool.and_false, Bool.or_true, Bool.true_or, Bool.or_false, Bool.false_or, sl_drop]
      · rintro pre3 r post3 hr0 env ⟨x6, rfl⟩
        refine ⟨_, rfl, ?_⟩
        have hr : r ∈ ps.drop (s + 1) := by rw [hr0]; simp
        have ir := hp r (List.mem_of_mem_drop hr)
        rw [hr0, List.flatMap_append, List.length_append] at tot
        simp only [s_nil, s_asg, s_mov, s_par, s_ifs, s_ret, s_retn, s_ex, Ss.app, nx_nx, rt_rt, zv1, zv2, zv3, zv4, zv5, zv6, zv7, zv8, zv9, zv10, zv11, zv13, zv14, zv15, zv16, zv17, zv18, zv19, zw1, zw2, zr1, zr2, zr3, zr4, zr5, zr6, zr7, gt, sub_int, add_int, le_int, gt_int, ge_int, o_lt, o_eq, o_ne, o_mem, o_nmem, o_is, o_isn, o_not, o_len, o_all, o_any, o_sum, o_sort, o_ssort, o_lst, o_tup, o_ist, i_int, i_boolI, i_boolB, i_str, i_tup, i_lst, i_tupP, i_tupF, len_tup, len_lst, len_tupP, len_F, ix_tup, ix_lst, ix_tupP, ix_F0, ix_F1, not_bl, seq_tup, seq_lst, seq_tupP, lt_int, lst_lst, tpl_lst, tpl_tup, is_bb, isn_bb, bindD, setsD, List.length_cons, List.length_nil, List.map_cons, List.map_nil, List.replicate_succ, List.replicate_zero, List.append_nil, List.cons_append, List.nil_append, List.getElem?_cons_zero, List.getElem?_cons_succ, List.set_cons_zero, List.set_cons_succ, if_true, if_false, Nat.zero_add, Nat.sub_self, Nat.reduceAdd, Nat.reduceSub, Option.map_some, Option.map_none, Bool.not_true, Bool.not_false, Option.bind_some, nc0, nc1, nc2, nc3, nc4, Option.some.injEq, D.bl.injEq, D.int.injEq, reduceCtorEq, decide_true, decide_false, Int.reduceEq, Int.reduceNe, not_true_eq_false, not_false_eq_true, ne_eq, Int.reduceLE, Int.reduceLT, at0, at1, at2, eq_int, eq_bl, eq_sp, eq_pl, eq_fl, eq_tup, eq_pts, eq_lns, mem_pts, mem_lns, Bool.false_xor, Bool.true_xor, mod_int, fdiv_int, mul_int, Int.reduceNeg, Nat.reduceLT, Int.reduceAdd, Int.reduceMul, Int.reduceSub, and_self, or_true, true_or, reduceIte, beq_self_eq_true, Bool.and_self, Bool.true_and, Bool.and_true, Bool.false_and, Bool.and_false, Bool.or_true, Bool.true_or, Bool.or_false, Bool.false_or, ix_pts hs2, q10 A hf z2 is ir, q19 A hf z2 is ir]
        cases lin k n z.2 (ps.getD s []) r with
        | true =>
          simp only [s_nil, s_asg, s_mov, s_par, s_ifs, s_ret, s_retn, s_ex, Ss.app, nx_nx, rt_rt, zv1, zv2, zv3, zv4, zv5, zv6, zv7, zv8, zv9, zv10, zv11, zv13, zv14, zv15, zv16, zv17, zv18, zv19, zw1, zw2, zr1, zr2, zr3, zr4, zr5, zr6, zr7, gt, sub_int, add_int, le_int, gt_int, ge_int, o_lt, o_eq, o_ne, o_mem, o_nmem, o_is, o_isn, o_not, o_len, o_all, o_any, o_sum, o_sort, o_ssort, o_lst, o_tup, o_ist, i_int, i_boolI, i_boolB, i_str, i_tup, i_lst, i_tupP, i_tupF, len_tup, len_lst, len_tupP, len_F, ix_tup, ix_lst, ix_tupP, ix_F0, ix_F1, not_bl, seq_tup, seq_lst, seq_tupP, lt_int, lst_lst, tpl_lst, tpl_tup, is_bb, isn_bb, bindD, setsD, List.length_cons, List.length_nil, List.map_cons, List.map_nil, List.replicate_succ, List.replicate_zero, List.append_nil, List.cons_append, List.nil_append, List.getElem?_cons_zero, List.getElem?_cons_succ, List.set_cons_zero, List.set_cons_succ, if_true, if_false, Nat.zero_add, Nat.sub_self, Nat.reduceAdd, Nat.reduceSub, Option.map_some, Option.map_none, Bool.not_true, Bool.not_false, Option.bind_some, nc0, nc1, nc2, nc3, nc4, Option.some.injEq, D.bl.injEq, D.int.injEq, reduceCtorEq, decide_true, decide_false, Int.reduceEq, Int.reduceNe, not_true_eq_false, not_false_eq_true, ne_eq, Int.reduceLE, Int.reduceLT, at0, at1, at2, eq_int, eq_bl, eq_sp, eq_pl, eq_fl, eq_tup, eq_pts, eq_lns, mem_pts, mem_lns, Bool.false_xor, Bool.true_xor, mod_int, fdiv_int, mul_int, Int.reduceNeg, Nat.reduceLT, Int.reduceAdd, Int.reduceMul, Int.reduceSub, and_self, or_true, true_or, reduceIte, beq_self_eq_true, Bool.and_self, Bool.true_and, Bool.and_true, Bool.false_and, Bool.and_false, Bool.or_true, Bool.true_or, Bool.or_false, Bool.false_or]
          rw [s_app (d := ptsD [z.2, ps.getD s [], r]) rfl (by simp only [s_nil, s_asg, s_mov, s_par, s_ifs, s_ret, s_retn, s_ex, Ss.app, nx_nx, rt_rt, zv1, zv2, zv3, zv4, zv5, zv6, zv7, zv8, zv9, zv10, zv11, zv13, zv14, zv15, zv16, zv17, zv18, zv19, zw1, zw2, zr1, zr2, zr3, zr4, zr5, zr6, zr7, gt, sub_int, add_int, le_int, gt_int, ge_int, o_lt, o_eq, o_ne, o_mem, o_nmem, o_is, o_isn, o_not, o_len, o_all, o_any, o_sum, o_sort, o_ssort, o_lst, o_tup, o_ist, i_int, i_boolI, i_boolB, i_str, i_tup, i_lst, i_tupP, i_tupF, len_tup, len_lst, len_tupP, len_F, ix_tup, ix_lst, ix_tupP, ix_F0, ix_F1, not_bl, seq_tup, seq_lst, seq_tupP, lt_int, lst_lst, tpl_lst, tpl_tup, is_bb, isn_bb, bindD, setsD, List.length_cons, List.length_nil, List.map_cons, List.map_nil, List.replicate_succ, List.replicate_zero, List.append_nil, List.cons_append, List.nil_append, List.getElem?_cons_zero, List.getElem?_cons_succ, List.set_cons_zero, List.set_cons_succ, if_true, if_false, Nat.zero_add, Nat.sub_self, Nat.reduceAdd, Nat.reduceSub, Option.map_some, Option.map_none, Bool.not_true, Bool.not_false, Option.bind_some, nc0, nc1, nc2, nc3, nc4, Option.some.injEq, D.bl.injEq, D.int.injEq, reduceCtorEq, decide_true, decide_false, Int.reduceEq, Int.reduceNe, not_true_eq_false, not_false_eq_true, ne_eq, Int.reduceLE, Int.reduceLT, at0, at1, at2, eq_int, eq_bl, eq_sp, eq_pl, eq_fl, eq_tup, eq_pts, eq_lns, mem_pts, mem_lns, Bool.false_xor, Bool.true_xor, mod_int, fdiv_int, mul_int, Int.reduceNeg, Nat.reduceLT, Int.reduceAdd, Int.reduceMul, Int.reduceSub, and_self, or_true, true_or, reduceIte, beq_self_eq_true, Bool.and_self, Bool.true_and, Bool.and_true, Bool.false_and, Bool.and_false, Bool.or_true, Bool.true_or, Bool.or_false, Bool.false_or, ix_pts hs2]; rfl) (by rw [List.length_map, List.length_append]; omega)]
          simp only [s_nil, s_asg, s_mov, s_par, s_ifs, s_ret, s_retn, s_ex, Ss.app, nx_nx, rt_rt, zv1, zv2, zv3, zv4, zv5, zv6, zv7, zv8, zv9, zv10, zv11, zv13, zv14, zv15, zv16, zv17, zv18, zv19, zw1, zw2, zr1, zr2, zr3, zr4, zr5, zr6, zr7, gt, sub_int, add_int, le_int, gt_int, ge_int, o_lt, o_eq, o_ne, o_mem, o_nmem, o_is, o_isn, o_not, o_len, o_all, o_any, o_sum, o_sort, o_ssort, o_lst, o_tup, o_ist, i_int, i_boolI, i_boolB, i_str, i_tup, i_lst, i_tupP, i_tupF, len_tup, len_lst, len_tupP, len_F, ix_tup, ix_lst, ix_tupP, ix_F0, ix_F1, not_bl, seq_tup, seq_lst, seq_tupP, lt_int, lst_lst, tpl_lst, tpl_tup, is_bb, isn_bb, bindD, setsD, List.length_cons, List.length_nil, List.map_cons, List.map_nil, List.replicate_succ, List.replicate_zero, List.append_nil, List.cons_append, List.nil_append, List.getElem?_cons_zero, List.getElem?_cons_succ, List.set_cons_zero, List.set_cons_succ, if_true, if_false, Nat.zero_add, Nat.sub_self, Nat.reduceAdd, Nat.reduceSub, Option.map_some, Option.map_none, Bool.not_true, Bool.not_false, Option.bind_some, nc0, nc1, nc2, nc3, nc4, Option.some.injEq, D.bl.injEq, D.int.injEq, reduceCtorEq, decide_true, decide_false, Int.reduceEq, Int.reduceNe, not_true_eq_false, not_false_eq_true, ne_eq, Int.reduceLE, Int.reduceLT, at0, at1, at2, eq_int, eq_bl, eq_sp, eq_pl, eq_fl, eq_tup, eq_pts, eq_lns, mem_pts, mem_lns, Bool.false_xor, Bool.true_xor, mod_int, fdiv_int, mul_int, Int.reduceNeg, Nat.reduceLT, Int.reduceAdd, Int.reduceMul, Int.reduceSub, and_self, or_true, true_or, reduceIte, beq_self_eq_true, Bool.and_self, Bool.true_and, Bool.and_true, Bool.false_and, Bool.and_false, Bool.or_true, Bool.true_or, Bool.or_false, Bool.false_or]
          exact ⟨_, by rw [lns_snoc]⟩
        | false =>
          simp only [s_nil, s_asg, s_mov, s_par, s_ifs, s_ret, s_retn, s_ex, Ss.app, nx_nx, rt_rt, zv1, zv2, zv3, zv4, zv5, zv6, zv7, zv8, zv9, zv10, zv11, zv13, zv14, zv15, zv16, zv17, zv18, zv19, zw1, zw2, zr1, zr2, zr3, zr4, zr5, zr6, zr7, gt, sub_int, add_int, le_int, gt_int, ge_int, o_lt, o_eq, o_ne, o_mem, o_nmem, o_is, o_isn, o_not, o_len, o_all, o_any, o_sum, o_sort, o_ssort, o_lst, o_tup, o_ist, i_int, i_boolI, i_boolB, i_str, i_tup, i_lst, i_tupP, i_tupF, len_tup, len_lst, len_tupP, len_F, ix_tup, ix_lst, ix_tupP, ix_F0, ix_F1, not_bl, seq_tup, seq_lst, seq_tupP, lt_int, lst_lst, tpl_lst, tpl_tup, is_bb, isn_bb, bindD, setsD, List.length_cons, List.length_nil, List.map_cons, List.map_nil, List.replicate_succ, List.replicate_zero, List.append_nil, List.cons_append, List.nil_append, List.getElem?_cons_zero, List.getElem?_cons_succ, List.set_cons_zero, List.set_cons_succ, if_true, if_false, Nat.zero_add, Nat.sub_self, Nat.reduceAdd, Nat.reduceSub, Option.map_some, Option.map_none, Bool.not_true, Bool.not_false, Option.bind_some, nc0, nc1, nc2, nc3, nc4, Option.some.injEq, D.bl.injEq, D.int.injEq, reduceCtorEq, decide_true, decide_false, Int.reduceEq, Int.reduceNe, not_true_eq_false, not_false_eq_true, ne_eq, Int.reduceLE, Int.reduceLT, at0, at1, at2, eq_int, eq_bl, eq_sp, eq_pl, eq_fl, eq_tup, eq_pts, eq_lns, mem_pts, mem_lns, Bool.false_xor, Bool.true_xor, mod_int, fdiv_int, mul_int, Int.reduceNeg, Nat.reduceLT, Int.reduceAdd, Int.reduceMul, Int.reduceSub, and_self, or_true, true_or, reduceIte, beq_self_eq_true, Bool.and_self, Bool.true_and, Bool.and_true, Bool.false_and, Bool.and_false, Bool.or_true, Bool.true_or, Bool.or_false, Bool.false_or]
          exact ⟨_, rfl⟩
  · rintro env ⟨x3, x4, x5, x6, rfl⟩
    simp only [s_nil, s_asg, s_mov, s_par, s_ifs, s_ret, s_retn, s_ex, Ss.app, nx_nx, rt_rt, zv1, zv2, zv3, zv4, zv5, zv6, zv7, zv8, zv9, zv10, zv11, zv13, zv14, zv15, zv16, zv17, zv18, zv19, zw1, zw2, zr1, zr2, zr3, zr4, zr5, zr6, zr7, gt, sub_int, add_int, le_int, gt_int, ge_int, o_lt, o_eq, o_ne, o_mem, o_nmem, o_is, o_isn, o_not, o_len, o_all, o_any, o_sum, o_sort, o_ssort, o_lst, o_tup, o_ist, i_int, i_boolI, i_boolB, i_str, i_tup, i_lst, i_tupP, i_tupF, len_tup, len_lst, len_tupP, len_F, ix_tup, ix_lst, ix_tupP, ix_F0, ix_F1, not_bl, seq_tup, seq_lst, seq_tupP, lt_int, lst_lst, tpl_lst, tpl_tup, is_bb, isn_bb, bindD, setsD, List.length_cons, List.length_nil, List.map_cons, List.map_nil, List.replicate_succ, List.replicate_zero, List.append_nil, List.cons_append, List.nil_append, List.getElem?_cons_zero, List.getElem?_cons_succ, List.set_cons_zero, List.set_cons_succ, if_true, if_false, Nat.zero_add, Nat.sub_self, Nat.reduceAdd, Nat.reduceSub, Option.map_some, Option.map_none, Bool.not_true, Bool.not_false, Option.bind_some, nc0, nc1, nc2, nc3, nc4, Option.some.injEq, D.bl.injEq, D.int.injEq, reduceCtorEq, decide_true, decide_false, Int.reduceEq, Int.reduceNe, not_true_eq_false, not_false_eq_true, ne_eq, Int.reduceLE, Int.reduceLT, at0, at1, at2, eq_int, eq_bl, eq_sp, eq_pl, eq_fl, eq_tup, eq_pts, eq_lns, mem_pts, mem_lns, Bool.false_xor, Bool.true_xor, mod_int, fdiv_int, mul_int, Int.reduceNeg, Nat.reduceLT, Int.reduceAdd, Int.reduceMul, Int.reduceSub, and_self, or_true, true_or, reduceIte, beq_self_eq_true, Bool.and_self, Bool.true_and, Bool.and_true, Bool.false_and, Bool.and_false, Bool.or_true, Bool.true_or, Bool.or_false, Bool.false_or]
end
end Nt

set_option Elab.async false
set_option linter.all false
set_option maxRecDepth 100000
set_option maxHeartbeats 4000000
/-! The order of points; points in a line; clear points. -/
namespace Nt
open PySem PySem.Spec PyProof.Rows L2
abbrev Lx (a b : Pt) : Prop := HT.lexLt a b = true
theorem lex_irr : ∀ a : Pt, HT.lexLt a a = false
  | [] => rfl
  | x :: a => by rw [HT.lexLt_cons, if_pos rfl]; exact lex_irr a
theorem lex_ne {a b : Pt} (h : Lx a b) : a ≠ b := fun e => by
  subst e
  have := lex_irr a
  rw [show HT.lexLt a a = true from h] at this
  cases this
theorem lex_tr : ∀ {a b c : Pt}, Lx a b → Lx b c → Lx a c
  | [], [], _, h, _ => by cases h
  | _ :: _, [], _, h, _ => by cases h
  | _, _ :: _, [], _, h => by cases h
  | [], _ :: _, _ :: _, _, _ => rfl
  | x :: a, y :: b, z :: c, h1, h2 => by
    have h1 : HT.lexLt (x :: a) (y :: b) = true := h1
    have h2 : HT.lexLt (y :: b) (z :: c) = true := h2
    show HT.lexLt (x :: a) (z :: c) = true
    rw [HT.lexLt_cons] at h1 h2 ⊢
    by_cases e1 : x = y
    · subst e1
      rw [if_pos rfl] at h1
      by_cases e2 : x = z
      · subst e2
        rw [if_pos rfl] at h2 ⊢
        exact lex_tr h1 h2
      · rw [if_neg e2] at h2 ⊢
        exact h2
    · rw [if_neg e1] at h1
      have h1 := of_decide_eq_true h1
      by_cases e2 : y = z
      · subst e2
        rw [if_neg e1]
        exact decide_eq_true h1
      · rw [if_neg e2] at h2
        have h2 := of_decide_eq_true h2
        rw [if_neg (by omega)]
        exact decide_eq_true (by omega)
theorem lex_tri : ∀ a b : Pt, Lx a b ∨ a = b ∨ Lx b a
  | [], [] => .inr (.inl rfl)
  | [], _ :: _ => .inl rfl
  | _ :: _, [] => .inr (.inr rfl)
  | x :: a, y :: b => by
    show HT.lexLt (x :: a) (y :: b) = true ∨ _ ∨ HT.lexLt (y :: b) (x :: a) = true
    rw [HT.lexLt_cons, HT.lexLt_cons]
    by_cases e : x = y
    · subst e
      rw [if_pos rfl, if_pos rfl]
      rcases lex_tri a b with h | h | h
      · exact .inl h
      · exact .inr (.inl (by rw [h]))
      · exact .inr (.inr h)
    · rw [if_neg e, if_neg (fun h => e h.symm)]
      rcases Int.lt_or_gt_of_ne e with h | h
      · exact .inl (decide_eq_true h)
      · exact .inr (.inr (decide_eq_true h))
theorem lex_asym {a b : Pt} (h : Lx a b) (h2 : Lx b a) : False := lex_ne (lex_tr h h2) rfl
theorem asc_pw : ∀ {ps : List Pt}, asc ps = true ↔ ps.Pairwise Lx
  | [] => ⟨fun _ => .nil, fun _ => rfl⟩
  | [_] => ⟨fun _ => List.pairwise_singleton .., fun _ => rfl⟩
  | x :: y :: ys => by
    rw [asc_cons, Bool.and_eq_true, asc_pw (ps := y :: ys)]
    constructor
    · rintro ⟨h1, h2⟩
      refine List.pairwise_cons.mpr ⟨fun z hz => ?_, h2⟩
      rcases List.mem_cons.mp hz with rfl | hz
      · exact h1
      · exact lex_tr h1 ((List.pairwise_cons.mp h2).1 z hz)
    · intro h
      exact ⟨(List.pairwise_cons.mp h).1 y (List.mem_cons_self ..), (List.pairwise_cons.mp h).2⟩
theorem areP_iff {k : Kd} {n : Int} {ps : List Pt} : areP k n ps = true ↔ (∀ p ∈ ps, isPt k n p) ∧ ps.Pairwise Lx := by
  unfold areP
  rw [Bool.and_eq_true, asc_pw, List.all_eq_true]
  exact and_congr_left fun _ => ⟨fun h p m => of_decide_eq_true (h p m), fun h p m => decide_eq_true (h p m)⟩
theorem sub_of_mem : ∀ {xs ys : List Pt}, xs.Pairwise Lx → ys.Pairwise Lx → (∀ x ∈ xs, x ∈ ys) → xs.Sublist ys
  | [], _, _, _, _ => List.nil_sublist _
  | x :: xs, [], _, _, h => by cases h x (List.mem_cons_self ..)
  | x :: xs, y :: ys, h1, h2, h => by
    have g1 := List.pairwise_cons.mp h1
    have g2 := List.pairwise_cons.mp h2
    by_cases e : x = y
    · subst e
      refine List.Sublist.cons_cons x (sub_of_mem g1.2 g2.2 fun z hz => ?_)
      rcases List.mem_cons.mp (h z (List.mem_cons_of_mem _ hz)) with e | e
      · exact absurd e.symm (lex_ne (g1.1 z hz))
      · exact e
    · have hx : x ∈ ys := by
        rcases List.mem_cons.mp (h x (List.mem_cons_self ..)) with q | q
        · exact absurd q e
        · exact q
      refine (sub_of_mem h1 g2.2 fun z hz => ?_).cons y
      rcases List.mem_cons.mp (h z hz) with q | q
      · have lt := g2.1 x hx
        rcases List.mem_cons.mp hz with w | w
        · exact absurd (w.symm.trans q) e
        · exact (lex_asym lt (by rw [← q]; exact g1.1 z w)).elim
      · exact q
theorem three_sub {ps : List Pt} (h : ps.Pairwise Lx) {p q r : Pt} : [p, q, r].Sublist ps ↔ (p ∈ ps ∧ q ∈ ps ∧ r ∈ ps) ∧ Lx p q ∧ Lx q r := by
  constructor
  · intro s
    have hs := h.sublist s
    have m := s.subset
    refine ⟨⟨m (by simp), m (by simp), m (by simp)⟩, ?_⟩
    have h1 := List.pairwise_cons.mp hs
    have h2 := List.pairwise_cons.mp h1.2
    exact ⟨h1.1 q (by simp), h2.1 r (by simp)⟩
  · rintro ⟨⟨h1, h2, h3⟩, l1, l2⟩
    refine sub_of_mem ?_ h fun x hx => ?_
    · refine List.pairwise_cons.mpr ⟨fun z hz => ?_, List.pairwise_cons.mpr ⟨fun z hz => ?_, List.pairwise_singleton ..⟩⟩
      · rcases List.mem_cons.mp hz with rfl | hz
        · exact l1
        · rw [List.mem_singleton.mp hz]; exact lex_tr l1 l2
      · rw [List.mem_singleton.mp hz]; exact l2
    · rcases List.mem_cons.mp hx with rfl | hx
      · exact h1
      · rcases List.mem_cons.mp hx with rfl | hx
        · exact h2
        · rw [List.mem_singleton.mp hx]; exact h3
section
variable {k : Kd} {n : Int}
/-- Line.shows -/
def shL (k : Kd) (n : Int) (t ps : List Pt) : Bool := decide (t.length = 3) && (areP k n t && (t.all (fun p => decide (p ∈ ps)) && lin k n (t.getD 0 []) (t.getD 1 []) (t.getD 2 [])))
theorem shL_eq {t ps : List Pt} (h : areP k n ps = true) : shL k n t ps = decide (t ∈ thr k n ps) := by
  have hp := areP_iff.mp h
  unfold shL
  rw [Bool.eq_iff_iff]
  simp only [Bool.and_eq_true, decide_eq_true_eq]
  rw [mem_thr]
  constructor
  · rintro ⟨h1, h2, h3, h4⟩
    match t, h1, h2, h3, h4 with
    | [p, q, r], _, h2, h3, h4 =>
      have g := areP_iff.mp h2
      have h3 : ∀ x ∈ [p, q, r], x ∈ ps := fun x hx => of_decide_eq_true (List.all_eq_true.mp h3 x hx)
      exact ⟨p, q, r, rfl, sub_of_mem g.2 hp.2 h3, h4⟩
  · rintro ⟨p, q, r, rfl, s, l⟩
    have m := s.subset
    exact ⟨rfl, areP_iff.mpr ⟨fun x hx => hp.1 x (m hx), hp.2.sublist s⟩, List.all_eq_true.mpr fun x hx => decide_eq_true (m hx), l⟩
end
/-! ### a line's points in another turn -/
section
variable {k : Kd} {n : Int} {p q r : Pt}
theorem lin3_sw12 : ∀ {p q r : Pt}, p.length = q.length → lin3 p q r = lin3 q p r
  | [], [], _, _ => rfl
  | a :: p, b :: q, [], _ => by simp [lin3]
  | a :: p, b :: q, c :: r, h => by
    have ih := lin3_sw12 (p := p) (q := q) (r := r) (by simpa using h)
    unfold lin3 at ih ⊢
    simp only [List.zip_cons_cons, List.all_cons, ih, Int.add_comm a b]
theorem lin3_sw23 : ∀ {p q r : Pt}, q.length = r.length → lin3 p q r = lin3 p r q
  | [], _, _, _ => by simp [lin3]
  | a :: p, [], [], _ => rfl
  | a :: p, b :: q, c :: r, h => by
    have ih := lin3_sw23 (p := p) (q := q) (r := r) (by simpa using h)
    unfold lin3 at ih ⊢
    simp only [List.zip_cons_cons, List.all_cons, ih]
    rw [show a + b + c = a + c + b by omega]
theorem span_sw12 : span q p r = -span p q r := by unfold span; grind
theorem span_sw23 : span p r q = -span p q r := by unfold span; grind
theorem fmod_neg_zero {a b : Int} : (-a).fmod b = 0 ↔ a.fmod b = 0 := by
  rw [← Int.dvd_iff_fmod_eq_zero, ← Int.dvd_iff_fmod_eq_zero, Int.dvd_neg]
theorem lin_sw12 (h1 : isPt k n p) (h2 : isPt k n q) : lin k n p q r = lin k n q p r := by
  cases k
  · exact lin3_sw12 (by have := h1.1; have := h2.1; omega)
  · show decide _ = decide _
    rw [span_sw12]
    exact decide_eq_decide.mpr fmod_neg_zero
  · show decide _ = decide _
    rw [span_sw12]
    exact decide_eq_decide.mpr (by omega)
theorem lin_sw23 (h1 : isPt k n q) (h2 : isPt k n r) : lin k n p q r = lin k n p r q := by
  cases k
  · exact lin3_sw23 (by have := h1.1; have := h2.1; omega)
  · show decide _ = decide _
    rw [span_sw23]
    exact decide_eq_decide.mpr fmod_neg_zero
  · show decide _ = decide _
    rw [span_sw23]
    exact decide_eq_decide.mpr (by omega)
end
/-! ### clear points -/
section
variable {k : Kd} {n : Int} {ps : List Pt} {p q r : Pt}
def clr (k : Kd) (n : Int) (ps : List Pt) : Prop := ∀ p q r, [p, q, r].Sublist ps → lin k n p q r = false
theorem clr_iff : thr k n ps = [] ↔ clr k n ps := by
  rw [List.eq_nil_iff_forall_not_mem]
  constructor
  · intro h p q r s
    cases e : lin k n p q r with
    | false => rfl
    | true => exact absurd (mem_thr.mpr ⟨p, q, r, rfl, s, e⟩) (h _)
  · intro h l m
    obtain ⟨p, q, r, rfl, s, e⟩ := mem_thr.mp m
    rw [h p q r s] at e
    cases e
theorem clr.sub {qs : List Pt} (h : clr k n ps) (s : qs.Sublist ps) : clr k n qs := fun p q r t => h p q r (t.trans s)
/-- any three unlike points of clear ones -/
theorem clr.any (h : clr k n ps) (a : areP k n ps = true) (h1 : p ∈ ps) (h2 : q ∈ ps) (h3 : r ∈ ps) (n1 : p ≠ q) (n2 : p ≠ r) (n3 : q ≠ r) : lin k n p q r = false := by
  obtain ⟨hi, hs⟩ := areP_iff.mp a
  have i1 := hi p h1
  have i2 := hi q h2
  have i3 := hi r h3
  have base : ∀ {x y z : Pt}, x ∈ ps → y ∈ ps → z ∈ ps → Lx x y → Lx y z → lin k n x y z = false := fun a b c d e => h _ _ _ ((three_sub hs).mpr ⟨⟨a, b, c⟩, d, e⟩)
  rcases lex_tri p q with a | a | a
  · rcases lex_tri q r with b | b | b
    · exact base h1 h2 h3 a b
    · exact absurd b n3
    · rcases lex_tri p r with c | c | c
      · rw [lin_sw23 i2 i3]; exact base h1 h3 h2 c b
      · exact absurd c n2
      · rw [lin_sw23 i2 i3, lin_sw12 i1 i3]; exact base h3 h1 h2 c a
  · exact absurd a n1
  · rcases lex_tri p r with b | b | b
    · rw [lin_sw12 i1 i2]; exact base h2 h1 h3 a b
    · exact absurd b n2
    · rcases lex_tri q r with c | c | c
      · rw [lin_sw12 i1 i2, lin_sw23 i1 i3]; exact base h2 h3 h1 c b
      · exact absurd c n3
      · rw [lin_sw12 i1 i2, lin_sw23 i1 i3, lin_sw12 i2 i3]; exact base h3 h2 h1 c a
end
end Nt

set_option Elab.async false
set_option linter.all false
set_option maxRecDepth 100000
set_option maxHeartbeats 4000000
/-! Answers, judged; the law's points. -/
namespace Nt
open PySem PySem.Spec PyProof.Rows L2
/-- what judged says -/
def judD (l : List (List Pt)) : D := match l with
  | [] => .ins 1 []
  | t :: _ => .ins 2 [ptsD t]
theorem eq_self_pts (ps : List Pt) : eqD (.lst (ps.map tupD)) (.lst (ps.map tupD)) = some true := (eq_pts ps ps).trans (by simp)
theorem areP_pts {k : Kd} {n : Int} {ps : List Pt} (hf : okF k n) (h : areP k n ps = true) : ∀ p ∈ ps, p.length ≤ LIM := fun p m => by
  have := isPt_len hf ((areP_iff.mp h).1 p m)
  unfold LIM
  omega
section
variable {T : Tb} (A : HA T) (B : HB T) (Z1 : C1 T) (Z2 : C2 T) {m : Nat} {k : Kd} {n : Int}
theorem q33 (h33 : T.fns[33]? = some fn33) {i : Int} : run T (m + 1) 33 [.int i] = some (.bl true) := by
  refine run_r h33 rfl ?_
  simp only [fn33, s_nil, s_asg, s_mov, s_par, s_ifs, s_ret, s_retn, s_ex, Ss.app, nx_nx, rt_rt, zv1, zv2, zv3, zv4, zv5, zv6, zv7, zv8, zv9, zv10, zv11, zv13, zv14, zv15, zv16, zv17, zv18, zv19, zw1, zw2, zr1, zr2, zr3, zr4, zr5, zr6, zr7, gt, sub_int, add_int, le_int, gt_int, ge_int, o_lt, o_eq, o_ne, o_mem, o_nmem, o_is, o_isn, o_not, o_len, o_all, o_any, o_sum, o_sort, o_ssort, o_lst, o_tup, o_ist, i_int, i_boolI, i_boolB, i_str, i_tup, i_lst, i_tupP, i_tupF, len_tup, len_lst, len_tupP, len_F, ix_tup, ix_lst, ix_tupP, ix_F0, ix_F1, not_bl, seq_tup, seq_lst, seq_tupP, lt_int, lst_lst, tpl_lst, tpl_tup, is_bb, isn_bb, bindD, setsD, List.length_cons, List.length_nil, List.map_cons, List.map_nil, List.replicate_succ, List.replicate_zero, List.append_nil, List.cons_append, List.nil_append, List.getElem?_cons_zero, List.getElem?_cons_succ, List.set_cons_zero, List.set_cons_succ, if_true, if_false, Nat.zero_add, Nat.sub_self, Nat.reduceAdd, Nat.reduceSub, Option.map_some, Option.map_none, Bool.not_true, Bool.not_false, Option.bind_some, nc0, nc1, nc2, nc3, nc4, Option.some.injEq, D.bl.injEq, D.int.injEq, reduceCtorEq, decide_true, decide_false, Int.reduceEq, Int.reduceNe, not_true_eq_false, not_false_eq_true, ne_eq, Int.reduceLE, Int.reduceLT, at0, at1, at2, eq_int, eq_bl, eq_sp, eq_pl, eq_fl, eq_tup, eq_pts, eq_lns, mem_pts, mem_lns, Bool.false_xor, Bool.true_xor, mod_int, fdiv_int, mul_int, Int.reduceNeg, Nat.reduceLT, Int.reduceAdd, Int.reduceMul, Int.reduceSub, and_self, or_true, true_or, reduceIte, beq_self_eq_true, Bool.and_self, Bool.true_and, Bool.and_true, Bool.false_and, Bool.and_false, Bool.or_true, Bool.true_or, Bool.or_false, Bool.false_or]
include A
theorem q25 (h22 : T.fns[22]? = some fn22) (h25 : T.fns[25]? = some fn25) (hf : okF k n) {fs : List D} (ps : List Pt) (hl : ps.length ≤ 100000) (hp : ∀ p ∈ ps, isPt k n p) : run T (m + 3) 25 [.ins 1 fs, fldD k n, ptsD ps] = some (.bl (decide (thr k n ps = []))) := by
  refine run_r h25 rfl ?_
  simp only [fn25, s_nil, s_asg, s_mov, s_par, s_ifs, s_ret, s_retn, s_ex, Ss.app, nx_nx, rt_rt, zv1, zv2, zv3, zv4, zv5, zv6, zv7, zv8, zv9, zv10, zv11, zv13, zv14, zv15, zv16, zv17, zv18, zv19, zw1, zw2, zr1, zr2, zr3, zr4, zr5, zr6, zr7, gt, sub_int, add_int, le_int, gt_int, ge_int, o_lt, o_eq, o_ne, o_mem, o_nmem, o_is, o_isn, o_not, o_len, o_all, o_any, o_sum, o_sort, o_ssort, o_lst, o_tup, o_ist, i_int, i_boolI, i_boolB, i_str, i_tup, i_lst, i_tupP, i_tupF, len_tup, len_lst, len_tupP, len_F, ix_tup, ix_lst, ix_tupP, ix_F0, ix_F1, not_bl, seq_tup, seq_lst, seq_tupP, lt_int, lst_lst, tpl_lst, tpl_tup, is_bb, isn_bb, bindD, setsD, List.length_cons, List.length_nil, List.map_cons, List.map_nil, List.replicate_succ, List.replicate_zero, List.append_nil, List.cons_append, List.nil_append, List.getElem?_cons_zero, List.getElem?_cons_succ, List.set_cons_zero, List.set_cons_succ, if_true, if_false, Nat.zero_add, Nat.sub_self, Nat.reduceAdd, Nat.reduceSub, Option.map_some, Option.map_none, Bool.not_true, Bool.not_false, Option.bind_some, nc0, nc1, nc2, nc3, nc4, Option.some.injEq, D.bl.injEq, D.int.injEq, reduceCtorEq, decide_true, decide_false, Int.reduceEq, Int.reduceNe, not_true_eq_false, not_false_eq_true, ne_eq, Int.reduceLE, Int.reduceLT, at0, at1, at2, eq_int, eq_bl, eq_sp, eq_pl, eq_fl, eq_tup, eq_pts, eq_lns, mem_pts, mem_lns, Bool.false_xor, Bool.true_xor, mod_int, fdiv_int, mul_int, Int.reduceNeg, Nat.reduceLT, Int.reduceAdd, Int.reduceMul, Int.reduceSub, and_self, or_true, true_or, reduceIte, beq_self_eq_true, Bool.and_self, Bool.true_and, Bool.and_true, Bool.false_and, Bool.and_false, Bool.or_true, Bool.true_or, Bool.or_false, Bool.false_or, q22 A h22 hf ps hl hp]
  cases thr k n ps with
  | nil => rfl
  | cons t l => simp only [linO, List.head?_cons, is_lst, s_nil, s_asg, s_mov, s_par, s_ifs, s_ret, s_retn, s_ex, Ss.app, nx_nx, rt_rt, zv1, zv2, zv3, zv4, zv5, zv6, zv7, zv8, zv9, zv10, zv11, zv13, zv14, zv15, zv16, zv17, zv18, zv19, zw1, zw2, zr1, zr2, zr3, zr4, zr5, zr6, zr7, gt, sub_int, add_int, le_int, gt_int, ge_int, o_lt, o_eq, o_ne, o_mem, o_nmem, o_is, o_isn, o_not, o_len, o_all, o_any, o_sum, o_sort, o_ssort, o_lst, o_tup, o_ist, i_int, i_boolI, i_boolB, i_str, i_tup, i_lst, i_tupP, i_tupF, len_tup, len_lst, len_tupP, len_F, ix_tup, ix_lst, ix_tupP, ix_F0, ix_F1, not_bl, seq_tup, seq_lst, seq_tupP, lt_int, lst_lst, tpl_lst, tpl_tup, is_bb, isn_bb, bindD, setsD, List.length_cons, List.length_nil, List.map_cons, List.map_nil, List.replicate_succ, List.replicate_zero, List.append_nil, List.cons_append, List.nil_append, List.getElem?_cons_zero, List.getElem?_cons_succ, List.set_cons_zero, List.set_cons_succ, if_true, if_false, Nat.zero_add, Nat.sub_self, Nat.reduceAdd, Nat.reduceSub, Option.map_some, Option.map_none, Bool.not_true, Bool.not_false, Option.bind_some, nc0, nc1, nc2, nc3, nc4, Option.some.injEq, D.bl.injEq, D.int.injEq, reduceCtorEq, decide_true, decide_false, Int.reduceEq, Int.reduceNe, not_true_eq_false, not_false_eq_true, ne_eq, Int.reduceLE, Int.reduceLT, at0, at1, at2, eq_int, eq_bl, eq_sp, eq_pl, eq_fl, eq_tup, eq_pts, eq_lns, mem_pts, mem_lns, Bool.false_xor, Bool.true_xor, mod_int, fdiv_int, mul_int, Int.reduceNeg, Nat.reduceLT, Int.reduceAdd, Int.reduceMul, Int.reduceSub, and_self, or_true, true_or, reduceIte, beq_self_eq_true, Bool.and_self, Bool.true_and, Bool.and_true, Bool.false_and, Bool.and_false, Bool.or_true, Bool.true_or, Bool.or_false, Bool.false_or]
include Z2 in
theorem q26 (h26 : T.fns[26]? = some fn26) (hf : okF k n) (t ps : List Pt) (hl : t.length ≤ LIM) (hp : ∀ p ∈ t, p.length ≤ LIM) (hl2 : ps.length ≤ LIM) : run T (m + 4) 26 [.ins 2 [ptsD t], fldD k n, ptsD ps] = some (.bl (shL k n t ps)) := by
  refine run_r h26 rfl ?_
  by_cases h3 : (t.length : Int) = 3
  · match t, h3, hl, hp with
    | [p, q, r], _, hl, hp =>
      have e8 := q8 A (m := m) (k := k) (n := n) [p, q, r] hl hp
      have e8' : run T (m + 3) 8 [fldD k n, .lst [tupD p, tupD q, tupD r]] = some (.bl (areP k n [p, q, r])) := e8
      simp only [fn26, s_nil, s_asg, s_mov, s_par, s_ifs, s_ret, s_retn, s_ex, Ss.app, nx_nx, rt_rt, zv1, zv2, zv3, zv4, zv5, zv6, zv7, zv8, zv9, zv10, zv11, zv13, zv14, zv15, zv16, zv17, zv18, zv19, zw1, zw2, zr1, zr2, zr3, zr4, zr5, zr6, zr7, gt, sub_int, add_int, le_int, gt_int, ge_int, o_lt, o_eq, o_ne, o_mem, o_nmem, o_is, o_isn, o_not, o_len, o_all, o_any, o_sum, o_sort, o_ssort, o_lst, o_tup, o_ist, i_int, i_boolI, i_boolB, i_str, i_tup, i_lst, i_tupP, i_tupF, len_tup, len_lst, len_tupP, len_F, ix_tup, ix_lst, ix_tupP, ix_F0, ix_F1, not_bl, seq_tup, seq_lst, seq_tupP, lt_int, lst_lst, tpl_lst, tpl_tup, is_bb, isn_bb, bindD, setsD, List.length_cons, List.length_nil, List.map_cons, List.map_nil, List.replicate_succ, List.replicate_zero, List.append_nil, List.cons_append, List.nil_append, List.getElem?_cons_zero, List.getElem?_cons_succ, List.set_cons_zero, List.set_cons_succ, if_true, if_false, Nat.zero_add, Nat.sub_self, Nat.reduceAdd, Nat.reduceSub, Option.map_some, Option.map_none, Bool.not_true, Bool.not_false, Option.bind_some, nc0, nc1, nc2, nc3, nc4, Option.some.injEq, D.bl.injEq, D.int.injEq, reduceCtorEq, decide_true, decide_false, Int.reduceEq, Int.reduceNe, not_true_eq_false, not_false_eq_true, ne_eq, Int.reduceLE, Int.reduceLT, at0, at1, at2, eq_int, eq_bl, eq_sp, eq_pl, eq_fl, eq_tup, eq_pts, eq_lns, mem_pts, mem_lns, Bool.false_xor, Bool.true_xor, mod_int, fdiv_int, mul_int, Int.reduceNeg, Nat.reduceLT, Int.reduceAdd, Int.reduceMul, Int.reduceSub, and_self, or_true, true_or, reduceIte, beq_self_eq_true, Bool.and_self, Bool.true_and, Bool.and_true, Bool.false_and, Bool.and_false, Bool.or_true, Bool.true_or, Bool.or_false, Bool.false_or, fld1 Z2.cn, e8, e8']
      have es : shL k n [p, q, r] ps = (areP k n [p, q, r] && ([p, q, r].all (fun p => decide (p ∈ ps)) && lin k n p q r)) := rfl
      cases ha : areP k n [p, q, r] with
      | false =>
        rw [ha] at es
        simp only [s_nil, s_asg, s_mov, s_par, s_ifs, s_ret, s_retn, s_ex, Ss.app, nx_nx, rt_rt, zv1, zv2, zv3, zv4, zv5, zv6, zv7, zv8, zv9, zv10, zv11, zv13, zv14, zv15, zv16, zv17, zv18, zv19, zw1, zw2, zr1, zr2, zr3, zr4, zr5, zr6, zr7, gt, sub_int, add_int, le_int, gt_int, ge_int, o_lt, o_eq, o_ne, o_mem, o_nmem, o_is, o_isn, o_not, o_len, o_all, o_any, o_sum, o_sort, o_ssort, o_lst, o_tup, o_ist, i_int, i_boolI, i_boolB, i_str, i_tup, i_lst, i_tupP, i_tupF, len_tup, len_lst, len_tupP, len_F, ix_tup, ix_lst, ix_tupP, ix_F0, ix_F1, not_bl, seq_tup, seq_lst, seq_tupP, lt_int, lst_lst, tpl_lst, tpl_tup, is_bb, isn_bb, bindD, setsD, List.length_cons, List.length_nil, List.map_cons, List.map_nil, List.replicate_succ, List.replicate_zero, List.append_nil, List.cons_append, List.nil_append, List.getElem?_cons_zero, List.getElem?_cons_succ, List.set_cons_zero, List.set_cons_succ, if_true, if_false, Nat.zero_add, Nat.sub_self, Nat.reduceAdd, Nat.reduceSub, Option.map_some, Option.map_none, Bool.not_true, Bool.not_false, Option.bind_some, nc0, nc1, nc2, nc3, nc4, Option.some.injEq, D.bl.injEq, D.int.injEq, reduceCtorEq, decide_true, decide_false, Int.reduceEq, Int.reduceNe, not_true_eq_false, not_false_eq_true, ne_eq, Int.reduceLE, Int.reduceLT, at0, at1, at2, eq_int, eq_bl, eq_sp, eq_pl, eq_fl, eq_tup, eq_pts, eq_lns, mem_pts, mem_lns, Bool.false_xor, Bool.true_xor, mod_int, fdiv_int, mul_int, Int.reduceNeg, Nat.reduceLT, Int.reduceAdd, Int.reduceMul, Int.reduceSub, and_self, or_true, true_or, reduceIte, beq_self_eq_true, Bool.and_self, Bool.true_and, Bool.and_true, Bool.false_and, Bool.and_false, Bool.or_true, Bool.true_or, Bool.or_false, Bool.false_or, es, Bool.false_and]
      | true =>
        rw [ha] at es
        rw [e_comp (g := tupD) (xs := [p, q, r]) (fun p => D.bl (decide (p ∈ ps))) (by simp only [s_nil, s_asg, s_mov, s_par, s_ifs, s_ret, s_retn, s_ex, Ss.app, nx_nx, rt_rt, zv1, zv2, zv3, zv4, zv5, zv6, zv7, zv8, zv9, zv10, zv11, zv13, zv14, zv15, zv16, zv17, zv18, zv19, zw1, zw2, zr1, zr2, zr3, zr4, zr5, zr6, zr7, gt, sub_int, add_int, le_int, gt_int, ge_int, o_lt, o_eq, o_ne, o_mem, o_nmem, o_is, o_isn, o_not, o_len, o_all, o_any, o_sum, o_sort, o_ssort, o_lst, o_tup, o_ist, i_int, i_boolI, i_boolB, i_str, i_tup, i_lst, i_tupP, i_tupF, len_tup, len_lst, len_tupP, len_F, ix_tup, ix_lst, ix_tupP, ix_F0, ix_F1, not_bl, seq_tup, seq_lst, seq_tupP, lt_int, lst_lst, tpl_lst, tpl_tup, is_bb, isn_bb, bindD, setsD, List.length_cons, List.length_nil, List.map_cons, List.map_nil, List.replicate_succ, List.replicate_zero, List.append_nil, List.cons_append, List.nil_append, List.getElem?_cons_zero, List.getElem?_cons_succ, List.set_cons_zero, List.set_cons_succ, if_true, if_false, Nat.zero_add, Nat.sub_self, Nat.reduceAdd, Nat.reduceSub, Option.map_some, Option.map_none, Bool.not_true, Bool.not_false, Option.bind_some, nc0, nc1, nc2, nc3, nc4, Option.some.injEq, D.bl.injEq, D.int.injEq, reduceCtorEq, decide_true, decide_false, Int.reduceEq, Int.reduceNe, not_true_eq_false, not_false_eq_true, ne_eq, Int.reduceLE, Int.reduceLT, at0, at1, at2, eq_int, eq_bl, eq_sp, eq_pl, eq_fl, eq_tup, eq_pts, eq_lns, mem_pts, mem_lns, Bool.false_xor, Bool.true_xor, mod_int, fdiv_int, mul_int, Int.reduceNeg, Nat.reduceLT, Int.reduceAdd, Int.reduceMul, Int.reduceSub, and_self, or_true, true_or, reduceIte, beq_self_eq_true, Bool.and_self, Bool.true_and, Bool.and_true, Bool.false_and, Bool.and_false, Bool.or_true, Bool.true_or, Bool.or_false, Bool.false_or]) (by unfold LIM; simp) (fun t m => ⟨_, rfl, by simp only [s_nil, s_asg, s_mov, s_par, s_ifs, s_ret, s_retn, s_ex, Ss.app, nx_nx, rt_rt, zv1, zv2, zv3, zv4, zv5, zv6, zv7, zv8, zv9, zv10, zv11, zv13, zv14, zv15, zv16, zv17, zv18, zv19, zw1, zw2, zr1, zr2, zr3, zr4, zr5, zr6, zr7, gt, sub_int, add_int, le_int, gt_int, ge_int, o_lt, o_eq, o_ne, o_mem, o_nmem, o_is, o_isn, o_not, o_len, o_all, o_any, o_sum, o_sort, o_ssort, o_lst, o_tup, o_ist, i_int, i_boolI, i_boolB, i_str, i_tup, i_lst, i_tupP, i_tupF, len_tup, len_lst, len_tupP, len_F, ix_tup, ix_lst, ix_tupP, ix_F0, ix_F1, not_bl, seq_tup, seq_lst, seq_tupP, lt_int, lst_lst, tpl_lst, tpl_tup, is_bb, isn_bb, bindD, setsD, List.length_cons, List.length_nil, List.map_cons, List.map_nil, List.replicate_succ, List.replicate_zero, List.append_nil, List.cons_append, List.nil_append, List.getElem?_cons_zero, List.getElem?_cons_succ, List.set_cons_zero, List.set_cons_succ, if_true, if_false, Nat.zero_add, Nat.sub_self, Nat.reduceAdd, Nat.reduceSub, Option.map_some, Option.map_none, Bool.not_true, Bool.not_false, Option.bind_some, nc0, nc1, nc2, nc3, nc4, Option.some.injEq, D.bl.injEq, D.int.injEq, reduceCtorEq, decide_true, decide_false, Int.reduceEq, Int.reduceNe, not_true_eq_false, not_false_eq_true, ne_eq, Int.reduceLE, Int.reduceLT, at0, at1, at2, eq_int, eq_bl, eq_sp, eq_pl, eq_fl, eq_tup, eq_pts, eq_lns, mem_pts, mem_lns, Bool.false_xor, Bool.true_xor, mod_int, fdiv_int, mul_int, Int.reduceNeg, Nat.reduceLT, Int.reduceAdd, Int.reduceMul, Int.reduceSub, and_self, or_true, true_or, reduceIte, beq_self_eq_true, Bool.and_self, Bool.true_and, Bool.and_true, Bool.false_and, Bool.and_false, Bool.or_true, Bool.true_or, Bool.or_false, Bool.false_or]⟩)]
        simp only [s_nil, s_asg, s_mov, s_par, s_ifs, s_ret, s_retn, s_ex, Ss.app, nx_nx, rt_rt, zv1, zv2, zv3, zv4, zv5, zv6, zv7, zv8, zv9, zv10, zv11, zv13, zv14, zv15, zv16, zv17, zv18, zv19, zw1, zw2, zr1, zr2, zr3, zr4, zr5, zr6, zr7, gt, sub_int, add_int, le_int, gt_int, ge_int, o_lt, o_eq, o_ne, o_mem, o_nmem, o_is, o_isn, o_not, o_len, o_all, o_any, o_sum, o_sort, o_ssort, o_lst, o_tup, o_ist, i_int, i_boolI, i_boolB, i_str, i_tup, i_lst, i_tupP, i_tupF, len_tup, len_lst, len_tupP, len_F, ix_tup, ix_lst, ix_tupP, ix_F0, ix_F1, not_bl, seq_tup, seq_lst, seq_tupP, lt_int, lst_lst, tpl_lst, tpl_tup, is_bb, isn_bb, bindD, setsD, List.length_cons, List.length_nil, List.map_cons, List.map_nil, List.replicate_succ, List.replicate_zero, List.append_nil, List.cons_append, List.nil_append, List.getElem?_cons_zero, List.getElem?_cons_succ, List.set_cons_zero, List.set_cons_succ, if_true, if_false, Nat.zero_add, Nat.sub_self, Nat.reduceAdd, Nat.reduceSub, Option.map_some, Option.map_none, Bool.not_true, Bool.not_false, Option.bind_some, nc0, nc1, nc2, nc3, nc4, Option.some.injEq, D.bl.injEq, D.int.injEq, reduceCtorEq, decide_true, decide_false, Int.reduceEq, Int.reduceNe, not_true_eq_false, not_false_eq_true, ne_eq, Int.reduceLE, Int.reduceLT, at0, at1, at2, eq_int, eq_bl, eq_sp, eq_pl, eq_fl, eq_tup, eq_pts, eq_lns, mem_pts, mem_lns, Bool.false_xor, Bool.true_xor, mod_int, fdiv_int, mul_int, Int.reduceNeg, Nat.reduceLT, Int.reduceAdd, Int.reduceMul, Int.reduceSub, and_self, or_true, true_or, reduceIte, beq_self_eq_true, Bool.and_self, Bool.true_and, Bool.and_true, Bool.false_and, Bool.and_false, Bool.or_true, Bool.true_or, Bool.or_false, Bool.false_or]
        rw [show D.lst [D.bl (decide (p ∈ ps)), D.bl (decide (q ∈ ps)), D.bl (decide (r ∈ ps))] = .lst ([p, q, r].map fun p => D.bl (decide (p ∈ ps))) from rfl, all_mapf]
        cases hb : [p, q, r].all (fun p => decide (p ∈ ps)) with
        | false =>
          rw [hb] at es
          simp only [s_nil, s_asg, s_mov, s_par, s_ifs, s_ret, s_retn, s_ex, Ss.app, nx_nx, rt_rt, zv1, zv2, zv3, zv4, zv5, zv6, zv7, zv8, zv9, zv10, zv11, zv13, zv14, zv15, zv16, zv17, zv18, zv19, zw1, zw2, zr1, zr2, zr3, zr4, zr5, zr6, zr7, gt, sub_int, add_int, le_int, gt_int, ge_int, o_lt, o_eq, o_ne, o_mem, o_nmem, o_is, o_isn, o_not, o_len, o_all, o_any, o_sum, o_sort, o_ssort, o_lst, o_tup, o_ist, i_int, i_boolI, i_boolB, i_str, i_tup, i_lst, i_tupP, i_tupF, len_tup, len_lst, len_tupP, len_F, ix_tup, ix_lst, ix_tupP, ix_F0, ix_F1, not_bl, seq_tup, seq_lst, seq_tupP, lt_int, lst_lst, tpl_lst, tpl_tup, is_bb, isn_bb, bindD, setsD, List.length_cons, List.length_nil, List.map_cons, List.map_nil, List.replicate_succ, List.replicate_zero, List.append_nil, List.cons_append, List.nil_append, List.getElem?_cons_zero, List.getElem?_cons_succ, List.set_cons_zero, List.set_cons_succ, if_true, if_false, Nat.zero_add, Nat.sub_self, Nat.reduceAdd, Nat.reduceSub, Option.map_some, Option.map_none, Bool.not_true, Bool.not_false, Option.bind_some, nc0, nc1, nc2, nc3, nc4, Option.some.injEq, D.bl.injEq, D.int.injEq, reduceCtorEq, decide_true, decide_false, Int.reduceEq, Int.reduceNe, not_true_eq_false, not_false_eq_true, ne_eq, Int.reduceLE, Int.reduceLT, at0, at1, at2, eq_int, eq_bl, eq_sp, eq_pl, eq_fl, eq_tup, eq_pts, eq_lns, mem_pts, mem_lns, Bool.false_xor, Bool.true_xor, mod_int, fdiv_int, mul_int, Int.reduceNeg, Nat.reduceLT, Int.reduceAdd, Int.reduceMul, Int.reduceSub, and_self, or_true, true_or, reduceIte, beq_self_eq_true, Bool.and_self, Bool.true_and, Bool.and_true, Bool.false_and, Bool.and_false, Bool.or_true, Bool.true_or, Bool.or_false, Bool.false_or, es, Bool.false_and, Bool.true_and]
        | true =>
          rw [hb] at es
          have hi := (areP_iff.mp ha).1
          simp only [s_nil, s_asg, s_mov, s_par, s_ifs, s_ret, s_retn, s_ex, Ss.app, nx_nx, rt_rt, zv1, zv2, zv3, zv4, zv5, zv6, zv7, zv8, zv9, zv10, zv11, zv13, zv14, zv15, zv16, zv17, zv18, zv19, zw1, zw2, zr1, zr2, zr3, zr4, zr5, zr6, zr7, gt, sub_int, add_int, le_int, gt_int, ge_int, o_lt, o_eq, o_ne, o_mem, o_nmem, o_is, o_isn, o_not, o_len, o_all, o_any, o_sum, o_sort, o_ssort, o_lst, o_tup, o_ist, i_int, i_boolI, i_boolB, i_str, i_tup, i_lst, i_tupP, i_tupF, len_tup, len_lst, len_tupP, len_F, ix_tup, ix_lst, ix_tupP, ix_F0, ix_F1, not_bl, seq_tup, seq_lst, seq_tupP, lt_int, lst_lst, tpl_lst, tpl_tup, is_bb, isn_bb, bindD, setsD, List.length_cons, List.length_nil, List.map_cons, List.map_nil, List.replicate_succ, List.replicate_zero, List.append_nil, List.cons_append, List.nil_append, List.getElem?_cons_zero, List.getElem?_cons_succ, List.set_cons_zero, List.set_cons_succ, if_true, if_false, Nat.zero_add, Nat.sub_self, Nat.reduceAdd, Nat.reduceSub, Option.map_some, Option.map_none, Bool.not_true, Bool.not_false, Option.bind_some, nc0, nc1, nc2, nc3, nc4, Option.some.injEq, D.bl.injEq, D.int.injEq, reduceCtorEq, decide_true, decide_false, Int.reduceEq, Int.reduceNe, not_true_eq_false, not_false_eq_true, ne_eq, Int.reduceLE, Int.reduceLT, at0, at1, at2, eq_int, eq_bl, eq_sp, eq_pl, eq_fl, eq_tup, eq_pts, eq_lns, mem_pts, mem_lns, Bool.false_xor, Bool.true_xor, mod_int, fdiv_int, mul_int, Int.reduceNeg, Nat.reduceLT, Int.reduceAdd, Int.reduceMul, Int.reduceSub, and_self, or_true, true_or, reduceIte, beq_self_eq_true, Bool.and_self, Bool.true_and, Bool.and_true, Bool.false_and, Bool.and_false, Bool.or_true, Bool.true_or, Bool.or_false, Bool.false_or, es, Bool.true_and, q10 A hf (hi p (by simp)) (hi q (by simp)) (hi r (by simp))]
    | [], h3, _, _ => simp at h3
    | [_], h3, _, _ => simp at h3
    | [_, _], h3, _, _ => simp at h3
    | _ :: _ :: _ :: _ :: _, h3, _, _ => simp at h3; omega
  · have es : shL k n t ps = false := by
      unfold shL
      rw [decide_eq_false (by omega)]
      rfl
    simp only [fn26, s_nil, s_asg, s_mov, s_par, s_ifs, s_ret, s_retn, s_ex, Ss.app, nx_nx, rt_rt, zv1, zv2, zv3, zv4, zv5, zv6, zv7, zv8, zv9, zv10, zv11, zv13, zv14, zv15, zv16, zv17, zv18, zv19, zw1, zw2, zr1, zr2, zr3, zr4, zr5, zr6, zr7, gt, sub_int, add_int, le_int, gt_int, ge_int, o_lt, o_eq, o_ne, o_mem, o_nmem, o_is, o_isn, o_not, o_len, o_all, o_any, o_sum, o_sort, o_ssort, o_lst, o_tup, o_ist, i_int, i_boolI, i_boolB, i_str, i_tup, i_lst, i_tupP, i_tupF, len_tup, len_lst, len_tupP, len_F, ix_tup, ix_lst, ix_tupP, ix_F0, ix_F1, not_bl, seq_tup, seq_lst, seq_tupP, lt_int, lst_lst, tpl_lst, tpl_tup, is_bb, isn_bb, bindD, setsD, List.length_cons, List.length_nil, List.map_cons, List.map_nil, List.replicate_succ, List.replicate_zero, List.append_nil, List.cons_append, List.nil_append, List.getElem?_cons_zero, List.getElem?_cons_succ, List.set_cons_zero, List.set_cons_succ, if_true, if_false, Nat.zero_add, Nat.sub_self, Nat.reduceAdd, Nat.reduceSub, Option.map_some, Option.map_none, Bool.not_true, Bool.not_false, Option.bind_some, nc0, nc1, nc2, nc3, nc4, Option.some.injEq, D.bl.injEq, D.int.injEq, reduceCtorEq, decide_true, decide_false, Int.reduceEq, Int.reduceNe, not_true_eq_false, not_false_eq_true, ne_eq, Int.reduceLE, Int.reduceLT, at0, at1, at2, eq_int, eq_bl, eq_sp, eq_pl, eq_fl, eq_tup, eq_pts, eq_lns, mem_pts, mem_lns, Bool.false_xor, Bool.true_xor, mod_int, fdiv_int, mul_int, Int.reduceNeg, Nat.reduceLT, Int.reduceAdd, Int.reduceMul, Int.reduceSub, and_self, or_true, true_or, reduceIte, beq_self_eq_true, Bool.and_self, Bool.true_and, Bool.and_true, Bool.false_and, Bool.and_false, Bool.or_true, Bool.true_or, Bool.or_false, Bool.false_or, fld1 Z2.cn, List.length_map, h3, es]
include B Z1 Z2
theorem q31 (h22 : T.fns[22]? = some fn22) (h31 : T.fns[31]? = some fn31) (hf : okF k n) (ps : List Pt) (hl : ps.length ≤ 100000) (h : areP k n ps = true) : run T (m + 5) 31 [fldD k n, ptsD ps] = some (judD (thr k n ps)) := by
  refine run_r h31 rfl ?_
  simp only [fn31, s_nil, s_asg, s_mov, s_par, s_ifs, s_ret, s_retn, s_ex, Ss.app, nx_nx, rt_rt, zv1, zv2, zv3, zv4, zv5, zv6, zv7, zv8, zv9, zv10, zv11, zv13, zv14, zv15, zv16, zv17, zv18, zv19, zw1, zw2, zr1, zr2, zr3, zr4, zr5, zr6, zr7, gt, sub_int, add_int, le_int, gt_int, ge_int, o_lt, o_eq, o_ne, o_mem, o_nmem, o_is, o_isn, o_not, o_len, o_all, o_any, o_sum, o_sort, o_ssort, o_lst, o_tup, o_ist, i_int, i_boolI, i_boolB, i_str, i_tup, i_lst, i_tupP, i_tupF, len_tup, len_lst, len_tupP, len_F, ix_tup, ix_lst, ix_tupP, ix_F0, ix_F1, not_bl, seq_tup, seq_lst, seq_tupP, lt_int, lst_lst, tpl_lst, tpl_tup, is_bb, isn_bb, bindD, setsD, List.length_cons, List.length_nil, List.map_cons, List.map_nil, List.replicate_succ, List.replicate_zero, List.append_nil, List.cons_append, List.nil_append, List.getElem?_cons_zero, List.getElem?_cons_succ, List.set_cons_zero, List.set_cons_succ, if_true, if_false, Nat.zero_add, Nat.sub_self, Nat.reduceAdd, Nat.reduceSub, Option.map_some, Option.map_none, Bool.not_true, Bool.not_false, Option.bind_some, nc0, nc1, nc2, nc3, nc4, Option.some.injEq, D.bl.injEq, D.int.injEq, reduceCtorEq, decide_true, decide_false, Int.reduceEq, Int.reduceNe, not_true_eq_false, not_false_eq_true, ne_eq, Int.reduceLE, Int.reduceLT, at0, at1, at2, eq_int, eq_bl, eq_sp, eq_pl, eq_fl, eq_tup, eq_pts, eq_lns, mem_pts, mem_lns, Bool.false_xor, Bool.true_xor, mod_int, fdiv_int, mul_int, Int.reduceNeg, Nat.reduceLT, Int.reduceAdd, Int.reduceMul, Int.reduceSub, and_self, or_true, true_or, reduceIte, beq_self_eq_true, Bool.and_self, Bool.true_and, Bool.and_true, Bool.false_and, Bool.and_false, Bool.or_true, Bool.true_or, Bool.or_false, Bool.false_or, q2 A B hf, q9 A B ps (by unfold LIM; omega) (areP_pts hf h) h, q22 A h22 hf ps hl (areP_iff.mp h).1]
  cases thr k n ps with
  | nil => simp only [linO, List.head?_nil, is_non, mk0 (T := { T with lv := m + 4 }) Z1.cf (by show 2 ≤ m + 4; omega), s_nil, s_asg, s_mov, s_par, s_ifs, s_ret, s_retn, s_ex, Ss.app, nx_nx, rt_rt, zv1, zv2, zv3, zv4, zv5, zv6, zv7, zv8, zv9, zv10, zv11, zv13, zv14, zv15, zv16, zv17, zv18, zv19, zw1, zw2, zr1, zr2, zr3, zr4, zr5, zr6, zr7, gt, sub_int, add_int, le_int, gt_int, ge_int, o_lt, o_eq, o_ne, o_mem, o_nmem, o_is, o_isn, o_not, o_len, o_all, o_any, o_sum, o_sort, o_ssort, o_lst, o_tup, o_ist, i_int, i_boolI, i_boolB, i_str, i_tup, i_lst, i_tupP, i_tupF, len_tup, len_lst, len_tupP, len_F, ix_tup, ix_lst, ix_tupP, ix_F0, ix_F1, not_bl, seq_tup, seq_lst, seq_tupP, lt_int, lst_lst, tpl_lst, tpl_tup, is_bb, isn_bb, bindD, setsD, List.length_cons, List.length_nil, List.map_cons, List.map_nil, List.replicate_succ, List.replicate_zero, List.append_nil, List.cons_append, List.nil_append, List.getElem?_cons_zero, List.getElem?_cons_succ, List.set_cons_zero, List.set_cons_succ, if_true, if_false, Nat.zero_add, Nat.sub_self, Nat.reduceAdd, Nat.reduceSub, Option.map_some, Option.map_none, Bool.not_true, Bool.not_false, Option.bind_some, nc0, nc1, nc2, nc3, nc4, Option.some.injEq, D.bl.injEq, D.int.injEq, reduceCtorEq, decide_true, decide_false, Int.reduceEq, Int.reduceNe, not_true_eq_false, not_false_eq_true, ne_eq, Int.reduceLE, Int.reduceLT, at0, at1, at2, eq_int, eq_bl, eq_sp, eq_pl, eq_fl, eq_tup, eq_pts, eq_lns, mem_pts, mem_lns, Bool.false_xor, Bool.true_xor, mod_int, fdiv_int, mul_int, Int.reduceNeg, Nat.reduceLT, Int.reduceAdd, Int.reduceMul, Int.reduceSub, and_self, or_true, true_or, reduceIte, beq_self_eq_true, Bool.and_self, Bool.true_and, Bool.and_true, Bool.false_and, Bool.and_false, Bool.or_true, Bool.true_or, Bool.or_false, Bool.false_or, judD]
  | cons t l => simp only [linO, List.head?_cons, is_lst, mk1t (T := { T with lv := m + 4 }) Z2.cf (by show 2 ≤ m + 4; omega), s_nil, s_asg, s_mov, s_par, s_ifs, s_ret, s_retn, s_ex, Ss.app, nx_nx, rt_rt, zv1, zv2, zv3, zv4, zv5, zv6, zv7, zv8, zv9, zv10, zv11, zv13, zv14, zv15, zv16, zv17, zv18, zv19, zw1, zw2, zr1, zr2, zr3, zr4, zr5, zr6, zr7, gt, sub_int, add_int, le_int, gt_int, ge_int, o_lt, o_eq, o_ne, o_mem, o_nmem, o_is, o_isn, o_not, o_len, o_all, o_any, o_sum, o_sort, o_ssort, o_lst, o_tup, o_ist, i_int, i_boolI, i_boolB, i_str, i_tup, i_lst, i_tupP, i_tupF, len_tup, len_lst, len_tupP, len_F, ix_tup, ix_lst, ix_tupP, ix_F0, ix_F1, not_bl, seq_tup, seq_lst, seq_tupP, lt_int, lst_lst, tpl_lst, tpl_tup, is_bb, isn_bb, bindD, setsD, List.length_cons, List.length_nil, List.map_cons, List.map_nil, List.replicate_succ, List.replicate_zero, List.append_nil, List.cons_append, List.nil_append, List.getElem?_cons_zero, List.getElem?_cons_succ, List.set_cons_zero, List.set_cons_succ, if_true, if_false, Nat.zero_add, Nat.sub_self, Nat.reduceAdd, Nat.reduceSub, Option.map_some, Option.map_none, Bool.not_true, Bool.not_false, Option.bind_some, nc0, nc1, nc2, nc3, nc4, Option.some.injEq, D.bl.injEq, D.int.injEq, reduceCtorEq, decide_true, decide_false, Int.reduceEq, Int.reduceNe, not_true_eq_false, not_false_eq_true, ne_eq, Int.reduceLE, Int.reduceLT, at0, at1, at2, eq_int, eq_bl, eq_sp, eq_pl, eq_fl, eq_tup, eq_pts, eq_lns, mem_pts, mem_lns, Bool.false_xor, Bool.true_xor, mod_int, fdiv_int, mul_int, Int.reduceNeg, Nat.reduceLT, Int.reduceAdd, Int.reduceMul, Int.reduceSub, and_self, or_true, true_or, reduceIte, beq_self_eq_true, Bool.and_self, Bool.true_and, Bool.and_true, Bool.false_and, Bool.and_false, Bool.or_true, Bool.true_or, Bool.or_false, Bool.false_or, judD]
omit Z1 Z2
theorem q32 (h32 : T.fns[32]? = some fn32) (hf : okF k n) (ps : List Pt) (hl : ps.length ≤ 100000) (h : areP k n ps = true) : run T (m + 5) 32 [fldD k n, ptsD ps] = some (.int (thr k n ps).length) := by
  refine run_r h32 rfl ?_
  have hp := (areP_iff.mp h).1
  simp only [fn32, s_nil, s_asg, s_mov, s_par, s_ifs, s_ret, s_retn, s_ex, Ss.app, nx_nx, rt_rt, zv1, zv2, zv3, zv4, zv5, zv6, zv7, zv8, zv9, zv10, zv11, zv13, zv14, zv15, zv16, zv17, zv18, zv19, zw1, zw2, zr1, zr2, zr3, zr4, zr5, zr6, zr7, gt, sub_int, add_int, le_int, gt_int, ge_int, o_lt, o_eq, o_ne, o_mem, o_nmem, o_is, o_isn, o_not, o_len, o_all, o_any, o_sum, o_sort, o_ssort, o_lst, o_tup, o_ist, i_int, i_boolI, i_boolB, i_str, i_tup, i_lst, i_tupP, i_tupF, len_tup, len_lst, len_tupP, len_F, ix_tup, ix_lst, ix_tupP, ix_F0, ix_F1, not_bl, seq_tup, seq_lst, seq_tupP, lt_int, lst_lst, tpl_lst, tpl_tup, is_bb, isn_bb, bindD, setsD, List.length_cons, List.length_nil, List.map_cons, List.map_nil, List.replicate_succ, List.replicate_zero, List.append_nil, List.cons_append, List.nil_append, List.getElem?_cons_zero, List.getElem?_cons_succ, List.set_cons_zero, List.set_cons_succ, if_true, if_false, Nat.zero_add, Nat.sub_self, Nat.reduceAdd, Nat.reduceSub, Option.map_some, Option.map_none, Bool.not_true, Bool.not_false, Option.bind_some, nc0, nc1, nc2, nc3, nc4, Option.some.injEq, D.bl.injEq, D.int.injEq, reduceCtorEq, decide_true, decide_false, Int.reduceEq, Int.reduceNe, not_true_eq_false, not_false_eq_true, ne_eq, Int.reduceLE, Int.reduceLT, at0, at1, at2, eq_int, eq_bl, eq_sp, eq_pl, eq_fl, eq_tup, eq_pts, eq_lns, mem_pts, mem_lns, Bool.false_xor, Bool.true_xor, mod_int, fdiv_int, mul_int, Int.reduceNeg, Nat.reduceLT, Int.reduceAdd, Int.reduceMul, Int.reduceSub, and_self, or_true, true_or, reduceIte, beq_self_eq_true, Bool.and_self, Bool.true_and, Bool.and_true, Bool.false_and, Bool.and_false, Bool.or_true, Bool.true_or, Bool.or_false, Bool.false_or, q2 A B hf, q9 A B ps (by unfold LIM; omega) (areP_pts hf h) h]
  rw [← thr_places]
  refine s_acc (g := ipD) (xs := enP 0 ps) (P := fun acc env => ∃ x3 x4 x5 x6, env = [some (fldD k n), some (ptsD ps), some (.int (acc.length : Int)), x3, x4, x5, x6]) (thrI k n ps) [] ?_ ⟨_, _, _, _, rfl⟩ ?_ ?_
  · simp only [s_nil, s_asg, s_mov, s_par, s_ifs, s_ret, s_retn, s_ex, Ss.app, nx_nx, rt_rt, zv1, zv2, zv3, zv4, zv5, zv6, zv7, zv8, zv9, zv10, zv11, zv13, zv14, zv15, zv16, zv17, zv18, zv19, zw1, zw2, zr1, zr2, zr3, zr4, zr5, zr6, zr7, gt, sub_int, add_int, le_int, gt_int, ge_int, o_lt, o_eq, o_ne, o_mem, o_nmem, o_is, o_isn, o_not, o_len, o_all, o_any, o_sum, o_sort, o_ssort, o_lst, o_tup, o_ist, i_int, i_boolI, i_boolB, i_str, i_tup, i_lst, i_tupP, i_tupF, len_tup, len_lst, len_tupP, len_F, ix_tup, ix_lst, ix_tupP, ix_F0, ix_F1, not_bl, seq_tup, seq_lst, seq_tupP, lt_int, lst_lst, tpl_lst, tpl_tup, is_bb, isn_bb, bindD, setsD, List.length_cons, List.length_nil, List.map_cons, List.map_nil, List.replicate_succ, List.replicate_zero, List.append_nil, List.cons_append, List.nil_append, List.getElem?_cons_zero, List.getElem?_cons_succ, List.set_cons_zero, List.set_cons_succ, if_true, if_false, Nat.zero_add, Nat.sub_self, Nat.reduceAdd, Nat.reduceSub, Option.map_some, Option.map_none, Bool.not_true, Bool.not_false, Option.bind_some, nc0, nc1, nc2, nc3, nc4, Option.some.injEq, D.bl.injEq, D.int.injEq, reduceCtorEq, decide_true, decide_false, Int.reduceEq, Int.reduceNe, not_true_eq_false, not_false_eq_true, ne_eq, Int.reduceLE, Int.reduceLT, at0, at1, at2, eq_int, eq_bl, eq_sp, eq_pl, eq_fl, eq_tup, eq_pts, eq_lns, mem_pts, mem_lns, Bool.false_xor, Bool.true_xor, mod_int, fdiv_int, mul_int, Int.reduceNeg, Nat.reduceLT, Int.reduceAdd, Int.reduceMul, Int.reduceSub, and_self, or_true, true_or, reduceIte, beq_self_eq_true, Bool.and_self, Bool.true_and, Bool.and_true, Bool.false_and, Bool.and_false, Bool.or_true, Bool.true_or, Bool.or_false, Bool.false_or, enum_pts]
  · rintro acc z hz env ⟨x2, x3, x4, x5, rfl⟩
    refine ⟨_, rfl, ?_⟩
    obtain ⟨_, z1, _, z2⟩ := mem_enP (d := []) hz
    have z2 := hp _ z2
    simp only [s_nil, s_asg, s_mov, s_par, s_ifs, s_ret, s_retn, s_ex, Ss.app, nx_nx, rt_rt, zv1, zv2, zv3, zv4, zv5, zv6, zv7, zv8, zv9, zv10, zv11, zv13, zv14, zv15, zv16, zv17, zv18, zv19, zw1, zw2, zr1, zr2, zr3, zr4, zr5, zr6, zr7, gt, sub_int, add_int, le_int, gt_int, ge_int, o_lt, o_eq, o_ne, o_mem, o_nmem, o_is, o_isn, o_not, o_len, o_all, o_any, o_sum, o_sort, o_ssort, o_lst, o_tup, o_ist, i_int, i_boolI, i_boolB, i_str, i_tup, i_lst, i_tupP, i_tupF, len_tup, len_lst, len_tupP, len_F, ix_tup, ix_lst, ix_tupP, ix_F0, ix_F1, not_bl, seq_tup, seq_lst, seq_tupP, lt_int, lst_lst, tpl_lst, tpl_tup, is_bb, isn_bb, bindD, setsD, List.length_cons, List.length_nil, List.map_cons, List.map_nil, List.replicate_succ, List.replicate_zero, List.append_nil, List.cons_append, List.nil_append, List.getElem?_cons_zero, List.getElem?_cons_succ, List.set_cons_zero, List.set_cons_succ, if_true, if_false, Nat.zero_add, Nat.sub_self, Nat.reduceAdd, Nat.reduceSub, Option.map_some, Option.map_none, Bool.not_true, Bool.not_false, Option.bind_some, nc0, nc1, nc2, nc3, nc4, Option.some.injEq, D.bl.injEq, D.int.injEq, reduceCtorEq, decide_true, decide_false, Int.reduceEq, Int.reduceNe, not_true_eq_false, not_false_eq_true, ne_eq, Int.reduceLE, Int.reduceLT, at0, at1, at2, eq_int, eq_bl, eq_sp, eq_pl, eq_fl, eq_tup, eq_pts, eq_lns, mem_pts, mem_lns, Bool.false_xor, Bool.true_xor, mod_int, fdiv_int, mul_int, Int.reduceNeg, Nat.reduceLT, Int.reduceAdd, Int.reduceMul, Int.reduceSub, and_self, or_true, true_or, reduceIte, beq_self_eq_true, Bool.and_self, Bool.true_and, Bool.and_true, Bool.false_and, Bool.and_false, Bool.or_true, Bool.true_or, Bool.or_false, Bool.false_or]
    unfold thrI
    refine Nx.imp (P := fun env => ∃ x5 x6, env = [some (fldD k n), some (ptsD ps), some (.int ((acc ++ (List.range' (z.1 + 1) (ps.length - (z.1 + 1))).flatMap fun s => ((ps.drop (s + 1)).filter (lin k n z.2 (ps.getD s []))).map fun r => [z.2, ps.getD s [], r]).length : Nat)), some (.int (z.1 : Int)), some (tupD z.2), x5, x6]) (fun env ⟨x5, x6, e⟩ => ⟨_, _, x5, x6, e⟩) (s_accE (g := fun (s : Nat) => D.int (s : Int)) (xs := List.range' (z.1 + 1) (ps.length - (z.1 + 1))) (fun acc env => ∃ x5 x6, env = [some (fldD k n), some (ptsD ps), some (.int (acc.length : Int)), some (.int (z.1 : Int)), some (tupD z.2), x5, x6]) _ acc ?_ ⟨_, _, rfl⟩ ?_)
    · have e := small_up2 (i := z.1 + 1) (j := ps.length) (by unfold LIM; omega) (by unfold LIM; omega)
      have e2 := range_up (i := z.1 + 1) (j := ps.length) (by omega)
      rw [Int.natCast_add, nc1] at e e2
      simp only [s_nil, s_asg, s_mov, s_par, s_ifs, s_ret, s_retn, s_ex, Ss.app, nx_nx, rt_rt, zv1, zv2, zv3, zv4, zv5, zv6, zv7, zv8, zv9, zv10, zv11, zv13, zv14, zv15, zv16, zv17, zv18, zv19, zw1, zw2, zr1, zr2, zr3, zr4, zr5, zr6, zr7, gt, sub_int, add_int, le_int, gt_int, ge_int, o_lt, o_eq, o_ne, o_mem, o_nmem, o_is, o_isn, o_not, o_len, o_all, o_any, o_sum, o_sort, o_ssort, o_lst, o_tup, o_ist, i_int, i_boolI, i_boolB, i_str, i_tup, i_lst, i_tupP, i_tupF, len_tup, len_lst, len_tupP, len_F, ix_tup, ix_lst, ix_tupP, ix_F0, ix_F1, not_bl, seq_tup, seq_lst, seq_tupP, lt_int, lst_lst, tpl_lst, tpl_tup, is_bb, isn_bb, bindD, setsD, List.length_cons, List.length_nil, List.map_cons, List.map_nil, List.replicate_succ, List.replicate_zero, List.append_nil, List.cons_append, List.nil_append, List.getElem?_cons_zero, List.getElem?_cons_succ, List.set_cons_zero, List.set_cons_succ, if_true, if_false, Nat.zero_add, Nat.sub_self, Nat.reduceAdd, Nat.reduceSub, Option.map_some, Option.map_none, Bool.not_true, Bool.not_false, Option.bind_some, nc0, nc1, nc2, nc3, nc4, Option.some.injEq, D.bl.injEq, D.int.injEq, reduceCtorEq, decide_true, decide_false, Int.reduceEq, Int.reduceNe, not_true_eq_false, not_false_eq_true, ne_eq, Int.reduceLE, Int.reduceLT, at0, at1, at2, eq_int, eq_bl, eq_sp, eq_pl, eq_fl, eq_tup, eq_pts, eq_lns, mem_pts, mem_lns, Bool.false_xor, Bool.true_xor, mod_int, fdiv_int, mul_int, Int.reduceNeg, Nat.reduceLT, Int.reduceAdd, Int.reduceMul, Int.reduceSub, and_self, or_true, true_or, reduceIte, beq_self_eq_true, Bool.and_self, Bool.true_and, Bool.and_true, Bool.false_and, Bool.and_false, Bool.or_true, Bool.true_or, Bool.or_false, Bool.false_or, List.length_map, e, e2]
    · rintro acc2 s hs env ⟨x4, x5, rfl⟩
      refine ⟨_, rfl, ?_⟩
      have hs := List.mem_range'_1.mp hs
      have hs2 : s < ps.length := by omega
      have is : isPt k n (ps.getD s []) := by
        rw [List.getD_eq_getElem?_getD, List.getElem?_eq_getElem hs2]
        exact hp _ (List.getElem_mem hs2)
      simp only [s_asg, zv6, zv5, zv1, gt, List.getElem?_cons_zero, List.getElem?_cons_succ]
      rw [e_compI (g := tupD) (xs := ps.drop (s + 1)) tupD (lin k n z.2 (ps.getD s [])) (by simp only [s_nil, s_asg, s_mov, s_par, s_ifs, s_ret, s_retn, s_ex, Ss.app, nx_nx, rt_rt, zv1, zv2, zv3, zv4, zv5, zv6, zv7, zv8, zv9, zv10, zv11, zv13, zv14, zv15, zv16, zv17, zv18, zv19, zw1, zw2, zr1, zr2, zr3, zr4, zr5, zr6, zr7, gt, sub_int, add_int, le_int, gt_int, ge_int, o_lt, o_eq, o_ne, o_mem, o_nmem, o_is, o_isn, o_not, o_len, o_all, o_any, o_sum, o_sort, o_ssort, o_lst, o_tup, o_ist, i_int, i_boolI, i_boolB, i_str, i_tup, i_lst, i_tupP, i_tupF, len_tup, len_lst, len_tupP, len_F, ix_tup, ix_lst, ix_tupP, ix_F0, ix_F1, not_bl, seq_tup, seq_lst, seq_tupP, lt_int, lst_lst, tpl_lst, tpl_tup, is_bb, isn_bb, bindD, setsD, List.length_cons, List.length_nil, List.map_cons, List.map_nil, List.replicate_succ, List.replicate_zero, List.append_nil, List.cons_append, List.nil_append, List.getElem?_cons_zero, List.getElem?_cons_succ, List.set_cons_zero, List.set_cons_succ, if_true, if_false, Nat.zero_add, Nat.sub_self, Nat.reduceAdd, Nat.reduceSub, Option.map_some, Option.map_none, Bool.not_true, Bool.not_false, Option.bind_some, nc0, nc1, nc2, nc3, nc4, Option.some.injEq, D.bl.injEq, D.int.injEq, reduceCtorEq, decide_true, decide_false, Int.reduceEq, Int.reduceNe, not_true_eq_false, not_false_eq_true, ne_eq, Int.reduceLE, Int.reduceLT, at0, at1, at2, eq_int, eq_bl, eq_sp, eq_pl, eq_fl, eq_tup, eq_pts, eq_lns, mem_pts, mem_lns, Bool.false_xor, Bool.true_xor, mod_int, fdiv_int, mul_int, Int.reduceNeg, Nat.reduceLT, Int.reduceAdd, Int.reduceMul, Int.reduceSub, and_self, or_true, true_or, reduceIte, beq_self_eq_true, Bool.and_self, Bool.true_and, Bool.and_true, Bool.false_and, Bool.and_false, Bool.or_true, Bool.true_or, Bool.or_false, Bool.false_or, sl_drop]) (by rw [List.length_drop]; unfold LIM; omega) (fun t m => ⟨_, rfl, by
        have it := hp t (List.mem_of_mem_drop m)
        simp only [s_nil, s_asg, s_mov, s_par, s_ifs, s_ret, s_retn, s_ex, Ss.app, nx_nx, rt_rt, zv1, zv2, zv3, zv4, zv5, zv6, zv7, zv8, zv9, zv10, zv11, zv13, zv14, zv15, zv16, zv17, zv18, zv19, zw1, zw2, zr1, zr2, zr3, zr4, zr5, zr6, zr7, gt, sub_int, add_int, le_int, gt_int, ge_int, o_lt, o_eq, o_ne, o_mem, o_nmem, o_is, o_isn, o_not, o_len, o_all, o_any, o_sum, o_sort, o_ssort, o_lst, o_tup, o_ist, i_int, i_boolI, i_boolB, i_str, i_tup, i_lst, i_tupP, i_tupF, len_tup, len_lst, len_tupP, len_F, ix_tup, ix_lst, ix_tupP, ix_F0, ix_F1, not_bl, seq_tup, seq_lst, seq_tupP, lt_int, lst_lst, tpl_lst, tpl_tup, is_bb, isn_bb, bindD, setsD, List.length_cons, List.length_nil, List.map_cons, List.map_nil, List.replicate_succ, List.replicate_zero, List.append_nil, List.cons_append, List.nil_append, List.getElem?_cons_zero, List.getElem?_cons_succ, List.set_cons_zero, List.set_cons_succ, if_true, if_false, Nat.zero_add, Nat.sub_self, Nat.reduceAdd, Nat.reduceSub, Option.map_some, Option.map_none, Bool.not_true, Bool.not_false, Option.bind_some, nc0, nc1, nc2, nc3, nc4, Option.some.injEq, D.bl.injEq, D.int.injEq, reduceCtorEq, decide_true, decide_false, Int.reduceEq, Int.reduceNe, not_true_eq_false, not_false_eq_true, ne_eq, Int.reduceLE, Int.reduceLT, at0, at1, at2, eq_int, eq_bl, eq_sp, eq_pl, eq_fl, eq_tup, eq_pts, eq_lns, mem_pts, mem_lns, Bool.false_xor, Bool.true_xor, mod_int, fdiv_int, mul_int, Int.reduceNeg, Nat.reduceLT, Int.reduceAdd, Int.reduceMul, Int.reduceSub, and_self, or_true, true_or, reduceIte, beq_self_eq_true, Bool.and_self, Bool.true_and, Bool.and_true, Bool.false_and, Bool.and_false, Bool.or_true, Bool.true_or, Bool.or_false, Bool.false_or, ix_pts hs2, q10 A hf z2 is it], fun _ => by simp only [s_nil, s_asg, s_mov, s_par, s_ifs, s_ret, s_retn, s_ex, Ss.app, nx_nx, rt_rt, zv1, zv2, zv3, zv4, zv5, zv6, zv7, zv8, zv9, zv10, zv11, zv13, zv14, zv15, zv16, zv17, zv18, zv19, zw1, zw2, zr1, zr2, zr3, zr4, zr5, zr6, zr7, gt, sub_int, add_int, le_int, gt_int, ge_int, o_lt, o_eq, o_ne, o_mem, o_nmem, o_is, o_isn, o_not, o_len, o_all, o_any, o_sum, o_sort, o_ssort, o_lst, o_tup, o_ist, i_int, i_boolI, i_boolB, i_str, i_tup, i_lst, i_tupP, i_tupF, len_tup, len_lst, len_tupP, len_F, ix_tup, ix_lst, ix_tupP, ix_F0, ix_F1, not_bl, seq_tup, seq_lst, seq_tupP, lt_int, lst_lst, tpl_lst, tpl_tup, is_bb, isn_bb, bindD, setsD, List.length_cons, List.length_nil, List.map_cons, List.map_nil, List.replicate_succ, List.replicate_zero, List.append_nil, List.cons_append, List.nil_append, List.getElem?_cons_zero, List.getElem?_cons_succ, List.set_cons_zero, List.set_cons_succ, if_true, if_false, Nat.zero_add, Nat.sub_self, Nat.reduceAdd, Nat.reduceSub, Option.map_some, Option.map_none, Bool.not_true, Bool.not_false, Option.bind_some, nc0, nc1, nc2, nc3, nc4, Option.some.injEq, D.bl.injEq, D.int.injEq, reduceCtorEq, decide_true, decide_false, Int.reduceEq, Int.reduceNe, not_true_eq_false, not_false_eq_true, ne_eq, Int.reduceLE, Int.reduceLT, at0, at1, at2, eq_int, eq_bl, eq_sp, eq_pl, eq_fl, eq_tup, eq_pts, eq_lns, mem_pts, mem_lns, Bool.false_xor, Bool.true_xor, mod_int, fdiv_int, mul_int, Int.reduceNeg, Nat.reduceLT, Int.reduceAdd, Int.reduceMul, Int.reduceSub, and_self, or_true, true_or, reduceIte, beq_self_eq_true, Bool.and_self, Bool.true_and, Bool.and_true, Bool.false_and, Bool.and_false, Bool.or_true, Bool.true_or, Bool.or_false, Bool.false_or]⟩)]
      simp only [s_nil, s_asg, s_mov, s_par, s_ifs, s_ret, s_retn, s_ex, Ss.app, nx_nx, rt_rt, zv1, zv2, zv3, zv4, zv5, zv6, zv7, zv8, zv9, zv10, zv11, zv13, zv14, zv15, zv16, zv17, zv18, zv19, zw1, zw2, zr1, zr2, zr3, zr4, zr5, zr6, zr7, gt, sub_int, add_int, le_int, gt_int, ge_int, o_lt, o_eq, o_ne, o_mem, o_nmem, o_is, o_isn, o_not, o_len, o_all, o_any, o_sum, o_sort, o_ssort, o_lst, o_tup, o_ist, i_int, i_boolI, i_boolB, i_str, i_tup, i_lst, i_tupP, i_tupF, len_tup, len_lst, len_tupP, len_F, ix_tup, ix_lst, ix_tupP, ix_F0, ix_F1, not_bl, seq_tup, seq_lst, seq_tupP, lt_int, lst_lst, tpl_lst, tpl_tup, is_bb, isn_bb, bindD, setsD, List.length_cons, List.length_nil, List.map_cons, List.map_nil, List.replicate_succ, List.replicate_zero, List.append_nil, List.cons_append, List.nil_append, List.getElem?_cons_zero, List.getElem?_cons_succ, List.set_cons_zero, List.set_cons_succ, if_true, if_false, Nat.zero_add, Nat.sub_self, Nat.reduceAdd, Nat.reduceSub, Option.map_some, Option.map_none, Bool.not_true, Bool.not_false, Option.bind_some, nc0, nc1, nc2, nc3, nc4, Option.some.injEq, D.bl.injEq, D.int.injEq, reduceCtorEq, decide_true, decide_false, Int.reduceEq, Int.reduceNe, not_true_eq_false, not_false_eq_true, ne_eq, Int.reduceLE, Int.reduceLT, at0, at1, at2, eq_int, eq_bl, eq_sp, eq_pl, eq_fl, eq_tup, eq_pts, eq_lns, mem_pts, mem_lns, Bool.false_xor, Bool.true_xor, mod_int, fdiv_int, mul_int, Int.reduceNeg, Nat.reduceLT, Int.reduceAdd, Int.reduceMul, Int.reduceSub, and_self, or_true, true_or, reduceIte, beq_self_eq_true, Bool.and_self, Bool.true_and, Bool.and_true, Bool.false_and, Bool.and_false, Bool.or_true, Bool.true_or, Bool.or_false, Bool.false_or, List.length_map, op2, int2]
      exact ⟨_, _, by rw [List.length_append, List.length_map]; rfl⟩
  · rintro env ⟨x3, x4, x5, x6, rfl⟩
    simp only [s_nil, s_asg, s_mov, s_par, s_ifs, s_ret, s_retn, s_ex, Ss.app, nx_nx, rt_rt, zv1, zv2, zv3, zv4, zv5, zv6, zv7, zv8, zv9, zv10, zv11, zv13, zv14, zv15, zv16, zv17, zv18, zv19, zw1, zw2, zr1, zr2, zr3, zr4, zr5, zr6, zr7, gt, sub_int, add_int, le_int, gt_int, ge_int, o_lt, o_eq, o_ne, o_mem, o_nmem, o_is, o_isn, o_not, o_len, o_all, o_any, o_sum, o_sort, o_ssort, o_lst, o_tup, o_ist, i_int, i_boolI, i_boolB, i_str, i_tup, i_lst, i_tupP, i_tupF, len_tup, len_lst, len_tupP, len_F, ix_tup, ix_lst, ix_tupP, ix_F0, ix_F1, not_bl, seq_tup, seq_lst, seq_tupP, lt_int, lst_lst, tpl_lst, tpl_tup, is_bb, isn_bb, bindD, setsD, List.length_cons, List.length_nil, List.map_cons, List.map_nil, List.replicate_succ, List.replicate_zero, List.append_nil, List.cons_append, List.nil_append, List.getElem?_cons_zero, List.getElem?_cons_succ, List.set_cons_zero, List.set_cons_succ, if_true, if_false, Nat.zero_add, Nat.sub_self, Nat.reduceAdd, Nat.reduceSub, Option.map_some, Option.map_none, Bool.not_true, Bool.not_false, Option.bind_some, nc0, nc1, nc2, nc3, nc4, Option.some.injEq, D.bl.injEq, D.int.injEq, reduceCtorEq, decide_true, decide_false, Int.reduceEq, Int.reduceNe, not_true_eq_false, not_false_eq_true, ne_eq, Int.reduceLE, Int.reduceLT, at0, at1, at2, eq_int, eq_bl, eq_sp, eq_pl, eq_fl, eq_tup, eq_pts, eq_lns, mem_pts, mem_lns, Bool.false_xor, Bool.true_xor, mod_int, fdiv_int, mul_int, Int.reduceNeg, Nat.reduceLT, Int.reduceAdd, Int.reduceMul, Int.reduceSub, and_self, or_true, true_or, reduceIte, beq_self_eq_true, Bool.and_self, Bool.true_and, Bool.and_true, Bool.false_and, Bool.and_false, Bool.or_true, Bool.true_or, Bool.or_false, Bool.false_or]
end
/-! ### points by the cells -/
theorem sortU_len : ∀ xs, (sortU xs).length ≤ xs.length
  | [] => by simp [sortU]
  | x :: xs => by
    have := sortU_len xs
    have := insU_len x (sortU xs)
    rw [sortU, List.length_cons]
    omega
theorem range0 {n : Int} (h0 : 0 ≤ n) (h : n ≤ 1000000) : (if smallI n then some (rangeD 0 n) else none) = some ((List.range n.toNat).map fun (i : Nat) => D.int (i : Int)) := by
  rw [if_pos (small_nat h0 h), range_nat]
theorem at_getP {qs : List Pt} {i : Int} (h0 : 0 ≤ i) (h : i < qs.length) : atI (qs.map tupD) i = some (tupD (qs.getD i.toNat [])) := (at_pts h0 h).1
theorem fm_len {α β : Type} (f : α → β) : ∀ xs : List α, (xs.flatMap fun x => [f x]).length = xs.length
  | [] => rfl
  | x :: xs => by rw [List.flatMap_cons, List.length_append, fm_len f xs]; simp; omega
/-- the place of a point by the cells -/
def ptI (k : Kd) (n : Int) (ns : List Int) (b : Int) (i : Nat) : Int := ((val (cel ns (b + (i : Int).fmod 5) + 17 * (i : Int)) (2 + (i : Int).fmod 6)).fdiv 3).fmod ((every k n).length : Int)
section
variable {T : Tb} (A : HA T) {m : Nat} {k : Kd} {n : Int} {ns : List Int}
include A
/-- some points, in order -/
theorem q35 (h35 : T.fns[35]? = some fn35) (hf : okF k n) {b lim : Int} (hb : 0 ≤ b) (h0 : 0 ≤ lim) (h1 : lim ≤ 20) : ∃ ps, run T (m + 3) 35 [.lst (ns.map .int), .int b, fldD k n, .int lim] = some (ptsD ps) ∧ areP k n ps = true ∧ (ps.length : Int) ≤ lim ∧ ∀ p ∈ ps, p ∈ every k n := by
  have hE := every_len hf
  have hE0 : ((every k n).length : Int) ≠ 0 := by omega
  have hl1 := lng_le hf
  have main : ∀ d, (∀ qs : List Pt, (∀ q ∈ qs, q ∈ every k n) → (qs.length : Int) ≤ lim → d = ptsD (sortU qs) → run T (m + 3) 35 [.lst (ns.map .int), .int b, fldD k n, .int lim] = some d → ∃ ps, run T (m + 3) 35 [.lst (ns.map .int), .int b, fldD k n, .int lim] = some (ptsD ps) ∧ areP k n ps = true ∧ (ps.length : Int) ≤ lim ∧ ∀ p ∈ ps, p ∈ every k n) := by
    rintro d qs hq hl rfl e
    refine ⟨sortU qs, e, ?_, ?_, fun p m => hq p ((sortU_mem p qs).mp m)⟩
    · have hq2 : ∀ q ∈ qs, q.length = (lng k n).toNat ∧ ∀ i ∈ q, 0 ≤ i ∧ i < 1000 := fun q m => (every_pt hf (hq q m)).2
      have ha := asc_sortU (d := (lng k n).toNat) (qs := qs) (by omega) hq2
      exact areP_iff.mpr ⟨fun p m => (every_pt hf (hq p ((sortU_mem p qs).mp m))).1, asc_pw.mp ha⟩
    · have : (sortU qs).length ≤ qs.length := sortU_len qs
      omega
  suffices h : ∃ qs : List Pt, (∀ q ∈ qs, q ∈ every k n) ∧ (qs.length : Int) ≤ lim ∧ run T (m + 3) 35 [.lst (ns.map .int), .int b, fldD k n, .int lim] = some (ptsD (sortU qs)) by
    obtain ⟨qs, h1, h2, h3⟩ := h
    exact main _ qs h1 h2 rfl h3
  generalize hN : (val (cel ns b) 5).fmod (lim + 1) = N
  have hN2 : 0 ≤ N ∧ N ≤ lim := by
    have := fmod_nn (val (cel ns b) 5) (b := lim + 1) (by omega)
    omega
  have hi : ∀ i, 0 ≤ ptI k n ns b i ∧ ptI k n ns b i < (every k n).length := fun i => fmod_nn _ (by omega)
  refine ⟨(List.range N.toNat).flatMap fun i => [(every k n).getD (ptI k n ns b i).toNat []], ?_, by rw [fm_len, List.length_range]; omega, ?_⟩
  · intro q hq
    obtain ⟨i, _, h2⟩ := List.mem_flatMap.mp hq
    rw [List.mem_singleton.mp h2]
    exact (at_pts (hi i).1 (hi i).2).2
  refine run_r h35 rfl ?_
  have hq2 : ∀ q ∈ (List.range N.toNat).flatMap fun i => [(every k n).getD (ptI k n ns b i).toNat []], q.length = (lng k n).toNat ∧ ∀ i ∈ q, 0 ≤ i ∧ i < 1000 := fun q hq => by
    obtain ⟨i, _, h2⟩ := List.mem_flatMap.mp hq
    rw [List.mem_singleton.mp h2]
    exact (every_pt hf (at_pts (hi i).1 (hi i).2).2).2
  simp only [fn35, s_nil, s_asg, s_mov, s_par, s_ifs, s_ret, s_retn, s_ex, Ss.app, nx_nx, rt_rt, zv1, zv2, zv3, zv4, zv5, zv6, zv7, zv8, zv9, zv10, zv11, zv13, zv14, zv15, zv16, zv17, zv18, zv19, zw1, zw2, zr1, zr2, zr3, zr4, zr5, zr6, zr7, gt, sub_int, add_int, le_int, gt_int, ge_int, o_lt, o_eq, o_ne, o_mem, o_nmem, o_is, o_isn, o_not, o_len, o_all, o_any, o_sum, o_sort, o_ssort, o_lst, o_tup, o_ist, i_int, i_boolI, i_boolB, i_str, i_tup, i_lst, i_tupP, i_tupF, len_tup, len_lst, len_tupP, len_F, ix_tup, ix_lst, ix_tupP, ix_F0, ix_F1, not_bl, seq_tup, seq_lst, seq_tupP, lt_int, lst_lst, tpl_lst, tpl_tup, is_bb, isn_bb, bindD, setsD, List.length_cons, List.length_nil, List.map_cons, List.map_nil, List.replicate_succ, List.replicate_zero, List.append_nil, List.cons_append, List.nil_append, List.getElem?_cons_zero, List.getElem?_cons_succ, List.set_cons_zero, List.set_cons_succ, if_true, if_false, Nat.zero_add, Nat.sub_self, Nat.reduceAdd, Nat.reduceSub, Option.map_some, Option.map_none, Bool.not_true, Bool.not_false, Option.bind_some, nc0, nc1, nc2, nc3, nc4, Option.some.injEq, D.bl.injEq, D.int.injEq, reduceCtorEq, decide_true, decide_false, Int.reduceEq, Int.reduceNe, not_true_eq_false, not_false_eq_true, ne_eq, Int.reduceLE, Int.reduceLT, at0, at1, at2, eq_int, eq_bl, eq_sp, eq_pl, eq_fl, eq_tup, eq_pts, eq_lns, mem_pts, mem_lns, Bool.false_xor, Bool.true_xor, mod_int, fdiv_int, mul_int, Int.reduceNeg, Nat.reduceLT, Int.reduceAdd, Int.reduceMul, Int.reduceSub, and_self, or_true, true_or, reduceIte, beq_self_eq_true, Bool.and_self, Bool.true_and, Bool.and_true, Bool.false_and, Bool.and_false, Bool.or_true, Bool.true_or, Bool.or_false, Bool.false_or, q17 A (m := m) hf]
  refine s_accP (g := fun (i : Nat) => D.int (i : Int)) (xs := List.range N.toNat) (P := fun acc env => ∃ x4 x7, env = [some (.lst (ns.map .int)), some (.int b), some (fldD k n), some (.int lim), x4, some (ptsD (every k n)), some (ptsD acc), x7]) (fun i => [(every k n).getD (ptI k n ns b i).toNat []]) [] ?_ ⟨_, _, rfl⟩ ?_ ?_
  · have hl : lim + 1 ≠ 0 := by omega
    simp only [s_nil, s_asg, s_mov, s_par, s_ifs, s_ret, s_retn, s_ex, Ss.app, nx_nx, rt_rt, zv1, zv2, zv3, zv4, zv5, zv6, zv7, zv8, zv9, zv10, zv11, zv13, zv14, zv15, zv16, zv17, zv18, zv19, zw1, zw2, zr1, zr2, zr3, zr4, zr5, zr6, zr7, gt, sub_int, add_int, le_int, gt_int, ge_int, o_lt, o_eq, o_ne, o_mem, o_nmem, o_is, o_isn, o_not, o_len, o_all, o_any, o_sum, o_sort, o_ssort, o_lst, o_tup, o_ist, i_int, i_boolI, i_boolB, i_str, i_tup, i_lst, i_tupP, i_tupF, len_tup, len_lst, len_tupP, len_F, ix_tup, ix_lst, ix_tupP, ix_F0, ix_F1, not_bl, seq_tup, seq_lst, seq_tupP, lt_int, lst_lst, tpl_lst, tpl_tup, is_bb, isn_bb, bindD, setsD, List.length_cons, List.length_nil, List.map_cons, List.map_nil, List.replicate_succ, List.replicate_zero, List.append_nil, List.cons_append, List.nil_append, List.getElem?_cons_zero, List.getElem?_cons_succ, List.set_cons_zero, List.set_cons_succ, if_true, if_false, Nat.zero_add, Nat.sub_self, Nat.reduceAdd, Nat.reduceSub, Option.map_some, Option.map_none, Bool.not_true, Bool.not_false, Option.bind_some, nc0, nc1, nc2, nc3, nc4, Option.some.injEq, D.bl.injEq, D.int.injEq, reduceCtorEq, decide_true, decide_false, Int.reduceEq, Int.reduceNe, not_true_eq_false, not_false_eq_true, ne_eq, Int.reduceLE, Int.reduceLT, at0, at1, at2, eq_int, eq_bl, eq_sp, eq_pl, eq_fl, eq_tup, eq_pts, eq_lns, mem_pts, mem_lns, Bool.false_xor, Bool.true_xor, mod_int, fdiv_int, mul_int, Int.reduceNeg, Nat.reduceLT, Int.reduceAdd, Int.reduceMul, Int.reduceSub, and_self, or_true, true_or, reduceIte, beq_self_eq_true, Bool.and_self, Bool.true_and, Bool.and_true, Bool.false_and, Bool.and_false, Bool.or_true, Bool.true_or, Bool.or_false, Bool.false_or, q12 A (m := m + 1) hb, q14 A (m := m) (t := 5) (by decide) (by decide), mod_int hl, hN, range0 hN2.1 (show N ≤ 1000000 by omega)]
  · rintro pre i post hi0 env ⟨x4, x7, rfl⟩
    refine ⟨_, rfl, ?_⟩
    have h5 := fmod_nn (i : Int) (b := 5) (by decide)
    have h6 := fmod_nn (i : Int) (b := 6) (by decide)
    have hpl : pre.length ≤ N.toNat := by
      have := congrArg List.length hi0
      rw [List.length_range, List.length_append] at this
      omega
    simp only [s_nil, s_asg, s_mov, s_par, s_ifs, s_ret, s_retn, s_ex, Ss.app, nx_nx, rt_rt, zv1, zv2, zv3, zv4, zv5, zv6, zv7, zv8, zv9, zv10, zv11, zv13, zv14, zv15, zv16, zv17, zv18, zv19, zw1, zw2, zr1, zr2, zr3, zr4, zr5, zr6, zr7, gt, sub_int, add_int, le_int, gt_int, ge_int, o_lt, o_eq, o_ne, o_mem, o_nmem, o_is, o_isn, o_not, o_len, o_all, o_any, o_sum, o_sort, o_ssort, o_lst, o_tup, o_ist, i_int, i_boolI, i_boolB, i_str, i_tup, i_lst, i_tupP, i_tupF, len_tup, len_lst, len_tupP, len_F, ix_tup, ix_lst, ix_tupP, ix_F0, ix_F1, not_bl, seq_tup, seq_lst, seq_tupP, lt_int, lst_lst, tpl_lst, tpl_tup, is_bb, isn_bb, bindD, setsD, List.length_cons, List.length_nil, List.map_cons, List.map_nil, List.replicate_succ, List.replicate_zero, List.append_nil, List.cons_append, List.nil_append, List.getElem?_cons_zero, List.getElem?_cons_succ, List.set_cons_zero, List.set_cons_succ, if_true, if_false, Nat.zero_add, Nat.sub_self, Nat.reduceAdd, Nat.reduceSub, Option.map_some, Option.map_none, Bool.not_true, Bool.not_false, Option.bind_some, nc0, nc1, nc2, nc3, nc4, Option.some.injEq, D.bl.injEq, D.int.injEq, reduceCtorEq, decide_true, decide_false, Int.reduceEq, Int.reduceNe, not_true_eq_false, not_false_eq_true, ne_eq, Int.reduceLE, Int.reduceLT, at0, at1, at2, eq_int, eq_bl, eq_sp, eq_pl, eq_fl, eq_tup, eq_pts, eq_lns, mem_pts, mem_lns, Bool.false_xor, Bool.true_xor, mod_int, fdiv_int, mul_int, Int.reduceNeg, Nat.reduceLT, Int.reduceAdd, Int.reduceMul, Int.reduceSub, and_self, or_true, true_or, reduceIte, beq_self_eq_true, Bool.and_self, Bool.true_and, Bool.and_true, Bool.false_and, Bool.and_false, Bool.or_true, Bool.true_or, Bool.or_false, Bool.false_or, mod_int (i := (i : Int)) (j := 5) (by decide), mod_int (i := (i : Int)) (j := 6) (by decide), q12 A (m := m + 1) (ns := ns) (i := b + (i : Int).fmod 5) (by omega), mul_int (i := 17) (j := (i : Int)) (.inl (by decide)), q14 A (m := m) (t := 2 + (i : Int).fmod 6) (by omega) (by omega)]
    rw [s_app (xs := ((pre.flatMap fun i => [(every k n).getD (ptI k n ns b i).toNat []])).map tupD) (d := tupD ((every k n).getD (ptI k n ns b i).toNat [])) rfl (by
      simp only [s_nil, s_asg, s_mov, s_par, s_ifs, s_ret, s_retn, s_ex, Ss.app, nx_nx, rt_rt, zv1, zv2, zv3, zv4, zv5, zv6, zv7, zv8, zv9, zv10, zv11, zv13, zv14, zv15, zv16, zv17, zv18, zv19, zw1, zw2, zr1, zr2, zr3, zr4, zr5, zr6, zr7, gt, sub_int, add_int, le_int, gt_int, ge_int, o_lt, o_eq, o_ne, o_mem, o_nmem, o_is, o_isn, o_not, o_len, o_all, o_any, o_sum, o_sort, o_ssort, o_lst, o_tup, o_ist, i_int, i_boolI, i_boolB, i_str, i_tup, i_lst, i_tupP, i_tupF, len_tup, len_lst, len_tupP, len_F, ix_tup, ix_lst, ix_tupP, ix_F0, ix_F1, not_bl, seq_tup, seq_lst, seq_tupP, lt_int, lst_lst, tpl_lst, tpl_tup, is_bb, isn_bb, bindD, setsD, List.length_cons, List.length_nil, List.map_cons, List.map_nil, List.replicate_succ, List.replicate_zero, List.append_nil, List.cons_append, List.nil_append, List.getElem?_cons_zero, List.getElem?_cons_succ, List.set_cons_zero, List.set_cons_succ, if_true, if_false, Nat.zero_add, Nat.sub_self, Nat.reduceAdd, Nat.reduceSub, Option.map_some, Option.map_none, Bool.not_true, Bool.not_false, Option.bind_some, nc0, nc1, nc2, nc3, nc4, Option.some.injEq, D.bl.injEq, D.int.injEq, reduceCtorEq, decide_true, decide_false, Int.reduceEq, Int.reduceNe, not_true_eq_false, not_false_eq_true, ne_eq, Int.reduceLE, Int.reduceLT, at0, at1, at2, eq_int, eq_bl, eq_sp, eq_pl, eq_fl, eq_tup, eq_pts, eq_lns, mem_pts, mem_lns, Bool.false_xor, Bool.true_xor, mod_int, fdiv_int, mul_int, Int.reduceNeg, Nat.reduceLT, Int.reduceAdd, Int.reduceMul, Int.reduceSub, and_self, or_true, true_or, reduceIte, beq_self_eq_true, Bool.and_self, Bool.true_and, Bool.and_true, Bool.false_and, Bool.and_false, Bool.or_true, Bool.true_or, Bool.or_false, Bool.false_or, List.length_map, mod_int hE0]
      exact at_getP (hi i).1 (hi i).2) (by rw [List.length_map, fm_len]; unfold LIM; omega)]
    simp only [s_nil, s_asg, s_mov, s_par, s_ifs, s_ret, s_retn, s_ex, Ss.app, nx_nx, rt_rt, zv1, zv2, zv3, zv4, zv5, zv6, zv7, zv8, zv9, zv10, zv11, zv13, zv14, zv15, zv16, zv17, zv18, zv19, zw1, zw2, zr1, zr2, zr3, zr4, zr5, zr6, zr7, gt, sub_int, add_int, le_int, gt_int, ge_int, o_lt, o_eq, o_ne, o_mem, o_nmem, o_is, o_isn, o_not, o_len, o_all, o_any, o_sum, o_sort, o_ssort, o_lst, o_tup, o_ist, i_int, i_boolI, i_boolB, i_str, i_tup, i_lst, i_tupP, i_tupF, len_tup, len_lst, len_tupP, len_F, ix_tup, ix_lst, ix_tupP, ix_F0, ix_F1, not_bl, seq_tup, seq_lst, seq_tupP, lt_int, lst_lst, tpl_lst, tpl_tup, is_bb, isn_bb, bindD, setsD, List.length_cons, List.length_nil, List.map_cons, List.map_nil, List.replicate_succ, List.replicate_zero, List.append_nil, List.cons_append, List.nil_append, List.getElem?_cons_zero, List.getElem?_cons_succ, List.set_cons_zero, List.set_cons_succ, if_true, if_false, Nat.zero_add, Nat.sub_self, Nat.reduceAdd, Nat.reduceSub, Option.map_some, Option.map_none, Bool.not_true, Bool.not_false, Option.bind_some, nc0, nc1, nc2, nc3, nc4, Option.some.injEq, D.bl.injEq, D.int.injEq, reduceCtorEq, decide_true, decide_false, Int.reduceEq, Int.reduceNe, not_true_eq_false, not_false_eq_true, ne_eq, Int.reduceLE, Int.reduceLT, at0, at1, at2, eq_int, eq_bl, eq_sp, eq_pl, eq_fl, eq_tup, eq_pts, eq_lns, mem_pts, mem_lns, Bool.false_xor, Bool.true_xor, mod_int, fdiv_int, mul_int, Int.reduceNeg, Nat.reduceLT, Int.reduceAdd, Int.reduceMul, Int.reduceSub, and_self, or_true, true_or, reduceIte, beq_self_eq_true, Bool.and_self, Bool.true_and, Bool.and_true, Bool.false_and, Bool.and_false, Bool.or_true, Bool.true_or, Bool.or_false, Bool.false_or, pts_snoc]
    exact ⟨_, _, rfl⟩
  · rintro env ⟨x4, x7, rfl⟩
    simp only [s_nil, s_asg, s_mov, s_par, s_ifs, s_ret, s_retn, s_ex, Ss.app, nx_nx, rt_rt, zv1, zv2, zv3, zv4, zv5, zv6, zv7, zv8, zv9, zv10, zv11, zv13, zv14, zv15, zv16, zv17, zv18, zv19, zw1, zw2, zr1, zr2, zr3, zr4, zr5, zr6, zr7, gt, sub_int, add_int, le_int, gt_int, ge_int, o_lt, o_eq, o_ne, o_mem, o_nmem, o_is, o_isn, o_not, o_len, o_all, o_any, o_sum, o_sort, o_ssort, o_lst, o_tup, o_ist, i_int, i_boolI, i_boolB, i_str, i_tup, i_lst, i_tupP, i_tupF, len_tup, len_lst, len_tupP, len_F, ix_tup, ix_lst, ix_tupP, ix_F0, ix_F1, not_bl, seq_tup, seq_lst, seq_tupP, lt_int, lst_lst, tpl_lst, tpl_tup, is_bb, isn_bb, bindD, setsD, List.length_cons, List.length_nil, List.map_cons, List.map_nil, List.replicate_succ, List.replicate_zero, List.append_nil, List.cons_append, List.nil_append, List.getElem?_cons_zero, List.getElem?_cons_succ, List.set_cons_zero, List.set_cons_succ, if_true, if_false, Nat.zero_add, Nat.sub_self, Nat.reduceAdd, Nat.reduceSub, Option.map_some, Option.map_none, Bool.not_true, Bool.not_false, Option.bind_some, nc0, nc1, nc2, nc3, nc4, Option.some.injEq, D.bl.injEq, D.int.injEq, reduceCtorEq, decide_true, decide_false, Int.reduceEq, Int.reduceNe, not_true_eq_false, not_false_eq_true, ne_eq, Int.reduceLE, Int.reduceLT, at0, at1, at2, eq_int, eq_bl, eq_sp, eq_pl, eq_fl, eq_tup, eq_pts, eq_lns, mem_pts, mem_lns, Bool.false_xor, Bool.true_xor, mod_int, fdiv_int, mul_int, Int.reduceNeg, Nat.reduceLT, Int.reduceAdd, Int.reduceMul, Int.reduceSub, and_self, or_true, true_or, reduceIte, beq_self_eq_true, Bool.and_self, Bool.true_and, Bool.and_true, Bool.false_and, Bool.and_false, Bool.or_true, Bool.true_or, Bool.or_false, Bool.false_or]
    rw [ssort_pts (d := (lng k n).toNat) (by omega) hq2 (by rw [fm_len, List.length_range]; omega)]
    simp only [s_nil, s_asg, s_mov, s_par, s_ifs, s_ret, s_retn, s_ex, Ss.app, nx_nx, rt_rt, zv1, zv2, zv3, zv4, zv5, zv6, zv7, zv8, zv9, zv10, zv11, zv13, zv14, zv15, zv16, zv17, zv18, zv19, zw1, zw2, zr1, zr2, zr3, zr4, zr5, zr6, zr7, gt, sub_int, add_int, le_int, gt_int, ge_int, o_lt, o_eq, o_ne, o_mem, o_nmem, o_is, o_isn, o_not, o_len, o_all, o_any, o_sum, o_sort, o_ssort, o_lst, o_tup, o_ist, i_int, i_boolI, i_boolB, i_str, i_tup, i_lst, i_tupP, i_tupF, len_tup, len_lst, len_tupP, len_F, ix_tup, ix_lst, ix_tupP, ix_F0, ix_F1, not_bl, seq_tup, seq_lst, seq_tupP, lt_int, lst_lst, tpl_lst, tpl_tup, is_bb, isn_bb, bindD, setsD, List.length_cons, List.length_nil, List.map_cons, List.map_nil, List.replicate_succ, List.replicate_zero, List.append_nil, List.cons_append, List.nil_append, List.getElem?_cons_zero, List.getElem?_cons_succ, List.set_cons_zero, List.set_cons_succ, if_true, if_false, Nat.zero_add, Nat.sub_self, Nat.reduceAdd, Nat.reduceSub, Option.map_some, Option.map_none, Bool.not_true, Bool.not_false, Option.bind_some, nc0, nc1, nc2, nc3, nc4, Option.some.injEq, D.bl.injEq, D.int.injEq, reduceCtorEq, decide_true, decide_false, Int.reduceEq, Int.reduceNe, not_true_eq_false, not_false_eq_true, ne_eq, Int.reduceLE, Int.reduceLT, at0, at1, at2, eq_int, eq_bl, eq_sp, eq_pl, eq_fl, eq_tup, eq_pts, eq_lns, mem_pts, mem_lns, Bool.false_xor, Bool.true_xor, mod_int, fdiv_int, mul_int, Int.reduceNeg, Nat.reduceLT, Int.reduceAdd, Int.reduceMul, Int.reduceSub, and_self, or_true, true_or, reduceIte, beq_self_eq_true, Bool.and_self, Bool.true_and, Bool.and_true, Bool.false_and, Bool.and_false, Bool.or_true, Bool.true_or, Bool.or_false, Bool.false_or]
/-- some clear points, in order -/
theorem q36 (h34 : T.fns[34]? = some fn34) (h35 : T.fns[35]? = some fn35) (h36 : T.fns[36]? = some fn36) (hf : okF k n) {b lim : Int} (hb : 0 ≤ b) (h0 : 0 ≤ lim) (h1 : lim ≤ 20) : ∃ ps, run T (m + 4) 36 [.lst (ns.map .int), .int b, fldD k n, .int lim] = some (ptsD ps) ∧ areP k n ps = true ∧ (ps.length : Int) ≤ lim ∧ (∀ p ∈ ps, p ∈ every k n) ∧ clr k n ps := by
  obtain ⟨qs, e35, ha, hl, he⟩ := q35 A (m := m) (ns := ns) h35 hf hb h0 h1
  have hA := areP_iff.mp ha
  let f : List Pt → Pt → List Pt := fun acc p => if thr k n (acc ++ [p]) = [] then acc ++ [p] else acc
  have hP : ∀ (post pre acc : List Pt), acc.Sublist pre → (post.foldl f acc).Sublist (pre ++ post) := by
    intro post
    induction post with
    | nil => intro pre acc s; rw [List.append_nil]; exact s
    | cons p post ih =>
      intro pre acc s
      have := ih (pre ++ [p]) (f acc p) (by
        show (if _ then _ else _ : List Pt).Sublist _
        split
        · exact s.append (List.Sublist.refl _)
        · exact s.trans (List.sublist_append_left _ _))
      rwa [List.append_assoc] at this
  have hC : ∀ (post acc : List Pt), clr k n acc → clr k n (post.foldl f acc) := by
    intro post
    induction post with
    | nil => intro acc h; exact h
    | cons p post ih =>
      intro acc h
      refine ih _ ?_
      show clr k n (if _ then _ else _ : List Pt)
      split
      · rename_i h; exact clr_iff.mp h
      · exact h
  have hs := hP qs [] [] (List.Sublist.refl _)
  rw [List.nil_append] at hs
  refine ⟨qs.foldl f [], ?_, areP_iff.mpr ⟨fun p m => hA.1 p (hs.subset m), hA.2.sublist hs⟩, by have := hs.length_le; omega, fun p m => he p (hs.subset m), hC qs [] fun p q r s => by cases s⟩
  refine run_r h36 rfl ?_
  simp only [fn36, s_nil, s_asg, s_mov, s_par, s_ifs, s_ret, s_retn, s_ex, Ss.app, nx_nx, rt_rt, zv1, zv2, zv3, zv4, zv5, zv6, zv7, zv8, zv9, zv10, zv11, zv13, zv14, zv15, zv16, zv17, zv18, zv19, zw1, zw2, zr1, zr2, zr3, zr4, zr5, zr6, zr7, gt, sub_int, add_int, le_int, gt_int, ge_int, o_lt, o_eq, o_ne, o_mem, o_nmem, o_is, o_isn, o_not, o_len, o_all, o_any, o_sum, o_sort, o_ssort, o_lst, o_tup, o_ist, i_int, i_boolI, i_boolB, i_str, i_tup, i_lst, i_tupP, i_tupF, len_tup, len_lst, len_tupP, len_F, ix_tup, ix_lst, ix_tupP, ix_F0, ix_F1, not_bl, seq_tup, seq_lst, seq_tupP, lt_int, lst_lst, tpl_lst, tpl_tup, is_bb, isn_bb, bindD, setsD, List.length_cons, List.length_nil, List.map_cons, List.map_nil, List.replicate_succ, List.replicate_zero, List.append_nil, List.cons_append, List.nil_append, List.getElem?_cons_zero, List.getElem?_cons_succ, List.set_cons_zero, List.set_cons_succ, if_true, if_false, Nat.zero_add, Nat.sub_self, Nat.reduceAdd, Nat.reduceSub, Option.map_some, Option.map_none, Bool.not_true, Bool.not_false, Option.bind_some, nc0, nc1, nc2, nc3, nc4, Option.some.injEq, D.bl.injEq, D.int.injEq, reduceCtorEq, decide_true, decide_false, Int.reduceEq, Int.reduceNe, not_true_eq_false, not_false_eq_true, ne_eq, Int.reduceLE, Int.reduceLT, at0, at1, at2, eq_int, eq_bl, eq_sp, eq_pl, eq_fl, eq_tup, eq_pts, eq_lns, mem_pts, mem_lns, Bool.false_xor, Bool.true_xor, mod_int, fdiv_int, mul_int, Int.reduceNeg, Nat.reduceLT, Int.reduceAdd, Int.reduceMul, Int.reduceSub, and_self, or_true, true_or, reduceIte, beq_self_eq_true, Bool.and_self, Bool.true_and, Bool.and_true, Bool.false_and, Bool.and_false, Bool.or_true, Bool.true_or, Bool.or_false, Bool.false_or]
  refine s_foldP (g := tupD) (xs := qs) (P := fun acc env => ∃ x5, env = [some (.lst (ns.map .int)), some (.int b), some (fldD k n), some (.int lim), some (ptsD acc), x5]) f [] ?_ ⟨_, rfl⟩ ?_ ?_
  · simp only [s_nil, s_asg, s_mov, s_par, s_ifs, s_ret, s_retn, s_ex, Ss.app, nx_nx, rt_rt, zv1, zv2, zv3, zv4, zv5, zv6, zv7, zv8, zv9, zv10, zv11, zv13, zv14, zv15, zv16, zv17, zv18, zv19, zw1, zw2, zr1, zr2, zr3, zr4, zr5, zr6, zr7, gt, sub_int, add_int, le_int, gt_int, ge_int, o_lt, o_eq, o_ne, o_mem, o_nmem, o_is, o_isn, o_not, o_len, o_all, o_any, o_sum, o_sort, o_ssort, o_lst, o_tup, o_ist, i_int, i_boolI, i_boolB, i_str, i_tup, i_lst, i_tupP, i_tupF, len_tup, len_lst, len_tupP, len_F, ix_tup, ix_lst, ix_tupP, ix_F0, ix_F1, not_bl, seq_tup, seq_lst, seq_tupP, lt_int, lst_lst, tpl_lst, tpl_tup, is_bb, isn_bb, bindD, setsD, List.length_cons, List.length_nil, List.map_cons, List.map_nil, List.replicate_succ, List.replicate_zero, List.append_nil, List.cons_append, List.nil_append, List.getElem?_cons_zero, List.getElem?_cons_succ, List.set_cons_zero, List.set_cons_succ, if_true, if_false, Nat.zero_add, Nat.sub_self, Nat.reduceAdd, Nat.reduceSub, Option.map_some, Option.map_none, Bool.not_true, Bool.not_false, Option.bind_some, nc0, nc1, nc2, nc3, nc4, Option.some.injEq, D.bl.injEq, D.int.injEq, reduceCtorEq, decide_true, decide_false, Int.reduceEq, Int.reduceNe, not_true_eq_false, not_false_eq_true, ne_eq, Int.reduceLE, Int.reduceLT, at0, at1, at2, eq_int, eq_bl, eq_sp, eq_pl, eq_fl, eq_tup, eq_pts, eq_lns, mem_pts, mem_lns, Bool.false_xor, Bool.true_xor, mod_int, fdiv_int, mul_int, Int.reduceNeg, Nat.reduceLT, Int.reduceAdd, Int.reduceMul, Int.reduceSub, and_self, or_true, true_or, reduceIte, beq_self_eq_true, Bool.and_self, Bool.true_and, Bool.and_true, Bool.false_and, Bool.and_false, Bool.or_true, Bool.true_or, Bool.or_false, Bool.false_or, e35]
  · rintro pre p post hpp env ⟨x5, rfl⟩
    refine ⟨_, rfl, ?_⟩
    have hsp := hP pre [] [] (List.Sublist.refl _)
    rw [List.nil_append] at hsp
    generalize pre.foldl f [] = acc at hsp ⊢
    have hal : acc.length ≤ 20 := by
      have := hsp.length_le
      have := congrArg List.length hpp
      rw [List.length_append] at this
      omega
    have hai : ∀ q ∈ acc ++ [p], isPt k n q := fun q m => hA.1 q (by
      rw [hpp]
      rcases List.mem_append.mp m with m | m
      · exact List.mem_append_left _ (hsp.subset m)
      · rw [List.mem_singleton.mp m]; simp)
    have e34 := q34 A (m := m + 1) h34 hf (acc ++ [p]) (by rw [List.length_append]; simp; omega) hai
    rw [show ptsD (acc ++ [p]) = .lst (acc.map tupD ++ [tupD p]) from (pts_snoc acc p).symm] at e34
    simp only [s_nil, s_asg, s_mov, s_par, s_ifs, s_ret, s_retn, s_ex, Ss.app, nx_nx, rt_rt, zv1, zv2, zv3, zv4, zv5, zv6, zv7, zv8, zv9, zv10, zv11, zv13, zv14, zv15, zv16, zv17, zv18, zv19, zw1, zw2, zr1, zr2, zr3, zr4, zr5, zr6, zr7, gt, sub_int, add_int, le_int, gt_int, ge_int, o_lt, o_eq, o_ne, o_mem, o_nmem, o_is, o_isn, o_not, o_len, o_all, o_any, o_sum, o_sort, o_ssort, o_lst, o_tup, o_ist, i_int, i_boolI, i_boolB, i_str, i_tup, i_lst, i_tupP, i_tupF, len_tup, len_lst, len_tupP, len_F, ix_tup, ix_lst, ix_tupP, ix_F0, ix_F1, not_bl, seq_tup, seq_lst, seq_tupP, lt_int, lst_lst, tpl_lst, tpl_tup, is_bb, isn_bb, bindD, setsD, List.length_cons, List.length_nil, List.map_cons, List.map_nil, List.replicate_succ, List.replicate_zero, List.append_nil, List.cons_append, List.nil_append, List.getElem?_cons_zero, List.getElem?_cons_succ, List.set_cons_zero, List.set_cons_succ, if_true, if_false, Nat.zero_add, Nat.sub_self, Nat.reduceAdd, Nat.reduceSub, Option.map_some, Option.map_none, Bool.not_true, Bool.not_false, Option.bind_some, nc0, nc1, nc2, nc3, nc4, Option.some.injEq, D.bl.injEq, D.int.injEq, reduceCtorEq, decide_true, decide_false, Int.reduceEq, Int.reduceNe, not_true_eq_false, not_false_eq_true, ne_eq, Int.reduceLE, Int.reduceLT, at0, at1, at2, eq_int, eq_bl, eq_sp, eq_pl, eq_fl, eq_tup, eq_pts, eq_lns, mem_pts, mem_lns, Bool.false_xor, Bool.true_xor, mod_int, fdiv_int, mul_int, Int.reduceNeg, Nat.reduceLT, Int.reduceAdd, Int.reduceMul, Int.reduceSub, and_self, or_true, true_or, reduceIte, beq_self_eq_true, Bool.and_self, Bool.true_and, Bool.and_true, Bool.false_and, Bool.and_false, Bool.or_true, Bool.true_or, Bool.or_false, Bool.false_or]
    rw [add_lst _ _ (by simp [LIM]; omega)]
    simp only [s_nil, s_asg, s_mov, s_par, s_ifs, s_ret, s_retn, s_ex, Ss.app, nx_nx, rt_rt, zv1, zv2, zv3, zv4, zv5, zv6, zv7, zv8, zv9, zv10, zv11, zv13, zv14, zv15, zv16, zv17, zv18, zv19, zw1, zw2, zr1, zr2, zr3, zr4, zr5, zr6, zr7, gt, sub_int, add_int, le_int, gt_int, ge_int, o_lt, o_eq, o_ne, o_mem, o_nmem, o_is, o_isn, o_not, o_len, o_all, o_any, o_sum, o_sort, o_ssort, o_lst, o_tup, o_ist, i_int, i_boolI, i_boolB, i_str, i_tup, i_lst, i_tupP, i_tupF, len_tup, len_lst, len_tupP, len_F, ix_tup, ix_lst, ix_tupP, ix_F0, ix_F1, not_bl, seq_tup, seq_lst, seq_tupP, lt_int, lst_lst, tpl_lst, tpl_tup, is_bb, isn_bb, bindD, setsD, List.length_cons, List.length_nil, List.map_cons, List.map_nil, List.replicate_succ, List.replicate_zero, List.append_nil, List.cons_append, List.nil_append, List.getElem?_cons_zero, List.getElem?_cons_succ, List.set_cons_zero, List.set_cons_succ, if_true, if_false, Nat.zero_add, Nat.sub_self, Nat.reduceAdd, Nat.reduceSub, Option.map_some, Option.map_none, Bool.not_true, Bool.not_false, Option.bind_some, nc0, nc1, nc2, nc3, nc4, Option.some.injEq, D.bl.injEq, D.int.injEq, reduceCtorEq, decide_true, decide_false, Int.reduceEq, Int.reduceNe, not_true_eq_false, not_false_eq_true, ne_eq, Int.reduceLE, Int.reduceLT, at0, at1, at2, eq_int, eq_bl, eq_sp, eq_pl, eq_fl, eq_tup, eq_pts, eq_lns, mem_pts, mem_lns, Bool.false_xor, Bool.true_xor, mod_int, fdiv_int, mul_int, Int.reduceNeg, Nat.reduceLT, Int.reduceAdd, Int.reduceMul, Int.reduceSub, and_self, or_true, true_or, reduceIte, beq_self_eq_true, Bool.and_self, Bool.true_and, Bool.and_true, Bool.false_and, Bool.and_false, Bool.or_true, Bool.true_or, Bool.or_false, Bool.false_or, e34, eq_lns_nil]
    by_cases hz : thr k n (acc ++ [p]) = []
    · simp only [s_nil, s_asg, s_mov, s_par, s_ifs, s_ret, s_retn, s_ex, Ss.app, nx_nx, rt_rt, zv1, zv2, zv3, zv4, zv5, zv6, zv7, zv8, zv9, zv10, zv11, zv13, zv14, zv15, zv16, zv17, zv18, zv19, zw1, zw2, zr1, zr2, zr3, zr4, zr5, zr6, zr7, gt, sub_int, add_int, le_int, gt_int, ge_int, o_lt, o_eq, o_ne, o_mem, o_nmem, o_is, o_isn, o_not, o_len, o_all, o_any, o_sum, o_sort, o_ssort, o_lst, o_tup, o_ist, i_int, i_boolI, i_boolB, i_str, i_tup, i_lst, i_tupP, i_tupF, len_tup, len_lst, len_tupP, len_F, ix_tup, ix_lst, ix_tupP, ix_F0, ix_F1, not_bl, seq_tup, seq_lst, seq_tupP, lt_int, lst_lst, tpl_lst, tpl_tup, is_bb, isn_bb, bindD, setsD, List.length_cons, List.length_nil, List.map_cons, List.map_nil, List.replicate_succ, List.replicate_zero, List.append_nil, List.cons_append, List.nil_append, List.getElem?_cons_zero, List.getElem?_cons_succ, List.set_cons_zero, List.set_cons_succ, if_true, if_false, Nat.zero_add, Nat.sub_self, Nat.reduceAdd, Nat.reduceSub, Option.map_some, Option.map_none, Bool.not_true, Bool.not_false, Option.bind_some, nc0, nc1, nc2, nc3, nc4, Option.some.injEq, D.bl.injEq, D.int.injEq, reduceCtorEq, decide_true, decide_false, Int.reduceEq, Int.reduceNe, not_true_eq_false, not_false_eq_true, ne_eq, Int.reduceLE, Int.reduceLT, at0, at1, at2, eq_int, eq_bl, eq_sp, eq_pl, eq_fl, eq_tup, eq_pts, eq_lns, mem_pts, mem_lns, Bool.false_xor, Bool.true_xor, mod_int, fdiv_int, mul_int, Int.reduceNeg, Nat.reduceLT, Int.reduceAdd, Int.reduceMul, Int.reduceSub, and_self, or_true, true_or, reduceIte, beq_self_eq_true, Bool.and_self, Bool.true_and, Bool.and_true, Bool.false_and, Bool.and_false, Bool.or_true, Bool.true_or, Bool.or_false, Bool.false_or, hz]
      rw [s_app (xs := acc.map tupD) (d := tupD p) rfl (by simp only [s_nil, s_asg, s_mov, s_par, s_ifs, s_ret, s_retn, s_ex, Ss.app, nx_nx, rt_rt, zv1, zv2, zv3, zv4, zv5, zv6, zv7, zv8, zv9, zv10, zv11, zv13, zv14, zv15, zv16, zv17, zv18, zv19, zw1, zw2, zr1, zr2, zr3, zr4, zr5, zr6, zr7, gt, sub_int, add_int, le_int, gt_int, ge_int, o_lt, o_eq, o_ne, o_mem, o_nmem, o_is, o_isn, o_not, o_len, o_all, o_any, o_sum, o_sort, o_ssort, o_lst, o_tup, o_ist, i_int, i_boolI, i_boolB, i_str, i_tup, i_lst, i_tupP, i_tupF, len_tup, len_lst, len_tupP, len_F, ix_tup, ix_lst, ix_tupP, ix_F0, ix_F1, not_bl, seq_tup, seq_lst, seq_tupP, lt_int, lst_lst, tpl_lst, tpl_tup, is_bb, isn_bb, bindD, setsD, List.length_cons, List.length_nil, List.map_cons, List.map_nil, List.replicate_succ, List.replicate_zero, List.append_nil, List.cons_append, List.nil_append, List.getElem?_cons_zero, List.getElem?_cons_succ, List.set_cons_zero, List.set_cons_succ, if_true, if_false, Nat.zero_add, Nat.sub_self, Nat.reduceAdd, Nat.reduceSub, Option.map_some, Option.map_none, Bool.not_true, Bool.not_false, Option.bind_some, nc0, nc1, nc2, nc3, nc4, Option.some.injEq, D.bl.injEq, D.int.injEq, reduceCtorEq, decide_true, decide_false, Int.reduceEq, Int.reduceNe, not_true_eq_false, not_false_eq_true, ne_eq, Int.reduceLE, Int.reduceLT, at0, at1, at2, eq_int, eq_bl, eq_sp, eq_pl, eq_fl, eq_tup, eq_pts, eq_lns, mem_pts, mem_lns, Bool.false_xor, Bool.true_xor, mod_int, fdiv_int, mul_int, Int.reduceNeg, Nat.reduceLT, Int.reduceAdd, Int.reduceMul, Int.reduceSub, and_self, or_true, true_or, reduceIte, beq_self_eq_true, Bool.and_self, Bool.true_and, Bool.and_true, Bool.false_and, Bool.and_false, Bool.or_true, Bool.true_or, Bool.or_false, Bool.false_or]) (by rw [List.length_map]; unfold LIM; omega)]
      simp only [s_nil, s_asg, s_mov, s_par, s_ifs, s_ret, s_retn, s_ex, Ss.app, nx_nx, rt_rt, zv1, zv2, zv3, zv4, zv5, zv6, zv7, zv8, zv9, zv10, zv11, zv13, zv14, zv15, zv16, zv17, zv18, zv19, zw1, zw2, zr1, zr2, zr3, zr4, zr5, zr6, zr7, gt, sub_int, add_int, le_int, gt_int, ge_int, o_lt, o_eq, o_ne, o_mem, o_nmem, o_is, o_isn, o_not, o_len, o_all, o_any, o_sum, o_sort, o_ssort, o_lst, o_tup, o_ist, i_int, i_boolI, i_boolB, i_str, i_tup, i_lst, i_tupP, i_tupF, len_tup, len_lst, len_tupP, len_F, ix_tup, ix_lst, ix_tupP, ix_F0, ix_F1, not_bl, seq_tup, seq_lst, seq_tupP, lt_int, lst_lst, tpl_lst, tpl_tup, is_bb, isn_bb, bindD, setsD, List.length_cons, List.length_nil, List.map_cons, List.map_nil, List.replicate_succ, List.replicate_zero, List.append_nil, List.cons_append, List.nil_append, List.getElem?_cons_zero, List.getElem?_cons_succ, List.set_cons_zero, List.set_cons_succ, if_true, if_false, Nat.zero_add, Nat.sub_self, Nat.reduceAdd, Nat.reduceSub, Option.map_some, Option.map_none, Bool.not_true, Bool.not_false, Option.bind_some, nc0, nc1, nc2, nc3, nc4, Option.some.injEq, D.bl.injEq, D.int.injEq, reduceCtorEq, decide_true, decide_false, Int.reduceEq, Int.reduceNe, not_true_eq_false, not_false_eq_true, ne_eq, Int.reduceLE, Int.reduceLT, at0, at1, at2, eq_int, eq_bl, eq_sp, eq_pl, eq_fl, eq_tup, eq_pts, eq_lns, mem_pts, mem_lns, Bool.false_xor, Bool.true_xor, mod_int, fdiv_int, mul_int, Int.reduceNeg, Nat.reduceLT, Int.reduceAdd, Int.reduceMul, Int.reduceSub, and_self, or_true, true_or, reduceIte, beq_self_eq_true, Bool.and_self, Bool.true_and, Bool.and_true, Bool.false_and, Bool.and_false, Bool.or_true, Bool.true_or, Bool.or_false, Bool.false_or, pts_snoc]
      exact ⟨_, by rw [show f acc p = acc ++ [p] from if_pos hz]⟩
    · simp only [s_nil, s_asg, s_mov, s_par, s_ifs, s_ret, s_retn, s_ex, Ss.app, nx_nx, rt_rt, zv1, zv2, zv3, zv4, zv5, zv6, zv7, zv8, zv9, zv10, zv11, zv13, zv14, zv15, zv16, zv17, zv18, zv19, zw1, zw2, zr1, zr2, zr3, zr4, zr5, zr6, zr7, gt, sub_int, add_int, le_int, gt_int, ge_int, o_lt, o_eq, o_ne, o_mem, o_nmem, o_is, o_isn, o_not, o_len, o_all, o_any, o_sum, o_sort, o_ssort, o_lst, o_tup, o_ist, i_int, i_boolI, i_boolB, i_str, i_tup, i_lst, i_tupP, i_tupF, len_tup, len_lst, len_tupP, len_F, ix_tup, ix_lst, ix_tupP, ix_F0, ix_F1, not_bl, seq_tup, seq_lst, seq_tupP, lt_int, lst_lst, tpl_lst, tpl_tup, is_bb, isn_bb, bindD, setsD, List.length_cons, List.length_nil, List.map_cons, List.map_nil, List.replicate_succ, List.replicate_zero, List.append_nil, List.cons_append, List.nil_append, List.getElem?_cons_zero, List.getElem?_cons_succ, List.set_cons_zero, List.set_cons_succ, if_true, if_false, Nat.zero_add, Nat.sub_self, Nat.reduceAdd, Nat.reduceSub, Option.map_some, Option.map_none, Bool.not_true, Bool.not_false, Option.bind_some, nc0, nc1, nc2, nc3, nc4, Option.some.injEq, D.bl.injEq, D.int.injEq, reduceCtorEq, decide_true, decide_false, Int.reduceEq, Int.reduceNe, not_true_eq_false, not_false_eq_true, ne_eq, Int.reduceLE, Int.reduceLT, at0, at1, at2, eq_int, eq_bl, eq_sp, eq_pl, eq_fl, eq_tup, eq_pts, eq_lns, mem_pts, mem_lns, Bool.false_xor, Bool.true_xor, mod_int, fdiv_int, mul_int, Int.reduceNeg, Nat.reduceLT, Int.reduceAdd, Int.reduceMul, Int.reduceSub, and_self, or_true, true_or, reduceIte, beq_self_eq_true, Bool.and_self, Bool.true_and, Bool.and_true, Bool.false_and, Bool.and_false, Bool.or_true, Bool.true_or, Bool.or_false, Bool.false_or, hz]
      exact ⟨_, by rw [show f acc p = acc from if_neg hz]⟩
  · rintro env ⟨x5, rfl⟩
    simp only [s_nil, s_asg, s_mov, s_par, s_ifs, s_ret, s_retn, s_ex, Ss.app, nx_nx, rt_rt, zv1, zv2, zv3, zv4, zv5, zv6, zv7, zv8, zv9, zv10, zv11, zv13, zv14, zv15, zv16, zv17, zv18, zv19, zw1, zw2, zr1, zr2, zr3, zr4, zr5, zr6, zr7, gt, sub_int, add_int, le_int, gt_int, ge_int, o_lt, o_eq, o_ne, o_mem, o_nmem, o_is, o_isn, o_not, o_len, o_all, o_any, o_sum, o_sort, o_ssort, o_lst, o_tup, o_ist, i_int, i_boolI, i_boolB, i_str, i_tup, i_lst, i_tupP, i_tupF, len_tup, len_lst, len_tupP, len_F, ix_tup, ix_lst, ix_tupP, ix_F0, ix_F1, not_bl, seq_tup, seq_lst, seq_tupP, lt_int, lst_lst, tpl_lst, tpl_tup, is_bb, isn_bb, bindD, setsD, List.length_cons, List.length_nil, List.map_cons, List.map_nil, List.replicate_succ, List.replicate_zero, List.append_nil, List.cons_append, List.nil_append, List.getElem?_cons_zero, List.getElem?_cons_succ, List.set_cons_zero, List.set_cons_succ, if_true, if_false, Nat.zero_add, Nat.sub_self, Nat.reduceAdd, Nat.reduceSub, Option.map_some, Option.map_none, Bool.not_true, Bool.not_false, Option.bind_some, nc0, nc1, nc2, nc3, nc4, Option.some.injEq, D.bl.injEq, D.int.injEq, reduceCtorEq, decide_true, decide_false, Int.reduceEq, Int.reduceNe, not_true_eq_false, not_false_eq_true, ne_eq, Int.reduceLE, Int.reduceLT, at0, at1, at2, eq_int, eq_bl, eq_sp, eq_pl, eq_fl, eq_tup, eq_pts, eq_lns, mem_pts, mem_lns, Bool.false_xor, Bool.true_xor, mod_int, fdiv_int, mul_int, Int.reduceNeg, Nat.reduceLT, Int.reduceAdd, Int.reduceMul, Int.reduceSub, and_self, or_true, true_or, reduceIte, beq_self_eq_true, Bool.and_self, Bool.true_and, Bool.and_true, Bool.false_and, Bool.and_false, Bool.or_true, Bool.true_or, Bool.or_false, Bool.false_or]
end
/-! ### the law's way through its script -/
theorem slice63 {ns : List Int} (hl : ns.length ≤ 63) : slD none (some 63) (.frl ns) = some (.lst (ns.map .int)) := by
  show some (D.lst (cutD (ns.map .int) none (some ((63 : Nat) : Int)))) = _
  rw [cut_take, List.take_of_length_le (by rw [List.length_map]; exact hl)]
theorem max1 {i : Int} : op2 .max (.int 1) (.int i) = some (.int (if i > 1 then i else 1)) := rfl
theorem range_step {J K : Int} (h0 : 1 ≤ J) (h1 : J ≤ 63) (h2 : 1 ≤ K) (h3 : K ≤ 64) : (if decide ((0 : Int) ≤ 0) && decide ((0 : Int) ≤ 1000000) && decide (0 ≤ J) && decide (J ≤ 1000000) && decide (0 < K) && decide (K < 1000000) then some (range3D 0 J K) else none) = some ((List.range (rg3 0 J K).toNat).map fun (i : Nat) => D.int (0 + (i : Int) * K)) := by
  rw [if_pos (by simp only [Bool.and_eq_true, decide_eq_true_eq]; omega)]
  rfl
theorem areP_take {k : Kd} {n : Int} {ps : List Pt} (h : areP k n ps = true) (i : Nat) : areP k n (ps.take i) = true := by
  have := areP_iff.mp h
  exact areP_iff.mpr ⟨fun p m => this.1 p (List.mem_of_mem_take m), this.2.sublist (List.take_sublist ..)⟩
theorem areP_drop {k : Kd} {n : Int} {ps : List Pt} (h : areP k n ps = true) (i : Nat) : areP k n (ps.drop i) = true := by
  have := areP_iff.mp h
  exact areP_iff.mpr ⟨fun p m => this.1 p (List.mem_of_mem_drop m), this.2.sublist (List.drop_sublist ..)⟩
end Nt

set_option Elab.async false
set_option linter.all false
set_option maxRecDepth 100000
set_option maxHeartbeats 4000000
/-! A point more; closed; closed up. -/
namespace Nt
open PySem PySem.Spec PyProof.Rows L2
section
variable {T : Tb} {cl : Nat → List D → Option D} {env : Env} {ss b : Ss} {c e : E} {i : Nat}
theorem s_asgF : exs T cl (.cons (.asgF i e) ss) env = (match ev T cl e env with | some d => if flat d then exs T cl ss (env.set i (some d)) else none | none => none) := by
  rw [exs.eq_2]
  show (match (match ev T cl e env with | some d => if flat d then some (Fl.nx (env.set i (some d))) else none | none => none) with | some (.nx env2) => exs T cl ss env2 | r => r) = _
  cases ev T cl e env with
  | none => rfl
  | some d =>
    show (match (if flat d then some (Fl.nx (env.set i (some d))) else none) with | some (.nx env2) => exs T cl ss env2 | r => r) = (if flat d then exs T cl ss (env.set i (some d)) else none)
    cases flat d <;> rfl
theorem whl_loop {c : Env → Option D} {body : Env → Option Fl} {R : Option Fl → Prop} (P : Nat → Env → Prop)
    (step : ∀ n env, P n env → (c env = some (.bl false) ∧ R (some (.nx env))) ∨ (c env = some (.bl true) ∧ ∃ n', n' < n ∧ Nx (P n') (body env))) : ∀ (f n : Nat) (env : Env), P n env → n < f → R (whileD c body f env)
  | 0, _, _, _, h => absurd h (Nat.not_lt_zero _)
  | f + 1, n, env, p, h => by
    rw [whileD]
    rcases step n env p with ⟨e, r⟩ | ⟨e, n', hn, env2, e2, p2⟩
    · rw [e]; exact r
    · rw [e]
      show R (match body env with | some (.nx env2) => whileD c body f env2 | r => r)
      rw [e2]
      exact whl_loop P step f n' env2 p2 (by omega)
/-- a while, by what falls -/
theorem s_whl {R : Option Fl → Prop} (P : Nat → Env → Prop) {n : Nat} (h0 : P n env) (hn : n < 500)
    (step : ∀ n env, P n env → (ev T cl c env = some (.bl false) ∧ R (exs T cl ss env)) ∨ (ev T cl c env = some (.bl true) ∧ ∃ n', n' < n ∧ Nx (P n') (exs T cl b env))) : R (exs T cl (.cons (.whl c b) ss) env) := by
  rw [exs.eq_2, ex.eq_12]
  show R (match whileD (fun env => ev T cl c env) (fun env => exs T cl b env) WF env with | some (.nx env2) => exs T cl ss env2 | r => r)
  exact whl_loop (R := fun r => R (match r with | some (.nx env2) => exs T cl ss env2 | r => r)) P step WF n env h0 hn
end
mutual
theorem flats_ints : ∀ p : Pt, flats (p.map .int) = true
  | [] => rfl
  | i :: p => by rw [List.map_cons, flats, flat, flats_ints p]; rfl
end
theorem flat_tup (p : Pt) : flat (tupD p) = true := by rw [tupD, flat, flats_ints]
theorem flat_non : flat .non = true := rfl
theorem sort_pts {d : Nat} {qs : List Pt} (hd : 1 ≤ d) (h : ∀ q ∈ qs, q.length = d ∧ ∀ i ∈ q, 0 ≤ i ∧ i < 1000) (hl : qs.length < 64) : srtD (ptsD qs) = some (ptsD (sortL qs)) := by
  show sortD sortL (qs.map tupD) = _
  unfold sortD
  rw [tups_map]
  show (if (evenL qs && decide (qs.length < 64)) = true then some (D.lst ((sortL qs).map tupD)) else none) = _
  rw [even_pts hd h, decide_eq_true hl]
  rfl
theorem isPt_bd {k : Kd} {n : Int} {p : Pt} (hf : okF k n) (h : isPt k n p) : p.length = (lng k n).toNat ∧ ∀ i ∈ p, 0 ≤ i ∧ i < 1000 := by
  have w := wid_le hf
  have l := lng_le hf
  refine ⟨by have := h.1; omega, fun i hi => ?_⟩
  have := h.2 i hi
  omega
theorem isPt_every {k : Kd} {n : Int} {p : Pt} (hf : okF k n) : isPt k n p ↔ p ∈ every k n := by
  refine ⟨fun h => ?_, fun h => (every_pt hf h).1⟩
  have w := wid_le hf
  have l := lng_le hf
  unfold every
  have e1 : p.length = (lng k n).toNat := by have := h.1; omega
  have e2 : ∀ i ∈ p, 0 ≤ i ∧ i < ((wid k n).toNat : Int) := fun i hi => by have := h.2 i hi; omega
  clear h
  generalize (lng k n).toNat = L at e1
  generalize (wid k n).toNat = w at e2
  have : ∀ (L : Nat) (p : Pt), p.length = L → (∀ i ∈ p, 0 ≤ i ∧ i < (w : Int)) → p ∈ allP w L := by
    intro L
    induction L with
    | zero => intro p h _; rw [List.length_eq_zero_iff.mp h]; simp [allP]
    | succ L ih =>
      intro p h1 h2
      have hne : p ≠ [] := by intro e; rw [e] at h1; cases h1
      have hd : p = p.dropLast ++ [p.getLast hne] := (List.dropLast_concat_getLast hne).symm
      have hl := h2 _ (List.getLast_mem hne)
      rw [allP]
      refine List.mem_flatMap.mpr ⟨p.dropLast, ih _ (by rw [List.length_dropLast, h1]; rfl) fun i hi => h2 i ((List.dropLast_sublist p).subset hi), List.mem_map.mpr ⟨(p.getLast hne).toNat, List.mem_range.mpr (by omega), ?_⟩⟩
      rw [show (((p.getLast hne).toNat : Nat) : Int) = p.getLast hne by omega]
      exact hd.symm
  exact this L p e1 e2
section
variable {k : Kd} {n : Int} {ps : List Pt} {p : Pt}
theorem linW_aux (f : Pt → Pt → Bool) (ps : List Pt) : ∀ (xs a : List Pt), ps = a ++ xs → (((enP a.length xs).any fun z => (ps.take z.1).any fun t => f z.2 t) = false ↔ (∀ y ∈ xs, ∀ x ∈ a, f y x = false) ∧ xs.Pairwise fun x y => f y x = false)
  | [], a, _ => by simp [enP]
  | y :: xs, a, e => by
    have ih := linW_aux f ps xs (a ++ [y]) (by rw [e]; simp)
    rw [List.length_append, List.length_singleton] at ih
    rw [enP, List.any_cons, Bool.or_eq_false_iff, ih, List.pairwise_cons]
    have et : ps.take a.length = a := by rw [e]; simp
    show ((ps.take a.length).any fun t => f y t) = false ∧ _ ↔ _
    rw [et, List.any_eq_false]
    constructor
    · rintro ⟨h1, h2, h3⟩
      refine ⟨fun z hz x hx => ?_, fun z hz => h2 z hz y (by simp), h3⟩
      rcases List.mem_cons.mp hz with rfl | hz
      · simpa using h1 x hx
      · exact h2 z hz x (by simp [hx])
    · rintro ⟨h1, h2, h3⟩
      refine ⟨fun x hx => by simpa using h1 y (by simp) x hx, fun z hz x hx => ?_, h3⟩
      rcases List.mem_append.mp hx with hx | hx
      · exact h1 z (by simp [hz]) x hx
      · rw [List.mem_singleton.mp hx]; exact h2 z hz
theorem linW_iff : linW k n ps p = false ↔ ps.Pairwise fun x y => lin k n y x p = false := by
  have := linW_aux (fun a b => lin k n a b p) ps ps [] rfl
  unfold linW
  rw [show (0 : Nat) = ([] : List Pt).length from rfl, this]
  simp
def goodP (k : Kd) (n : Int) (ps : List Pt) (p : Pt) : Bool := decide (p ∉ ps) && !linW k n ps p
def moreL (k : Kd) (n : Int) (ps : List Pt) : List Pt := (every k n).filter (goodP k n ps)
/-- no two of some points lie in a line with p -/
theorem good_any (a : areP k n ps = true) (hp : isPt k n p) (h : linW k n ps p = false) {x y : Pt} (hx : x ∈ ps) (hy : y ∈ ps) (ne : x ≠ y) : lin k n x y p = false := by
  have hi := (areP_iff.mp a).1
  have h := linW_iff.mp h
  have key : ∀ (l : List Pt), (l.Pairwise fun x y => lin k n y x p = false) → (∀ z ∈ l, isPt k n z) → x ∈ l → y ∈ l → lin k n x y p = false := by
    intro l
    induction l with
    | nil => intro _ _ h; cases h
    | cons z l ih =>
      intro h hi hx hy
      have g := List.pairwise_cons.mp h
      rcases List.mem_cons.mp hx with e | hx
      · subst e
        rcases List.mem_cons.mp hy with e | hy
        · exact absurd e.symm ne
        · rw [lin_sw12 (hi _ (by simp)) (hi _ (by simp [hy]))]
          exact g.1 y hy
      · rcases List.mem_cons.mp hy with e | hy
        · rw [e]; exact g.1 x hx
        · exact ih g.2 (fun z hz => hi z (by simp [hz])) hx hy
  exact key ps h hi hx hy
theorem pw_lx {d : Nat} {qs : List Pt} (h : Evn d qs) (s : qs.Pairwise Le) (nd : qs.Nodup) : qs.Pairwise Lx := by
  have : qs.Pairwise fun a b => Le a b ∧ a ≠ b := s.and nd
  refine this.imp_of_mem fun {a b} ha hb ⟨l, ne⟩ => ?_
  have h1 := h a ha
  have h2 := h b hb
  show HT.lexLt a b = true
  rw [lex_code (h1.1.trans h2.1.symm) h1.2 h2.2]
  refine decide_eq_true ?_
  have l : TS.code 1000 a ≤ TS.code 1000 b := l
  rcases Int.lt_or_eq_of_le l with q | q
  · exact q
  · exact absurd (code_inj (h1.1.trans h2.1.symm) h1.2 h2.2 q) ne
theorem pts_evn {qs : List Pt} (hf : okF k n) (h : ∀ q ∈ qs, isPt k n q) : Evn (lng k n).toNat qs := fun q m => isPt_bd hf (h q m)
theorem areP_sort {qs : List Pt} (hf : okF k n) (h : ∀ q ∈ qs, isPt k n q) (nd : qs.Nodup) : areP k n (sortL qs) = true := by
  have pm := sortL_perm qs
  refine areP_iff.mpr ⟨fun p m => h p (pm.mem_iff.mp m), ?_⟩
  exact pw_lx (fun q m => isPt_bd hf (h q (pm.mem_iff.mp m))) (sortL_sorted (d := (lng k n).toNat) qs (pts_evn hf h)) (pm.nodup_iff.mpr nd)
theorem areP_nodup (h : areP k n ps = true) : ps.Nodup := (areP_iff.mp h).2.imp fun l => lex_ne l
theorem nd_snoc (h : areP k n ps = true) (hn : p ∉ ps) : (ps ++ [p]).Nodup := by
  rw [List.nodup_append]
  refine ⟨areP_nodup h, by simp, fun a ha b hb => ?_⟩
  rw [List.mem_singleton.mp hb]
  rintro rfl
  exact hn ha
theorem ins_areP (hf : okF k n) (h : areP k n ps = true) (hp : isPt k n p) (hn : p ∉ ps) : areP k n (sortL (ps ++ [p])) = true :=
  areP_sort hf (fun q m => by
    rcases List.mem_append.mp m with m | m
    · exact (areP_iff.mp h).1 q m
    · rw [List.mem_singleton.mp m]; exact hp) (nd_snoc h hn)
theorem mem_ins {q : Pt} : q ∈ sortL (ps ++ [p]) ↔ q ∈ ps ∨ q = p := by
  rw [(sortL_perm _).mem_iff]; simp
theorem ins_len : (sortL (ps ++ [p])).length = ps.length + 1 := by rw [(sortL_perm _).length_eq]; simp
/-- with a good point clear points stay clear, and only so -/
theorem ins_clr (hf : okF k n) (h : areP k n ps = true) (hc : clr k n ps) (hp : isPt k n p) (hn : p ∉ ps) : clr k n (sortL (ps ++ [p])) ↔ linW k n ps p = false := by
  have ha := ins_areP hf h hp hn
  have hi := (areP_iff.mp h).1
  constructor
  · intro c
    rw [linW_iff]
    refine (areP_iff.mp h).2.imp_of_mem fun {x y} hx hy l => ?_
    refine c.any ha (mem_ins.mpr (.inl hy)) (mem_ins.mpr (.inl hx)) (mem_ins.mpr (.inr rfl)) (lex_ne l).symm ?_ ?_
    · rintro rfl; exact hn hy
    · rintro rfl; exact hn hx
  · intro hl x y z s
    obtain ⟨⟨mx, my, mz⟩, l1, l2⟩ := (three_sub (areP_iff.mp ha).2).mp s
    have n1 := lex_ne l1
    have n2 := lex_ne l2
    have n3 := lex_ne (lex_tr l1 l2)
    have ix := (areP_iff.mp ha).1 x mx
    have iy := (areP_iff.mp ha).1 y my
    have iz := (areP_iff.mp ha).1 z mz
    rcases mem_ins.mp mx with ax | ex
    · rcases mem_ins.mp my with ay | ey
      · rcases mem_ins.mp mz with az | ez
        · exact hc.any h ax ay az n1 n3 n2
        · rw [ez]; exact good_any h hp hl ax ay n1
      · have az := (mem_ins.mp mz).resolve_right (fun e => n2 (ey.trans e.symm))
        rw [lin_sw23 iy iz, ey]
        exact good_any h hp hl ax az n3
    · have ay := (mem_ins.mp my).resolve_right (fun e => n1 (ex.trans e.symm))
      have az := (mem_ins.mp mz).resolve_right (fun e => n3 (ex.trans e.symm))
      rw [lin_sw12 ix iy, lin_sw23 ix iz, ex]
      exact good_any h hp hl ay az n2
/-- closed up, step by step -/
inductive Ups (k : Kd) (n : Int) : List Pt → List Pt → Prop where
  | stop {ps : List Pt} (h : moreL k n ps = []) : Ups k n ps ps
  | step {ps qs : List Pt} {p : Pt} {l : List Pt} (h : moreL k n ps = p :: l) (u : Ups k n (sortL (ps ++ [p])) qs) : Ups k n ps qs
def upF (k : Kd) (n : Int) : Nat → List Pt → Option (List Pt)
  | 0, _ => none
  | f + 1, ps => match moreL k n ps with
    | [] => some ps
    | p :: _ => upF k n f (sortL (ps ++ [p]))
theorem ups_of : ∀ (f : Nat) {ps qs : List Pt}, upF k n f ps = some qs → Ups k n ps qs
  | 0, _, _, h => by cases h
  | f + 1, ps, qs, h => by
    unfold upF at h
    split at h
    · rename_i e
      cases h
      exact .stop e
    · rename_i p l e
      exact .step e (ups_of f h)
theorem nodup_sub_len {α : Type} [DecidableEq α] : ∀ {xs ys : List α}, xs.Nodup → (∀ x ∈ xs, x ∈ ys) → xs.length ≤ ys.length
  | [], _, _, _ => by simp
  | x :: xs, ys, h, s => by
    have g := List.nodup_cons.mp h
    have := nodup_sub_len (xs := xs) (ys := ys.erase x) g.2 fun z hz => by
      refine (List.mem_erase_of_ne ?_).mpr (s z (by simp [hz]))
      rintro rfl
      exact g.1 hz
    have hx := s x (by simp)
    have := List.length_erase_of_mem hx
    have : 0 < ys.length := List.length_pos_of_mem hx
    rw [List.length_cons]
    omega
theorem areP_len (hf : okF k n) (h : areP k n ps = true) : ps.length ≤ (every k n).length := nodup_sub_len (areP_nodup h) fun p m => (isPt_every hf).mp ((areP_iff.mp h).1 p m)
theorem mem_moreL (hf : okF k n) : p ∈ moreL k n ps ↔ isPt k n p ∧ p ∉ ps ∧ linW k n ps p = false := by
  unfold moreL goodP
  rw [List.mem_filter, ← isPt_every hf]
  simp
theorem more_step (hf : okF k n) (h : areP k n ps = true) (hc : clr k n ps) {l : List Pt} (e : moreL k n ps = p :: l) : isPt k n p ∧ p ∉ ps ∧ areP k n (sortL (ps ++ [p])) = true ∧ clr k n (sortL (ps ++ [p])) := by
  obtain ⟨h1, h2, h3⟩ := (mem_moreL (ps := ps) (p := p) hf).mp (by rw [e]; simp)
  exact ⟨h1, h2, ins_areP hf h h1 h2, (ins_clr hf h hc h1 h2).mpr h3⟩
/-- closed up points: there are such -/
theorem ups_ex (hf : okF k n) : ∀ (m : Nat) (ps : List Pt), areP k n ps = true → clr k n ps → (every k n).length - ps.length ≤ m → ∃ qs, Ups k n ps qs
  | m, ps, h, hc, hm => by
    cases e : moreL k n ps with
    | nil => exact ⟨ps, .stop e⟩
    | cons p l =>
      obtain ⟨h1, h2, h3, h4⟩ := more_step hf h hc e
      have l1 := areP_len hf h3
      rw [ins_len] at l1
      cases m with
      | zero => omega
      | succ m =>
        obtain ⟨qs, u⟩ := ups_ex hf m _ h3 h4 (by rw [ins_len]; omega)
        exact ⟨qs, .step e u⟩
theorem Ups.facts (hf : okF k n) {ps qs : List Pt} (u : Ups k n ps qs) : areP k n ps = true → clr k n ps → areP k n qs = true ∧ clr k n qs ∧ moreL k n qs = [] ∧ ∀ p ∈ ps, p ∈ qs := by
  induction u with
  | stop e => exact fun h c => ⟨h, c, e, fun _ m => m⟩
  | step e u ih =>
    intro h c
    obtain ⟨_, _, h3, h4⟩ := more_step hf h c e
    obtain ⟨a, b, d, f⟩ := ih h3 h4
    exact ⟨a, b, d, fun p m => f p (mem_ins.mpr (.inl m))⟩
end
end Nt

set_option Elab.async false
set_option linter.all false
set_option maxRecDepth 100000
set_option maxHeartbeats 4000000
/-! first_more, closed, closed_up, and the law's own. -/
namespace Nt
open PySem PySem.Spec PyProof.Rows L2
/-- what first_more says -/
def moreO (l : List Pt) : D := match l with
  | [] => .non
  | p :: _ => tupD p
/-- what closed says -/
def cloD (l : List Pt) : D := match l with
  | [] => .ins 3 []
  | p :: _ => .ins 4 [tupD p]
theorem isn_tupP {p : Pt} : isD true (tupD p) .non = some (.bl true) := rfl
theorem is_tupP {p : Pt} : isD false (tupD p) .non = some (.bl false) := rfl
theorem foldl_and {α : Type} (c : α → Bool) : ∀ (xs : List α) (g : Bool), xs.foldl (fun g z => g && !c z) g = (g && !xs.any c)
  | [], g => by simp
  | x :: xs, g => by
    rw [List.foldl_cons, foldl_and c xs, List.any_cons, Bool.not_or, Bool.and_assoc]
theorem filt_flat {α : Type} (c : α → Bool) : ∀ xs : List α, xs.filter c = xs.flatMap fun x => if c x then [x] else []
  | [] => rfl
  | x :: xs => by
    rw [List.filter_cons, List.flatMap_cons, filt_flat c xs]
    cases c x <;> rfl
section
variable {T : Tb} (A : HA T) (B : HB T) (Z3 : C3 T) (Z4 : C4 T) {m : Nat} {k : Kd} {n : Int}
include A
theorem q23 (h21 : T.fns[21]? = some fn21) (h23 : T.fns[23]? = some fn23) (hf : okF k n) (ps : List Pt) (hl : ps.length ≤ 100000) (hp : ∀ p ∈ ps, isPt k n p) : run T (m + 3) 23 [fldD k n, ptsD ps] = some (moreO (moreL k n ps)) := by
  refine run_r h23 rfl ?_
  simp only [fn23, s_nil, s_asg, s_mov, s_par, s_ifs, s_ret, s_retn, s_ex, Ss.app, nx_nx, rt_rt, zv1, zv2, zv3, zv4, zv5, zv6, zv7, zv8, zv9, zv10, zv11, zv13, zv14, zv15, zv16, zv17, zv18, zv19, zw1, zw2, zr1, zr2, zr3, zr4, zr5, zr6, zr7, gt, sub_int, add_int, le_int, gt_int, ge_int, o_lt, o_eq, o_ne, o_mem, o_nmem, o_is, o_isn, o_not, o_len, o_all, o_any, o_sum, o_sort, o_ssort, o_lst, o_tup, o_ist, i_int, i_boolI, i_boolB, i_str, i_tup, i_lst, i_tupP, i_tupF, len_tup, len_lst, len_tupP, len_F, ix_tup, ix_lst, ix_tupP, ix_F0, ix_F1, not_bl, seq_tup, seq_lst, seq_tupP, lt_int, lst_lst, tpl_lst, tpl_tup, is_bb, isn_bb, bindD, setsD, List.length_cons, List.length_nil, List.map_cons, List.map_nil, List.replicate_succ, List.replicate_zero, List.append_nil, List.cons_append, List.nil_append, List.getElem?_cons_zero, List.getElem?_cons_succ, List.set_cons_zero, List.set_cons_succ, if_true, if_false, Nat.zero_add, Nat.sub_self, Nat.reduceAdd, Nat.reduceSub, Option.map_some, Option.map_none, Bool.not_true, Bool.not_false, Option.bind_some, nc0, nc1, nc2, nc3, nc4, Option.some.injEq, D.bl.injEq, D.int.injEq, reduceCtorEq, decide_true, decide_false, Int.reduceEq, Int.reduceNe, not_true_eq_false, not_false_eq_true, ne_eq, Int.reduceLE, Int.reduceLT, at0, at1, at2, eq_int, eq_bl, eq_sp, eq_pl, eq_fl, eq_tup, eq_pts, eq_lns, mem_pts, mem_lns, Bool.false_xor, Bool.true_xor, mod_int, fdiv_int, mul_int, Int.reduceNeg, Nat.reduceLT, Int.reduceAdd, Int.reduceMul, Int.reduceSub, and_self, or_true, true_or, reduceIte, beq_self_eq_true, Bool.and_self, Bool.true_and, Bool.and_true, Bool.false_and, Bool.and_false, Bool.or_true, Bool.true_or, Bool.or_false, Bool.false_or]
  refine s_find (g := tupD) (xs := every k n) (P := fun env => ∃ x2, env = [some (fldD k n), some (ptsD ps), x2]) (f := fun p => if goodP k n ps p then some (tupD p) else none) ?_ ⟨_, rfl⟩ ?_ ?_ ?_
  · simp only [s_nil, s_asg, s_mov, s_par, s_ifs, s_ret, s_retn, s_ex, Ss.app, nx_nx, rt_rt, zv1, zv2, zv3, zv4, zv5, zv6, zv7, zv8, zv9, zv10, zv11, zv13, zv14, zv15, zv16, zv17, zv18, zv19, zw1, zw2, zr1, zr2, zr3, zr4, zr5, zr6, zr7, gt, sub_int, add_int, le_int, gt_int, ge_int, o_lt, o_eq, o_ne, o_mem, o_nmem, o_is, o_isn, o_not, o_len, o_all, o_any, o_sum, o_sort, o_ssort, o_lst, o_tup, o_ist, i_int, i_boolI, i_boolB, i_str, i_tup, i_lst, i_tupP, i_tupF, len_tup, len_lst, len_tupP, len_F, ix_tup, ix_lst, ix_tupP, ix_F0, ix_F1, not_bl, seq_tup, seq_lst, seq_tupP, lt_int, lst_lst, tpl_lst, tpl_tup, is_bb, isn_bb, bindD, setsD, List.length_cons, List.length_nil, List.map_cons, List.map_nil, List.replicate_succ, List.replicate_zero, List.append_nil, List.cons_append, List.nil_append, List.getElem?_cons_zero, List.getElem?_cons_succ, List.set_cons_zero, List.set_cons_succ, if_true, if_false, Nat.zero_add, Nat.sub_self, Nat.reduceAdd, Nat.reduceSub, Option.map_some, Option.map_none, Bool.not_true, Bool.not_false, Option.bind_some, nc0, nc1, nc2, nc3, nc4, Option.some.injEq, D.bl.injEq, D.int.injEq, reduceCtorEq, decide_true, decide_false, Int.reduceEq, Int.reduceNe, not_true_eq_false, not_false_eq_true, ne_eq, Int.reduceLE, Int.reduceLT, at0, at1, at2, eq_int, eq_bl, eq_sp, eq_pl, eq_fl, eq_tup, eq_pts, eq_lns, mem_pts, mem_lns, Bool.false_xor, Bool.true_xor, mod_int, fdiv_int, mul_int, Int.reduceNeg, Nat.reduceLT, Int.reduceAdd, Int.reduceMul, Int.reduceSub, and_self, or_true, true_or, reduceIte, beq_self_eq_true, Bool.and_self, Bool.true_and, Bool.and_true, Bool.false_and, Bool.and_false, Bool.or_true, Bool.true_or, Bool.or_false, Bool.false_or, q5 A (m := m) hf]
  · rintro p hpe env ⟨x2, rfl⟩
    refine ⟨_, rfl, ?_⟩
    have ip := (isPt_every hf).mpr hpe
    unfold goodP
    by_cases hm : p ∈ ps
    · simp only [s_nil, s_asg, s_mov, s_par, s_ifs, s_ret, s_retn, s_ex, Ss.app, nx_nx, rt_rt, zv1, zv2, zv3, zv4, zv5, zv6, zv7, zv8, zv9, zv10, zv11, zv13, zv14, zv15, zv16, zv17, zv18, zv19, zw1, zw2, zr1, zr2, zr3, zr4, zr5, zr6, zr7, gt, sub_int, add_int, le_int, gt_int, ge_int, o_lt, o_eq, o_ne, o_mem, o_nmem, o_is, o_isn, o_not, o_len, o_all, o_any, o_sum, o_sort, o_ssort, o_lst, o_tup, o_ist, i_int, i_boolI, i_boolB, i_str, i_tup, i_lst, i_tupP, i_tupF, len_tup, len_lst, len_tupP, len_F, ix_tup, ix_lst, ix_tupP, ix_F0, ix_F1, not_bl, seq_tup, seq_lst, seq_tupP, lt_int, lst_lst, tpl_lst, tpl_tup, is_bb, isn_bb, bindD, setsD, List.length_cons, List.length_nil, List.map_cons, List.map_nil, List.replicate_succ, List.replicate_zero, List.append_nil, List.cons_append, List.nil_append, List.getElem?_cons_zero, List.getElem?_cons_succ, List.set_cons_zero, List.set_cons_succ, if_true, if_false, Nat.zero_add, Nat.sub_self, Nat.reduceAdd, Nat.reduceSub, Option.map_some, Option.map_none, Bool.not_true, Bool.not_false, Option.bind_some, nc0, nc1, nc2, nc3, nc4, Option.some.injEq, D.bl.injEq, D.int.injEq, reduceCtorEq, decide_true, decide_false, Int.reduceEq, Int.reduceNe, not_true_eq_false, not_false_eq_true, ne_eq, Int.reduceLE, Int.reduceLT, at0, at1, at2, eq_int, eq_bl, eq_sp, eq_pl, eq_fl, eq_tup, eq_pts, eq_lns, mem_pts, mem_lns, Bool.false_xor, Bool.true_xor, mod_int, fdiv_int, mul_int, Int.reduceNeg, Nat.reduceLT, Int.reduceAdd, Int.reduceMul, Int.reduceSub, and_self, or_true, true_or, reduceIte, beq_self_eq_true, Bool.and_self, Bool.true_and, Bool.and_true, Bool.false_and, Bool.and_false, Bool.or_true, Bool.true_or, Bool.or_false, Bool.false_or, hm]
      exact ⟨_, rfl, _, rfl⟩
    · simp only [s_nil, s_asg, s_mov, s_par, s_ifs, s_ret, s_retn, s_ex, Ss.app, nx_nx, rt_rt, zv1, zv2, zv3, zv4, zv5, zv6, zv7, zv8, zv9, zv10, zv11, zv13, zv14, zv15, zv16, zv17, zv18, zv19, zw1, zw2, zr1, zr2, zr3, zr4, zr5, zr6, zr7, gt, sub_int, add_int, le_int, gt_int, ge_int, o_lt, o_eq, o_ne, o_mem, o_nmem, o_is, o_isn, o_not, o_len, o_all, o_any, o_sum, o_sort, o_ssort, o_lst, o_tup, o_ist, i_int, i_boolI, i_boolB, i_str, i_tup, i_lst, i_tupP, i_tupF, len_tup, len_lst, len_tupP, len_F, ix_tup, ix_lst, ix_tupP, ix_F0, ix_F1, not_bl, seq_tup, seq_lst, seq_tupP, lt_int, lst_lst, tpl_lst, tpl_tup, is_bb, isn_bb, bindD, setsD, List.length_cons, List.length_nil, List.map_cons, List.map_nil, List.replicate_succ, List.replicate_zero, List.append_nil, List.cons_append, List.nil_append, List.getElem?_cons_zero, List.getElem?_cons_succ, List.set_cons_zero, List.set_cons_succ, if_true, if_false, Nat.zero_add, Nat.sub_self, Nat.reduceAdd, Nat.reduceSub, Option.map_some, Option.map_none, Bool.not_true, Bool.not_false, Option.bind_some, nc0, nc1, nc2, nc3, nc4, Option.some.injEq, D.bl.injEq, D.int.injEq, reduceCtorEq, decide_true, decide_false, Int.reduceEq, Int.reduceNe, not_true_eq_false, not_false_eq_true, ne_eq, Int.reduceLE, Int.reduceLT, at0, at1, at2, eq_int, eq_bl, eq_sp, eq_pl, eq_fl, eq_tup, eq_pts, eq_lns, mem_pts, mem_lns, Bool.false_xor, Bool.true_xor, mod_int, fdiv_int, mul_int, Int.reduceNeg, Nat.reduceLT, Int.reduceAdd, Int.reduceMul, Int.reduceSub, and_self, or_true, true_or, reduceIte, beq_self_eq_true, Bool.and_self, Bool.true_and, Bool.and_true, Bool.false_and, Bool.and_false, Bool.or_true, Bool.true_or, Bool.or_false, Bool.false_or, hm, q21 A (m := m) h21 hf ps p hl hp ip]
      cases linW k n ps p with
      | true => simp only [s_nil, s_asg, s_mov, s_par, s_ifs, s_ret, s_retn, s_ex, Ss.app, nx_nx, rt_rt, zv1, zv2, zv3, zv4, zv5, zv6, zv7, zv8, zv9, zv10, zv11, zv13, zv14, zv15, zv16, zv17, zv18, zv19, zw1, zw2, zr1, zr2, zr3, zr4, zr5, zr6, zr7, gt, sub_int, add_int, le_int, gt_int, ge_int, o_lt, o_eq, o_ne, o_mem, o_nmem, o_is, o_isn, o_not, o_len, o_all, o_any, o_sum, o_sort, o_ssort, o_lst, o_tup, o_ist, i_int, i_boolI, i_boolB, i_str, i_tup, i_lst, i_tupP, i_tupF, len_tup, len_lst, len_tupP, len_F, ix_tup, ix_lst, ix_tupP, ix_F0, ix_F1, not_bl, seq_tup, seq_lst, seq_tupP, lt_int, lst_lst, tpl_lst, tpl_tup, is_bb, isn_bb, bindD, setsD, List.length_cons, List.length_nil, List.map_cons, List.map_nil, List.replicate_succ, List.replicate_zero, List.append_nil, List.cons_append, List.nil_append, List.getElem?_cons_zero, List.getElem?_cons_succ, List.set_cons_zero, List.set_cons_succ, if_true, if_false, Nat.zero_add, Nat.sub_self, Nat.reduceAdd, Nat.reduceSub, Option.map_some, Option.map_none, Bool.not_true, Bool.not_false, Option.bind_some, nc0, nc1, nc2, nc3, nc4, Option.some.injEq, D.bl.injEq, D.int.injEq, reduceCtorEq, decide_true, decide_false, Int.reduceEq, Int.reduceNe, not_true_eq_false, not_false_eq_true, ne_eq, Int.reduceLE, Int.reduceLT, at0, at1, at2, eq_int, eq_bl, eq_sp, eq_pl, eq_fl, eq_tup, eq_pts, eq_lns, mem_pts, mem_lns, Bool.false_xor, Bool.true_xor, mod_int, fdiv_int, mul_int, Int.reduceNeg, Nat.reduceLT, Int.reduceAdd, Int.reduceMul, Int.reduceSub, and_self, or_true, true_or, reduceIte, beq_self_eq_true, Bool.and_self, Bool.true_and, Bool.and_true, Bool.false_and, Bool.and_false, Bool.or_true, Bool.true_or, Bool.or_false, Bool.false_or]; exact ⟨_, rfl, _, rfl⟩
      | false => simp only [s_nil, s_asg, s_mov, s_par, s_ifs, s_ret, s_retn, s_ex, Ss.app, nx_nx, rt_rt, zv1, zv2, zv3, zv4, zv5, zv6, zv7, zv8, zv9, zv10, zv11, zv13, zv14, zv15, zv16, zv17, zv18, zv19, zw1, zw2, zr1, zr2, zr3, zr4, zr5, zr6, zr7, gt, sub_int, add_int, le_int, gt_int, ge_int, o_lt, o_eq, o_ne, o_mem, o_nmem, o_is, o_isn, o_not, o_len, o_all, o_any, o_sum, o_sort, o_ssort, o_lst, o_tup, o_ist, i_int, i_boolI, i_boolB, i_str, i_tup, i_lst, i_tupP, i_tupF, len_tup, len_lst, len_tupP, len_F, ix_tup, ix_lst, ix_tupP, ix_F0, ix_F1, not_bl, seq_tup, seq_lst, seq_tupP, lt_int, lst_lst, tpl_lst, tpl_tup, is_bb, isn_bb, bindD, setsD, List.length_cons, List.length_nil, List.map_cons, List.map_nil, List.replicate_succ, List.replicate_zero, List.append_nil, List.cons_append, List.nil_append, List.getElem?_cons_zero, List.getElem?_cons_succ, List.set_cons_zero, List.set_cons_succ, if_true, if_false, Nat.zero_add, Nat.sub_self, Nat.reduceAdd, Nat.reduceSub, Option.map_some, Option.map_none, Bool.not_true, Bool.not_false, Option.bind_some, nc0, nc1, nc2, nc3, nc4, Option.some.injEq, D.bl.injEq, D.int.injEq, reduceCtorEq, decide_true, decide_false, Int.reduceEq, Int.reduceNe, not_true_eq_false, not_false_eq_true, ne_eq, Int.reduceLE, Int.reduceLT, at0, at1, at2, eq_int, eq_bl, eq_sp, eq_pl, eq_fl, eq_tup, eq_pts, eq_lns, mem_pts, mem_lns, Bool.false_xor, Bool.true_xor, mod_int, fdiv_int, mul_int, Int.reduceNeg, Nat.reduceLT, Int.reduceAdd, Int.reduceMul, Int.reduceSub, and_self, or_true, true_or, reduceIte, beq_self_eq_true, Bool.and_self, Bool.true_and, Bool.and_true, Bool.false_and, Bool.and_false, Bool.or_true, Bool.true_or, Bool.or_false, Bool.false_or]; rfl
  · intro d e
    rw [find_if] at e
    unfold moreL
    cases h : (every k n).filter (goodP k n ps) with
    | nil => rw [h] at e; cases e
    | cons p l => rw [h] at e; cases e; rfl
  · rintro e env ⟨x2, rfl⟩
    rw [find_if] at e
    unfold moreL
    cases h : (every k n).filter (goodP k n ps) with
    | nil => simp only [s_nil, s_asg, s_mov, s_par, s_ifs, s_ret, s_retn, s_ex, Ss.app, nx_nx, rt_rt, zv1, zv2, zv3, zv4, zv5, zv6, zv7, zv8, zv9, zv10, zv11, zv13, zv14, zv15, zv16, zv17, zv18, zv19, zw1, zw2, zr1, zr2, zr3, zr4, zr5, zr6, zr7, gt, sub_int, add_int, le_int, gt_int, ge_int, o_lt, o_eq, o_ne, o_mem, o_nmem, o_is, o_isn, o_not, o_len, o_all, o_any, o_sum, o_sort, o_ssort, o_lst, o_tup, o_ist, i_int, i_boolI, i_boolB, i_str, i_tup, i_lst, i_tupP, i_tupF, len_tup, len_lst, len_tupP, len_F, ix_tup, ix_lst, ix_tupP, ix_F0, ix_F1, not_bl, seq_tup, seq_lst, seq_tupP, lt_int, lst_lst, tpl_lst, tpl_tup, is_bb, isn_bb, bindD, setsD, List.length_cons, List.length_nil, List.map_cons, List.map_nil, List.replicate_succ, List.replicate_zero, List.append_nil, List.cons_append, List.nil_append, List.getElem?_cons_zero, List.getElem?_cons_succ, List.set_cons_zero, List.set_cons_succ, if_true, if_false, Nat.zero_add, Nat.sub_self, Nat.reduceAdd, Nat.reduceSub, Option.map_some, Option.map_none, Bool.not_true, Bool.not_false, Option.bind_some, nc0, nc1, nc2, nc3, nc4, Option.some.injEq, D.bl.injEq, D.int.injEq, reduceCtorEq, decide_true, decide_false, Int.reduceEq, Int.reduceNe, not_true_eq_false, not_false_eq_true, ne_eq, Int.reduceLE, Int.reduceLT, at0, at1, at2, eq_int, eq_bl, eq_sp, eq_pl, eq_fl, eq_tup, eq_pts, eq_lns, mem_pts, mem_lns, Bool.false_xor, Bool.true_xor, mod_int, fdiv_int, mul_int, Int.reduceNeg, Nat.reduceLT, Int.reduceAdd, Int.reduceMul, Int.reduceSub, and_self, or_true, true_or, reduceIte, beq_self_eq_true, Bool.and_self, Bool.true_and, Bool.and_true, Bool.false_and, Bool.and_false, Bool.or_true, Bool.true_or, Bool.or_false, Bool.false_or, moreO]
    | cons p l => rw [h] at e; cases e
theorem q27 (h21 : T.fns[21]? = some fn21) (h23 : T.fns[23]? = some fn23) (h27 : T.fns[27]? = some fn27) (hf : okF k n) {fs : List D} (ps : List Pt) (hl : ps.length ≤ 100000) (hp : ∀ p ∈ ps, isPt k n p) : run T (m + 4) 27 [.ins 3 fs, fldD k n, ptsD ps] = some (.bl (decide (moreL k n ps = []))) := by
  refine run_r h27 rfl ?_
  simp only [fn27, s_nil, s_asg, s_mov, s_par, s_ifs, s_ret, s_retn, s_ex, Ss.app, nx_nx, rt_rt, zv1, zv2, zv3, zv4, zv5, zv6, zv7, zv8, zv9, zv10, zv11, zv13, zv14, zv15, zv16, zv17, zv18, zv19, zw1, zw2, zr1, zr2, zr3, zr4, zr5, zr6, zr7, gt, sub_int, add_int, le_int, gt_int, ge_int, o_lt, o_eq, o_ne, o_mem, o_nmem, o_is, o_isn, o_not, o_len, o_all, o_any, o_sum, o_sort, o_ssort, o_lst, o_tup, o_ist, i_int, i_boolI, i_boolB, i_str, i_tup, i_lst, i_tupP, i_tupF, len_tup, len_lst, len_tupP, len_F, ix_tup, ix_lst, ix_tupP, ix_F0, ix_F1, not_bl, seq_tup, seq_lst, seq_tupP, lt_int, lst_lst, tpl_lst, tpl_tup, is_bb, isn_bb, bindD, setsD, List.length_cons, List.length_nil, List.map_cons, List.map_nil, List.replicate_succ, List.replicate_zero, List.append_nil, List.cons_append, List.nil_append, List.getElem?_cons_zero, List.getElem?_cons_succ, List.set_cons_zero, List.set_cons_succ, if_true, if_false, Nat.zero_add, Nat.sub_self, Nat.reduceAdd, Nat.reduceSub, Option.map_some, Option.map_none, Bool.not_true, Bool.not_false, Option.bind_some, nc0, nc1, nc2, nc3, nc4, Option.some.injEq, D.bl.injEq, D.int.injEq, reduceCtorEq, decide_true, decide_false, Int.reduceEq, Int.reduceNe, not_true_eq_false, not_false_eq_true, ne_eq, Int.reduceLE, Int.reduceLT, at0, at1, at2, eq_int, eq_bl, eq_sp, eq_pl, eq_fl, eq_tup, eq_pts, eq_lns, mem_pts, mem_lns, Bool.false_xor, Bool.true_xor, mod_int, fdiv_int, mul_int, Int.reduceNeg, Nat.reduceLT, Int.reduceAdd, Int.reduceMul, Int.reduceSub, and_self, or_true, true_or, reduceIte, beq_self_eq_true, Bool.and_self, Bool.true_and, Bool.and_true, Bool.false_and, Bool.and_false, Bool.or_true, Bool.true_or, Bool.or_false, Bool.false_or, q23 A (m := m) h21 h23 hf ps hl hp]
  cases moreL k n ps with
  | nil => rfl
  | cons p l => simp only [moreO, is_tupP, s_nil, s_asg, s_mov, s_par, s_ifs, s_ret, s_retn, s_ex, Ss.app, nx_nx, rt_rt, zv1, zv2, zv3, zv4, zv5, zv6, zv7, zv8, zv9, zv10, zv11, zv13, zv14, zv15, zv16, zv17, zv18, zv19, zw1, zw2, zr1, zr2, zr3, zr4, zr5, zr6, zr7, gt, sub_int, add_int, le_int, gt_int, ge_int, o_lt, o_eq, o_ne, o_mem, o_nmem, o_is, o_isn, o_not, o_len, o_all, o_any, o_sum, o_sort, o_ssort, o_lst, o_tup, o_ist, i_int, i_boolI, i_boolB, i_str, i_tup, i_lst, i_tupP, i_tupF, len_tup, len_lst, len_tupP, len_F, ix_tup, ix_lst, ix_tupP, ix_F0, ix_F1, not_bl, seq_tup, seq_lst, seq_tupP, lt_int, lst_lst, tpl_lst, tpl_tup, is_bb, isn_bb, bindD, setsD, List.length_cons, List.length_nil, List.map_cons, List.map_nil, List.replicate_succ, List.replicate_zero, List.append_nil, List.cons_append, List.nil_append, List.getElem?_cons_zero, List.getElem?_cons_succ, List.set_cons_zero, List.set_cons_succ, if_true, if_false, Nat.zero_add, Nat.sub_self, Nat.reduceAdd, Nat.reduceSub, Option.map_some, Option.map_none, Bool.not_true, Bool.not_false, Option.bind_some, nc0, nc1, nc2, nc3, nc4, Option.some.injEq, D.bl.injEq, D.int.injEq, reduceCtorEq, decide_true, decide_false, Int.reduceEq, Int.reduceNe, not_true_eq_false, not_false_eq_true, ne_eq, Int.reduceLE, Int.reduceLT, at0, at1, at2, eq_int, eq_bl, eq_sp, eq_pl, eq_fl, eq_tup, eq_pts, eq_lns, mem_pts, mem_lns, Bool.false_xor, Bool.true_xor, mod_int, fdiv_int, mul_int, Int.reduceNeg, Nat.reduceLT, Int.reduceAdd, Int.reduceMul, Int.reduceSub, and_self, or_true, true_or, reduceIte, beq_self_eq_true, Bool.and_self, Bool.true_and, Bool.and_true, Bool.false_and, Bool.and_false, Bool.or_true, Bool.true_or, Bool.or_false, Bool.false_or]
include Z4 in
theorem q28 (h21 : T.fns[21]? = some fn21) (h28 : T.fns[28]? = some fn28) (hf : okF k n) (p : Pt) (hpl : p.length ≤ LIM) (ps : List Pt) (hl : ps.length ≤ 100000) (hp : ∀ p ∈ ps, isPt k n p) : run T (m + 3) 28 [.ins 4 [tupD p], fldD k n, ptsD ps] = some (.bl (decide (p ∈ moreL k n ps))) := by
  refine run_r h28 rfl ?_
  by_cases ip : isPt k n p
  · by_cases hm : p ∈ ps
    · have e : p ∉ moreL k n ps := fun h => ((mem_moreL hf).mp h).2.1 hm
      simp only [fn28, s_nil, s_asg, s_mov, s_par, s_ifs, s_ret, s_retn, s_ex, Ss.app, nx_nx, rt_rt, zv1, zv2, zv3, zv4, zv5, zv6, zv7, zv8, zv9, zv10, zv11, zv13, zv14, zv15, zv16, zv17, zv18, zv19, zw1, zw2, zr1, zr2, zr3, zr4, zr5, zr6, zr7, gt, sub_int, add_int, le_int, gt_int, ge_int, o_lt, o_eq, o_ne, o_mem, o_nmem, o_is, o_isn, o_not, o_len, o_all, o_any, o_sum, o_sort, o_ssort, o_lst, o_tup, o_ist, i_int, i_boolI, i_boolB, i_str, i_tup, i_lst, i_tupP, i_tupF, len_tup, len_lst, len_tupP, len_F, ix_tup, ix_lst, ix_tupP, ix_F0, ix_F1, not_bl, seq_tup, seq_lst, seq_tupP, lt_int, lst_lst, tpl_lst, tpl_tup, is_bb, isn_bb, bindD, setsD, List.length_cons, List.length_nil, List.map_cons, List.map_nil, List.replicate_succ, List.replicate_zero, List.append_nil, List.cons_append, List.nil_append, List.getElem?_cons_zero, List.getElem?_cons_succ, List.set_cons_zero, List.set_cons_succ, if_true, if_false, Nat.zero_add, Nat.sub_self, Nat.reduceAdd, Nat.reduceSub, Option.map_some, Option.map_none, Bool.not_true, Bool.not_false, Option.bind_some, nc0, nc1, nc2, nc3, nc4, Option.some.injEq, D.bl.injEq, D.int.injEq, reduceCtorEq, decide_true, decide_false, Int.reduceEq, Int.reduceNe, not_true_eq_false, not_false_eq_true, ne_eq, Int.reduceLE, Int.reduceLT, at0, at1, at2, eq_int, eq_bl, eq_sp, eq_pl, eq_fl, eq_tup, eq_pts, eq_lns, mem_pts, mem_lns, Bool.false_xor, Bool.true_xor, mod_int, fdiv_int, mul_int, Int.reduceNeg, Nat.reduceLT, Int.reduceAdd, Int.reduceMul, Int.reduceSub, and_self, or_true, true_or, reduceIte, beq_self_eq_true, Bool.and_self, Bool.true_and, Bool.and_true, Bool.false_and, Bool.and_false, Bool.or_true, Bool.true_or, Bool.or_false, Bool.false_or, fld1 Z4.cn, q7 A p hpl, ip, hm, e]
    · have e : decide (p ∈ moreL k n ps) = !linW k n ps p := by
        rw [Bool.eq_iff_iff, decide_eq_true_eq, mem_moreL hf]
        simp [ip, hm]
      simp only [fn28, s_nil, s_asg, s_mov, s_par, s_ifs, s_ret, s_retn, s_ex, Ss.app, nx_nx, rt_rt, zv1, zv2, zv3, zv4, zv5, zv6, zv7, zv8, zv9, zv10, zv11, zv13, zv14, zv15, zv16, zv17, zv18, zv19, zw1, zw2, zr1, zr2, zr3, zr4, zr5, zr6, zr7, gt, sub_int, add_int, le_int, gt_int, ge_int, o_lt, o_eq, o_ne, o_mem, o_nmem, o_is, o_isn, o_not, o_len, o_all, o_any, o_sum, o_sort, o_ssort, o_lst, o_tup, o_ist, i_int, i_boolI, i_boolB, i_str, i_tup, i_lst, i_tupP, i_tupF, len_tup, len_lst, len_tupP, len_F, ix_tup, ix_lst, ix_tupP, ix_F0, ix_F1, not_bl, seq_tup, seq_lst, seq_tupP, lt_int, lst_lst, tpl_lst, tpl_tup, is_bb, isn_bb, bindD, setsD, List.length_cons, List.length_nil, List.map_cons, List.map_nil, List.replicate_succ, List.replicate_zero, List.append_nil, List.cons_append, List.nil_append, List.getElem?_cons_zero, List.getElem?_cons_succ, List.set_cons_zero, List.set_cons_succ, if_true, if_false, Nat.zero_add, Nat.sub_self, Nat.reduceAdd, Nat.reduceSub, Option.map_some, Option.map_none, Bool.not_true, Bool.not_false, Option.bind_some, nc0, nc1, nc2, nc3, nc4, Option.some.injEq, D.bl.injEq, D.int.injEq, reduceCtorEq, decide_true, decide_false, Int.reduceEq, Int.reduceNe, not_true_eq_false, not_false_eq_true, ne_eq, Int.reduceLE, Int.reduceLT, at0, at1, at2, eq_int, eq_bl, eq_sp, eq_pl, eq_fl, eq_tup, eq_pts, eq_lns, mem_pts, mem_lns, Bool.false_xor, Bool.true_xor, mod_int, fdiv_int, mul_int, Int.reduceNeg, Nat.reduceLT, Int.reduceAdd, Int.reduceMul, Int.reduceSub, and_self, or_true, true_or, reduceIte, beq_self_eq_true, Bool.and_self, Bool.true_and, Bool.and_true, Bool.false_and, Bool.and_false, Bool.or_true, Bool.true_or, Bool.or_false, Bool.false_or, fld1 Z4.cn, q7 A p hpl, ip, hm, q21 A (m := m) h21 hf ps p hl hp ip, e]
  · have e : p ∉ moreL k n ps := fun h => ip ((mem_moreL hf).mp h).1
    simp only [fn28, s_nil, s_asg, s_mov, s_par, s_ifs, s_ret, s_retn, s_ex, Ss.app, nx_nx, rt_rt, zv1, zv2, zv3, zv4, zv5, zv6, zv7, zv8, zv9, zv10, zv11, zv13, zv14, zv15, zv16, zv17, zv18, zv19, zw1, zw2, zr1, zr2, zr3, zr4, zr5, zr6, zr7, gt, sub_int, add_int, le_int, gt_int, ge_int, o_lt, o_eq, o_ne, o_mem, o_nmem, o_is, o_isn, o_not, o_len, o_all, o_any, o_sum, o_sort, o_ssort, o_lst, o_tup, o_ist, i_int, i_boolI, i_boolB, i_str, i_tup, i_lst, i_tupP, i_tupF, len_tup, len_lst, len_tupP, len_F, ix_tup, ix_lst, ix_tupP, ix_F0, ix_F1, not_bl, seq_tup, seq_lst, seq_tupP, lt_int, lst_lst, tpl_lst, tpl_tup, is_bb, isn_bb, bindD, setsD, List.length_cons, List.length_nil, List.map_cons, List.map_nil, List.replicate_succ, List.replicate_zero, List.append_nil, List.cons_append, List.nil_append, List.getElem?_cons_zero, List.getElem?_cons_succ, List.set_cons_zero, List.set_cons_succ, if_true, if_false, Nat.zero_add, Nat.sub_self, Nat.reduceAdd, Nat.reduceSub, Option.map_some, Option.map_none, Bool.not_true, Bool.not_false, Option.bind_some, nc0, nc1, nc2, nc3, nc4, Option.some.injEq, D.bl.injEq, D.int.injEq, reduceCtorEq, decide_true, decide_false, Int.reduceEq, Int.reduceNe, not_true_eq_false, not_false_eq_true, ne_eq, Int.reduceLE, Int.reduceLT, at0, at1, at2, eq_int, eq_bl, eq_sp, eq_pl, eq_fl, eq_tup, eq_pts, eq_lns, mem_pts, mem_lns, Bool.false_xor, Bool.true_xor, mod_int, fdiv_int, mul_int, Int.reduceNeg, Nat.reduceLT, Int.reduceAdd, Int.reduceMul, Int.reduceSub, and_self, or_true, true_or, reduceIte, beq_self_eq_true, Bool.and_self, Bool.true_and, Bool.and_true, Bool.false_and, Bool.and_false, Bool.or_true, Bool.true_or, Bool.or_false, Bool.false_or, fld1 Z4.cn, q7 A p hpl, ip, e]
include B
theorem q39 (h22 : T.fns[22]? = some fn22) (h39 : T.fns[39]? = some fn39) (hf : okF k n) (ps : List Pt) (hl : ps.length ≤ 100000) (h : areP k n ps = true) (hc : clr k n ps) : run T (m + 5) 39 [fldD k n, ptsD ps] = some .non := by
  refine run_r h39 rfl ?_
  have e22 := q22 A (m := m + 2) h22 hf ps hl (areP_iff.mp h).1
  rw [clr_iff.mpr hc] at e22
  simp only [fn39, s_nil, s_asg, s_mov, s_par, s_ifs, s_ret, s_retn, s_ex, Ss.app, nx_nx, rt_rt, zv1, zv2, zv3, zv4, zv5, zv6, zv7, zv8, zv9, zv10, zv11, zv13, zv14, zv15, zv16, zv17, zv18, zv19, zw1, zw2, zr1, zr2, zr3, zr4, zr5, zr6, zr7, gt, sub_int, add_int, le_int, gt_int, ge_int, o_lt, o_eq, o_ne, o_mem, o_nmem, o_is, o_isn, o_not, o_len, o_all, o_any, o_sum, o_sort, o_ssort, o_lst, o_tup, o_ist, i_int, i_boolI, i_boolB, i_str, i_tup, i_lst, i_tupP, i_tupF, len_tup, len_lst, len_tupP, len_F, ix_tup, ix_lst, ix_tupP, ix_F0, ix_F1, not_bl, seq_tup, seq_lst, seq_tupP, lt_int, lst_lst, tpl_lst, tpl_tup, is_bb, isn_bb, bindD, setsD, List.length_cons, List.length_nil, List.map_cons, List.map_nil, List.replicate_succ, List.replicate_zero, List.append_nil, List.cons_append, List.nil_append, List.getElem?_cons_zero, List.getElem?_cons_succ, List.set_cons_zero, List.set_cons_succ, if_true, if_false, Nat.zero_add, Nat.sub_self, Nat.reduceAdd, Nat.reduceSub, Option.map_some, Option.map_none, Bool.not_true, Bool.not_false, Option.bind_some, nc0, nc1, nc2, nc3, nc4, Option.some.injEq, D.bl.injEq, D.int.injEq, reduceCtorEq, decide_true, decide_false, Int.reduceEq, Int.reduceNe, not_true_eq_false, not_false_eq_true, ne_eq, Int.reduceLE, Int.reduceLT, at0, at1, at2, eq_int, eq_bl, eq_sp, eq_pl, eq_fl, eq_tup, eq_pts, eq_lns, mem_pts, mem_lns, Bool.false_xor, Bool.true_xor, mod_int, fdiv_int, mul_int, Int.reduceNeg, Nat.reduceLT, Int.reduceAdd, Int.reduceMul, Int.reduceSub, and_self, or_true, true_or, reduceIte, beq_self_eq_true, Bool.and_self, Bool.true_and, Bool.and_true, Bool.false_and, Bool.and_false, Bool.or_true, Bool.true_or, Bool.or_false, Bool.false_or, q2 A B hf, q9 A B ps (by unfold LIM; omega) (areP_pts hf h) h, e22, linO, List.head?_nil, isn_non]
  rfl
include Z3 Z4
theorem q40 (h21 : T.fns[21]? = some fn21) (h22 : T.fns[22]? = some fn22) (h23 : T.fns[23]? = some fn23) (h39 : T.fns[39]? = some fn39) (h40 : T.fns[40]? = some fn40) (hf : okF k n) (ps : List Pt) (hl : ps.length ≤ 100000) (h : areP k n ps = true) (hc : clr k n ps) : run T (m + 6) 40 [fldD k n, ptsD ps] = some (cloD (moreL k n ps)) := by
  refine run_r h40 rfl ?_
  simp only [fn40, s_nil, s_asg, s_mov, s_par, s_ifs, s_ret, s_retn, s_ex, Ss.app, nx_nx, rt_rt, zv1, zv2, zv3, zv4, zv5, zv6, zv7, zv8, zv9, zv10, zv11, zv13, zv14, zv15, zv16, zv17, zv18, zv19, zw1, zw2, zr1, zr2, zr3, zr4, zr5, zr6, zr7, gt, sub_int, add_int, le_int, gt_int, ge_int, o_lt, o_eq, o_ne, o_mem, o_nmem, o_is, o_isn, o_not, o_len, o_all, o_any, o_sum, o_sort, o_ssort, o_lst, o_tup, o_ist, i_int, i_boolI, i_boolB, i_str, i_tup, i_lst, i_tupP, i_tupF, len_tup, len_lst, len_tupP, len_F, ix_tup, ix_lst, ix_tupP, ix_F0, ix_F1, not_bl, seq_tup, seq_lst, seq_tupP, lt_int, lst_lst, tpl_lst, tpl_tup, is_bb, isn_bb, bindD, setsD, List.length_cons, List.length_nil, List.map_cons, List.map_nil, List.replicate_succ, List.replicate_zero, List.append_nil, List.cons_append, List.nil_append, List.getElem?_cons_zero, List.getElem?_cons_succ, List.set_cons_zero, List.set_cons_succ, if_true, if_false, Nat.zero_add, Nat.sub_self, Nat.reduceAdd, Nat.reduceSub, Option.map_some, Option.map_none, Bool.not_true, Bool.not_false, Option.bind_some, nc0, nc1, nc2, nc3, nc4, Option.some.injEq, D.bl.injEq, D.int.injEq, reduceCtorEq, decide_true, decide_false, Int.reduceEq, Int.reduceNe, not_true_eq_false, not_false_eq_true, ne_eq, Int.reduceLE, Int.reduceLT, at0, at1, at2, eq_int, eq_bl, eq_sp, eq_pl, eq_fl, eq_tup, eq_pts, eq_lns, mem_pts, mem_lns, Bool.false_xor, Bool.true_xor, mod_int, fdiv_int, mul_int, Int.reduceNeg, Nat.reduceLT, Int.reduceAdd, Int.reduceMul, Int.reduceSub, and_self, or_true, true_or, reduceIte, beq_self_eq_true, Bool.and_self, Bool.true_and, Bool.and_true, Bool.false_and, Bool.and_false, Bool.or_true, Bool.true_or, Bool.or_false, Bool.false_or, q39 A B (m := m) h22 h39 hf ps hl h hc, q23 A (m := m + 2) h21 h23 hf ps hl (areP_iff.mp h).1]
  cases moreL k n ps with
  | nil => simp only [moreO, is_non, mk0 (T := { T with lv := m + 5 }) Z3.cf (by show 2 ≤ m + 5; omega), s_nil, s_asg, s_mov, s_par, s_ifs, s_ret, s_retn, s_ex, Ss.app, nx_nx, rt_rt, zv1, zv2, zv3, zv4, zv5, zv6, zv7, zv8, zv9, zv10, zv11, zv13, zv14, zv15, zv16, zv17, zv18, zv19, zw1, zw2, zr1, zr2, zr3, zr4, zr5, zr6, zr7, gt, sub_int, add_int, le_int, gt_int, ge_int, o_lt, o_eq, o_ne, o_mem, o_nmem, o_is, o_isn, o_not, o_len, o_all, o_any, o_sum, o_sort, o_ssort, o_lst, o_tup, o_ist, i_int, i_boolI, i_boolB, i_str, i_tup, i_lst, i_tupP, i_tupF, len_tup, len_lst, len_tupP, len_F, ix_tup, ix_lst, ix_tupP, ix_F0, ix_F1, not_bl, seq_tup, seq_lst, seq_tupP, lt_int, lst_lst, tpl_lst, tpl_tup, is_bb, isn_bb, bindD, setsD, List.length_cons, List.length_nil, List.map_cons, List.map_nil, List.replicate_succ, List.replicate_zero, List.append_nil, List.cons_append, List.nil_append, List.getElem?_cons_zero, List.getElem?_cons_succ, List.set_cons_zero, List.set_cons_succ, if_true, if_false, Nat.zero_add, Nat.sub_self, Nat.reduceAdd, Nat.reduceSub, Option.map_some, Option.map_none, Bool.not_true, Bool.not_false, Option.bind_some, nc0, nc1, nc2, nc3, nc4, Option.some.injEq, D.bl.injEq, D.int.injEq, reduceCtorEq, decide_true, decide_false, Int.reduceEq, Int.reduceNe, not_true_eq_false, not_false_eq_true, ne_eq, Int.reduceLE, Int.reduceLT, at0, at1, at2, eq_int, eq_bl, eq_sp, eq_pl, eq_fl, eq_tup, eq_pts, eq_lns, mem_pts, mem_lns, Bool.false_xor, Bool.true_xor, mod_int, fdiv_int, mul_int, Int.reduceNeg, Nat.reduceLT, Int.reduceAdd, Int.reduceMul, Int.reduceSub, and_self, or_true, true_or, reduceIte, beq_self_eq_true, Bool.and_self, Bool.true_and, Bool.and_true, Bool.false_and, Bool.and_false, Bool.or_true, Bool.true_or, Bool.or_false, Bool.false_or, cloD]
  | cons p l =>
    have e := mk1f (T := { T with lv := m + 5 }) (cl := run T (m + 5)) (env := [some (fldD k n), some (ptsD ps), some (tupD p)]) (e := .var 2) Z4.cf (by show 2 ≤ m + 5; omega)
    simp only [s_nil, s_asg, s_mov, s_par, s_ifs, s_ret, s_retn, s_ex, Ss.app, nx_nx, rt_rt, zv1, zv2, zv3, zv4, zv5, zv6, zv7, zv8, zv9, zv10, zv11, zv13, zv14, zv15, zv16, zv17, zv18, zv19, zw1, zw2, zr1, zr2, zr3, zr4, zr5, zr6, zr7, gt, sub_int, add_int, le_int, gt_int, ge_int, o_lt, o_eq, o_ne, o_mem, o_nmem, o_is, o_isn, o_not, o_len, o_all, o_any, o_sum, o_sort, o_ssort, o_lst, o_tup, o_ist, i_int, i_boolI, i_boolB, i_str, i_tup, i_lst, i_tupP, i_tupF, len_tup, len_lst, len_tupP, len_F, ix_tup, ix_lst, ix_tupP, ix_F0, ix_F1, not_bl, seq_tup, seq_lst, seq_tupP, lt_int, lst_lst, tpl_lst, tpl_tup, is_bb, isn_bb, bindD, setsD, List.length_cons, List.length_nil, List.map_cons, List.map_nil, List.replicate_succ, List.replicate_zero, List.append_nil, List.cons_append, List.nil_append, List.getElem?_cons_zero, List.getElem?_cons_succ, List.set_cons_zero, List.set_cons_succ, if_true, if_false, Nat.zero_add, Nat.sub_self, Nat.reduceAdd, Nat.reduceSub, Option.map_some, Option.map_none, Bool.not_true, Bool.not_false, Option.bind_some, nc0, nc1, nc2, nc3, nc4, Option.some.injEq, D.bl.injEq, D.int.injEq, reduceCtorEq, decide_true, decide_false, Int.reduceEq, Int.reduceNe, not_true_eq_false, not_false_eq_true, ne_eq, Int.reduceLE, Int.reduceLT, at0, at1, at2, eq_int, eq_bl, eq_sp, eq_pl, eq_fl, eq_tup, eq_pts, eq_lns, mem_pts, mem_lns, Bool.false_xor, Bool.true_xor, mod_int, fdiv_int, mul_int, Int.reduceNeg, Nat.reduceLT, Int.reduceAdd, Int.reduceMul, Int.reduceSub, and_self, or_true, true_or, reduceIte, beq_self_eq_true, Bool.and_self, Bool.true_and, Bool.and_true, Bool.false_and, Bool.and_false, Bool.or_true, Bool.true_or, Bool.or_false, Bool.false_or, show notL (tupD p) = true from rfl] at e
    simp only [moreO, is_tupP, e, s_nil, s_asg, s_mov, s_par, s_ifs, s_ret, s_retn, s_ex, Ss.app, nx_nx, rt_rt, zv1, zv2, zv3, zv4, zv5, zv6, zv7, zv8, zv9, zv10, zv11, zv13, zv14, zv15, zv16, zv17, zv18, zv19, zw1, zw2, zr1, zr2, zr3, zr4, zr5, zr6, zr7, gt, sub_int, add_int, le_int, gt_int, ge_int, o_lt, o_eq, o_ne, o_mem, o_nmem, o_is, o_isn, o_not, o_len, o_all, o_any, o_sum, o_sort, o_ssort, o_lst, o_tup, o_ist, i_int, i_boolI, i_boolB, i_str, i_tup, i_lst, i_tupP, i_tupF, len_tup, len_lst, len_tupP, len_F, ix_tup, ix_lst, ix_tupP, ix_F0, ix_F1, not_bl, seq_tup, seq_lst, seq_tupP, lt_int, lst_lst, tpl_lst, tpl_tup, is_bb, isn_bb, bindD, setsD, List.length_cons, List.length_nil, List.map_cons, List.map_nil, List.replicate_succ, List.replicate_zero, List.append_nil, List.cons_append, List.nil_append, List.getElem?_cons_zero, List.getElem?_cons_succ, List.set_cons_zero, List.set_cons_succ, if_true, if_false, Nat.zero_add, Nat.sub_self, Nat.reduceAdd, Nat.reduceSub, Option.map_some, Option.map_none, Bool.not_true, Bool.not_false, Option.bind_some, nc0, nc1, nc2, nc3, nc4, Option.some.injEq, D.bl.injEq, D.int.injEq, reduceCtorEq, decide_true, decide_false, Int.reduceEq, Int.reduceNe, not_true_eq_false, not_false_eq_true, ne_eq, Int.reduceLE, Int.reduceLT, at0, at1, at2, eq_int, eq_bl, eq_sp, eq_pl, eq_fl, eq_tup, eq_pts, eq_lns, mem_pts, mem_lns, Bool.false_xor, Bool.true_xor, mod_int, fdiv_int, mul_int, Int.reduceNeg, Nat.reduceLT, Int.reduceAdd, Int.reduceMul, Int.reduceSub, and_self, or_true, true_or, reduceIte, beq_self_eq_true, Bool.and_self, Bool.true_and, Bool.and_true, Bool.false_and, Bool.and_false, Bool.or_true, Bool.true_or, Bool.or_false, Bool.false_or, cloD]
omit Z3 Z4
theorem q41 (h21 : T.fns[21]? = some fn21) (h22 : T.fns[22]? = some fn22) (h23 : T.fns[23]? = some fn23) (h39 : T.fns[39]? = some fn39) (h41 : T.fns[41]? = some fn41) (hf : okF k n) (hs : (every k n).length ≤ 50) (ps qs : List Pt) (h : areP k n ps = true) (hc : clr k n ps) (u : Ups k n ps qs) : run T (m + 6) 41 [fldD k n, ptsD ps] = some (ptsD qs) := by
  refine run_r h41 rfl ?_
  have hl := areP_len hf h
  have hl1 := lng_le hf
  simp only [fn41, s_nil, s_asg, s_mov, s_par, s_ifs, s_ret, s_retn, s_ex, Ss.app, nx_nx, rt_rt, zv1, zv2, zv3, zv4, zv5, zv6, zv7, zv8, zv9, zv10, zv11, zv13, zv14, zv15, zv16, zv17, zv18, zv19, zw1, zw2, zr1, zr2, zr3, zr4, zr5, zr6, zr7, gt, sub_int, add_int, le_int, gt_int, ge_int, o_lt, o_eq, o_ne, o_mem, o_nmem, o_is, o_isn, o_not, o_len, o_all, o_any, o_sum, o_sort, o_ssort, o_lst, o_tup, o_ist, i_int, i_boolI, i_boolB, i_str, i_tup, i_lst, i_tupP, i_tupF, len_tup, len_lst, len_tupP, len_F, ix_tup, ix_lst, ix_tupP, ix_F0, ix_F1, not_bl, seq_tup, seq_lst, seq_tupP, lt_int, lst_lst, tpl_lst, tpl_tup, is_bb, isn_bb, bindD, setsD, List.length_cons, List.length_nil, List.map_cons, List.map_nil, List.replicate_succ, List.replicate_zero, List.append_nil, List.cons_append, List.nil_append, List.getElem?_cons_zero, List.getElem?_cons_succ, List.set_cons_zero, List.set_cons_succ, if_true, if_false, Nat.zero_add, Nat.sub_self, Nat.reduceAdd, Nat.reduceSub, Option.map_some, Option.map_none, Bool.not_true, Bool.not_false, Option.bind_some, nc0, nc1, nc2, nc3, nc4, Option.some.injEq, D.bl.injEq, D.int.injEq, reduceCtorEq, decide_true, decide_false, Int.reduceEq, Int.reduceNe, not_true_eq_false, not_false_eq_true, ne_eq, Int.reduceLE, Int.reduceLT, at0, at1, at2, eq_int, eq_bl, eq_sp, eq_pl, eq_fl, eq_tup, eq_pts, eq_lns, mem_pts, mem_lns, Bool.false_xor, Bool.true_xor, mod_int, fdiv_int, mul_int, Int.reduceNeg, Nat.reduceLT, Int.reduceAdd, Int.reduceMul, Int.reduceSub, and_self, or_true, true_or, reduceIte, beq_self_eq_true, Bool.and_self, Bool.true_and, Bool.and_true, Bool.false_and, Bool.and_false, Bool.or_true, Bool.true_or, Bool.or_false, Bool.false_or, q39 A B (m := m) h22 h39 hf ps (by omega) h hc, q23 A (m := m + 2) h21 h23 hf ps (by omega) (areP_iff.mp h).1]
  refine s_whl (fun j env => ∃ rs, Ups k n rs qs ∧ areP k n rs = true ∧ clr k n rs ∧ j = (every k n).length - rs.length ∧ env = [some (fldD k n), some (ptsD ps), some (ptsD rs), some (moreO (moreL k n rs))]) ⟨ps, u, h, hc, rfl, rfl⟩ (by omega) ?_
  rintro j env ⟨rs, u, h, hc, rfl, rfl⟩
  have hl := areP_len hf h
  cases u with
  | stop e =>
    left
    simp only [e, moreO, s_nil, s_asg, s_mov, s_par, s_ifs, s_ret, s_retn, s_ex, Ss.app, nx_nx, rt_rt, zv1, zv2, zv3, zv4, zv5, zv6, zv7, zv8, zv9, zv10, zv11, zv13, zv14, zv15, zv16, zv17, zv18, zv19, zw1, zw2, zr1, zr2, zr3, zr4, zr5, zr6, zr7, gt, sub_int, add_int, le_int, gt_int, ge_int, o_lt, o_eq, o_ne, o_mem, o_nmem, o_is, o_isn, o_not, o_len, o_all, o_any, o_sum, o_sort, o_ssort, o_lst, o_tup, o_ist, i_int, i_boolI, i_boolB, i_str, i_tup, i_lst, i_tupP, i_tupF, len_tup, len_lst, len_tupP, len_F, ix_tup, ix_lst, ix_tupP, ix_F0, ix_F1, not_bl, seq_tup, seq_lst, seq_tupP, lt_int, lst_lst, tpl_lst, tpl_tup, is_bb, isn_bb, bindD, setsD, List.length_cons, List.length_nil, List.map_cons, List.map_nil, List.replicate_succ, List.replicate_zero, List.append_nil, List.cons_append, List.nil_append, List.getElem?_cons_zero, List.getElem?_cons_succ, List.set_cons_zero, List.set_cons_succ, if_true, if_false, Nat.zero_add, Nat.sub_self, Nat.reduceAdd, Nat.reduceSub, Option.map_some, Option.map_none, Bool.not_true, Bool.not_false, Option.bind_some, nc0, nc1, nc2, nc3, nc4, Option.some.injEq, D.bl.injEq, D.int.injEq, reduceCtorEq, decide_true, decide_false, Int.reduceEq, Int.reduceNe, not_true_eq_false, not_false_eq_true, ne_eq, Int.reduceLE, Int.reduceLT, at0, at1, at2, eq_int, eq_bl, eq_sp, eq_pl, eq_fl, eq_tup, eq_pts, eq_lns, mem_pts, mem_lns, Bool.false_xor, Bool.true_xor, mod_int, fdiv_int, mul_int, Int.reduceNeg, Nat.reduceLT, Int.reduceAdd, Int.reduceMul, Int.reduceSub, and_self, or_true, true_or, reduceIte, beq_self_eq_true, Bool.and_self, Bool.true_and, Bool.and_true, Bool.false_and, Bool.and_false, Bool.or_true, Bool.true_or, Bool.or_false, Bool.false_or, isn_non]
  | @step _ _ p l e u =>
    right
    obtain ⟨h1, h2, h3, h4⟩ := more_step hf h hc e
    have hl3 := areP_len hf h3
    rw [ins_len] at hl3
    refine ⟨by simp only [e, moreO, s_nil, s_asg, s_mov, s_par, s_ifs, s_ret, s_retn, s_ex, Ss.app, nx_nx, rt_rt, zv1, zv2, zv3, zv4, zv5, zv6, zv7, zv8, zv9, zv10, zv11, zv13, zv14, zv15, zv16, zv17, zv18, zv19, zw1, zw2, zr1, zr2, zr3, zr4, zr5, zr6, zr7, gt, sub_int, add_int, le_int, gt_int, ge_int, o_lt, o_eq, o_ne, o_mem, o_nmem, o_is, o_isn, o_not, o_len, o_all, o_any, o_sum, o_sort, o_ssort, o_lst, o_tup, o_ist, i_int, i_boolI, i_boolB, i_str, i_tup, i_lst, i_tupP, i_tupF, len_tup, len_lst, len_tupP, len_F, ix_tup, ix_lst, ix_tupP, ix_F0, ix_F1, not_bl, seq_tup, seq_lst, seq_tupP, lt_int, lst_lst, tpl_lst, tpl_tup, is_bb, isn_bb, bindD, setsD, List.length_cons, List.length_nil, List.map_cons, List.map_nil, List.replicate_succ, List.replicate_zero, List.append_nil, List.cons_append, List.nil_append, List.getElem?_cons_zero, List.getElem?_cons_succ, List.set_cons_zero, List.set_cons_succ, if_true, if_false, Nat.zero_add, Nat.sub_self, Nat.reduceAdd, Nat.reduceSub, Option.map_some, Option.map_none, Bool.not_true, Bool.not_false, Option.bind_some, nc0, nc1, nc2, nc3, nc4, Option.some.injEq, D.bl.injEq, D.int.injEq, reduceCtorEq, decide_true, decide_false, Int.reduceEq, Int.reduceNe, not_true_eq_false, not_false_eq_true, ne_eq, Int.reduceLE, Int.reduceLT, at0, at1, at2, eq_int, eq_bl, eq_sp, eq_pl, eq_fl, eq_tup, eq_pts, eq_lns, mem_pts, mem_lns, Bool.false_xor, Bool.true_xor, mod_int, fdiv_int, mul_int, Int.reduceNeg, Nat.reduceLT, Int.reduceAdd, Int.reduceMul, Int.reduceSub, and_self, or_true, true_or, reduceIte, beq_self_eq_true, Bool.and_self, Bool.true_and, Bool.and_true, Bool.false_and, Bool.and_false, Bool.or_true, Bool.true_or, Bool.or_false, Bool.false_or, isn_tupP], (every k n).length - (rs.length + 1), by omega, ?_⟩
    simp only [e, moreO, s_nil, s_asg, s_mov, s_par, s_ifs, s_ret, s_retn, s_ex, Ss.app, nx_nx, rt_rt, zv1, zv2, zv3, zv4, zv5, zv6, zv7, zv8, zv9, zv10, zv11, zv13, zv14, zv15, zv16, zv17, zv18, zv19, zw1, zw2, zr1, zr2, zr3, zr4, zr5, zr6, zr7, gt, sub_int, add_int, le_int, gt_int, ge_int, o_lt, o_eq, o_ne, o_mem, o_nmem, o_is, o_isn, o_not, o_len, o_all, o_any, o_sum, o_sort, o_ssort, o_lst, o_tup, o_ist, i_int, i_boolI, i_boolB, i_str, i_tup, i_lst, i_tupP, i_tupF, len_tup, len_lst, len_tupP, len_F, ix_tup, ix_lst, ix_tupP, ix_F0, ix_F1, not_bl, seq_tup, seq_lst, seq_tupP, lt_int, lst_lst, tpl_lst, tpl_tup, is_bb, isn_bb, bindD, setsD, List.length_cons, List.length_nil, List.map_cons, List.map_nil, List.replicate_succ, List.replicate_zero, List.append_nil, List.cons_append, List.nil_append, List.getElem?_cons_zero, List.getElem?_cons_succ, List.set_cons_zero, List.set_cons_succ, if_true, if_false, Nat.zero_add, Nat.sub_self, Nat.reduceAdd, Nat.reduceSub, Option.map_some, Option.map_none, Bool.not_true, Bool.not_false, Option.bind_some, nc0, nc1, nc2, nc3, nc4, Option.some.injEq, D.bl.injEq, D.int.injEq, reduceCtorEq, decide_true, decide_false, Int.reduceEq, Int.reduceNe, not_true_eq_false, not_false_eq_true, ne_eq, Int.reduceLE, Int.reduceLT, at0, at1, at2, eq_int, eq_bl, eq_sp, eq_pl, eq_fl, eq_tup, eq_pts, eq_lns, mem_pts, mem_lns, Bool.false_xor, Bool.true_xor, mod_int, fdiv_int, mul_int, Int.reduceNeg, Nat.reduceLT, Int.reduceAdd, Int.reduceMul, Int.reduceSub, and_self, or_true, true_or, reduceIte, beq_self_eq_true, Bool.and_self, Bool.true_and, Bool.and_true, Bool.false_and, Bool.and_false, Bool.or_true, Bool.true_or, Bool.or_false, Bool.false_or]
    have es := sort_pts (d := (lng k n).toNat) (qs := rs ++ [p]) (by omega) (fun q m => isPt_bd hf (by
      rcases List.mem_append.mp m with m | m
      · exact (areP_iff.mp h).1 q m
      · rw [List.mem_singleton.mp m]; exact h1)) (by rw [List.length_append]; simp; omega)
    rw [add_lst _ _ (by simp [LIM]; omega), pts_snoc]
    simp only [s_nil, s_asg, s_mov, s_par, s_ifs, s_ret, s_retn, s_ex, Ss.app, nx_nx, rt_rt, zv1, zv2, zv3, zv4, zv5, zv6, zv7, zv8, zv9, zv10, zv11, zv13, zv14, zv15, zv16, zv17, zv18, zv19, zw1, zw2, zr1, zr2, zr3, zr4, zr5, zr6, zr7, gt, sub_int, add_int, le_int, gt_int, ge_int, o_lt, o_eq, o_ne, o_mem, o_nmem, o_is, o_isn, o_not, o_len, o_all, o_any, o_sum, o_sort, o_ssort, o_lst, o_tup, o_ist, i_int, i_boolI, i_boolB, i_str, i_tup, i_lst, i_tupP, i_tupF, len_tup, len_lst, len_tupP, len_F, ix_tup, ix_lst, ix_tupP, ix_F0, ix_F1, not_bl, seq_tup, seq_lst, seq_tupP, lt_int, lst_lst, tpl_lst, tpl_tup, is_bb, isn_bb, bindD, setsD, List.length_cons, List.length_nil, List.map_cons, List.map_nil, List.replicate_succ, List.replicate_zero, List.append_nil, List.cons_append, List.nil_append, List.getElem?_cons_zero, List.getElem?_cons_succ, List.set_cons_zero, List.set_cons_succ, if_true, if_false, Nat.zero_add, Nat.sub_self, Nat.reduceAdd, Nat.reduceSub, Option.map_some, Option.map_none, Bool.not_true, Bool.not_false, Option.bind_some, nc0, nc1, nc2, nc3, nc4, Option.some.injEq, D.bl.injEq, D.int.injEq, reduceCtorEq, decide_true, decide_false, Int.reduceEq, Int.reduceNe, not_true_eq_false, not_false_eq_true, ne_eq, Int.reduceLE, Int.reduceLT, at0, at1, at2, eq_int, eq_bl, eq_sp, eq_pl, eq_fl, eq_tup, eq_pts, eq_lns, mem_pts, mem_lns, Bool.false_xor, Bool.true_xor, mod_int, fdiv_int, mul_int, Int.reduceNeg, Nat.reduceLT, Int.reduceAdd, Int.reduceMul, Int.reduceSub, and_self, or_true, true_or, reduceIte, beq_self_eq_true, Bool.and_self, Bool.true_and, Bool.and_true, Bool.false_and, Bool.and_false, Bool.or_true, Bool.true_or, Bool.or_false, Bool.false_or, es, s_asgF, q23 A (m := m + 2) h21 h23 hf (sortL (rs ++ [p])) (by rw [ins_len]; omega) (areP_iff.mp h3).1]
    have fl : flat (moreO (moreL k n (sortL (rs ++ [p])))) = true := by
      cases moreL k n (sortL (rs ++ [p])) with
      | nil => rfl
      | cons q l => exact flat_tup q
    simp only [fl, s_nil, s_asg, s_mov, s_par, s_ifs, s_ret, s_retn, s_ex, Ss.app, nx_nx, rt_rt, zv1, zv2, zv3, zv4, zv5, zv6, zv7, zv8, zv9, zv10, zv11, zv13, zv14, zv15, zv16, zv17, zv18, zv19, zw1, zw2, zr1, zr2, zr3, zr4, zr5, zr6, zr7, gt, sub_int, add_int, le_int, gt_int, ge_int, o_lt, o_eq, o_ne, o_mem, o_nmem, o_is, o_isn, o_not, o_len, o_all, o_any, o_sum, o_sort, o_ssort, o_lst, o_tup, o_ist, i_int, i_boolI, i_boolB, i_str, i_tup, i_lst, i_tupP, i_tupF, len_tup, len_lst, len_tupP, len_F, ix_tup, ix_lst, ix_tupP, ix_F0, ix_F1, not_bl, seq_tup, seq_lst, seq_tupP, lt_int, lst_lst, tpl_lst, tpl_tup, is_bb, isn_bb, bindD, setsD, List.length_cons, List.length_nil, List.map_cons, List.map_nil, List.replicate_succ, List.replicate_zero, List.append_nil, List.cons_append, List.nil_append, List.getElem?_cons_zero, List.getElem?_cons_succ, List.set_cons_zero, List.set_cons_succ, if_true, if_false, Nat.zero_add, Nat.sub_self, Nat.reduceAdd, Nat.reduceSub, Option.map_some, Option.map_none, Bool.not_true, Bool.not_false, Option.bind_some, nc0, nc1, nc2, nc3, nc4, Option.some.injEq, D.bl.injEq, D.int.injEq, reduceCtorEq, decide_true, decide_false, Int.reduceEq, Int.reduceNe, not_true_eq_false, not_false_eq_true, ne_eq, Int.reduceLE, Int.reduceLT, at0, at1, at2, eq_int, eq_bl, eq_sp, eq_pl, eq_fl, eq_tup, eq_pts, eq_lns, mem_pts, mem_lns, Bool.false_xor, Bool.true_xor, mod_int, fdiv_int, mul_int, Int.reduceNeg, Nat.reduceLT, Int.reduceAdd, Int.reduceMul, Int.reduceSub, and_self, or_true, true_or, reduceIte, beq_self_eq_true, Bool.and_self, Bool.true_and, Bool.and_true, Bool.false_and, Bool.and_false, Bool.or_true, Bool.true_or, Bool.or_false, Bool.false_or]
    exact ⟨_, u, h3, h4, by rw [ins_len], rfl⟩
end
section
variable {T : Tb} (A : HA T) {m : Nat} {k : Kd} {n : Int}
include A
def smlM (c : Int) : Kd × Int := ([(.sp, 1), (.sp, 2), (.pl, 2), (.pl, 3), (.fl, 1), (.fl, 2), (.fl, 3)] : List (Kd × Int)).getD ((val c 3).fmod 7).toNat (.sp, 1)
omit A in
theorem smlM_ok (c : Int) : okF (smlM c).1 (smlM c).2 ∧ (every (smlM c).1 (smlM c).2).length ≤ 9 := by
  have h := fmod_nn (val c 3) (b := 7) (by decide)
  have e : ∀ j : Nat, j < 7 → okF (([(.sp, 1), (.sp, 2), (.pl, 2), (.pl, 3), (.fl, 1), (.fl, 2), (.fl, 3)] : List (Kd × Int)).getD j (.sp, 1)).1 (([(.sp, 1), (.sp, 2), (.pl, 2), (.pl, 3), (.fl, 1), (.fl, 2), (.fl, 3)] : List (Kd × Int)).getD j (.sp, 1)).2 ∧ (every (([(.sp, 1), (.sp, 2), (.pl, 2), (.pl, 3), (.fl, 1), (.fl, 2), (.fl, 3)] : List (Kd × Int)).getD j (.sp, 1)).1 (([(.sp, 1), (.sp, 2), (.pl, 2), (.pl, 3), (.fl, 1), (.fl, 2), (.fl, 3)] : List (Kd × Int)).getD j (.sp, 1)).2).length ≤ 9 := by decide +kernel
  exact e _ (by omega)
theorem q42 (h42 : T.fns[42]? = some fn42) {ns : List Int} {b : Int} (h : 0 ≤ b) : run T (m + 3) 42 [.lst (ns.map .int), .int b] = some (fldD (smlM (cel ns b)).1 (smlM (cel ns b)).2) := by
  refine run_r h42 rfl ?_
  have h7 := fmod_nn (val (cel ns b) 3) (b := 7) (by decide)
  simp only [fn42, s_nil, s_asg, s_mov, s_par, s_ifs, s_ret, s_retn, s_ex, Ss.app, nx_nx, rt_rt, zv1, zv2, zv3, zv4, zv5, zv6, zv7, zv8, zv9, zv10, zv11, zv13, zv14, zv15, zv16, zv17, zv18, zv19, zw1, zw2, zr1, zr2, zr3, zr4, zr5, zr6, zr7, gt, sub_int, add_int, le_int, gt_int, ge_int, o_lt, o_eq, o_ne, o_mem, o_nmem, o_is, o_isn, o_not, o_len, o_all, o_any, o_sum, o_sort, o_ssort, o_lst, o_tup, o_ist, i_int, i_boolI, i_boolB, i_str, i_tup, i_lst, i_tupP, i_tupF, len_tup, len_lst, len_tupP, len_F, ix_tup, ix_lst, ix_tupP, ix_F0, ix_F1, not_bl, seq_tup, seq_lst, seq_tupP, lt_int, lst_lst, tpl_lst, tpl_tup, is_bb, isn_bb, bindD, setsD, List.length_cons, List.length_nil, List.map_cons, List.map_nil, List.replicate_succ, List.replicate_zero, List.append_nil, List.cons_append, List.nil_append, List.getElem?_cons_zero, List.getElem?_cons_succ, List.set_cons_zero, List.set_cons_succ, if_true, if_false, Nat.zero_add, Nat.sub_self, Nat.reduceAdd, Nat.reduceSub, Option.map_some, Option.map_none, Bool.not_true, Bool.not_false, Option.bind_some, nc0, nc1, nc2, nc3, nc4, Option.some.injEq, D.bl.injEq, D.int.injEq, reduceCtorEq, decide_true, decide_false, Int.reduceEq, Int.reduceNe, not_true_eq_false, not_false_eq_true, ne_eq, Int.reduceLE, Int.reduceLT, at0, at1, at2, eq_int, eq_bl, eq_sp, eq_pl, eq_fl, eq_tup, eq_pts, eq_lns, mem_pts, mem_lns, Bool.false_xor, Bool.true_xor, mod_int, fdiv_int, mul_int, Int.reduceNeg, Nat.reduceLT, Int.reduceAdd, Int.reduceMul, Int.reduceSub, and_self, or_true, true_or, reduceIte, beq_self_eq_true, Bool.and_self, Bool.true_and, Bool.and_true, Bool.false_and, Bool.and_false, Bool.or_true, Bool.true_or, Bool.or_false, Bool.false_or, q12 A (m := m + 1) h, q14 A (m := m) (t := 3) (by decide) (by decide)]
  unfold smlM
  have e : ∀ i : Int, 0 ≤ i → i < 7 → atI [fldD .sp 1, fldD .sp 2, fldD .pl 2, fldD .pl 3, fldD .fl 1, fldD .fl 2, fldD .fl 3] i = some (fldD (([(.sp, 1), (.sp, 2), (.pl, 2), (.pl, 3), (.fl, 1), (.fl, 2), (.fl, 3)] : List (Kd × Int)).getD i.toNat (.sp, 1)).1 (([(.sp, 1), (.sp, 2), (.pl, 2), (.pl, 3), (.fl, 1), (.fl, 2), (.fl, 3)] : List (Kd × Int)).getD i.toNat (.sp, 1)).2) := by
    intro i h0 h1
    have : i = 0 ∨ i = 1 ∨ i = 2 ∨ i = 3 ∨ i = 4 ∨ i = 5 ∨ i = 6 := by omega
    rcases this with rfl | rfl | rfl | rfl | rfl | rfl | rfl <;> rfl
  have e := e _ h7.1 h7.2
  show Rt _ (match atI [fldD .sp 1, fldD .sp 2, fldD .pl 2, fldD .pl 3, fldD .fl 1, fldD .fl 2, fldD .fl 3] ((val (cel ns b) 3).fmod 7) with | some d => some (Fl.rt d) | none => none)
  rw [e]
  rfl
theorem q43 (h43 : T.fns[43]? = some fn43) (hf : okF k n) (ps : List Pt) (hl : ps.length ≤ 100000) (hp : ∀ p ∈ ps, isPt k n p) : run T (m + 3) 43 [fldD k n, ptsD ps] = some (ptsD (moreL k n ps)) := by
  refine run_r h43 rfl ?_
  have hE := every_len hf
  simp only [fn43, s_nil, s_asg, s_mov, s_par, s_ifs, s_ret, s_retn, s_ex, Ss.app, nx_nx, rt_rt, zv1, zv2, zv3, zv4, zv5, zv6, zv7, zv8, zv9, zv10, zv11, zv13, zv14, zv15, zv16, zv17, zv18, zv19, zw1, zw2, zr1, zr2, zr3, zr4, zr5, zr6, zr7, gt, sub_int, add_int, le_int, gt_int, ge_int, o_lt, o_eq, o_ne, o_mem, o_nmem, o_is, o_isn, o_not, o_len, o_all, o_any, o_sum, o_sort, o_ssort, o_lst, o_tup, o_ist, i_int, i_boolI, i_boolB, i_str, i_tup, i_lst, i_tupP, i_tupF, len_tup, len_lst, len_tupP, len_F, ix_tup, ix_lst, ix_tupP, ix_F0, ix_F1, not_bl, seq_tup, seq_lst, seq_tupP, lt_int, lst_lst, tpl_lst, tpl_tup, is_bb, isn_bb, bindD, setsD, List.length_cons, List.length_nil, List.map_cons, List.map_nil, List.replicate_succ, List.replicate_zero, List.append_nil, List.cons_append, List.nil_append, List.getElem?_cons_zero, List.getElem?_cons_succ, List.set_cons_zero, List.set_cons_succ, if_true, if_false, Nat.zero_add, Nat.sub_self, Nat.reduceAdd, Nat.reduceSub, Option.map_some, Option.map_none, Bool.not_true, Bool.not_false, Option.bind_some, nc0, nc1, nc2, nc3, nc4, Option.some.injEq, D.bl.injEq, D.int.injEq, reduceCtorEq, decide_true, decide_false, Int.reduceEq, Int.reduceNe, not_true_eq_false, not_false_eq_true, ne_eq, Int.reduceLE, Int.reduceLT, at0, at1, at2, eq_int, eq_bl, eq_sp, eq_pl, eq_fl, eq_tup, eq_pts, eq_lns, mem_pts, mem_lns, Bool.false_xor, Bool.true_xor, mod_int, fdiv_int, mul_int, Int.reduceNeg, Nat.reduceLT, Int.reduceAdd, Int.reduceMul, Int.reduceSub, and_self, or_true, true_or, reduceIte, beq_self_eq_true, Bool.and_self, Bool.true_and, Bool.and_true, Bool.false_and, Bool.and_false, Bool.or_true, Bool.true_or, Bool.or_false, Bool.false_or]
  unfold moreL
  rw [filt_flat]
  refine s_accP (g := tupD) (xs := every k n) (P := fun acc env => ∃ x3 x4 x5 x6 x7 x8, env = [some (fldD k n), some (ptsD ps), some (ptsD acc), x3, x4, x5, x6, x7, x8]) (fun p => if goodP k n ps p then [p] else []) [] ?_ ⟨_, _, _, _, _, _, rfl⟩ ?_ ?_
  · simp only [s_nil, s_asg, s_mov, s_par, s_ifs, s_ret, s_retn, s_ex, Ss.app, nx_nx, rt_rt, zv1, zv2, zv3, zv4, zv5, zv6, zv7, zv8, zv9, zv10, zv11, zv13, zv14, zv15, zv16, zv17, zv18, zv19, zw1, zw2, zr1, zr2, zr3, zr4, zr5, zr6, zr7, gt, sub_int, add_int, le_int, gt_int, ge_int, o_lt, o_eq, o_ne, o_mem, o_nmem, o_is, o_isn, o_not, o_len, o_all, o_any, o_sum, o_sort, o_ssort, o_lst, o_tup, o_ist, i_int, i_boolI, i_boolB, i_str, i_tup, i_lst, i_tupP, i_tupF, len_tup, len_lst, len_tupP, len_F, ix_tup, ix_lst, ix_tupP, ix_F0, ix_F1, not_bl, seq_tup, seq_lst, seq_tupP, lt_int, lst_lst, tpl_lst, tpl_tup, is_bb, isn_bb, bindD, setsD, List.length_cons, List.length_nil, List.map_cons, List.map_nil, List.replicate_succ, List.replicate_zero, List.append_nil, List.cons_append, List.nil_append, List.getElem?_cons_zero, List.getElem?_cons_succ, List.set_cons_zero, List.set_cons_succ, if_true, if_false, Nat.zero_add, Nat.sub_self, Nat.reduceAdd, Nat.reduceSub, Option.map_some, Option.map_none, Bool.not_true, Bool.not_false, Option.bind_some, nc0, nc1, nc2, nc3, nc4, Option.some.injEq, D.bl.injEq, D.int.injEq, reduceCtorEq, decide_true, decide_false, Int.reduceEq, Int.reduceNe, not_true_eq_false, not_false_eq_true, ne_eq, Int.reduceLE, Int.reduceLT, at0, at1, at2, eq_int, eq_bl, eq_sp, eq_pl, eq_fl, eq_tup, eq_pts, eq_lns, mem_pts, mem_lns, Bool.false_xor, Bool.true_xor, mod_int, fdiv_int, mul_int, Int.reduceNeg, Nat.reduceLT, Int.reduceAdd, Int.reduceMul, Int.reduceSub, and_self, or_true, true_or, reduceIte, beq_self_eq_true, Bool.and_self, Bool.true_and, Bool.and_true, Bool.false_and, Bool.and_false, Bool.or_true, Bool.true_or, Bool.or_false, Bool.false_or, q17 A (m := m) hf]
  · rintro pre p post hpe0 env ⟨x3, x4, x5, x6, x7, x8, rfl⟩
    refine ⟨_, rfl, ?_⟩
    have hpe : p ∈ every k n := by rw [hpe0]; simp
    have ip := (isPt_every hf).mpr hpe
    have al : (pre.flatMap fun p => if goodP k n ps p then [p] else []).length < LIM := by
      rw [← filt_flat]
      have := List.length_filter_le (goodP k n ps) pre
      have := congrArg List.length hpe0
      rw [List.length_append] at this
      unfold LIM
      omega
    simp only [s_nil, s_asg, s_mov, s_par, s_ifs, s_ret, s_retn, s_ex, Ss.app, nx_nx, rt_rt, zv1, zv2, zv3, zv4, zv5, zv6, zv7, zv8, zv9, zv10, zv11, zv13, zv14, zv15, zv16, zv17, zv18, zv19, zw1, zw2, zr1, zr2, zr3, zr4, zr5, zr6, zr7, gt, sub_int, add_int, le_int, gt_int, ge_int, o_lt, o_eq, o_ne, o_mem, o_nmem, o_is, o_isn, o_not, o_len, o_all, o_any, o_sum, o_sort, o_ssort, o_lst, o_tup, o_ist, i_int, i_boolI, i_boolB, i_str, i_tup, i_lst, i_tupP, i_tupF, len_tup, len_lst, len_tupP, len_F, ix_tup, ix_lst, ix_tupP, ix_F0, ix_F1, not_bl, seq_tup, seq_lst, seq_tupP, lt_int, lst_lst, tpl_lst, tpl_tup, is_bb, isn_bb, bindD, setsD, List.length_cons, List.length_nil, List.map_cons, List.map_nil, List.replicate_succ, List.replicate_zero, List.append_nil, List.cons_append, List.nil_append, List.getElem?_cons_zero, List.getElem?_cons_succ, List.set_cons_zero, List.set_cons_succ, if_true, if_false, Nat.zero_add, Nat.sub_self, Nat.reduceAdd, Nat.reduceSub, Option.map_some, Option.map_none, Bool.not_true, Bool.not_false, Option.bind_some, nc0, nc1, nc2, nc3, nc4, Option.some.injEq, D.bl.injEq, D.int.injEq, reduceCtorEq, decide_true, decide_false, Int.reduceEq, Int.reduceNe, not_true_eq_false, not_false_eq_true, ne_eq, Int.reduceLE, Int.reduceLT, at0, at1, at2, eq_int, eq_bl, eq_sp, eq_pl, eq_fl, eq_tup, eq_pts, eq_lns, mem_pts, mem_lns, Bool.false_xor, Bool.true_xor, mod_int, fdiv_int, mul_int, Int.reduceNeg, Nat.reduceLT, Int.reduceAdd, Int.reduceMul, Int.reduceSub, and_self, or_true, true_or, reduceIte, beq_self_eq_true, Bool.and_self, Bool.true_and, Bool.and_true, Bool.false_and, Bool.and_false, Bool.or_true, Bool.true_or, Bool.or_false, Bool.false_or]
    generalize (pre.flatMap fun p => if goodP k n ps p then [p] else []) = acc at al ⊢
    unfold goodP
    by_cases hm : p ∈ ps
    · simp only [s_nil, s_asg, s_mov, s_par, s_ifs, s_ret, s_retn, s_ex, Ss.app, nx_nx, rt_rt, zv1, zv2, zv3, zv4, zv5, zv6, zv7, zv8, zv9, zv10, zv11, zv13, zv14, zv15, zv16, zv17, zv18, zv19, zw1, zw2, zr1, zr2, zr3, zr4, zr5, zr6, zr7, gt, sub_int, add_int, le_int, gt_int, ge_int, o_lt, o_eq, o_ne, o_mem, o_nmem, o_is, o_isn, o_not, o_len, o_all, o_any, o_sum, o_sort, o_ssort, o_lst, o_tup, o_ist, i_int, i_boolI, i_boolB, i_str, i_tup, i_lst, i_tupP, i_tupF, len_tup, len_lst, len_tupP, len_F, ix_tup, ix_lst, ix_tupP, ix_F0, ix_F1, not_bl, seq_tup, seq_lst, seq_tupP, lt_int, lst_lst, tpl_lst, tpl_tup, is_bb, isn_bb, bindD, setsD, List.length_cons, List.length_nil, List.map_cons, List.map_nil, List.replicate_succ, List.replicate_zero, List.append_nil, List.cons_append, List.nil_append, List.getElem?_cons_zero, List.getElem?_cons_succ, List.set_cons_zero, List.set_cons_succ, if_true, if_false, Nat.zero_add, Nat.sub_self, Nat.reduceAdd, Nat.reduceSub, Option.map_some, Option.map_none, Bool.not_true, Bool.not_false, Option.bind_some, nc0, nc1, nc2, nc3, nc4, Option.some.injEq, D.bl.injEq, D.int.injEq, reduceCtorEq, decide_true, decide_false, Int.reduceEq, Int.reduceNe, not_true_eq_false, not_false_eq_true, ne_eq, Int.reduceLE, Int.reduceLT, at0, at1, at2, eq_int, eq_bl, eq_sp, eq_pl, eq_fl, eq_tup, eq_pts, eq_lns, mem_pts, mem_lns, Bool.false_xor, Bool.true_xor, mod_int, fdiv_int, mul_int, Int.reduceNeg, Nat.reduceLT, Int.reduceAdd, Int.reduceMul, Int.reduceSub, and_self, or_true, true_or, reduceIte, beq_self_eq_true, Bool.and_self, Bool.true_and, Bool.and_true, Bool.false_and, Bool.and_false, Bool.or_true, Bool.true_or, Bool.or_false, Bool.false_or, hm]
      exact ⟨_, _, _, _, _, _, rfl⟩
    · simp only [s_nil, s_asg, s_mov, s_par, s_ifs, s_ret, s_retn, s_ex, Ss.app, nx_nx, rt_rt, zv1, zv2, zv3, zv4, zv5, zv6, zv7, zv8, zv9, zv10, zv11, zv13, zv14, zv15, zv16, zv17, zv18, zv19, zw1, zw2, zr1, zr2, zr3, zr4, zr5, zr6, zr7, gt, sub_int, add_int, le_int, gt_int, ge_int, o_lt, o_eq, o_ne, o_mem, o_nmem, o_is, o_isn, o_not, o_len, o_all, o_any, o_sum, o_sort, o_ssort, o_lst, o_tup, o_ist, i_int, i_boolI, i_boolB, i_str, i_tup, i_lst, i_tupP, i_tupF, len_tup, len_lst, len_tupP, len_F, ix_tup, ix_lst, ix_tupP, ix_F0, ix_F1, not_bl, seq_tup, seq_lst, seq_tupP, lt_int, lst_lst, tpl_lst, tpl_tup, is_bb, isn_bb, bindD, setsD, List.length_cons, List.length_nil, List.map_cons, List.map_nil, List.replicate_succ, List.replicate_zero, List.append_nil, List.cons_append, List.nil_append, List.getElem?_cons_zero, List.getElem?_cons_succ, List.set_cons_zero, List.set_cons_succ, if_true, if_false, Nat.zero_add, Nat.sub_self, Nat.reduceAdd, Nat.reduceSub, Option.map_some, Option.map_none, Bool.not_true, Bool.not_false, Option.bind_some, nc0, nc1, nc2, nc3, nc4, Option.some.injEq, D.bl.injEq, D.int.injEq, reduceCtorEq, decide_true, decide_false, Int.reduceEq, Int.reduceNe, not_true_eq_false, not_false_eq_true, ne_eq, Int.reduceLE, Int.reduceLT, at0, at1, at2, eq_int, eq_bl, eq_sp, eq_pl, eq_fl, eq_tup, eq_pts, eq_lns, mem_pts, mem_lns, Bool.false_xor, Bool.true_xor, mod_int, fdiv_int, mul_int, Int.reduceNeg, Nat.reduceLT, Int.reduceAdd, Int.reduceMul, Int.reduceSub, and_self, or_true, true_or, reduceIte, beq_self_eq_true, Bool.and_self, Bool.true_and, Bool.and_true, Bool.false_and, Bool.and_false, Bool.or_true, Bool.true_or, Bool.or_false, Bool.false_or, hm]
      refine s_fold (g := ipD) (xs := enP 0 ps) (P := fun (g : Bool) env => ∃ x5 x6 x7, env = [some (fldD k n), some (ptsD ps), some (ptsD acc), some (tupD p), some (.bl g), x5, x6, x7, x8]) (fun g z => g && !((ps.take z.1).any fun t => lin k n z.2 t p)) true ?_ ⟨_, _, _, rfl⟩ ?_ ?_
      · simp only [s_nil, s_asg, s_mov, s_par, s_ifs, s_ret, s_retn, s_ex, Ss.app, nx_nx, rt_rt, zv1, zv2, zv3, zv4, zv5, zv6, zv7, zv8, zv9, zv10, zv11, zv13, zv14, zv15, zv16, zv17, zv18, zv19, zw1, zw2, zr1, zr2, zr3, zr4, zr5, zr6, zr7, gt, sub_int, add_int, le_int, gt_int, ge_int, o_lt, o_eq, o_ne, o_mem, o_nmem, o_is, o_isn, o_not, o_len, o_all, o_any, o_sum, o_sort, o_ssort, o_lst, o_tup, o_ist, i_int, i_boolI, i_boolB, i_str, i_tup, i_lst, i_tupP, i_tupF, len_tup, len_lst, len_tupP, len_F, ix_tup, ix_lst, ix_tupP, ix_F0, ix_F1, not_bl, seq_tup, seq_lst, seq_tupP, lt_int, lst_lst, tpl_lst, tpl_tup, is_bb, isn_bb, bindD, setsD, List.length_cons, List.length_nil, List.map_cons, List.map_nil, List.replicate_succ, List.replicate_zero, List.append_nil, List.cons_append, List.nil_append, List.getElem?_cons_zero, List.getElem?_cons_succ, List.set_cons_zero, List.set_cons_succ, if_true, if_false, Nat.zero_add, Nat.sub_self, Nat.reduceAdd, Nat.reduceSub, Option.map_some, Option.map_none, Bool.not_true, Bool.not_false, Option.bind_some, nc0, nc1, nc2, nc3, nc4, Option.some.injEq, D.bl.injEq, D.int.injEq, reduceCtorEq, decide_true, decide_false, Int.reduceEq, Int.reduceNe, not_true_eq_false, not_false_eq_true, ne_eq, Int.reduceLE, Int.reduceLT, at0, at1, at2, eq_int, eq_bl, eq_sp, eq_pl, eq_fl, eq_tup, eq_pts, eq_lns, mem_pts, mem_lns, Bool.false_xor, Bool.true_xor, mod_int, fdiv_int, mul_int, Int.reduceNeg, Nat.reduceLT, Int.reduceAdd, Int.reduceMul, Int.reduceSub, and_self, or_true, true_or, reduceIte, beq_self_eq_true, Bool.and_self, Bool.true_and, Bool.and_true, Bool.false_and, Bool.and_false, Bool.or_true, Bool.true_or, Bool.or_false, Bool.false_or, enum_pts]
      · rintro g z hz env ⟨x5, x6, x7, rfl⟩
        refine ⟨_, rfl, ?_⟩
        obtain ⟨_, z1, _, z2⟩ := mem_enP (d := []) hz
        have z2 := hp _ z2
        simp only [s_nil, s_asg, s_mov, s_par, s_ifs, s_ret, s_retn, s_ex, Ss.app, nx_nx, rt_rt, zv1, zv2, zv3, zv4, zv5, zv6, zv7, zv8, zv9, zv10, zv11, zv13, zv14, zv15, zv16, zv17, zv18, zv19, zw1, zw2, zr1, zr2, zr3, zr4, zr5, zr6, zr7, gt, sub_int, add_int, le_int, gt_int, ge_int, o_lt, o_eq, o_ne, o_mem, o_nmem, o_is, o_isn, o_not, o_len, o_all, o_any, o_sum, o_sort, o_ssort, o_lst, o_tup, o_ist, i_int, i_boolI, i_boolB, i_str, i_tup, i_lst, i_tupP, i_tupF, len_tup, len_lst, len_tupP, len_F, ix_tup, ix_lst, ix_tupP, ix_F0, ix_F1, not_bl, seq_tup, seq_lst, seq_tupP, lt_int, lst_lst, tpl_lst, tpl_tup, is_bb, isn_bb, bindD, setsD, List.length_cons, List.length_nil, List.map_cons, List.map_nil, List.replicate_succ, List.replicate_zero, List.append_nil, List.cons_append, List.nil_append, List.getElem?_cons_zero, List.getElem?_cons_succ, List.set_cons_zero, List.set_cons_succ, if_true, if_false, Nat.zero_add, Nat.sub_self, Nat.reduceAdd, Nat.reduceSub, Option.map_some, Option.map_none, Bool.not_true, Bool.not_false, Option.bind_some, nc0, nc1, nc2, nc3, nc4, Option.some.injEq, D.bl.injEq, D.int.injEq, reduceCtorEq, decide_true, decide_false, Int.reduceEq, Int.reduceNe, not_true_eq_false, not_false_eq_true, ne_eq, Int.reduceLE, Int.reduceLT, at0, at1, at2, eq_int, eq_bl, eq_sp, eq_pl, eq_fl, eq_tup, eq_pts, eq_lns, mem_pts, mem_lns, Bool.false_xor, Bool.true_xor, mod_int, fdiv_int, mul_int, Int.reduceNeg, Nat.reduceLT, Int.reduceAdd, Int.reduceMul, Int.reduceSub, and_self, or_true, true_or, reduceIte, beq_self_eq_true, Bool.and_self, Bool.true_and, Bool.and_true, Bool.false_and, Bool.and_false, Bool.or_true, Bool.true_or, Bool.or_false, Bool.false_or]
        rw [e_comp (g := tupD) (xs := ps.take z.1) (fun t => D.bl (lin k n z.2 t p)) (by simp only [s_nil, s_asg, s_mov, s_par, s_ifs, s_ret, s_retn, s_ex, Ss.app, nx_nx, rt_rt, zv1, zv2, zv3, zv4, zv5, zv6, zv7, zv8, zv9, zv10, zv11, zv13, zv14, zv15, zv16, zv17, zv18, zv19, zw1, zw2, zr1, zr2, zr3, zr4, zr5, zr6, zr7, gt, sub_int, add_int, le_int, gt_int, ge_int, o_lt, o_eq, o_ne, o_mem, o_nmem, o_is, o_isn, o_not, o_len, o_all, o_any, o_sum, o_sort, o_ssort, o_lst, o_tup, o_ist, i_int, i_boolI, i_boolB, i_str, i_tup, i_lst, i_tupP, i_tupF, len_tup, len_lst, len_tupP, len_F, ix_tup, ix_lst, ix_tupP, ix_F0, ix_F1, not_bl, seq_tup, seq_lst, seq_tupP, lt_int, lst_lst, tpl_lst, tpl_tup, is_bb, isn_bb, bindD, setsD, List.length_cons, List.length_nil, List.map_cons, List.map_nil, List.replicate_succ, List.replicate_zero, List.append_nil, List.cons_append, List.nil_append, List.getElem?_cons_zero, List.getElem?_cons_succ, List.set_cons_zero, List.set_cons_succ, if_true, if_false, Nat.zero_add, Nat.sub_self, Nat.reduceAdd, Nat.reduceSub, Option.map_some, Option.map_none, Bool.not_true, Bool.not_false, Option.bind_some, nc0, nc1, nc2, nc3, nc4, Option.some.injEq, D.bl.injEq, D.int.injEq, reduceCtorEq, decide_true, decide_false, Int.reduceEq, Int.reduceNe, not_true_eq_false, not_false_eq_true, ne_eq, Int.reduceLE, Int.reduceLT, at0, at1, at2, eq_int, eq_bl, eq_sp, eq_pl, eq_fl, eq_tup, eq_pts, eq_lns, mem_pts, mem_lns, Bool.false_xor, Bool.true_xor, mod_int, fdiv_int, mul_int, Int.reduceNeg, Nat.reduceLT, Int.reduceAdd, Int.reduceMul, Int.reduceSub, and_self, or_true, true_or, reduceIte, beq_self_eq_true, Bool.and_self, Bool.true_and, Bool.and_true, Bool.false_and, Bool.and_false, Bool.or_true, Bool.true_or, Bool.or_false, Bool.false_or, sl_take]) (by rw [List.length_take]; unfold LIM; omega) (fun t m => ⟨_, rfl, by simp only [s_nil, s_asg, s_mov, s_par, s_ifs, s_ret, s_retn, s_ex, Ss.app, nx_nx, rt_rt, zv1, zv2, zv3, zv4, zv5, zv6, zv7, zv8, zv9, zv10, zv11, zv13, zv14, zv15, zv16, zv17, zv18, zv19, zw1, zw2, zr1, zr2, zr3, zr4, zr5, zr6, zr7, gt, sub_int, add_int, le_int, gt_int, ge_int, o_lt, o_eq, o_ne, o_mem, o_nmem, o_is, o_isn, o_not, o_len, o_all, o_any, o_sum, o_sort, o_ssort, o_lst, o_tup, o_ist, i_int, i_boolI, i_boolB, i_str, i_tup, i_lst, i_tupP, i_tupF, len_tup, len_lst, len_tupP, len_F, ix_tup, ix_lst, ix_tupP, ix_F0, ix_F1, not_bl, seq_tup, seq_lst, seq_tupP, lt_int, lst_lst, tpl_lst, tpl_tup, is_bb, isn_bb, bindD, setsD, List.length_cons, List.length_nil, List.map_cons, List.map_nil, List.replicate_succ, List.replicate_zero, List.append_nil, List.cons_append, List.nil_append, List.getElem?_cons_zero, List.getElem?_cons_succ, List.set_cons_zero, List.set_cons_succ, if_true, if_false, Nat.zero_add, Nat.sub_self, Nat.reduceAdd, Nat.reduceSub, Option.map_some, Option.map_none, Bool.not_true, Bool.not_false, Option.bind_some, nc0, nc1, nc2, nc3, nc4, Option.some.injEq, D.bl.injEq, D.int.injEq, reduceCtorEq, decide_true, decide_false, Int.reduceEq, Int.reduceNe, not_true_eq_false, not_false_eq_true, ne_eq, Int.reduceLE, Int.reduceLT, at0, at1, at2, eq_int, eq_bl, eq_sp, eq_pl, eq_fl, eq_tup, eq_pts, eq_lns, mem_pts, mem_lns, Bool.false_xor, Bool.true_xor, mod_int, fdiv_int, mul_int, Int.reduceNeg, Nat.reduceLT, Int.reduceAdd, Int.reduceMul, Int.reduceSub, and_self, or_true, true_or, reduceIte, beq_self_eq_true, Bool.and_self, Bool.true_and, Bool.and_true, Bool.false_and, Bool.and_false, Bool.or_true, Bool.true_or, Bool.or_false, Bool.false_or, q19 A hf z2 (hp t (List.mem_of_mem_take m)) ip]⟩)]
        simp only [s_nil, s_asg, s_mov, s_par, s_ifs, s_ret, s_retn, s_ex, Ss.app, nx_nx, rt_rt, zv1, zv2, zv3, zv4, zv5, zv6, zv7, zv8, zv9, zv10, zv11, zv13, zv14, zv15, zv16, zv17, zv18, zv19, zw1, zw2, zr1, zr2, zr3, zr4, zr5, zr6, zr7, gt, sub_int, add_int, le_int, gt_int, ge_int, o_lt, o_eq, o_ne, o_mem, o_nmem, o_is, o_isn, o_not, o_len, o_all, o_any, o_sum, o_sort, o_ssort, o_lst, o_tup, o_ist, i_int, i_boolI, i_boolB, i_str, i_tup, i_lst, i_tupP, i_tupF, len_tup, len_lst, len_tupP, len_F, ix_tup, ix_lst, ix_tupP, ix_F0, ix_F1, not_bl, seq_tup, seq_lst, seq_tupP, lt_int, lst_lst, tpl_lst, tpl_tup, is_bb, isn_bb, bindD, setsD, List.length_cons, List.length_nil, List.map_cons, List.map_nil, List.replicate_succ, List.replicate_zero, List.append_nil, List.cons_append, List.nil_append, List.getElem?_cons_zero, List.getElem?_cons_succ, List.set_cons_zero, List.set_cons_succ, if_true, if_false, Nat.zero_add, Nat.sub_self, Nat.reduceAdd, Nat.reduceSub, Option.map_some, Option.map_none, Bool.not_true, Bool.not_false, Option.bind_some, nc0, nc1, nc2, nc3, nc4, Option.some.injEq, D.bl.injEq, D.int.injEq, reduceCtorEq, decide_true, decide_false, Int.reduceEq, Int.reduceNe, not_true_eq_false, not_false_eq_true, ne_eq, Int.reduceLE, Int.reduceLT, at0, at1, at2, eq_int, eq_bl, eq_sp, eq_pl, eq_fl, eq_tup, eq_pts, eq_lns, mem_pts, mem_lns, Bool.false_xor, Bool.true_xor, mod_int, fdiv_int, mul_int, Int.reduceNeg, Nat.reduceLT, Int.reduceAdd, Int.reduceMul, Int.reduceSub, and_self, or_true, true_or, reduceIte, beq_self_eq_true, Bool.and_self, Bool.true_and, Bool.and_true, Bool.false_and, Bool.and_false, Bool.or_true, Bool.true_or, Bool.or_false, Bool.false_or, any_mapf]
        cases g with
        | true => simp only [s_nil, s_asg, s_mov, s_par, s_ifs, s_ret, s_retn, s_ex, Ss.app, nx_nx, rt_rt, zv1, zv2, zv3, zv4, zv5, zv6, zv7, zv8, zv9, zv10, zv11, zv13, zv14, zv15, zv16, zv17, zv18, zv19, zw1, zw2, zr1, zr2, zr3, zr4, zr5, zr6, zr7, gt, sub_int, add_int, le_int, gt_int, ge_int, o_lt, o_eq, o_ne, o_mem, o_nmem, o_is, o_isn, o_not, o_len, o_all, o_any, o_sum, o_sort, o_ssort, o_lst, o_tup, o_ist, i_int, i_boolI, i_boolB, i_str, i_tup, i_lst, i_tupP, i_tupF, len_tup, len_lst, len_tupP, len_F, ix_tup, ix_lst, ix_tupP, ix_F0, ix_F1, not_bl, seq_tup, seq_lst, seq_tupP, lt_int, lst_lst, tpl_lst, tpl_tup, is_bb, isn_bb, bindD, setsD, List.length_cons, List.length_nil, List.map_cons, List.map_nil, List.replicate_succ, List.replicate_zero, List.append_nil, List.cons_append, List.nil_append, List.getElem?_cons_zero, List.getElem?_cons_succ, List.set_cons_zero, List.set_cons_succ, if_true, if_false, Nat.zero_add, Nat.sub_self, Nat.reduceAdd, Nat.reduceSub, Option.map_some, Option.map_none, Bool.not_true, Bool.not_false, Option.bind_some, nc0, nc1, nc2, nc3, nc4, Option.some.injEq, D.bl.injEq, D.int.injEq, reduceCtorEq, decide_true, decide_false, Int.reduceEq, Int.reduceNe, not_true_eq_false, not_false_eq_true, ne_eq, Int.reduceLE, Int.reduceLT, at0, at1, at2, eq_int, eq_bl, eq_sp, eq_pl, eq_fl, eq_tup, eq_pts, eq_lns, mem_pts, mem_lns, Bool.false_xor, Bool.true_xor, mod_int, fdiv_int, mul_int, Int.reduceNeg, Nat.reduceLT, Int.reduceAdd, Int.reduceMul, Int.reduceSub, and_self, or_true, true_or, reduceIte, beq_self_eq_true, Bool.and_self, Bool.true_and, Bool.and_true, Bool.false_and, Bool.and_false, Bool.or_true, Bool.true_or, Bool.or_false, Bool.false_or]; exact ⟨_, _, _, rfl⟩
        | false => simp only [s_nil, s_asg, s_mov, s_par, s_ifs, s_ret, s_retn, s_ex, Ss.app, nx_nx, rt_rt, zv1, zv2, zv3, zv4, zv5, zv6, zv7, zv8, zv9, zv10, zv11, zv13, zv14, zv15, zv16, zv17, zv18, zv19, zw1, zw2, zr1, zr2, zr3, zr4, zr5, zr6, zr7, gt, sub_int, add_int, le_int, gt_int, ge_int, o_lt, o_eq, o_ne, o_mem, o_nmem, o_is, o_isn, o_not, o_len, o_all, o_any, o_sum, o_sort, o_ssort, o_lst, o_tup, o_ist, i_int, i_boolI, i_boolB, i_str, i_tup, i_lst, i_tupP, i_tupF, len_tup, len_lst, len_tupP, len_F, ix_tup, ix_lst, ix_tupP, ix_F0, ix_F1, not_bl, seq_tup, seq_lst, seq_tupP, lt_int, lst_lst, tpl_lst, tpl_tup, is_bb, isn_bb, bindD, setsD, List.length_cons, List.length_nil, List.map_cons, List.map_nil, List.replicate_succ, List.replicate_zero, List.append_nil, List.cons_append, List.nil_append, List.getElem?_cons_zero, List.getElem?_cons_succ, List.set_cons_zero, List.set_cons_succ, if_true, if_false, Nat.zero_add, Nat.sub_self, Nat.reduceAdd, Nat.reduceSub, Option.map_some, Option.map_none, Bool.not_true, Bool.not_false, Option.bind_some, nc0, nc1, nc2, nc3, nc4, Option.some.injEq, D.bl.injEq, D.int.injEq, reduceCtorEq, decide_true, decide_false, Int.reduceEq, Int.reduceNe, not_true_eq_false, not_false_eq_true, ne_eq, Int.reduceLE, Int.reduceLT, at0, at1, at2, eq_int, eq_bl, eq_sp, eq_pl, eq_fl, eq_tup, eq_pts, eq_lns, mem_pts, mem_lns, Bool.false_xor, Bool.true_xor, mod_int, fdiv_int, mul_int, Int.reduceNeg, Nat.reduceLT, Int.reduceAdd, Int.reduceMul, Int.reduceSub, and_self, or_true, true_or, reduceIte, beq_self_eq_true, Bool.and_self, Bool.true_and, Bool.and_true, Bool.false_and, Bool.and_false, Bool.or_true, Bool.true_or, Bool.or_false, Bool.false_or]; exact ⟨_, _, _, rfl⟩
      · rintro env ⟨x5, x6, x7, rfl⟩
        rw [foldl_and]
        show Nx _ (exs _ _ _ [some (fldD k n), some (ptsD ps), some (ptsD acc), some (tupD p), some (.bl (true && !linW k n ps p)), x5, x6, x7, x8])
        simp only [s_nil, s_asg, s_mov, s_par, s_ifs, s_ret, s_retn, s_ex, Ss.app, nx_nx, rt_rt, zv1, zv2, zv3, zv4, zv5, zv6, zv7, zv8, zv9, zv10, zv11, zv13, zv14, zv15, zv16, zv17, zv18, zv19, zw1, zw2, zr1, zr2, zr3, zr4, zr5, zr6, zr7, gt, sub_int, add_int, le_int, gt_int, ge_int, o_lt, o_eq, o_ne, o_mem, o_nmem, o_is, o_isn, o_not, o_len, o_all, o_any, o_sum, o_sort, o_ssort, o_lst, o_tup, o_ist, i_int, i_boolI, i_boolB, i_str, i_tup, i_lst, i_tupP, i_tupF, len_tup, len_lst, len_tupP, len_F, ix_tup, ix_lst, ix_tupP, ix_F0, ix_F1, not_bl, seq_tup, seq_lst, seq_tupP, lt_int, lst_lst, tpl_lst, tpl_tup, is_bb, isn_bb, bindD, setsD, List.length_cons, List.length_nil, List.map_cons, List.map_nil, List.replicate_succ, List.replicate_zero, List.append_nil, List.cons_append, List.nil_append, List.getElem?_cons_zero, List.getElem?_cons_succ, List.set_cons_zero, List.set_cons_succ, if_true, if_false, Nat.zero_add, Nat.sub_self, Nat.reduceAdd, Nat.reduceSub, Option.map_some, Option.map_none, Bool.not_true, Bool.not_false, Option.bind_some, nc0, nc1, nc2, nc3, nc4, Option.some.injEq, D.bl.injEq, D.int.injEq, reduceCtorEq, decide_true, decide_false, Int.reduceEq, Int.reduceNe, not_true_eq_false, not_false_eq_true, ne_eq, Int.reduceLE, Int.reduceLT, at0, at1, at2, eq_int, eq_bl, eq_sp, eq_pl, eq_fl, eq_tup, eq_pts, eq_lns, mem_pts, mem_lns, Bool.false_xor, Bool.true_xor, mod_int, fdiv_int, mul_int, Int.reduceNeg, Nat.reduceLT, Int.reduceAdd, Int.reduceMul, Int.reduceSub, and_self, or_true, true_or, reduceIte, beq_self_eq_true, Bool.and_self, Bool.true_and, Bool.and_true, Bool.false_and, Bool.and_false, Bool.or_true, Bool.true_or, Bool.or_false, Bool.false_or]
        cases linW k n ps p with
        | true => simp only [s_nil, s_asg, s_mov, s_par, s_ifs, s_ret, s_retn, s_ex, Ss.app, nx_nx, rt_rt, zv1, zv2, zv3, zv4, zv5, zv6, zv7, zv8, zv9, zv10, zv11, zv13, zv14, zv15, zv16, zv17, zv18, zv19, zw1, zw2, zr1, zr2, zr3, zr4, zr5, zr6, zr7, gt, sub_int, add_int, le_int, gt_int, ge_int, o_lt, o_eq, o_ne, o_mem, o_nmem, o_is, o_isn, o_not, o_len, o_all, o_any, o_sum, o_sort, o_ssort, o_lst, o_tup, o_ist, i_int, i_boolI, i_boolB, i_str, i_tup, i_lst, i_tupP, i_tupF, len_tup, len_lst, len_tupP, len_F, ix_tup, ix_lst, ix_tupP, ix_F0, ix_F1, not_bl, seq_tup, seq_lst, seq_tupP, lt_int, lst_lst, tpl_lst, tpl_tup, is_bb, isn_bb, bindD, setsD, List.length_cons, List.length_nil, List.map_cons, List.map_nil, List.replicate_succ, List.replicate_zero, List.append_nil, List.cons_append, List.nil_append, List.getElem?_cons_zero, List.getElem?_cons_succ, List.set_cons_zero, List.set_cons_succ, if_true, if_false, Nat.zero_add, Nat.sub_self, Nat.reduceAdd, Nat.reduceSub, Option.map_some, Option.map_none, Bool.not_true, Bool.not_false, Option.bind_some, nc0, nc1, nc2, nc3, nc4, Option.some.injEq, D.bl.injEq, D.int.injEq, reduceCtorEq, decide_true, decide_false, Int.reduceEq, Int.reduceNe, not_true_eq_false, not_false_eq_true, ne_eq, Int.reduceLE, Int.reduceLT, at0, at1, at2, eq_int, eq_bl, eq_sp, eq_pl, eq_fl, eq_tup, eq_pts, eq_lns, mem_pts, mem_lns, Bool.false_xor, Bool.true_xor, mod_int, fdiv_int, mul_int, Int.reduceNeg, Nat.reduceLT, Int.reduceAdd, Int.reduceMul, Int.reduceSub, and_self, or_true, true_or, reduceIte, beq_self_eq_true, Bool.and_self, Bool.true_and, Bool.and_true, Bool.false_and, Bool.and_false, Bool.or_true, Bool.true_or, Bool.or_false, Bool.false_or]; exact ⟨_, _, _, _, _, _, rfl⟩
        | false =>
          simp only [s_nil, s_asg, s_mov, s_par, s_ifs, s_ret, s_retn, s_ex, Ss.app, nx_nx, rt_rt, zv1, zv2, zv3, zv4, zv5, zv6, zv7, zv8, zv9, zv10, zv11, zv13, zv14, zv15, zv16, zv17, zv18, zv19, zw1, zw2, zr1, zr2, zr3, zr4, zr5, zr6, zr7, gt, sub_int, add_int, le_int, gt_int, ge_int, o_lt, o_eq, o_ne, o_mem, o_nmem, o_is, o_isn, o_not, o_len, o_all, o_any, o_sum, o_sort, o_ssort, o_lst, o_tup, o_ist, i_int, i_boolI, i_boolB, i_str, i_tup, i_lst, i_tupP, i_tupF, len_tup, len_lst, len_tupP, len_F, ix_tup, ix_lst, ix_tupP, ix_F0, ix_F1, not_bl, seq_tup, seq_lst, seq_tupP, lt_int, lst_lst, tpl_lst, tpl_tup, is_bb, isn_bb, bindD, setsD, List.length_cons, List.length_nil, List.map_cons, List.map_nil, List.replicate_succ, List.replicate_zero, List.append_nil, List.cons_append, List.nil_append, List.getElem?_cons_zero, List.getElem?_cons_succ, List.set_cons_zero, List.set_cons_succ, if_true, if_false, Nat.zero_add, Nat.sub_self, Nat.reduceAdd, Nat.reduceSub, Option.map_some, Option.map_none, Bool.not_true, Bool.not_false, Option.bind_some, nc0, nc1, nc2, nc3, nc4, Option.some.injEq, D.bl.injEq, D.int.injEq, reduceCtorEq, decide_true, decide_false, Int.reduceEq, Int.reduceNe, not_true_eq_false, not_false_eq_true, ne_eq, Int.reduceLE, Int.reduceLT, at0, at1, at2, eq_int, eq_bl, eq_sp, eq_pl, eq_fl, eq_tup, eq_pts, eq_lns, mem_pts, mem_lns, Bool.false_xor, Bool.true_xor, mod_int, fdiv_int, mul_int, Int.reduceNeg, Nat.reduceLT, Int.reduceAdd, Int.reduceMul, Int.reduceSub, and_self, or_true, true_or, reduceIte, beq_self_eq_true, Bool.and_self, Bool.true_and, Bool.and_true, Bool.false_and, Bool.and_false, Bool.or_true, Bool.true_or, Bool.or_false, Bool.false_or]
          rw [s_app (xs := acc.map tupD) (d := tupD p) rfl (by simp only [s_nil, s_asg, s_mov, s_par, s_ifs, s_ret, s_retn, s_ex, Ss.app, nx_nx, rt_rt, zv1, zv2, zv3, zv4, zv5, zv6, zv7, zv8, zv9, zv10, zv11, zv13, zv14, zv15, zv16, zv17, zv18, zv19, zw1, zw2, zr1, zr2, zr3, zr4, zr5, zr6, zr7, gt, sub_int, add_int, le_int, gt_int, ge_int, o_lt, o_eq, o_ne, o_mem, o_nmem, o_is, o_isn, o_not, o_len, o_all, o_any, o_sum, o_sort, o_ssort, o_lst, o_tup, o_ist, i_int, i_boolI, i_boolB, i_str, i_tup, i_lst, i_tupP, i_tupF, len_tup, len_lst, len_tupP, len_F, ix_tup, ix_lst, ix_tupP, ix_F0, ix_F1, not_bl, seq_tup, seq_lst, seq_tupP, lt_int, lst_lst, tpl_lst, tpl_tup, is_bb, isn_bb, bindD, setsD, List.length_cons, List.length_nil, List.map_cons, List.map_nil, List.replicate_succ, List.replicate_zero, List.append_nil, List.cons_append, List.nil_append, List.getElem?_cons_zero, List.getElem?_cons_succ, List.set_cons_zero, List.set_cons_succ, if_true, if_false, Nat.zero_add, Nat.sub_self, Nat.reduceAdd, Nat.reduceSub, Option.map_some, Option.map_none, Bool.not_true, Bool.not_false, Option.bind_some, nc0, nc1, nc2, nc3, nc4, Option.some.injEq, D.bl.injEq, D.int.injEq, reduceCtorEq, decide_true, decide_false, Int.reduceEq, Int.reduceNe, not_true_eq_false, not_false_eq_true, ne_eq, Int.reduceLE, Int.reduceLT, at0, at1, at2, eq_int, eq_bl, eq_sp, eq_pl, eq_fl, eq_tup, eq_pts, eq_lns, mem_pts, mem_lns, Bool.false_xor, Bool.true_xor, mod_int, fdiv_int, mul_int, Int.reduceNeg, Nat.reduceLT, Int.reduceAdd, Int.reduceMul, Int.reduceSub, and_self, or_true, true_or, reduceIte, beq_self_eq_true, Bool.and_self, Bool.true_and, Bool.and_true, Bool.false_and, Bool.and_false, Bool.or_true, Bool.true_or, Bool.or_false, Bool.false_or]) (by rw [List.length_map]; exact al)]
          simp only [s_nil, s_asg, s_mov, s_par, s_ifs, s_ret, s_retn, s_ex, Ss.app, nx_nx, rt_rt, zv1, zv2, zv3, zv4, zv5, zv6, zv7, zv8, zv9, zv10, zv11, zv13, zv14, zv15, zv16, zv17, zv18, zv19, zw1, zw2, zr1, zr2, zr3, zr4, zr5, zr6, zr7, gt, sub_int, add_int, le_int, gt_int, ge_int, o_lt, o_eq, o_ne, o_mem, o_nmem, o_is, o_isn, o_not, o_len, o_all, o_any, o_sum, o_sort, o_ssort, o_lst, o_tup, o_ist, i_int, i_boolI, i_boolB, i_str, i_tup, i_lst, i_tupP, i_tupF, len_tup, len_lst, len_tupP, len_F, ix_tup, ix_lst, ix_tupP, ix_F0, ix_F1, not_bl, seq_tup, seq_lst, seq_tupP, lt_int, lst_lst, tpl_lst, tpl_tup, is_bb, isn_bb, bindD, setsD, List.length_cons, List.length_nil, List.map_cons, List.map_nil, List.replicate_succ, List.replicate_zero, List.append_nil, List.cons_append, List.nil_append, List.getElem?_cons_zero, List.getElem?_cons_succ, List.set_cons_zero, List.set_cons_succ, if_true, if_false, Nat.zero_add, Nat.sub_self, Nat.reduceAdd, Nat.reduceSub, Option.map_some, Option.map_none, Bool.not_true, Bool.not_false, Option.bind_some, nc0, nc1, nc2, nc3, nc4, Option.some.injEq, D.bl.injEq, D.int.injEq, reduceCtorEq, decide_true, decide_false, Int.reduceEq, Int.reduceNe, not_true_eq_false, not_false_eq_true, ne_eq, Int.reduceLE, Int.reduceLT, at0, at1, at2, eq_int, eq_bl, eq_sp, eq_pl, eq_fl, eq_tup, eq_pts, eq_lns, mem_pts, mem_lns, Bool.false_xor, Bool.true_xor, mod_int, fdiv_int, mul_int, Int.reduceNeg, Nat.reduceLT, Int.reduceAdd, Int.reduceMul, Int.reduceSub, and_self, or_true, true_or, reduceIte, beq_self_eq_true, Bool.and_self, Bool.true_and, Bool.and_true, Bool.false_and, Bool.and_false, Bool.or_true, Bool.true_or, Bool.or_false, Bool.false_or, pts_snoc]
          exact ⟨_, _, _, _, _, _, rfl⟩
  · rintro env ⟨x3, x4, x5, x6, x7, x8, rfl⟩
    simp only [s_nil, s_asg, s_mov, s_par, s_ifs, s_ret, s_retn, s_ex, Ss.app, nx_nx, rt_rt, zv1, zv2, zv3, zv4, zv5, zv6, zv7, zv8, zv9, zv10, zv11, zv13, zv14, zv15, zv16, zv17, zv18, zv19, zw1, zw2, zr1, zr2, zr3, zr4, zr5, zr6, zr7, gt, sub_int, add_int, le_int, gt_int, ge_int, o_lt, o_eq, o_ne, o_mem, o_nmem, o_is, o_isn, o_not, o_len, o_all, o_any, o_sum, o_sort, o_ssort, o_lst, o_tup, o_ist, i_int, i_boolI, i_boolB, i_str, i_tup, i_lst, i_tupP, i_tupF, len_tup, len_lst, len_tupP, len_F, ix_tup, ix_lst, ix_tupP, ix_F0, ix_F1, not_bl, seq_tup, seq_lst, seq_tupP, lt_int, lst_lst, tpl_lst, tpl_tup, is_bb, isn_bb, bindD, setsD, List.length_cons, List.length_nil, List.map_cons, List.map_nil, List.replicate_succ, List.replicate_zero, List.append_nil, List.cons_append, List.nil_append, List.getElem?_cons_zero, List.getElem?_cons_succ, List.set_cons_zero, List.set_cons_succ, if_true, if_false, Nat.zero_add, Nat.sub_self, Nat.reduceAdd, Nat.reduceSub, Option.map_some, Option.map_none, Bool.not_true, Bool.not_false, Option.bind_some, nc0, nc1, nc2, nc3, nc4, Option.some.injEq, D.bl.injEq, D.int.injEq, reduceCtorEq, decide_true, decide_false, Int.reduceEq, Int.reduceNe, not_true_eq_false, not_false_eq_true, ne_eq, Int.reduceLE, Int.reduceLT, at0, at1, at2, eq_int, eq_bl, eq_sp, eq_pl, eq_fl, eq_tup, eq_pts, eq_lns, mem_pts, mem_lns, Bool.false_xor, Bool.true_xor, mod_int, fdiv_int, mul_int, Int.reduceNeg, Nat.reduceLT, Int.reduceAdd, Int.reduceMul, Int.reduceSub, and_self, or_true, true_or, reduceIte, beq_self_eq_true, Bool.and_self, Bool.true_and, Bool.and_true, Bool.false_and, Bool.and_false, Bool.or_true, Bool.true_or, Bool.or_false, Bool.false_or]
theorem q44 (h43 : T.fns[43]? = some fn43) (h44 : T.fns[44]? = some fn44) (hf : okF k n) (hs : (every k n).length ≤ 50) (ps qs : List Pt) (h : areP k n ps = true) (hc : clr k n ps) (u : Ups k n ps qs) : run T (m + 4) 44 [fldD k n, ptsD ps] = some (ptsD qs) := by
  refine run_r h44 rfl ?_
  have hl := areP_len hf h
  have hl1 := lng_le hf
  simp only [fn44, s_nil, s_asg, s_mov, s_par, s_ifs, s_ret, s_retn, s_ex, Ss.app, nx_nx, rt_rt, zv1, zv2, zv3, zv4, zv5, zv6, zv7, zv8, zv9, zv10, zv11, zv13, zv14, zv15, zv16, zv17, zv18, zv19, zw1, zw2, zr1, zr2, zr3, zr4, zr5, zr6, zr7, gt, sub_int, add_int, le_int, gt_int, ge_int, o_lt, o_eq, o_ne, o_mem, o_nmem, o_is, o_isn, o_not, o_len, o_all, o_any, o_sum, o_sort, o_ssort, o_lst, o_tup, o_ist, i_int, i_boolI, i_boolB, i_str, i_tup, i_lst, i_tupP, i_tupF, len_tup, len_lst, len_tupP, len_F, ix_tup, ix_lst, ix_tupP, ix_F0, ix_F1, not_bl, seq_tup, seq_lst, seq_tupP, lt_int, lst_lst, tpl_lst, tpl_tup, is_bb, isn_bb, bindD, setsD, List.length_cons, List.length_nil, List.map_cons, List.map_nil, List.replicate_succ, List.replicate_zero, List.append_nil, List.cons_append, List.nil_append, List.getElem?_cons_zero, List.getElem?_cons_succ, List.set_cons_zero, List.set_cons_succ, if_true, if_false, Nat.zero_add, Nat.sub_self, Nat.reduceAdd, Nat.reduceSub, Option.map_some, Option.map_none, Bool.not_true, Bool.not_false, Option.bind_some, nc0, nc1, nc2, nc3, nc4, Option.some.injEq, D.bl.injEq, D.int.injEq, reduceCtorEq, decide_true, decide_false, Int.reduceEq, Int.reduceNe, not_true_eq_false, not_false_eq_true, ne_eq, Int.reduceLE, Int.reduceLT, at0, at1, at2, eq_int, eq_bl, eq_sp, eq_pl, eq_fl, eq_tup, eq_pts, eq_lns, mem_pts, mem_lns, Bool.false_xor, Bool.true_xor, mod_int, fdiv_int, mul_int, Int.reduceNeg, Nat.reduceLT, Int.reduceAdd, Int.reduceMul, Int.reduceSub, and_self, or_true, true_or, reduceIte, beq_self_eq_true, Bool.and_self, Bool.true_and, Bool.and_true, Bool.false_and, Bool.and_false, Bool.or_true, Bool.true_or, Bool.or_false, Bool.false_or, q43 A (m := m) h43 hf ps (by omega) (areP_iff.mp h).1]
  refine s_whl (fun j env => ∃ rs, Ups k n rs qs ∧ areP k n rs = true ∧ clr k n rs ∧ j = (every k n).length - rs.length ∧ env = [some (fldD k n), some (ptsD ps), some (ptsD rs), some (ptsD (moreL k n rs))]) ⟨ps, u, h, hc, rfl, rfl⟩ (by omega) ?_
  rintro j env ⟨rs, u, h, hc, rfl, rfl⟩
  have hl := areP_len hf h
  cases u with
  | stop e =>
    left
    simp only [e, s_nil, s_asg, s_mov, s_par, s_ifs, s_ret, s_retn, s_ex, Ss.app, nx_nx, rt_rt, zv1, zv2, zv3, zv4, zv5, zv6, zv7, zv8, zv9, zv10, zv11, zv13, zv14, zv15, zv16, zv17, zv18, zv19, zw1, zw2, zr1, zr2, zr3, zr4, zr5, zr6, zr7, gt, sub_int, add_int, le_int, gt_int, ge_int, o_lt, o_eq, o_ne, o_mem, o_nmem, o_is, o_isn, o_not, o_len, o_all, o_any, o_sum, o_sort, o_ssort, o_lst, o_tup, o_ist, i_int, i_boolI, i_boolB, i_str, i_tup, i_lst, i_tupP, i_tupF, len_tup, len_lst, len_tupP, len_F, ix_tup, ix_lst, ix_tupP, ix_F0, ix_F1, not_bl, seq_tup, seq_lst, seq_tupP, lt_int, lst_lst, tpl_lst, tpl_tup, is_bb, isn_bb, bindD, setsD, List.length_cons, List.length_nil, List.map_cons, List.map_nil, List.replicate_succ, List.replicate_zero, List.append_nil, List.cons_append, List.nil_append, List.getElem?_cons_zero, List.getElem?_cons_succ, List.set_cons_zero, List.set_cons_succ, if_true, if_false, Nat.zero_add, Nat.sub_self, Nat.reduceAdd, Nat.reduceSub, Option.map_some, Option.map_none, Bool.not_true, Bool.not_false, Option.bind_some, nc0, nc1, nc2, nc3, nc4, Option.some.injEq, D.bl.injEq, D.int.injEq, reduceCtorEq, decide_true, decide_false, Int.reduceEq, Int.reduceNe, not_true_eq_false, not_false_eq_true, ne_eq, Int.reduceLE, Int.reduceLT, at0, at1, at2, eq_int, eq_bl, eq_sp, eq_pl, eq_fl, eq_tup, eq_pts, eq_lns, mem_pts, mem_lns, Bool.false_xor, Bool.true_xor, mod_int, fdiv_int, mul_int, Int.reduceNeg, Nat.reduceLT, Int.reduceAdd, Int.reduceMul, Int.reduceSub, and_self, or_true, true_or, reduceIte, beq_self_eq_true, Bool.and_self, Bool.true_and, Bool.and_true, Bool.false_and, Bool.and_false, Bool.or_true, Bool.true_or, Bool.or_false, Bool.false_or, eq_pts_nil]
  | @step _ _ p l e u =>
    right
    obtain ⟨h1, h2, h3, h4⟩ := more_step hf h hc e
    have hl3 := areP_len hf h3
    rw [ins_len] at hl3
    refine ⟨by simp only [e, s_nil, s_asg, s_mov, s_par, s_ifs, s_ret, s_retn, s_ex, Ss.app, nx_nx, rt_rt, zv1, zv2, zv3, zv4, zv5, zv6, zv7, zv8, zv9, zv10, zv11, zv13, zv14, zv15, zv16, zv17, zv18, zv19, zw1, zw2, zr1, zr2, zr3, zr4, zr5, zr6, zr7, gt, sub_int, add_int, le_int, gt_int, ge_int, o_lt, o_eq, o_ne, o_mem, o_nmem, o_is, o_isn, o_not, o_len, o_all, o_any, o_sum, o_sort, o_ssort, o_lst, o_tup, o_ist, i_int, i_boolI, i_boolB, i_str, i_tup, i_lst, i_tupP, i_tupF, len_tup, len_lst, len_tupP, len_F, ix_tup, ix_lst, ix_tupP, ix_F0, ix_F1, not_bl, seq_tup, seq_lst, seq_tupP, lt_int, lst_lst, tpl_lst, tpl_tup, is_bb, isn_bb, bindD, setsD, List.length_cons, List.length_nil, List.map_cons, List.map_nil, List.replicate_succ, List.replicate_zero, List.append_nil, List.cons_append, List.nil_append, List.getElem?_cons_zero, List.getElem?_cons_succ, List.set_cons_zero, List.set_cons_succ, if_true, if_false, Nat.zero_add, Nat.sub_self, Nat.reduceAdd, Nat.reduceSub, Option.map_some, Option.map_none, Bool.not_true, Bool.not_false, Option.bind_some, nc0, nc1, nc2, nc3, nc4, Option.some.injEq, D.bl.injEq, D.int.injEq, reduceCtorEq, decide_true, decide_false, Int.reduceEq, Int.reduceNe, not_true_eq_false, not_false_eq_true, ne_eq, Int.reduceLE, Int.reduceLT, at0, at1, at2, eq_int, eq_bl, eq_sp, eq_pl, eq_fl, eq_tup, eq_pts, eq_lns, mem_pts, mem_lns, Bool.false_xor, Bool.true_xor, mod_int, fdiv_int, mul_int, Int.reduceNeg, Nat.reduceLT, Int.reduceAdd, Int.reduceMul, Int.reduceSub, and_self, or_true, true_or, reduceIte, beq_self_eq_true, Bool.and_self, Bool.true_and, Bool.and_true, Bool.false_and, Bool.and_false, Bool.or_true, Bool.true_or, Bool.or_false, Bool.false_or, eq_pts_nil], (every k n).length - (rs.length + 1), by omega, ?_⟩
    have s1 : slD none (some 1) (.lst ((p :: l).map tupD)) = some (.lst [tupD p]) := sl_take (p :: l) 1
    simp only [e, s_nil, s_asg, s_mov, s_par, s_ifs, s_ret, s_retn, s_ex, Ss.app, nx_nx, rt_rt, zv1, zv2, zv3, zv4, zv5, zv6, zv7, zv8, zv9, zv10, zv11, zv13, zv14, zv15, zv16, zv17, zv18, zv19, zw1, zw2, zr1, zr2, zr3, zr4, zr5, zr6, zr7, gt, sub_int, add_int, le_int, gt_int, ge_int, o_lt, o_eq, o_ne, o_mem, o_nmem, o_is, o_isn, o_not, o_len, o_all, o_any, o_sum, o_sort, o_ssort, o_lst, o_tup, o_ist, i_int, i_boolI, i_boolB, i_str, i_tup, i_lst, i_tupP, i_tupF, len_tup, len_lst, len_tupP, len_F, ix_tup, ix_lst, ix_tupP, ix_F0, ix_F1, not_bl, seq_tup, seq_lst, seq_tupP, lt_int, lst_lst, tpl_lst, tpl_tup, is_bb, isn_bb, bindD, setsD, List.length_cons, List.length_nil, List.map_cons, List.map_nil, List.replicate_succ, List.replicate_zero, List.append_nil, List.cons_append, List.nil_append, List.getElem?_cons_zero, List.getElem?_cons_succ, List.set_cons_zero, List.set_cons_succ, if_true, if_false, Nat.zero_add, Nat.sub_self, Nat.reduceAdd, Nat.reduceSub, Option.map_some, Option.map_none, Bool.not_true, Bool.not_false, Option.bind_some, nc0, nc1, nc2, nc3, nc4, Option.some.injEq, D.bl.injEq, D.int.injEq, reduceCtorEq, decide_true, decide_false, Int.reduceEq, Int.reduceNe, not_true_eq_false, not_false_eq_true, ne_eq, Int.reduceLE, Int.reduceLT, at0, at1, at2, eq_int, eq_bl, eq_sp, eq_pl, eq_fl, eq_tup, eq_pts, eq_lns, mem_pts, mem_lns, Bool.false_xor, Bool.true_xor, mod_int, fdiv_int, mul_int, Int.reduceNeg, Nat.reduceLT, Int.reduceAdd, Int.reduceMul, Int.reduceSub, and_self, or_true, true_or, reduceIte, beq_self_eq_true, Bool.and_self, Bool.true_and, Bool.and_true, Bool.false_and, Bool.and_false, Bool.or_true, Bool.true_or, Bool.or_false, Bool.false_or, s1]
    have es := sort_pts (d := (lng k n).toNat) (qs := rs ++ [p]) (by omega) (fun q m => isPt_bd hf (by
      rcases List.mem_append.mp m with m | m
      · exact (areP_iff.mp h).1 q m
      · rw [List.mem_singleton.mp m]; exact h1)) (by rw [List.length_append]; simp; omega)
    rw [add_lst _ _ (by simp [LIM]; omega), pts_snoc]
    simp only [s_nil, s_asg, s_mov, s_par, s_ifs, s_ret, s_retn, s_ex, Ss.app, nx_nx, rt_rt, zv1, zv2, zv3, zv4, zv5, zv6, zv7, zv8, zv9, zv10, zv11, zv13, zv14, zv15, zv16, zv17, zv18, zv19, zw1, zw2, zr1, zr2, zr3, zr4, zr5, zr6, zr7, gt, sub_int, add_int, le_int, gt_int, ge_int, o_lt, o_eq, o_ne, o_mem, o_nmem, o_is, o_isn, o_not, o_len, o_all, o_any, o_sum, o_sort, o_ssort, o_lst, o_tup, o_ist, i_int, i_boolI, i_boolB, i_str, i_tup, i_lst, i_tupP, i_tupF, len_tup, len_lst, len_tupP, len_F, ix_tup, ix_lst, ix_tupP, ix_F0, ix_F1, not_bl, seq_tup, seq_lst, seq_tupP, lt_int, lst_lst, tpl_lst, tpl_tup, is_bb, isn_bb, bindD, setsD, List.length_cons, List.length_nil, List.map_cons, List.map_nil, List.replicate_succ, List.replicate_zero, List.append_nil, List.cons_append, List.nil_append, List.getElem?_cons_zero, List.getElem?_cons_succ, List.set_cons_zero, List.set_cons_succ, if_true, if_false, Nat.zero_add, Nat.sub_self, Nat.reduceAdd, Nat.reduceSub, Option.map_some, Option.map_none, Bool.not_true, Bool.not_false, Option.bind_some, nc0, nc1, nc2, nc3, nc4, Option.some.injEq, D.bl.injEq, D.int.injEq, reduceCtorEq, decide_true, decide_false, Int.reduceEq, Int.reduceNe, not_true_eq_false, not_false_eq_true, ne_eq, Int.reduceLE, Int.reduceLT, at0, at1, at2, eq_int, eq_bl, eq_sp, eq_pl, eq_fl, eq_tup, eq_pts, eq_lns, mem_pts, mem_lns, Bool.false_xor, Bool.true_xor, mod_int, fdiv_int, mul_int, Int.reduceNeg, Nat.reduceLT, Int.reduceAdd, Int.reduceMul, Int.reduceSub, and_self, or_true, true_or, reduceIte, beq_self_eq_true, Bool.and_self, Bool.true_and, Bool.and_true, Bool.false_and, Bool.and_false, Bool.or_true, Bool.true_or, Bool.or_false, Bool.false_or, es, q43 A (m := m) h43 hf (sortL (rs ++ [p])) (by rw [ins_len]; omega) (areP_iff.mp h3).1]
    exact ⟨_, u, h3, h4, by rw [ins_len], rfl⟩
end
/-! ### lists put together -/
theorem rep3 (x : D) : op2 .rep (.lst [x]) (.int 3) = some (.lst [x, x, x]) := rfl
theorem pow20 : op2 .pow (.int 10) (.int 20) = some (.int 100000000000000000000) := by rfl
theorem pts_add (l l' : List Pt) : D.lst (l.map tupD ++ l'.map tupD) = ptsD (l ++ l') := by rw [ptsD, List.map_append]
theorem neg_int {sub : Nat → Nat → Option Bool} (i : Int) : op1 sub .neg (.int i) = some (.int (-i)) := rfl
theorem add_pts (p q : List Pt) (h : p.length + q.length ≤ 2000) : op2 .add (.lst (p.map tupD)) (.lst (q.map tupD)) = some (.lst ((p ++ q).map tupD)) := by
  rw [add_lst _ _ (by simp [LIM]; omega), pts_add]
theorem cut_sub (ps : List Pt) (lo : Int) : ∃ qs : List Pt, slD (some lo) none (.lst (ps.map tupD)) = some (.lst (qs.map tupD)) ∧ qs.length ≤ ps.length ∧ ∀ q ∈ qs, q ∈ ps := by
  refine ⟨(ps.drop (HT.sIx ps.length 0 (some lo))).take (HT.sIx ps.length ps.length none - HT.sIx ps.length 0 (some lo)), ?_, by rw [List.length_take, List.length_drop]; omega, fun q m => List.mem_of_mem_drop (List.mem_of_mem_take m)⟩
  show some (D.lst (cutD (ps.map tupD) (some lo) none)) = _
  unfold cutD
  rw [List.length_map, List.map_take, List.map_drop]
theorem rev_pts (ps : List Pt) : (ps.map tupD).reverse = ps.reverse.map tupD := List.map_reverse.symm
theorem lns_add (l l' : List (List Pt)) : D.lst (l.map ptsD ++ l'.map ptsD) = lnsD (l ++ l') := by rw [lnsD, List.map_append]
theorem take_lns (ls : List (List Pt)) : slD none (some 2) (.lst (ls.map ptsD)) = some (lnsD (ls.take 2)) := by
  show some (D.lst (cutD (ls.map ptsD) none (some ((2 : Nat) : Int)))) = _
  rw [cut_take, lnsD, List.map_take]
theorem add_snoc (ps : List Pt) (p : Pt) (h : ps.length ≤ 1000) : op2 .add (.lst (ps.map tupD)) (.lst [tupD p]) = some (.lst ((ps ++ [p]).map tupD)) := add_pts ps [p] (by simp; omega)
end Nt

set_option Elab.async false
set_option linter.all false
set_option maxRecDepth 100000
set_option maxHeartbeats 0
namespace Nt_nothrees_k04_by_hand
open PySem PySem.Spec PyProof.Rows L2 Nt
def topS (i : Nat) : Stmt := PySem.Challenge.pw_nothrees_k04_by_hand.main.body.getD i (.Pass ⟨0, 0, 0, 0⟩)
abbrev s0 : Stmt := topS 1
def N0 : List Str := ["thing"]
theorem sc0 : FnScope N0 ["thing"] (defScope s0) := ⟨rfl, rfl, rfl, by decide +kernel, rfl, by decide +kernel, by decide +kernel⟩
/-- is_whole -/
def b0 : Ss := (.cons (.ret (.and (.o1 (.ist .int) (.var 0)) (.o1 .not (.o1 (.ist .bool) (.var 0))))) .nil)
abbrev s3 : Stmt := topS 2
def N3 : List Str := ["field"]
theorem sc3 : FnScope N3 ["field"] (defScope s3) := ⟨rfl, rfl, rfl, by decide +kernel, rfl, by decide +kernel, by decide +kernel⟩
/-- places_of -/
def b3 : Ss := (.cons (.ret (.ite (.o2 .eq (.ix (.var 0) (.lit (.int 0))) (.lit (.str "space"))) (.ix (.var 0) (.lit (.int 1))) (.lit (.int 2)))) .nil)
abbrev s4 : Stmt := topS 3
def N4 : List Str := ["field"]
theorem sc4 : FnScope N4 ["field"] (defScope s4) := ⟨rfl, rfl, rfl, by decide +kernel, rfl, by decide +kernel, by decide +kernel⟩
/-- numbers_of -/
def b4 : Ss := (.cons (.ret (.ite (.o2 .eq (.ix (.var 0) (.lit (.int 0))) (.lit (.str "space"))) (.lit (.int 3)) (.ix (.var 0) (.lit (.int 1))))) .nil)
abbrev s5 : Stmt := topS 4
def N5 : List Str := ["field", "found", "place", "longer", "point", "number"]
theorem sc5 : FnScope N5 ["field"] (defScope s5) := ⟨rfl, rfl, rfl, by decide +kernel, rfl, by decide +kernel, by decide +kernel⟩
/-- points_of -/
def b5 : Ss := (.cons (.asg 1 (.lst (.cons (.tup .nil) .nil))) (.cons (.for (.one 2) (.r1 (.call 3 (.cons (.var 0) .nil))) (.cons (.asg 3 (.lst .nil)) (.cons (.for (.one 4) (.sq (.var 1)) (.cons (.ext 3 (.comp (.r1 (.call 4 (.cons (.var 0) .nil))) (.one 5) (.o2 .add (.var 4) (.tup (.cons (.var 5) .nil))))) .nil)) (.cons (.mov 1 3) .nil)))) (.cons (.ret (.var 1)) .nil)))
abbrev s7 : Stmt := topS 5
def N7 : List Str := ["field", "thing", "one"]
theorem sc7 : FnScope N7 ["field", "thing"] (defScope s7) := ⟨rfl, rfl, rfl, by decide +kernel, rfl, by decide +kernel, by decide +kernel⟩
/-- is_point -/
def b7 : Ss := (.cons (.ifs (.or (.o1 .not (.o1 (.ist .tup) (.var 1))) (.o2 .ne (.o1 .len (.var 1)) (.call 3 (.cons (.var 0) .nil)))) (.cons (.ret (.lit (.bl false))) .nil) .nil) (.cons (.ret (.o1 .all (.comp (.sq (.var 1)) (.one 2) (.and (.call 0 (.cons (.var 2) .nil)) (.ch .le .lt (.lit (.int 0)) (.var 2) (.call 4 (.cons (.var 0) .nil))))))) .nil))
abbrev s8 : Stmt := topS 6
def N8 : List Str := ["field", "thing", "one", "other", "point"]
theorem sc8 : FnScope N8 ["field", "thing"] (defScope s8) := ⟨rfl, rfl, rfl, by decide +kernel, rfl, by decide +kernel, by decide +kernel⟩
/-- are_points -/
def b8 : Ss := (.cons (.ifs (.or (.o1 .not (.o1 (.ist .lst) (.var 1))) (.o1 .not (.o1 .all (.comp (.sq (.var 1)) (.one 4) (.call 7 (.cons (.var 0) (.cons (.var 4) .nil))))))) (.cons (.ret (.lit (.bl false))) .nil) .nil) (.cons (.ret (.o1 .all (.comp (.zp (.var 1) (.slL (.var 1) (.lit (.int 1)))) (.many [2, 3]) (.o2 .lt (.var 2) (.var 3))))) .nil))
abbrev s10 : Stmt := topS 7
def N10 : List Str := ["field", "one", "two", "three", "span", "first", "second", "figures"]
theorem sc10 : FnScope N10 ["field", "one", "two", "three"] (defScope s10) := ⟨rfl, rfl, rfl, by decide +kernel, rfl, by decide +kernel, by decide +kernel⟩
/-- lined -/
def b10 : Ss := (.cons (.ifs (.o2 .eq (.ix (.var 0) (.lit (.int 0))) (.lit (.str "space"))) (.cons (.ret (.o1 .all (.comp (.zp3 (.var 1) (.var 2) (.var 3)) (.one 7) (.o2 .eq (.o2 .mod (.o1 .sum (.var 7)) (.lit (.int 3))) (.lit (.int 0)))))) .nil) .nil) (.cons (.par 5 6 (.tup (.cons (.o2 .sub (.ix (.var 2) (.lit (.int 0))) (.ix (.var 1) (.lit (.int 0)))) (.cons (.o2 .sub (.ix (.var 2) (.lit (.int 1))) (.ix (.var 1) (.lit (.int 1)))) .nil))) (.tup (.cons (.o2 .sub (.ix (.var 3) (.lit (.int 0))) (.ix (.var 1) (.lit (.int 0)))) (.cons (.o2 .sub (.ix (.var 3) (.lit (.int 1))) (.ix (.var 1) (.lit (.int 1)))) .nil)))) (.cons (.asg 4 (.o2 .sub (.o2 .mul (.ix (.var 5) (.lit (.int 0))) (.ix (.var 6) (.lit (.int 1)))) (.o2 .mul (.ix (.var 5) (.lit (.int 1))) (.ix (.var 6) (.lit (.int 0)))))) (.cons (.ret (.ite (.o2 .eq (.ix (.var 0) (.lit (.int 0))) (.lit (.str "floor"))) (.o2 .eq (.var 4) (.lit (.int 0))) (.o2 .eq (.o2 .mod (.var 4) (.ix (.var 0) (.lit (.int 1)))) (.lit (.int 0))))) .nil))))
abbrev s21 : Stmt := topS 10
def N21 : List Str := ["field", "points", "point", "at", "one", "two"]
theorem sc21 : FnScope N21 ["field", "points", "point"] (defScope s21) := ⟨rfl, rfl, rfl, by decide +kernel, rfl, by decide +kernel, by decide +kernel⟩
/-- lines_with -/
def b21 : Ss := (.cons (.for (.many [3, 4]) (.en (.var 1)) (.cons (.ifs (.o1 .any (.comp (.sq (.slH (.var 1) (.var 3))) (.one 5) (.call 10 (.cons (.var 0) (.cons (.var 4) (.cons (.var 5) (.cons (.var 2) .nil))))))) (.cons (.ret (.lit (.bl true))) .nil) .nil) .nil)) (.cons (.ret (.lit (.bl false))) .nil))
abbrev s22 : Stmt := topS 11
def N22 : List Str := ["field", "points", "at", "one", "spot", "three"]
theorem sc22 : FnScope N22 ["field", "points"] (defScope s22) := ⟨rfl, rfl, rfl, by decide +kernel, rfl, by decide +kernel, by decide +kernel⟩
/-- first_line -/
def b22 : Ss := (.cons (.for (.many [2, 3]) (.en (.var 1)) (.cons (.for (.one 4) (.r2 (.o2 .add (.var 2) (.lit (.int 1))) (.o1 .len (.var 1))) (.cons (.for (.one 5) (.sq (.slL (.var 1) (.o2 .add (.var 4) (.lit (.int 1))))) (.cons (.ifs (.call 10 (.cons (.var 0) (.cons (.var 3) (.cons (.ix (.var 1) (.var 4)) (.cons (.var 5) .nil))))) (.cons (.ret (.lst (.cons (.var 3) (.cons (.ix (.var 1) (.var 4)) (.cons (.var 5) .nil))))) .nil) .nil) .nil)) .nil)) .nil)) (.cons (.ret (.lit .non)) .nil))
abbrev s23 : Stmt := topS 12
def N23 : List Str := ["field", "points", "point"]
theorem sc23 : FnScope N23 ["field", "points"] (defScope s23) := ⟨rfl, rfl, rfl, by decide +kernel, rfl, by decide +kernel, by decide +kernel⟩
/-- first_more -/
def b23 : Ss := (.cons (.for (.one 2) (.sq (.call 5 (.cons (.var 0) .nil))) (.cons (.ifs (.and (.o2 .nmem (.var 2) (.var 1)) (.o1 .not (.call 21 (.cons (.var 0) (.cons (.var 1) (.cons (.var 2) .nil)))))) (.cons (.ret (.var 2)) .nil) .nil) .nil)) (.cons (.ret (.lit .non)) .nil))
abbrev s25 : Stmt := inClass (topS 13) 0
def N25 : List Str := ["self", "field", "points"]
theorem sc25 : FnScope N25 ["self", "field", "points"] (defScope s25) := ⟨rfl, rfl, rfl, by decide +kernel, rfl, by decide +kernel, by decide +kernel⟩
/-- Clear.shows -/
def b25 : Ss := (.cons (.ret (.o2 .is (.call 22 (.cons (.var 1) (.cons (.var 2) .nil))) (.lit .non))) .nil)
abbrev s26 : Stmt := inClass (topS 14) 1
def N26 : List Str := ["self", "field", "points", "three", "point"]
theorem sc26 : FnScope N26 ["self", "field", "points"] (defScope s26) := ⟨rfl, rfl, rfl, by decide +kernel, rfl, by decide +kernel, by decide +kernel⟩
/-- Line.shows -/
def b26 : Ss := (.cons (.asg 3 (.fld (.var 0) "points")) (.cons (.ifs (.or (.o2 .ne (.o1 .len (.var 3)) (.lit (.int 3))) (.or (.o1 .not (.call 8 (.cons (.var 1) (.cons (.var 3) .nil)))) (.o1 .not (.o1 .all (.comp (.sq (.var 3)) (.one 4) (.o2 .mem (.var 4) (.var 2))))))) (.cons (.ret (.lit (.bl false))) .nil) .nil) (.cons (.ret (.call 10 (.cons (.var 1) (.cons (.ix (.var 3) (.lit (.int 0))) (.cons (.ix (.var 3) (.lit (.int 1))) (.cons (.ix (.var 3) (.lit (.int 2))) .nil)))))) .nil)))
abbrev s27 : Stmt := inClass (topS 15) 0
def N27 : List Str := ["self", "field", "points"]
theorem sc27 : FnScope N27 ["self", "field", "points"] (defScope s27) := ⟨rfl, rfl, rfl, by decide +kernel, rfl, by decide +kernel, by decide +kernel⟩
/-- Closed.shows -/
def b27 : Ss := (.cons (.ret (.o2 .is (.call 23 (.cons (.var 1) (.cons (.var 2) .nil))) (.lit .non))) .nil)
abbrev s28 : Stmt := inClass (topS 16) 1
def N28 : List Str := ["self", "field", "points"]
theorem sc28 : FnScope N28 ["self", "field", "points"] (defScope s28) := ⟨rfl, rfl, rfl, by decide +kernel, rfl, by decide +kernel, by decide +kernel⟩
/-- More.shows -/
def b28 : Ss := (.cons (.ifs (.or (.o1 .not (.call 7 (.cons (.var 1) (.cons (.fld (.var 0) "point") .nil)))) (.o2 .mem (.fld (.var 0) "point") (.var 2))) (.cons (.ret (.lit (.bl false))) .nil) .nil) (.cons (.ret (.o1 .not (.call 21 (.cons (.var 1) (.cons (.var 2) (.cons (.fld (.var 0) "point") .nil)))))) .nil))
abbrev s12 : Stmt := topS 18
def N12 : List Str := ["_law_script", "_law_k"]
theorem sc12 : FnScope N12 ["_law_script", "_law_k"] (defScope s12) := ⟨rfl, rfl, rfl, by decide +kernel, rfl, by decide +kernel, by decide +kernel⟩
/-- _law_cell_at -/
def b12 : Ss := (.cons (.ifs (.o2 .lt (.var 1) (.o1 .len (.var 0))) (.cons (.ret (.ix (.var 0) (.var 1))) .nil) .nil) (.cons (.ret (.lit (.int 0))) .nil))
abbrev s13 : Stmt := topS 19
def N13 : List Str := ["_law_cell", "_law_k", "_law_many", "_law_primes"]
theorem sc13 : FnScope N13 ["_law_cell", "_law_k", "_law_many"] (defScope s13) := ⟨rfl, rfl, rfl, by decide +kernel, rfl, by decide +kernel, by decide +kernel⟩
/-- _law_draw -/
def b13 : Ss := (.cons (.asg 3 (.tup (.cons (.lit (.int 1000003)) (.cons (.lit (.int 1000033)) (.cons (.lit (.int 1000037)) (.cons (.lit (.int 1000039)) (.cons (.lit (.int 1000081)) (.cons (.lit (.int 1000099)) (.cons (.lit (.int 1000117)) (.cons (.lit (.int 1000121)) (.cons (.lit (.int 1000133)) (.cons (.lit (.int 1000151)) (.cons (.lit (.int 1000159)) (.cons (.lit (.int 1000171)) (.cons (.lit (.int 1000183)) (.cons (.lit (.int 1000187)) (.cons (.lit (.int 1000193)) (.cons (.lit (.int 1000199)) .nil)))))))))))))))))) (.cons (.ret (.o2 .mod (.o2 .mod (.o2 .add (.o2 .mul (.var 0) (.lit (.int 48271))) (.o2 .mul (.var 1) (.lit (.int 69621)))) (.ix (.var 3) (.o2 .mod (.var 1) (.lit (.int 16))))) (.var 2))) .nil))
abbrev s14 : Stmt := topS 20
def N14 : List Str := ["_law_cell", "_law_turn", "_law_rest", "_law_blend"]
theorem sc14 : FnScope N14 ["_law_cell", "_law_turn"] (defScope s14) := ⟨rfl, rfl, rfl, by decide +kernel, rfl, by decide +kernel, by decide +kernel⟩
/-- _law_value -/
def b14 : Ss := (.cons (.ifs (.o2 .ge (.var 0) (.o2 .pow (.lit (.int 10)) (.lit (.int 18)))) (.cons (.ret (.o2 .shr (.o2 .mod (.o2 .sub (.var 0) (.o2 .pow (.lit (.int 10)) (.lit (.int 18)))) (.o2 .pow (.lit (.int 10)) (.lit (.int 40)))) (.o2 .mul (.lit (.int 3)) (.var 1)))) .nil) .nil) (.cons (.asg 2 (.o2 .mod (.var 0) (.o2 .pow (.lit (.int 10)) (.lit (.int 18))))) (.cons (.asg 3 (.call 13 (.cons (.o2 .mul (.o2 .add (.var 2) (.o2 .mul (.lit (.int 977)) (.var 1))) (.o2 .add (.o2 .add (.var 2) (.o2 .mul (.lit (.int 31)) (.var 1))) (.lit (.int 5)))) (.cons (.o2 .add (.o2 .mod (.var 1) (.lit (.int 9))) (.lit (.int 1))) (.cons (.lit (.int 999983)) .nil))))) (.cons (.ret (.o2 .add (.o2 .mul (.var 3) (.lit (.int 1000003))) (.call 13 (.cons (.o2 .add (.o2 .mul (.o2 .add (.var 2) (.o2 .mul (.lit (.int 31)) (.var 1))) (.o2 .add (.var 2) (.lit (.int 7)))) (.o2 .mul (.lit (.int 977)) (.var 1))) (.cons (.o2 .add (.o2 .mod (.var 1) (.lit (.int 7))) (.lit (.int 2))) (.cons (.lit (.int 1000003)) .nil)))))) .nil))))
abbrev s15 : Stmt := topS 21
def N15 : List Str := ["_law_said", "_law_due"]
theorem sc15 : FnScope N15 ["_law_said", "_law_due"] (defScope s15) := ⟨rfl, rfl, rfl, by decide +kernel, rfl, by decide +kernel, by decide +kernel⟩
/-- _law_says -/
def b15 : Ss := (.cons (.ret (.and (.o1 (.ist .bool) (.var 0)) (.o2 .eq (.var 0) (.var 1)))) .nil)
abbrev s16 : Stmt := topS 22
def N16 : List Str := ["_law_script", "_law_by", "_law_cell", "_law_kind", "_law_value_here"]
theorem sc16 : FnScope N16 ["_law_script", "_law_by"] (defScope s16) := ⟨rfl, rfl, rfl, by decide +kernel, rfl, by decide +kernel, by decide +kernel⟩
/-- _law_field -/
def b16 : Ss := (.cons (.asg 2 (.call 12 (.cons (.var 0) (.cons (.var 1) .nil)))) (.cons (.par 3 4 (.o2 .mod (.call 14 (.cons (.var 2) (.cons (.lit (.int 1)) .nil))) (.lit (.int 3))) (.call 14 (.cons (.var 2) (.cons (.lit (.int 2)) .nil)))) (.cons (.ifs (.o2 .eq (.var 3) (.lit (.int 0))) (.cons (.ret (.tup (.cons (.lit (.str "space")) (.cons (.o2 .add (.lit (.int 1)) (.o2 .mod (.var 4) (.lit (.int 4)))) .nil)))) .nil) .nil) (.cons (.ret (.ite (.o2 .eq (.var 3) (.lit (.int 1))) (.tup (.cons (.lit (.str "plane")) (.cons (.ix (.tup (.cons (.lit (.int 2)) (.cons (.lit (.int 3)) (.cons (.lit (.int 5)) (.cons (.lit (.int 7)) (.cons (.lit (.int 11)) (.cons (.lit (.int 13)) .nil))))))) (.o2 .mod (.var 4) (.lit (.int 6)))) .nil))) (.tup (.cons (.lit (.str "floor")) (.cons (.o2 .add (.lit (.int 1)) (.o2 .mod (.var 4) (.lit (.int 12)))) .nil))))) .nil))))
abbrev s42 : Stmt := topS 23
def N42 : List Str := ["_law_script", "_law_by", "_law_some"]
theorem sc42 : FnScope N42 ["_law_script", "_law_by"] (defScope s42) := ⟨rfl, rfl, rfl, by decide +kernel, rfl, by decide +kernel, by decide +kernel⟩
/-- _law_small -/
def b42 : Ss := (.cons (.asg 2 (.lst (.cons (.tup (.cons (.lit (.str "space")) (.cons (.lit (.int 1)) .nil))) (.cons (.tup (.cons (.lit (.str "space")) (.cons (.lit (.int 2)) .nil))) (.cons (.tup (.cons (.lit (.str "plane")) (.cons (.lit (.int 2)) .nil))) (.cons (.tup (.cons (.lit (.str "plane")) (.cons (.lit (.int 3)) .nil))) (.cons (.tup (.cons (.lit (.str "floor")) (.cons (.lit (.int 1)) .nil))) (.cons (.tup (.cons (.lit (.str "floor")) (.cons (.lit (.int 2)) .nil))) (.cons (.tup (.cons (.lit (.str "floor")) (.cons (.lit (.int 3)) .nil))) .nil))))))))) (.cons (.ret (.ix (.var 2) (.o2 .mod (.call 14 (.cons (.call 12 (.cons (.var 0) (.cons (.var 1) .nil))) (.cons (.lit (.int 3)) .nil))) (.lit (.int 7))))) .nil))
abbrev s17 : Stmt := topS 24
def N17 : List Str := ["_law_field_here", "_law_found", "_law_number", "_law_long", "_law_wide", "_law_point", "_law_place"]
theorem sc17 : FnScope N17 ["_law_field_here"] (defScope s17) := ⟨rfl, rfl, rfl, by decide +kernel, rfl, by decide +kernel, by decide +kernel⟩
/-- _law_every -/
def b17 : Ss := (.cons (.unp [3, 4] (.ite (.o2 .eq (.ix (.var 0) (.lit (.int 0))) (.lit (.str "space"))) (.tup (.cons (.ix (.var 0) (.lit (.int 1))) (.cons (.lit (.int 3)) .nil))) (.tup (.cons (.lit (.int 2)) (.cons (.ix (.var 0) (.lit (.int 1))) .nil))))) (.cons (.asg 1 (.lst .nil)) (.cons (.for (.one 2) (.r1 (.call 18 (.cons (.var 4) (.cons (.var 3) .nil)))) (.cons (.asg 5 (.lst .nil)) (.cons (.for (.one 6) (.r1 (.var 3)) (.cons (.asg 5 (.o2 .add (.lst (.cons (.o2 .mod (.var 2) (.var 4)) .nil)) (.var 5))) (.cons (.asg 2 (.o2 .fdiv (.var 2) (.var 4))) .nil))) (.cons (.app 1 (.o1 .tup (.var 5))) .nil)))) (.cons (.ret (.var 1)) .nil))))
abbrev s18 : Stmt := topS 25
def N18 : List Str := ["_law_number", "_law_often", "_law_found", "_law_turn"]
theorem sc18 : FnScope N18 ["_law_number", "_law_often"] (defScope s18) := ⟨rfl, rfl, rfl, by decide +kernel, rfl, by decide +kernel, by decide +kernel⟩
/-- _law_power -/
def b18 : Ss := (.cons (.asg 2 (.lit (.int 1))) (.cons (.for (.one 3) (.r1 (.var 1)) (.cons (.asg 2 (.o2 .mul (.var 2) (.var 0))) .nil)) (.cons (.ret (.var 2)) .nil)))
abbrev s19 : Stmt := topS 26
def N19 : List Str := ["_law_field_here", "_law_one", "_law_two", "_law_three", "_law_first", "_law_span", "_law_at"]
theorem sc19 : FnScope N19 ["_law_field_here", "_law_one", "_law_two", "_law_three"] (defScope s19) := ⟨rfl, rfl, rfl, by decide +kernel, rfl, by decide +kernel, by decide +kernel⟩
/-- _law_lined -/
def b19 : Ss := (.cons (.ifs (.o2 .eq (.ix (.var 0) (.lit (.int 0))) (.lit (.str "space"))) (.cons (.ret (.o1 .all (.comp (.r1 (.o1 .len (.var 1))) (.one 6) (.o2 .eq (.o2 .mod (.o2 .add (.o2 .add (.ix (.var 1) (.var 6)) (.ix (.var 2) (.var 6))) (.ix (.var 3) (.var 6))) (.lit (.int 3))) (.lit (.int 0)))))) .nil) .nil) (.cons (.asg 4 (.o2 .mul (.o2 .sub (.ix (.var 2) (.lit (.int 0))) (.ix (.var 1) (.lit (.int 0)))) (.o2 .sub (.ix (.var 3) (.lit (.int 1))) (.ix (.var 1) (.lit (.int 1)))))) (.cons (.asg 5 (.o2 .sub (.var 4) (.o2 .mul (.o2 .sub (.ix (.var 2) (.lit (.int 1))) (.ix (.var 1) (.lit (.int 1)))) (.o2 .sub (.ix (.var 3) (.lit (.int 0))) (.ix (.var 1) (.lit (.int 0))))))) (.cons (.ret (.or (.o2 .eq (.var 5) (.lit (.int 0))) (.and (.o2 .eq (.ix (.var 0) (.lit (.int 0))) (.lit (.str "plane"))) (.o2 .eq (.o2 .mod (.var 5) (.ix (.var 0) (.lit (.int 1)))) (.lit (.int 0)))))) .nil))))
abbrev s34 : Stmt := topS 27
def N34 : List Str := ["_law_field_here", "_law_points_here", "_law_found", "_law_at", "_law_one", "_law_spot", "_law_three"]
theorem sc34 : FnScope N34 ["_law_field_here", "_law_points_here"] (defScope s34) := ⟨rfl, rfl, rfl, by decide +kernel, rfl, by decide +kernel, by decide +kernel⟩
/-- _law_threes -/
def b34 : Ss := (.cons (.asg 2 (.lst .nil)) (.cons (.for (.many [3, 4]) (.en (.var 1)) (.cons (.for (.one 5) (.r2 (.o2 .add (.var 3) (.lit (.int 1))) (.o1 .len (.var 1))) (.cons (.for (.one 6) (.sq (.slL (.var 1) (.o2 .add (.var 5) (.lit (.int 1))))) (.cons (.ifs (.call 19 (.cons (.var 0) (.cons (.var 4) (.cons (.ix (.var 1) (.var 5)) (.cons (.var 6) .nil))))) (.cons (.app 2 (.lst (.cons (.var 4) (.cons (.ix (.var 1) (.var 5)) (.cons (.var 6) .nil))))) .nil) .nil) .nil)) .nil)) .nil)) (.cons (.ret (.var 2)) .nil)))
abbrev s35 : Stmt := topS 28
def N35 : List Str := ["_law_script", "_law_by", "_law_field_here", "_law_limit", "_law_at", "_law_every_here", "_law_found", "_law_number"]
theorem sc35 : FnScope N35 ["_law_script", "_law_by", "_law_field_here", "_law_limit"] (defScope s35) := ⟨rfl, rfl, rfl, by decide +kernel, rfl, by decide +kernel, by decide +kernel⟩
/-- _law_points -/
def b35 : Ss := (.cons (.par 5 6 (.call 17 (.cons (.var 2) .nil)) (.lst .nil)) (.cons (.for (.one 4) (.r1 (.o2 .mod (.call 14 (.cons (.call 12 (.cons (.var 0) (.cons (.var 1) .nil))) (.cons (.lit (.int 5)) .nil))) (.o2 .add (.var 3) (.lit (.int 1))))) (.cons (.asg 7 (.o2 .fdiv (.call 14 (.cons (.o2 .add (.call 12 (.cons (.var 0) (.cons (.o2 .add (.var 1) (.o2 .mod (.var 4) (.lit (.int 5)))) .nil))) (.o2 .mul (.lit (.int 17)) (.var 4))) (.cons (.o2 .add (.lit (.int 2)) (.o2 .mod (.var 4) (.lit (.int 6)))) .nil))) (.lit (.int 3)))) (.cons (.app 6 (.ix (.var 5) (.o2 .mod (.var 7) (.o1 .len (.var 5))))) .nil))) (.cons (.ret (.o1 .ssort (.var 6))) .nil)))
abbrev s36 : Stmt := topS 29
def N36 : List Str := ["_law_script", "_law_by", "_law_field_here", "_law_limit", "_law_found", "_law_point"]
theorem sc36 : FnScope N36 ["_law_script", "_law_by", "_law_field_here", "_law_limit"] (defScope s36) := ⟨rfl, rfl, rfl, by decide +kernel, rfl, by decide +kernel, by decide +kernel⟩
/-- _law_clear -/
def b36 : Ss := (.cons (.asg 4 (.lst .nil)) (.cons (.for (.one 5) (.sq (.call 35 (.cons (.var 0) (.cons (.var 1) (.cons (.var 2) (.cons (.var 3) .nil)))))) (.cons (.ifs (.o2 .eq (.call 34 (.cons (.var 2) (.cons (.o2 .add (.var 4) (.lst (.cons (.var 5) .nil))) .nil))) (.lst .nil)) (.cons (.app 4 (.var 5)) .nil) .nil) .nil)) (.cons (.ret (.var 4)) .nil)))
abbrev s45 : Stmt := topS 30
def N45 : List Str := ["_law_field_here", "_law_points_here", "_law_three", "_law_handed", "_law_answer", "_law_due"]
theorem sc45 : FnScope N45 ["_law_field_here", "_law_points_here", "_law_three"] (defScope s45) := ⟨rfl, rfl, rfl, by decide +kernel, rfl, by decide +kernel, by decide +kernel⟩
/-- _law_line_right -/
def b45 : Ss := (.cons (.asg 3 (.o1 .lst (.var 2))) (.cons (.asg 4 (.mk 2 (.cons (.var 3) .nil))) (.cons (.app 3 (.tup (.cons (.lit (.int 0)) (.cons (.lit (.int 0)) .nil)))) (.cons (.asg 5 (.o2 .mem (.var 2) (.call 34 (.cons (.var 0) (.cons (.var 1) .nil))))) (.cons (.ret (.and (.o2 .eq (.fld (.var 4) "points") (.var 2)) (.call 15 (.cons (.shows (.var 4) (.cons (.var 0) (.cons (.var 1) .nil))) (.cons (.var 5) .nil))))) .nil)))))
abbrev s46 : Stmt := topS 31
def N46 : List Str := ["_law_field_here", "_law_points_here", "_law_point", "_law_due"]
theorem sc46 : FnScope N46 ["_law_field_here", "_law_points_here", "_law_point"] (defScope s46) := ⟨rfl, rfl, rfl, by decide +kernel, rfl, by decide +kernel, by decide +kernel⟩
/-- _law_point_right -/
def b46 : Ss := (.cons (.asg 3 (.and (.o2 .mem (.var 2) (.call 17 (.cons (.var 0) .nil))) (.o2 .nmem (.var 2) (.var 1)))) (.cons (.ifs (.var 3) (.cons (.asg 3 (.o2 .eq (.call 34 (.cons (.var 0) (.cons (.o1 .sort (.o2 .add (.var 1) (.lst (.cons (.var 2) .nil)))) .nil))) (.lst .nil))) .nil) .nil) (.cons (.ret (.and (.o2 .eq (.fld (.mk 4 (.cons (.var 2) .nil)) "point") (.var 2)) (.call 15 (.cons (.shows (.mk 4 (.cons (.var 2) .nil)) (.cons (.var 0) (.cons (.var 1) .nil))) (.cons (.var 3) .nil))))) .nil)))
abbrev s20 : Stmt := topS 32
def N20 : List Str := ["_law_script", "_law_by", "_law_field_here", "_law_lines", "_law_tried", "_law_line", "_law_three", "_law_some", "_law_none", "_law_point", "_law_every_here", "_law_points_here"]
theorem sc20 : FnScope N20 ["_law_script"] (defScope s20) := ⟨rfl, rfl, rfl, by decide +kernel, rfl, by decide +kernel, by decide +kernel⟩
/-- law -/
def b20 : Ss := (.cons (.asg 0 (.slH (.var 0) (.lit (.int 63)))) (.cons (.for (.one 1) (.r2 (.lit (.int 0)) (.o2 .max (.lit (.int 1)) (.o2 .min (.lit (.int 2)) (.o1 .len (.var 0))))) (.cons (.asg 2 (.call 16 (.cons (.var 0) (.cons (.var 1) .nil)))) (.cons (.ifs (.o2 .gt (.o1 .len (.call 17 (.cons (.var 2) .nil))) (.lit (.int 27))) (.cons (.asg 2 (.call 42 (.cons (.var 0) (.cons (.var 1) .nil)))) .nil) .nil) (.cons (.par 10 11 (.call 17 (.cons (.var 2) .nil)) (.call 35 (.cons (.var 0) (.cons (.var 1) (.cons (.var 2) (.cons (.lit (.int 9)) .nil)))))) (.cons (.asg 3 (.slH (.call 34 (.cons (.var 2) (.cons (.var 11) .nil))) (.lit (.int 2)))) (.cons (.asg 4 (.lst (.cons (.slH (.var 11) (.lit (.int 3))) (.cons (.slH (.var 10) (.lit (.int 3))) (.cons (.o2 .rep (.lst (.cons (.ix (.var 10) (.lit (.int 0))) .nil)) (.lit (.int 3))) (.cons (.lst (.cons (.tup (.cons (.lit (.int 99)) (.cons (.lit (.int 99)) .nil))) (.cons (.tup (.cons (.lit (.int 99)) (.cons (.lit (.int 100)) .nil))) (.cons (.tup (.cons (.lit (.int 99)) (.cons (.lit (.int 101)) .nil))) .nil)))) (.cons (.lst (.cons (.tup .nil) (.cons (.tup .nil) (.cons (.tup .nil) .nil)))) (.cons (.lst .nil) .nil)))))))) (.cons (.for (.one 5) (.sq (.var 3)) (.cons (.asg 4 (.o2 .add (.var 4) (.lst (.cons (.var 5) (.cons (.rev (.var 5)) (.cons (.slH (.var 5) (.lit (.int 2))) (.cons (.o2 .add (.var 5) (.slH (.var 5) (.lit (.int 1)))) .nil))))))) .nil)) (.cons (.for (.one 6) (.sq (.var 4)) (.cons (.ifs (.o1 .not (.call 45 (.cons (.var 2) (.cons (.var 11) (.cons (.var 6) .nil))))) (.cons (.ret (.lit (.bl false))) .nil) .nil) .nil)) (.cons (.ifs (.o1 .not (.call 15 (.cons (.shows (.mk 1 .nil) (.cons (.var 2) (.cons (.var 11) .nil))) (.cons (.o2 .eq (.var 3) (.lst .nil)) .nil)))) (.cons (.ret (.lit (.bl false))) .nil) .nil) (.cons (.asg 7 (.call 36 (.cons (.var 0) (.cons (.o2 .add (.var 1) (.lit (.int 1))) (.cons (.var 2) (.cons (.lit (.int 6)) .nil)))))) (.cons (.asg 4 (.o2 .add (.o2 .add (.o2 .add (.slH (.var 10) (.lit (.int 5))) (.slL (.var 10) (.o1 .neg (.lit (.int 3))))) (.slH (.var 7) (.lit (.int 2)))) (.lst (.cons (.tup .nil) (.cons (.tup (.cons (.lit (.int 99)) .nil)) (.cons (.tup (.cons (.o1 .neg (.lit (.int 1))) (.cons (.lit (.int 0)) .nil))) (.cons (.tup (.cons (.lit (.int 0)) (.cons (.o2 .pow (.lit (.int 10)) (.lit (.int 20))) .nil))) (.cons (.tup (.cons (.lit (.int 0)) (.cons (.lit (.int 0)) (.cons (.lit (.int 0)) (.cons (.lit (.int 0)) (.cons (.lit (.int 0)) .nil)))))) .nil)))))))) (.cons (.ifs (.o1 .not (.o1 .all (.comp (.sq (.var 4)) (.one 9) (.call 46 (.cons (.var 2) (.cons (.var 7) (.cons (.var 9) .nil))))))) (.cons (.ret (.lit (.bl false))) .nil) .nil) (.cons (.asg 8 (.lit (.bl true))) (.cons (.for (.one 9) (.sq (.var 10)) (.cons (.ifs (.and (.o2 .nmem (.var 9) (.var 7)) (.o2 .eq (.call 34 (.cons (.var 2) (.cons (.o1 .sort (.o2 .add (.var 7) (.lst (.cons (.var 9) .nil)))) .nil))) (.lst .nil))) (.cons (.asg 8 (.lit (.bl false))) .nil) .nil) .nil)) (.cons (.ifs (.o1 .not (.call 15 (.cons (.shows (.mk 3 .nil) (.cons (.var 2) (.cons (.var 7) .nil))) (.cons (.var 8) .nil)))) (.cons (.ret (.lit (.bl false))) .nil) .nil) .nil))))))))))))))) (.cons (.ifs (.o2 .isn (.shows (.mk 2 (.cons (.lst (.cons (.tup (.cons (.lit (.int 0)) (.cons (.lit (.int 0)) .nil))) (.cons (.tup (.cons (.lit (.int 0)) (.cons (.lit (.int 1)) .nil))) (.cons (.tup (.cons (.lit (.int 0)) (.cons (.lit (.int 2)) .nil))) .nil)))) .nil)) (.cons (.tup (.cons (.lit (.str "floor")) (.cons (.lit (.int 3)) .nil))) (.cons (.lst (.cons (.tup (.cons (.lit (.int 0)) (.cons (.lit (.int 0)) .nil))) (.cons (.tup (.cons (.lit (.int 0)) (.cons (.lit (.int 1)) .nil))) (.cons (.tup (.cons (.lit (.int 0)) (.cons (.lit (.int 2)) .nil))) .nil)))) .nil))) (.lit (.bl true))) (.cons (.ret (.lit (.bl false))) .nil) .nil) (.cons (.ifs (.o2 .isn (.shows (.mk 3 .nil) (.cons (.tup (.cons (.lit (.str "floor")) (.cons (.lit (.int 1)) .nil))) (.cons (.lst (.cons (.tup (.cons (.lit (.int 0)) (.cons (.lit (.int 0)) .nil))) .nil)) .nil))) (.lit (.bl true))) (.cons (.ret (.lit (.bl false))) .nil) .nil) (.cons (.ret (.o2 .is (.shows (.mk 4 (.cons (.tup (.cons (.lit (.int 0)) (.cons (.lit (.int 2)) .nil))) .nil)) (.cons (.tup (.cons (.lit (.str "floor")) (.cons (.lit (.int 3)) .nil))) (.cons (.lst (.cons (.tup (.cons (.lit (.int 0)) (.cons (.lit (.int 0)) .nil))) (.cons (.tup (.cons (.lit (.int 0)) (.cons (.lit (.int 1)) .nil))) .nil))) .nil))) (.lit (.bl false)))) .nil)))))
def fns : List Fn := [⟨1, 1, false, b0⟩, ⟨0, 0, false, .nil⟩, ⟨0, 0, false, .nil⟩, ⟨1, 1, false, b3⟩, ⟨1, 1, false, b4⟩, ⟨1, 6, true, b5⟩, ⟨0, 0, false, .nil⟩, ⟨2, 3, false, b7⟩, ⟨2, 5, false, b8⟩, ⟨0, 0, false, .nil⟩, ⟨4, 8, false, b10⟩, ⟨0, 0, false, .nil⟩, ⟨2, 2, false, b12⟩, ⟨3, 4, false, b13⟩, ⟨2, 4, false, b14⟩, ⟨2, 2, false, b15⟩, ⟨2, 5, false, b16⟩, ⟨1, 7, true, b17⟩, ⟨2, 4, false, b18⟩, ⟨4, 7, false, b19⟩, ⟨1, 12, false, b20⟩, ⟨3, 6, true, b21⟩, ⟨2, 6, true, b22⟩, ⟨2, 3, false, b23⟩, ⟨0, 0, false, .nil⟩, ⟨3, 3, false, b25⟩, ⟨3, 5, false, b26⟩, ⟨3, 3, false, b27⟩, ⟨3, 3, false, b28⟩, ⟨0, 0, false, .nil⟩, ⟨0, 0, false, .nil⟩, ⟨0, 0, false, .nil⟩, ⟨0, 0, false, .nil⟩, ⟨0, 0, false, .nil⟩, ⟨2, 7, true, b34⟩, ⟨4, 8, true, b35⟩, ⟨4, 6, true, b36⟩, ⟨0, 0, false, .nil⟩, ⟨0, 0, false, .nil⟩, ⟨0, 0, false, .nil⟩, ⟨0, 0, false, .nil⟩, ⟨0, 0, false, .nil⟩, ⟨2, 3, false, b42⟩, ⟨0, 0, false, .nil⟩, ⟨0, 0, false, .nil⟩, ⟨3, 6, false, b45⟩, ⟨3, 4, false, b46⟩]
def T : Tb := ⟨fns, fun a b => match a, b with | 1, 0 => some true | 1, 1 => some true | 1, 2 => some false | 1, 3 => some false | 1, 4 => some false | 2, 0 => some true | 2, 1 => some false | 2, 2 => some true | 2, 3 => some false | 2, 4 => some false | 3, 0 => some true | 3, 1 => some false | 3, 2 => some false | 3, 3 => some true | 3, 4 => some false | 4, 0 => some true | 4, 1 => some false | 4, 2 => some false | 4, 3 => some false | 4, 4 => some true | _, _ => none, fun a => match a with | 1 => some 25 | 2 => some 26 | 3 => some 27 | 4 => some 28 | _ => none, fun a => match a with | 1 => some [] | 2 => some [true] | 3 => some [] | 4 => some [false] | _ => none, fun a => match a with | 1 => [] | 2 => ["points"] | 3 => [] | 4 => ["point"] | _ => [], 0⟩
section
variable {P : Program} {w : World} {K : PySem.W.Frag} {mg : Str → Option Value} {base : Heap} {ca : Nat → Addr}
abbrev sI2 : Stmt := inClass (topS 14) 0
theorem scI2 : FnScope ["self", "points"] ["self", "points"] (defScope sI2) := ⟨rfl, rfl, rfl, by decide +kernel, rfl, by decide +kernel, by decide +kernel⟩
abbrev sI4 : Stmt := inClass (topS 16) 0
theorem scI4 : FnScope ["self", "point"] ["self", "point"] (defScope sI4) := ⟨rfl, rfl, rfl, by decide +kernel, rfl, by decide +kernel, by decide +kernel⟩
structure Txt (K : PySem.W.Frag) (mg : Str → Option Value) (f0 f3 f4 f5 f7 f8 f10 f21 f22 f23 f25 f26 f27 f28 f12 f13 f14 f15 f16 f42 f17 f18 f19 f34 f35 f36 f45 f46 f20 : Addr) (d0 d3 d4 d5 d7 d8 d10 d21 d22 d23 d25 d26 d27 d28 d12 d13 d14 d15 d16 d42 d17 d18 d19 d34 d35 d36 d45 d46 d20 : FuncData) (ca : Nat → Addr) : Prop where
  F0 : Fun K "is_whole" "is_whole" s0 f0 d0
  B0 : Binds K d0 ["thing"] []
  m0 : mg "is_whole" = some (.ref f0)
  F3 : Fun K "places_of" "places_of" s3 f3 d3
  B3 : Binds K d3 ["field"] []
  m3 : mg "places_of" = some (.ref f3)
  F4 : Fun K "numbers_of" "numbers_of" s4 f4 d4
  B4 : Binds K d4 ["field"] []
  m4 : mg "numbers_of" = some (.ref f4)
  F5 : Fun K "points_of" "points_of" s5 f5 d5
  B5 : Binds K d5 ["field"] []
  m5 : mg "points_of" = some (.ref f5)
  F7 : Fun K "is_point" "is_point" s7 f7 d7
  B7 : Binds K d7 ["field", "thing"] []
  m7 : mg "is_point" = some (.ref f7)
  F8 : Fun K "are_points" "are_points" s8 f8 d8
  B8 : Binds K d8 ["field", "thing"] []
  m8 : mg "are_points" = some (.ref f8)
  F10 : Fun K "lined" "lined" s10 f10 d10
  B10 : Binds K d10 ["field", "one", "two", "three"] []
  m10 : mg "lined" = some (.ref f10)
  F21 : Fun K "lines_with" "lines_with" s21 f21 d21
  B21 : Binds K d21 ["field", "points", "point"] []
  m21 : mg "lines_with" = some (.ref f21)
  F22 : Fun K "first_line" "first_line" s22 f22 d22
  B22 : Binds K d22 ["field", "points"] []
  m22 : mg "first_line" = some (.ref f22)
  F23 : Fun K "first_more" "first_more" s23 f23 d23
  B23 : Binds K d23 ["field", "points"] []
  m23 : mg "first_more" = some (.ref f23)
  F25 : Fun K "shows" "Clear.shows" s25 f25 d25
  B25 : Binds K d25 ["self", "field", "points"] []
  F26 : Fun K "shows" "Line.shows" s26 f26 d26
  B26 : Binds K d26 ["self", "field", "points"] []
  F27 : Fun K "shows" "Closed.shows" s27 f27 d27
  B27 : Binds K d27 ["self", "field", "points"] []
  F28 : Fun K "shows" "More.shows" s28 f28 d28
  B28 : Binds K d28 ["self", "field", "points"] []
  F12 : Fun K "_law_cell_at" "_law_cell_at" s12 f12 d12
  B12 : Binds K d12 ["_law_script", "_law_k"] []
  m12 : mg "_law_cell_at" = some (.ref f12)
  F13 : Fun K "_law_draw" "_law_draw" s13 f13 d13
  B13 : Binds K d13 ["_law_cell", "_law_k", "_law_many"] []
  m13 : mg "_law_draw" = some (.ref f13)
  F14 : Fun K "_law_value" "_law_value" s14 f14 d14
  B14 : Binds K d14 ["_law_cell", "_law_turn"] []
  m14 : mg "_law_value" = some (.ref f14)
  F15 : Fun K "_law_says" "_law_says" s15 f15 d15
  B15 : Binds K d15 ["_law_said", "_law_due"] []
  m15 : mg "_law_says" = some (.ref f15)
  F16 : Fun K "_law_field" "_law_field" s16 f16 d16
  B16 : Binds K d16 ["_law_script", "_law_by"] []
  m16 : mg "_law_field" = some (.ref f16)
  F42 : Fun K "_law_small" "_law_small" s42 f42 d42
  B42 : Binds K d42 ["_law_script", "_law_by"] []
  m42 : mg "_law_small" = some (.ref f42)
  F17 : Fun K "_law_every" "_law_every" s17 f17 d17
  B17 : Binds K d17 ["_law_field_here"] []
  m17 : mg "_law_every" = some (.ref f17)
  F18 : Fun K "_law_power" "_law_power" s18 f18 d18
  B18 : Binds K d18 ["_law_number", "_law_often"] []
  m18 : mg "_law_power" = some (.ref f18)
  F19 : Fun K "_law_lined" "_law_lined" s19 f19 d19
  B19 : Binds K d19 ["_law_field_here", "_law_one", "_law_two", "_law_three"] []
  m19 : mg "_law_lined" = some (.ref f19)
  F34 : Fun K "_law_threes" "_law_threes" s34 f34 d34
  B34 : Binds K d34 ["_law_field_here", "_law_points_here"] []
  m34 : mg "_law_threes" = some (.ref f34)
  F35 : Fun K "_law_points" "_law_points" s35 f35 d35
  B35 : Binds K d35 ["_law_script", "_law_by", "_law_field_here", "_law_limit"] []
  m35 : mg "_law_points" = some (.ref f35)
  F36 : Fun K "_law_clear" "_law_clear" s36 f36 d36
  B36 : Binds K d36 ["_law_script", "_law_by", "_law_field_here", "_law_limit"] []
  m36 : mg "_law_clear" = some (.ref f36)
  F45 : Fun K "_law_line_right" "_law_line_right" s45 f45 d45
  B45 : Binds K d45 ["_law_field_here", "_law_points_here", "_law_three"] []
  m45 : mg "_law_line_right" = some (.ref f45)
  F46 : Fun K "_law_point_right" "_law_point_right" s46 f46 d46
  B46 : Binds K d46 ["_law_field_here", "_law_points_here", "_law_point"] []
  m46 : mg "_law_point_right" = some (.ref f46)
  F20 : Fun K "law" "law" s20 f20 d20
  B20 : Binds K d20 ["_law_script"] []
  m20 : mg "law" = some (.ref f20)
  n_all : mg "all" = none
  n_any : mg "any" = none
  n_bool : mg "bool" = none
  n_enumerate : mg "enumerate" = none
  n_int : mg "int" = none
  n_isinstance : mg "isinstance" = none
  n_len : mg "len" = none
  n_list : mg "list" = none
  n_max : mg "max" = none
  n_min : mg "min" = none
  n_range : mg "range" = none
  n_set : mg "set" = none
  n_sorted : mg "sorted" = none
  n_sum : mg "sum" = none
  n_tuple : mg "tuple" = none
  n_zip : mg "zip" = none
  mc0 : mg "Answer" = some (.ref (ca 0))
  mc1 : mg "Clear" = some (.ref (ca 1))
  mc2 : mg "Line" = some (.ref (ca 2))
  mc3 : mg "Closed" = some (.ref (ca 3))
  mc4 : mg "More" = some (.ref (ca 4))
  ok1 : ClOk K (ca 1)
  ms1 : Meth K (ca 1) "shows" f25
  s1_0 : PySem.W.kitOne K (.ref (ca 1)) (.ref (ca 0)) = some true
  s1_1 : PySem.W.kitOne K (.ref (ca 1)) (.ref (ca 1)) = some true
  s1_2 : PySem.W.kitOne K (.ref (ca 1)) (.ref (ca 2)) = some false
  s1_3 : PySem.W.kitOne K (.ref (ca 1)) (.ref (ca 3)) = some false
  s1_4 : PySem.W.kitOne K (.ref (ca 1)) (.ref (ca 4)) = some false
  mk1 : PySem.W.makesIn K (ca 1) = true
  mi1 : PySem.W.findIn K (.ref (ca 1)) "__init__" = some (some (.builtin "object.__init__"))
  mp1 : PySem.W.keepIn K (.ref (ca 1)) = true
  ok2 : ClOk K (ca 2)
  ms2 : Meth K (ca 2) "shows" f26
  s2_0 : PySem.W.kitOne K (.ref (ca 2)) (.ref (ca 0)) = some true
  s2_1 : PySem.W.kitOne K (.ref (ca 2)) (.ref (ca 1)) = some false
  s2_2 : PySem.W.kitOne K (.ref (ca 2)) (.ref (ca 2)) = some true
  s2_3 : PySem.W.kitOne K (.ref (ca 2)) (.ref (ca 3)) = some false
  s2_4 : PySem.W.kitOne K (.ref (ca 2)) (.ref (ca 4)) = some false
  na2 : NoAttr K (ca 2) "points"
  mk2 : ∃ fi fd, Mk K (ca 2) fi ∧ Fun K "__init__" "Line.__init__" sI2 fi fd ∧ Binds K fd ["self", "points"] []
  ok3 : ClOk K (ca 3)
  ms3 : Meth K (ca 3) "shows" f27
  s3_0 : PySem.W.kitOne K (.ref (ca 3)) (.ref (ca 0)) = some true
  s3_1 : PySem.W.kitOne K (.ref (ca 3)) (.ref (ca 1)) = some false
  s3_2 : PySem.W.kitOne K (.ref (ca 3)) (.ref (ca 2)) = some false
  s3_3 : PySem.W.kitOne K (.ref (ca 3)) (.ref (ca 3)) = some true
  s3_4 : PySem.W.kitOne K (.ref (ca 3)) (.ref (ca 4)) = some false
  mk3 : PySem.W.makesIn K (ca 3) = true
  mi3 : PySem.W.findIn K (.ref (ca 3)) "__init__" = some (some (.builtin "object.__init__"))
  mp3 : PySem.W.keepIn K (.ref (ca 3)) = true
  ok4 : ClOk K (ca 4)
  ms4 : Meth K (ca 4) "shows" f28
  s4_0 : PySem.W.kitOne K (.ref (ca 4)) (.ref (ca 0)) = some true
  s4_1 : PySem.W.kitOne K (.ref (ca 4)) (.ref (ca 1)) = some false
  s4_2 : PySem.W.kitOne K (.ref (ca 4)) (.ref (ca 2)) = some false
  s4_3 : PySem.W.kitOne K (.ref (ca 4)) (.ref (ca 3)) = some false
  s4_4 : PySem.W.kitOne K (.ref (ca 4)) (.ref (ca 4)) = some true
  na4 : NoAttr K (ca 4) "point"
  mk4 : ∃ fi fd, Mk K (ca 4) fi ∧ Fun K "__init__" "More.__init__" sI4 fi fd ∧ Binds K fd ["self", "point"] []
variable {f0 f3 f4 f5 f7 f8 f10 f21 f22 f23 f25 f26 f27 f28 f12 f13 f14 f15 f16 f42 f17 f18 f19 f34 f35 f36 f45 f46 f20 : Addr} {d0 d3 d4 d5 d7 d8 d10 d21 d22 d23 d25 d26 d27 d28 d12 d13 d14 d15 d16 d42 d17 d18 d19 d34 d35 d36 d45 d46 d20 : FuncData}
structure All (P : Program) (w : World) (K : PySem.W.Frag) (mg : Str → Option Value) (base : Heap) (ca : Nat → Addr) (n : Nat) (f0 f3 f4 f5 f7 f8 f10 f21 f22 f23 f25 f26 f27 f28 f12 f13 f14 f15 f16 f42 f17 f18 f19 f34 f35 f36 f45 f46 f20 : Addr) : Prop where
  f0 : FnAt ⟨ca, T⟩ P w K mg base n 0 f0
  f3 : FnAt ⟨ca, T⟩ P w K mg base n 3 f3
  f4 : FnAt ⟨ca, T⟩ P w K mg base n 4 f4
  f5 : FnAt ⟨ca, T⟩ P w K mg base n 5 f5
  f7 : FnAt ⟨ca, T⟩ P w K mg base n 7 f7
  f8 : FnAt ⟨ca, T⟩ P w K mg base n 8 f8
  f10 : FnAt ⟨ca, T⟩ P w K mg base n 10 f10
  f21 : FnAt ⟨ca, T⟩ P w K mg base n 21 f21
  f22 : FnAt ⟨ca, T⟩ P w K mg base n 22 f22
  f23 : FnAt ⟨ca, T⟩ P w K mg base n 23 f23
  f25 : FnAt ⟨ca, T⟩ P w K mg base n 25 f25
  f26 : FnAt ⟨ca, T⟩ P w K mg base n 26 f26
  f27 : FnAt ⟨ca, T⟩ P w K mg base n 27 f27
  f28 : FnAt ⟨ca, T⟩ P w K mg base n 28 f28
  f12 : FnAt ⟨ca, T⟩ P w K mg base n 12 f12
  f13 : FnAt ⟨ca, T⟩ P w K mg base n 13 f13
  f14 : FnAt ⟨ca, T⟩ P w K mg base n 14 f14
  f15 : FnAt ⟨ca, T⟩ P w K mg base n 15 f15
  f16 : FnAt ⟨ca, T⟩ P w K mg base n 16 f16
  f42 : FnAt ⟨ca, T⟩ P w K mg base n 42 f42
  f17 : FnAt ⟨ca, T⟩ P w K mg base n 17 f17
  f18 : FnAt ⟨ca, T⟩ P w K mg base n 18 f18
  f19 : FnAt ⟨ca, T⟩ P w K mg base n 19 f19
  f34 : FnAt ⟨ca, T⟩ P w K mg base n 34 f34
  f35 : FnAt ⟨ca, T⟩ P w K mg base n 35 f35
  f36 : FnAt ⟨ca, T⟩ P w K mg base n 36 f36
  f45 : FnAt ⟨ca, T⟩ P w K mg base n 45 f45
  f46 : FnAt ⟨ca, T⟩ P w K mg base n 46 f46
  f20 : FnAt ⟨ca, T⟩ P w K mg base n 20 f20
theorem cmk1 {n : Nat} (Tx : Txt K mg f0 f3 f4 f5 f7 f8 f10 f21 f22 f23 f25 f26 f27 f28 f12 f13 f14 f15 f16 f42 f17 f18 f19 f34 f35 f36 f45 f46 f20 d0 d3 d4 d5 d7 d8 d10 d21 d22 d23 d25 d26 d27 d28 d12 d13 d14 d15 d16 d42 d17 d18 d19 d34 d35 d36 d45 d46 d20 ca) {X : Cx} (e : X.K = K ∧ X.mg = mg) : MkAt0 ⟨ca, { T with lv := n }⟩ X 1 := by
  obtain ⟨rfl, rfl⟩ := e
  exact ⟨Tx.mk1, Tx.mi1, Tx.mp1, rfl, rfl⟩
theorem cmk2 {n : Nat} (Tx : Txt K mg f0 f3 f4 f5 f7 f8 f10 f21 f22 f23 f25 f26 f27 f28 f12 f13 f14 f15 f16 f42 f17 f18 f19 f34 f35 f36 f45 f46 f20 d0 d3 d4 d5 d7 d8 d10 d21 d22 d23 d25 d26 d27 d28 d12 d13 d14 d15 d16 d42 d17 d18 d19 d34 d35 d36 d45 d46 d20 ca) {X : Cx} (e : X.K = K ∧ X.mg = mg ∧ X.base = base ∧ X.prog = P ∧ X.w = w) : MkAt ⟨ca, { T with lv := n }⟩ X 2 true "points" := by
  obtain ⟨rfl, rfl, rfl, rfl, rfl⟩ := e
  obtain ⟨fi, fd, mk, Fu, hb⟩ := Tx.mk2
  exact ⟨Tx.ok2.cls, Tx.na2, rfl, rfl, fi, fd, _, mk, hb, init_l Fu scI2 rfl fun cdv A outer s H E => pss_one (ps_fld (pv 0) (pe_callTy call_list_of rfl Tx.n_list PyProof.Rows.boot_list (pa_cons (pv 1) pa_nil) (by decide) (by decide) rfl rfl) rfl)⟩
theorem cmk3 {n : Nat} (Tx : Txt K mg f0 f3 f4 f5 f7 f8 f10 f21 f22 f23 f25 f26 f27 f28 f12 f13 f14 f15 f16 f42 f17 f18 f19 f34 f35 f36 f45 f46 f20 d0 d3 d4 d5 d7 d8 d10 d21 d22 d23 d25 d26 d27 d28 d12 d13 d14 d15 d16 d42 d17 d18 d19 d34 d35 d36 d45 d46 d20 ca) {X : Cx} (e : X.K = K ∧ X.mg = mg) : MkAt0 ⟨ca, { T with lv := n }⟩ X 3 := by
  obtain ⟨rfl, rfl⟩ := e
  exact ⟨Tx.mk3, Tx.mi3, Tx.mp3, rfl, rfl⟩
theorem cmk4 {n : Nat} (Tx : Txt K mg f0 f3 f4 f5 f7 f8 f10 f21 f22 f23 f25 f26 f27 f28 f12 f13 f14 f15 f16 f42 f17 f18 f19 f34 f35 f36 f45 f46 f20 d0 d3 d4 d5 d7 d8 d10 d21 d22 d23 d25 d26 d27 d28 d12 d13 d14 d15 d16 d42 d17 d18 d19 d34 d35 d36 d45 d46 d20 ca) {X : Cx} (e : X.K = K ∧ X.mg = mg ∧ X.base = base ∧ X.prog = P ∧ X.w = w) : MkAt ⟨ca, { T with lv := n }⟩ X 4 false "point" := by
  obtain ⟨rfl, rfl, rfl, rfl, rfl⟩ := e
  obtain ⟨fi, fd, mk, Fu, hb⟩ := Tx.mk4
  exact ⟨Tx.ok4.cls, Tx.na4, rfl, rfl, fi, fd, _, mk, hb, init_v Fu scI4 rfl fun cdv A outer s H E => pss_one (ps_fld (pv 0) (pv 1) rfl)⟩
theorem csub0 (Tx : Txt K mg f0 f3 f4 f5 f7 f8 f10 f21 f22 f23 f25 f26 f27 f28 f12 f13 f14 f15 f16 f42 f17 f18 f19 f34 f35 f36 f45 f46 f20 d0 d3 d4 d5 d7 d8 d10 d21 d22 d23 d25 d26 d27 d28 d12 d13 d14 d15 d16 d42 d17 d18 d19 d34 d35 d36 d45 d46 d20 ca) : ∀ c' b, T.sub c' 0 = some b → ClOk K (ca c') ∧ PySem.W.kitOne K (.ref (ca c')) (.ref (ca 0)) = some b
  | 0, b, h => by cases (show (none : Option Bool) = some b from h)
  | 1, _, h => (Option.some.inj (show some true = some _ from h)) ▸ ⟨Tx.ok1, Tx.s1_0⟩
  | 2, _, h => (Option.some.inj (show some true = some _ from h)) ▸ ⟨Tx.ok2, Tx.s2_0⟩
  | 3, _, h => (Option.some.inj (show some true = some _ from h)) ▸ ⟨Tx.ok3, Tx.s3_0⟩
  | 4, _, h => (Option.some.inj (show some true = some _ from h)) ▸ ⟨Tx.ok4, Tx.s4_0⟩
  | _ + 5, b, h => by cases (show (none : Option Bool) = some b from h)
theorem csub1 (Tx : Txt K mg f0 f3 f4 f5 f7 f8 f10 f21 f22 f23 f25 f26 f27 f28 f12 f13 f14 f15 f16 f42 f17 f18 f19 f34 f35 f36 f45 f46 f20 d0 d3 d4 d5 d7 d8 d10 d21 d22 d23 d25 d26 d27 d28 d12 d13 d14 d15 d16 d42 d17 d18 d19 d34 d35 d36 d45 d46 d20 ca) : ∀ c' b, T.sub c' 1 = some b → ClOk K (ca c') ∧ PySem.W.kitOne K (.ref (ca c')) (.ref (ca 1)) = some b
  | 0, b, h => by cases (show (none : Option Bool) = some b from h)
  | 1, _, h => (Option.some.inj (show some true = some _ from h)) ▸ ⟨Tx.ok1, Tx.s1_1⟩
  | 2, _, h => (Option.some.inj (show some false = some _ from h)) ▸ ⟨Tx.ok2, Tx.s2_1⟩
  | 3, _, h => (Option.some.inj (show some false = some _ from h)) ▸ ⟨Tx.ok3, Tx.s3_1⟩
  | 4, _, h => (Option.some.inj (show some false = some _ from h)) ▸ ⟨Tx.ok4, Tx.s4_1⟩
  | _ + 5, b, h => by cases (show (none : Option Bool) = some b from h)
theorem csub2 (Tx : Txt K mg f0 f3 f4 f5 f7 f8 f10 f21 f22 f23 f25 f26 f27 f28 f12 f13 f14 f15 f16 f42 f17 f18 f19 f34 f35 f36 f45 f46 f20 d0 d3 d4 d5 d7 d8 d10 d21 d22 d23 d25 d26 d27 d28 d12 d13 d14 d15 d16 d42 d17 d18 d19 d34 d35 d36 d45 d46 d20 ca) : ∀ c' b, T.sub c' 2 = some b → ClOk K (ca c') ∧ PySem.W.kitOne K (.ref (ca c')) (.ref (ca 2)) = some b
  | 0, b, h => by cases (show (none : Option Bool) = some b from h)
  | 1, _, h => (Option.some.inj (show some false = some _ from h)) ▸ ⟨Tx.ok1, Tx.s1_2⟩
  | 2, _, h => (Option.some.inj (show some true = some _ from h)) ▸ ⟨Tx.ok2, Tx.s2_2⟩
  | 3, _, h => (Option.some.inj (show some false = some _ from h)) ▸ ⟨Tx.ok3, Tx.s3_2⟩
  | 4, _, h => (Option.some.inj (show some false = some _ from h)) ▸ ⟨Tx.ok4, Tx.s4_2⟩
  | _ + 5, b, h => by cases (show (none : Option Bool) = some b from h)
theorem csub3 (Tx : Txt K mg f0 f3 f4 f5 f7 f8 f10 f21 f22 f23 f25 f26 f27 f28 f12 f13 f14 f15 f16 f42 f17 f18 f19 f34 f35 f36 f45 f46 f20 d0 d3 d4 d5 d7 d8 d10 d21 d22 d23 d25 d26 d27 d28 d12 d13 d14 d15 d16 d42 d17 d18 d19 d34 d35 d36 d45 d46 d20 ca) : ∀ c' b, T.sub c' 3 = some b → ClOk K (ca c') ∧ PySem.W.kitOne K (.ref (ca c')) (.ref (ca 3)) = some b
  | 0, b, h => by cases (show (none : Option Bool) = some b from h)
  | 1, _, h => (Option.some.inj (show some false = some _ from h)) ▸ ⟨Tx.ok1, Tx.s1_3⟩
  | 2, _, h => (Option.some.inj (show some false = some _ from h)) ▸ ⟨Tx.ok2, Tx.s2_3⟩
  | 3, _, h => (Option.some.inj (show some true = some _ from h)) ▸ ⟨Tx.ok3, Tx.s3_3⟩
  | 4, _, h => (Option.some.inj (show some false = some _ from h)) ▸ ⟨Tx.ok4, Tx.s4_3⟩
  | _ + 5, b, h => by cases (show (none : Option Bool) = some b from h)
theorem csub4 (Tx : Txt K mg f0 f3 f4 f5 f7 f8 f10 f21 f22 f23 f25 f26 f27 f28 f12 f13 f14 f15 f16 f42 f17 f18 f19 f34 f35 f36 f45 f46 f20 d0 d3 d4 d5 d7 d8 d10 d21 d22 d23 d25 d26 d27 d28 d12 d13 d14 d15 d16 d42 d17 d18 d19 d34 d35 d36 d45 d46 d20 ca) : ∀ c' b, T.sub c' 4 = some b → ClOk K (ca c') ∧ PySem.W.kitOne K (.ref (ca c')) (.ref (ca 4)) = some b
  | 0, b, h => by cases (show (none : Option Bool) = some b from h)
  | 1, _, h => (Option.some.inj (show some false = some _ from h)) ▸ ⟨Tx.ok1, Tx.s1_4⟩
  | 2, _, h => (Option.some.inj (show some false = some _ from h)) ▸ ⟨Tx.ok2, Tx.s2_4⟩
  | 3, _, h => (Option.some.inj (show some false = some _ from h)) ▸ ⟨Tx.ok3, Tx.s3_4⟩
  | 4, _, h => (Option.some.inj (show some true = some _ from h)) ▸ ⟨Tx.ok4, Tx.s4_4⟩
  | _ + 5, b, h => by cases (show (none : Option Bool) = some b from h)
theorem csh {n : Nat} (Tx : Txt K mg f0 f3 f4 f5 f7 f8 f10 f21 f22 f23 f25 f26 f27 f28 f12 f13 f14 f15 f16 f42 f17 f18 f19 f34 f35 f36 f45 f46 f20 d0 d3 d4 d5 d7 d8 d10 d21 d22 d23 d25 d26 d27 d28 d12 d13 d14 d15 d16 d42 d17 d18 d19 d34 d35 d36 d45 d46 d20 ca) (A : All P w K mg base ca n f0 f3 f4 f5 f7 f8 f10 f21 f22 f23 f25 f26 f27 f28 f12 f13 f14 f15 f16 f42 f17 f18 f19 f34 f35 f36 f45 f46 f20) : ∀ c k, T.sh c = some k → ("shows" : Str) ∉ T.cn c ∧ ∃ f, Cls K (ca c) ∧ Meth K (ca c) "shows" f ∧ FnAt ⟨ca, { T with lv := n }⟩ P w K mg base n k f
  | 0, b, h => by cases (show (none : Option Nat) = some b from h)
  | 1, _, h => (Option.some.inj (show some 25 = some _ from h)) ▸ ⟨by decide, _, Tx.ok1.cls, Tx.ms1, fnat_lv A.f25⟩
  | 2, _, h => (Option.some.inj (show some 26 = some _ from h)) ▸ ⟨by decide, _, Tx.ok2.cls, Tx.ms2, fnat_lv A.f26⟩
  | 3, _, h => (Option.some.inj (show some 27 = some _ from h)) ▸ ⟨by decide, _, Tx.ok3.cls, Tx.ms3, fnat_lv A.f27⟩
  | 4, _, h => (Option.some.inj (show some 28 = some _ from h)) ▸ ⟨by decide, _, Tx.ok4.cls, Tx.ms4, fnat_lv A.f28⟩
  | _ + 5, b, h => by cases (show (none : Option Nat) = some b from h)
theorem cfl_point (Tx : Txt K mg f0 f3 f4 f5 f7 f8 f10 f21 f22 f23 f25 f26 f27 f28 f12 f13 f14 f15 f16 f42 f17 f18 f19 f34 f35 f36 f45 f46 f20 d0 d3 d4 d5 d7 d8 d10 d21 d22 d23 d25 d26 d27 d28 d12 d13 d14 d15 d16 d42 d17 d18 d19 d34 d35 d36 d45 d46 d20 ca) : ∀ c, ("point" : Str) ∈ T.cn c → Cls K (ca c) ∧ NoAttr K (ca c) "point"
  | 0, h => absurd h (by decide)
  | 1, h => absurd h (by decide)
  | 2, h => absurd h (by decide)
  | 3, h => absurd h (by decide)
  | 4, _ => ⟨Tx.ok4.cls, Tx.na4⟩
  | _ + 5, h => absurd (show ("point" : Str) ∈ ([] : List Str) from h) (by decide)
theorem cfl_points (Tx : Txt K mg f0 f3 f4 f5 f7 f8 f10 f21 f22 f23 f25 f26 f27 f28 f12 f13 f14 f15 f16 f42 f17 f18 f19 f34 f35 f36 f45 f46 f20 d0 d3 d4 d5 d7 d8 d10 d21 d22 d23 d25 d26 d27 d28 d12 d13 d14 d15 d16 d42 d17 d18 d19 d34 d35 d36 d45 d46 d20 ca) : ∀ c, ("points" : Str) ∈ T.cn c → Cls K (ca c) ∧ NoAttr K (ca c) "points"
  | 0, h => absurd h (by decide)
  | 1, h => absurd h (by decide)
  | 2, _ => ⟨Tx.ok2.cls, Tx.na2⟩
  | 3, h => absurd h (by decide)
  | 4, h => absurd h (by decide)
  | _ + 5, h => absurd (show ("points" : Str) ∈ ([] : List Str) from h) (by decide)
theorem o0 {n : Nat} (Tx : Txt K mg f0 f3 f4 f5 f7 f8 f10 f21 f22 f23 f25 f26 f27 f28 f12 f13 f14 f15 f16 f42 f17 f18 f19 f34 f35 f36 f45 f46 f20 d0 d3 d4 d5 d7 d8 d10 d21 d22 d23 d25 d26 d27 d28 d12 d13 d14 d15 d16 d42 d17 d18 d19 d34 d35 d36 d45 d46 d20 ca) (A : All P w K mg base ca n f0 f3 f4 f5 f7 f8 f10 f21 f22 f23 f25 f26 f27 f28 f12 f13 f14 f15 f16 f42 f17 f18 f19 f34 f35 f36 f45 f46 f20) : FnOk P w K mg base CX0 (n + 1) f0 d0 ["thing"] (spD ⟨K, ca, T.cn⟩ T (n + 1) 0) :=
  fn_okX (N := N0) (fn := ⟨1, 1, false, b0⟩) (own' := []) Tx.F0 sc0 rfl rfl rfl fun cdv A' outer s H E g =>
    ((ds_cons (ds_ret (own1 := []) (de_and (deB (de_isi (t := .int) (deB (de_var (i := 0))) PyProof.Rows.boot_int (hm := Tx.n_isinstance) (hm2 := Tx.n_int))) (de_one (de_not (deB (de_isi (t := .bool) (deB (de_var (i := 0))) PyProof.Rows.boot_bool (hm := Tx.n_isinstance) (hm2 := Tx.n_bool))))))) ds_nil))
theorem o3 {n : Nat} (Tx : Txt K mg f0 f3 f4 f5 f7 f8 f10 f21 f22 f23 f25 f26 f27 f28 f12 f13 f14 f15 f16 f42 f17 f18 f19 f34 f35 f36 f45 f46 f20 d0 d3 d4 d5 d7 d8 d10 d21 d22 d23 d25 d26 d27 d28 d12 d13 d14 d15 d16 d42 d17 d18 d19 d34 d35 d36 d45 d46 d20 ca) (A : All P w K mg base ca n f0 f3 f4 f5 f7 f8 f10 f21 f22 f23 f25 f26 f27 f28 f12 f13 f14 f15 f16 f42 f17 f18 f19 f34 f35 f36 f45 f46 f20) : FnOk P w K mg base CX0 (n + 1) f3 d3 ["field"] (spD ⟨K, ca, T.cn⟩ T (n + 1) 3) :=
  fn_okX (N := N3) (fn := ⟨1, 1, false, b3⟩) (own' := []) Tx.F3 sc3 rfl rfl rfl fun cdv A' outer s H E g =>
    ((ds_cons (ds_ret (own1 := []) (de_ite (dt_cmp (op_eqD g.room.units) os_eq (deB (de_ix (di_var (i := 0)) (deB de_int))) (deB de_str)) (de_ix (di_var (i := 0)) (deB de_int)) de_int)) ds_nil))
theorem o4 {n : Nat} (Tx : Txt K mg f0 f3 f4 f5 f7 f8 f10 f21 f22 f23 f25 f26 f27 f28 f12 f13 f14 f15 f16 f42 f17 f18 f19 f34 f35 f36 f45 f46 f20 d0 d3 d4 d5 d7 d8 d10 d21 d22 d23 d25 d26 d27 d28 d12 d13 d14 d15 d16 d42 d17 d18 d19 d34 d35 d36 d45 d46 d20 ca) (A : All P w K mg base ca n f0 f3 f4 f5 f7 f8 f10 f21 f22 f23 f25 f26 f27 f28 f12 f13 f14 f15 f16 f42 f17 f18 f19 f34 f35 f36 f45 f46 f20) : FnOk P w K mg base CX0 (n + 1) f4 d4 ["field"] (spD ⟨K, ca, T.cn⟩ T (n + 1) 4) :=
  fn_okX (N := N4) (fn := ⟨1, 1, false, b4⟩) (own' := []) Tx.F4 sc4 rfl rfl rfl fun cdv A' outer s H E g =>
    ((ds_cons (ds_ret (own1 := []) (de_ite (dt_cmp (op_eqD g.room.units) os_eq (deB (de_ix (di_var (i := 0)) (deB de_int))) (deB de_str)) de_int (de_ix (di_var (i := 0)) (deB de_int)))) ds_nil))
theorem o5 {n : Nat} (Tx : Txt K mg f0 f3 f4 f5 f7 f8 f10 f21 f22 f23 f25 f26 f27 f28 f12 f13 f14 f15 f16 f42 f17 f18 f19 f34 f35 f36 f45 f46 f20 d0 d3 d4 d5 d7 d8 d10 d21 d22 d23 d25 d26 d27 d28 d12 d13 d14 d15 d16 d42 d17 d18 d19 d34 d35 d36 d45 d46 d20 ca) (A : All P w K mg base ca n f0 f3 f4 f5 f7 f8 f10 f21 f22 f23 f25 f26 f27 f28 f12 f13 f14 f15 f16 f42 f17 f18 f19 f34 f35 f36 f45 f46 f20) : FnOk P w K mg base CX0 (n + 1) f5 d5 ["field"] (spD ⟨K, ca, T.cn⟩ T (n + 1) 5) :=
  fn_okX (N := N5) (fn := ⟨1, 6, true, b5⟩) (own' := []) Tx.F5 sc5 rfl rfl rfl fun cdv A' outer s H E g =>
    ((ds_cons (ds_asgO (own1 := []) (ps_set (i := 1) sc5.nd rfl (.inl rfl) (de_lst (da_cons (de_tup da_nil) da_nil)))) (ds_cons (ds_for (own1 := [1]) g (dr_r1 (deB (de_call g (fnat_lv A.f3) Tx.m3 (da_cons (de_var (i := 0)) da_nil))) (hm := Tx.n_range)) (dg_one (pg_name (i := 2) sc5.nd rfl (.inl rfl))) (ds_cons (ds_asgO (own1 := [1]) (ps_set (i := 3) sc5.nd rfl (.inl rfl) (de_lst da_nil))) (ds_cons (ds_for (own1 := [3]) g (dr_sq (dz_t (de_var (i := 1)))) (dg_one (pg_name (i := 4) sc5.nd rfl (.inr rfl))) (ds_cons (ds_ext (own1 := [3]) (ps_expr (pe_bm PySem.F.plainAttrs_list PySem.F.slot_list_extend PySem.F.type_list_extend mt_extend (pv 3) (pa_cons (deI (de_comp g.calm sc5.nd (dr_r1 (deB (de_call g (fnat_lv A.f4) Tx.m4 (da_cons (de_var (i := 0)) da_nil))) (hm := Tx.n_range)) (blkOk_by (own := [("number", 5)]) (N := N5) (sc := defScope s5) (by decide +kernel)) rfl (fun _ _ _ _ _ => gbG g fun g => (dg_one (pg_name (i := 5) sc5.nd rfl (.inl rfl)))) (fun _ _ _ _ _ => gbE g fun g => (de_add (di_var (i := 4)) (deI (de_tup (da_cons (de_var (i := 5)) da_nil))))))) pa_nil)))) ds_nil)) (ds_cons (ds_mov (own1 := []) (ps_set (i := 1) sc5.nd rfl (.inl rfl) (pv 3))) ds_nil)))) (ds_cons (ds_retO (own1 := []) (i := 1) (ps_ret (pv 1))) ds_nil))))
theorem o7 {n : Nat} (Tx : Txt K mg f0 f3 f4 f5 f7 f8 f10 f21 f22 f23 f25 f26 f27 f28 f12 f13 f14 f15 f16 f42 f17 f18 f19 f34 f35 f36 f45 f46 f20 d0 d3 d4 d5 d7 d8 d10 d21 d22 d23 d25 d26 d27 d28 d12 d13 d14 d15 d16 d42 d17 d18 d19 d34 d35 d36 d45 d46 d20 ca) (A : All P w K mg base ca n f0 f3 f4 f5 f7 f8 f10 f21 f22 f23 f25 f26 f27 f28 f12 f13 f14 f15 f16 f42 f17 f18 f19 f34 f35 f36 f45 f46 f20) : FnOk P w K mg base CX0 (n + 1) f7 d7 ["field", "thing"] (spD ⟨K, ca, T.cn⟩ T (n + 1) 7) :=
  fn_okX (N := N7) (fn := ⟨2, 3, false, b7⟩) (own' := []) Tx.F7 sc7 rfl rfl rfl fun cdv A' outer s H E g =>
    ((ds_cons (ds_if (dwT (dw_or (dt_not (dbT (deB (de_isi (t := .tup) (deB (de_var (i := 1))) PyProof.Rows.boot_tuple (hm := Tx.n_isinstance) (hm2 := Tx.n_tuple))))) (dw_or1 (dt_cmp (op_neD g.room.units) os_ne (deB (de_len (deB (de_var (i := 1))) (hm := Tx.n_len))) (deB (de_call g (fnat_lv A.f3) Tx.m3 (da_cons (de_var (i := 0)) da_nil))))))) (ds_cons (ds_ret (own1 := []) de_bl) ds_nil) ds_nil) (ds_cons (ds_ret (own1 := []) (de_all g.calm (deB (de_comp g.calm sc7.nd (dr_sq (dz_f (di_var (i := 1)))) (blkOk_by (own := [("one", 2)]) (N := N7) (sc := defScope s7) (by decide +kernel)) rfl (fun _ _ _ _ _ => gbG g fun g => (dg_one (pg_name (i := 2) sc7.nd rfl (.inl rfl)))) (fun _ _ _ _ _ => gbE g fun g => (de_and (deB (de_call g (fnat_lv A.f0) Tx.m0 (da_cons (de_var (i := 2)) da_nil))) (de_one (de_ch2 op_le os_le (or_lt g.room.units0) os_lt (deB de_int) (deB (de_var (i := 2))) (deB (de_call g (fnat_lv A.f4) Tx.m4 (da_cons (de_var (i := 0)) da_nil))))))))) (hm := Tx.n_all))) ds_nil)))
theorem o8 {n : Nat} (Tx : Txt K mg f0 f3 f4 f5 f7 f8 f10 f21 f22 f23 f25 f26 f27 f28 f12 f13 f14 f15 f16 f42 f17 f18 f19 f34 f35 f36 f45 f46 f20 d0 d3 d4 d5 d7 d8 d10 d21 d22 d23 d25 d26 d27 d28 d12 d13 d14 d15 d16 d42 d17 d18 d19 d34 d35 d36 d45 d46 d20 ca) (A : All P w K mg base ca n f0 f3 f4 f5 f7 f8 f10 f21 f22 f23 f25 f26 f27 f28 f12 f13 f14 f15 f16 f42 f17 f18 f19 f34 f35 f36 f45 f46 f20) : FnOk P w K mg base CX0 (n + 1) f8 d8 ["field", "thing"] (spD ⟨K, ca, T.cn⟩ T (n + 1) 8) :=
  fn_okX (N := N8) (fn := ⟨2, 5, false, b8⟩) (own' := []) Tx.F8 sc8 rfl rfl rfl fun cdv A' outer s H E g =>
    ((ds_cons (ds_if (dwT (dw_or (dt_not (dbT (deB (de_isi (t := .lst) (deB (de_var (i := 1))) PyProof.Rows.boot_list (hm := Tx.n_isinstance) (hm2 := Tx.n_list))))) (dw_or1 (dt_not (dbT (deB (de_all g.calm (deB (de_comp g.calm sc8.nd (dr_sq (dz_f (di_var (i := 1)))) (blkOk_by (own := [("point", 4)]) (N := N8) (sc := defScope s8) (by decide +kernel)) rfl (fun _ _ _ _ _ => gbG g fun g => (dg_one (pg_name (i := 4) sc8.nd rfl (.inl rfl)))) (fun _ _ _ _ _ => gbE g fun g => (de_call g (fnat_lv A.f7) Tx.m7 (da_cons (de_var (i := 0)) (da_cons (de_var (i := 4)) da_nil)))))) (hm := Tx.n_all)))))))) (ds_cons (ds_ret (own1 := []) de_bl) ds_nil) ds_nil) (ds_cons (ds_ret (own1 := []) (de_all g.calm (deB (de_comp g.calm sc8.nd (dr_zp (dz_f (di_var (i := 1))) (dz_f (deI (de_slL (di_var (i := 1)) (deB de_int)))) (hm := Tx.n_zip)) (blkOk_by (own := [("one", 2), ("other", 3)]) (N := N8) (sc := defScope s8) (by decide +kernel)) rfl (fun _ _ _ _ _ => gbG g fun g => (dg_many (is := [2, 3]) (pg_tup g.calm (pgs_cons (pg_name (i := 2) sc8.nd rfl (.inl rfl)) (pgs_cons (pg_name (i := 3) sc8.nd rfl (.inl rfl)) pgs_nil))))) (fun _ _ _ _ _ => gbE g fun g => (de_cmp (or_lt g.room.units0) os_lt (deB (de_var (i := 2))) (deB (de_var (i := 3))))))) (hm := Tx.n_all))) ds_nil)))
theorem o10 {n : Nat} (Tx : Txt K mg f0 f3 f4 f5 f7 f8 f10 f21 f22 f23 f25 f26 f27 f28 f12 f13 f14 f15 f16 f42 f17 f18 f19 f34 f35 f36 f45 f46 f20 d0 d3 d4 d5 d7 d8 d10 d21 d22 d23 d25 d26 d27 d28 d12 d13 d14 d15 d16 d42 d17 d18 d19 d34 d35 d36 d45 d46 d20 ca) (A : All P w K mg base ca n f0 f3 f4 f5 f7 f8 f10 f21 f22 f23 f25 f26 f27 f28 f12 f13 f14 f15 f16 f42 f17 f18 f19 f34 f35 f36 f45 f46 f20) : FnOk P w K mg base CX0 (n + 1) f10 d10 ["field", "one", "two", "three"] (spD ⟨K, ca, T.cn⟩ T (n + 1) 10) :=
  fn_okX (N := N10) (fn := ⟨4, 8, false, b10⟩) (own' := []) Tx.F10 sc10 rfl rfl rfl fun cdv A' outer s H E g =>
    ((ds_cons (ds_if (dt_cmp (op_eqD g.room.units) os_eq (deB (de_ix (di_var (i := 0)) (deB de_int))) (deB de_str)) (ds_cons (ds_ret (own1 := []) (de_all g.calm (deB (de_comp g.calm sc10.nd (dr_zp3 (dz_f (di_var (i := 1))) (dz_f (di_var (i := 2))) (dz_f (di_var (i := 3))) (hm := Tx.n_zip)) (blkOk_by (own := [("figures", 7)]) (N := N10) (sc := defScope s10) (by decide +kernel)) rfl (fun _ _ _ _ _ => gbG g fun g => (dg_one (pg_name (i := 7) sc10.nd rfl (.inl rfl)))) (fun _ _ _ _ _ => gbE g fun g => (de_cmp (op_eqD g.room.units) os_eq (deB (de_o2 op_modN os_mod (deB (de_sum g.calm (deB (de_var (i := 7))) (hm := Tx.n_sum))) (deB de_int))) (deB de_int))))) (hm := Tx.n_all))) ds_nil) ds_nil) (ds_cons (ds_par (own1 := []) false false (ps_par g.calm sc10.nd rfl rfl (by decide) rfl rfl (pa_cons (de_tup (da_cons (de_o2 op_sub os_sub (deB (de_ix (di_var (i := 2)) (deB de_int))) (deB (de_ix (di_var (i := 1)) (deB de_int)))) (da_cons (de_o2 op_sub os_sub (deB (de_ix (di_var (i := 2)) (deB de_int))) (deB (de_ix (di_var (i := 1)) (deB de_int)))) da_nil))) (pa_cons (de_tup (da_cons (de_o2 op_sub os_sub (deB (de_ix (di_var (i := 3)) (deB de_int))) (deB (de_ix (di_var (i := 1)) (deB de_int)))) (da_cons (de_o2 op_sub os_sub (deB (de_ix (di_var (i := 3)) (deB de_int))) (deB (de_ix (di_var (i := 1)) (deB de_int)))) da_nil))) pa_nil)) (by rfl))) (ds_cons (ds_asg (own1 := []) (ps_set (i := 4) sc10.nd rfl (.inl rfl) (de_o2 op_sub os_sub (deB (de_o2 op_mul os_mul (deB (de_ix (di_var (i := 5)) (deB de_int))) (deB (de_ix (di_var (i := 6)) (deB de_int))))) (deB (de_o2 op_mul os_mul (deB (de_ix (di_var (i := 5)) (deB de_int))) (deB (de_ix (di_var (i := 6)) (deB de_int)))))))) (ds_cons (ds_ret (own1 := []) (de_ite (dt_cmp (op_eqD g.room.units) os_eq (deB (de_ix (di_var (i := 0)) (deB de_int))) (deB de_str)) (de_cmp (op_eqD g.room.units) os_eq (deB (de_var (i := 4))) (deB de_int)) (de_cmp (op_eqD g.room.units) os_eq (deB (de_o2 op_modN os_mod (deB (de_var (i := 4))) (deB (de_ix (di_var (i := 0)) (deB de_int))))) (deB de_int)))) ds_nil)))))
theorem o21 {n : Nat} (Tx : Txt K mg f0 f3 f4 f5 f7 f8 f10 f21 f22 f23 f25 f26 f27 f28 f12 f13 f14 f15 f16 f42 f17 f18 f19 f34 f35 f36 f45 f46 f20 d0 d3 d4 d5 d7 d8 d10 d21 d22 d23 d25 d26 d27 d28 d12 d13 d14 d15 d16 d42 d17 d18 d19 d34 d35 d36 d45 d46 d20 ca) (A : All P w K mg base ca n f0 f3 f4 f5 f7 f8 f10 f21 f22 f23 f25 f26 f27 f28 f12 f13 f14 f15 f16 f42 f17 f18 f19 f34 f35 f36 f45 f46 f20) : FnOk P w K mg base CX0 (n + 1) f21 d21 ["field", "points", "point"] (spD ⟨K, ca, T.cn⟩ T (n + 1) 21) :=
  fn_okX (N := N21) (fn := ⟨3, 6, true, b21⟩) (own' := []) Tx.F21 sc21 rfl rfl rfl fun cdv A' outer s H E g =>
    ((ds_cons (ds_for (own1 := []) g (dr_en (dz_t (de_var (i := 1))) (hm := Tx.n_enumerate)) (dg_many (is := [3, 4]) (pg_tup g.calm (pgs_cons (pg_name (i := 3) sc21.nd rfl (.inl rfl)) (pgs_cons (pg_name (i := 4) sc21.nd rfl (.inr rfl)) pgs_nil)))) (ds_cons (ds_if (dbT (deB (de_any g.calm (deB (de_comp g.calm sc21.nd (dr_sq (dz_f (deI (de_slH (di_var (i := 1)) (deB (de_var (i := 3))))))) (blkOk_by (own := [("two", 5)]) (N := N21) (sc := defScope s21) (by decide +kernel)) rfl (fun _ _ _ _ _ => gbG g fun g => (dg_one (pg_name (i := 5) sc21.nd rfl (.inl rfl)))) (fun _ _ _ _ _ => gbE g fun g => (de_call g (fnat_lv A.f10) Tx.m10 (da_cons (de_var (i := 0)) (da_cons (de_var (i := 4)) (da_cons (de_var (i := 5)) (da_cons (de_var (i := 2)) da_nil)))))))) (hm := Tx.n_any)))) (ds_cons (ds_ret (own1 := []) de_bl) ds_nil) ds_nil) ds_nil)) (ds_cons (ds_ret (own1 := []) de_bl) ds_nil)))
theorem o22 {n : Nat} (Tx : Txt K mg f0 f3 f4 f5 f7 f8 f10 f21 f22 f23 f25 f26 f27 f28 f12 f13 f14 f15 f16 f42 f17 f18 f19 f34 f35 f36 f45 f46 f20 d0 d3 d4 d5 d7 d8 d10 d21 d22 d23 d25 d26 d27 d28 d12 d13 d14 d15 d16 d42 d17 d18 d19 d34 d35 d36 d45 d46 d20 ca) (A : All P w K mg base ca n f0 f3 f4 f5 f7 f8 f10 f21 f22 f23 f25 f26 f27 f28 f12 f13 f14 f15 f16 f42 f17 f18 f19 f34 f35 f36 f45 f46 f20) : FnOk P w K mg base CX0 (n + 1) f22 d22 ["field", "points"] (spD ⟨K, ca, T.cn⟩ T (n + 1) 22) :=
  fn_okX (N := N22) (fn := ⟨2, 6, true, b22⟩) (own' := []) Tx.F22 sc22 rfl rfl rfl fun cdv A' outer s H E g =>
    ((ds_cons (ds_for (own1 := []) g (dr_en (dz_t (de_var (i := 1))) (hm := Tx.n_enumerate)) (dg_many (is := [2, 3]) (pg_tup g.calm (pgs_cons (pg_name (i := 2) sc22.nd rfl (.inl rfl)) (pgs_cons (pg_name (i := 3) sc22.nd rfl (.inl rfl)) pgs_nil)))) (ds_cons (ds_for (own1 := []) g (dr_r2 (deB (de_add (di_var (i := 2)) (deI de_int))) (deB (de_len (deB (de_var (i := 1))) (hm := Tx.n_len))) (hm := Tx.n_range)) (dg_one (pg_name (i := 4) sc22.nd rfl (.inl rfl))) (ds_cons (ds_for (own1 := []) g (dr_sq (dz_t (de_slL (di_var (i := 1)) (deB (de_add (di_var (i := 4)) (deI de_int)))))) (dg_one (pg_name (i := 5) sc22.nd rfl (.inl rfl))) (ds_cons (ds_if (dbT (deB (de_call g (fnat_lv A.f10) Tx.m10 (da_cons (de_var (i := 0)) (da_cons (de_var (i := 3)) (da_cons (de_ix (di_var (i := 1)) (deB (de_var (i := 4)))) (da_cons (de_var (i := 5)) da_nil))))))) (ds_cons (ds_ret (own1 := []) (de_lst (da_cons (de_var (i := 3)) (da_cons (de_ix (di_var (i := 1)) (deB (de_var (i := 4)))) (da_cons (de_var (i := 5)) da_nil))))) ds_nil) ds_nil) ds_nil)) ds_nil)) ds_nil)) (ds_cons (ds_ret (own1 := []) de_non) ds_nil)))
theorem o23 {n : Nat} (Tx : Txt K mg f0 f3 f4 f5 f7 f8 f10 f21 f22 f23 f25 f26 f27 f28 f12 f13 f14 f15 f16 f42 f17 f18 f19 f34 f35 f36 f45 f46 f20 d0 d3 d4 d5 d7 d8 d10 d21 d22 d23 d25 d26 d27 d28 d12 d13 d14 d15 d16 d42 d17 d18 d19 d34 d35 d36 d45 d46 d20 ca) (A : All P w K mg base ca n f0 f3 f4 f5 f7 f8 f10 f21 f22 f23 f25 f26 f27 f28 f12 f13 f14 f15 f16 f42 f17 f18 f19 f34 f35 f36 f45 f46 f20) : FnOk P w K mg base CX0 (n + 1) f23 d23 ["field", "points"] (spD ⟨K, ca, T.cn⟩ T (n + 1) 23) :=
  fn_okX (N := N23) (fn := ⟨2, 3, false, b23⟩) (own' := []) Tx.F23 sc23 rfl rfl rfl fun cdv A' outer s H E g =>
    ((ds_cons (ds_for (own1 := []) g (dr_sq (dz_t (de_call g (fnat_lv A.f5) Tx.m5 (da_cons (de_var (i := 0)) da_nil)))) (dg_one (pg_name (i := 2) sc23.nd rfl (.inl rfl))) (ds_cons (ds_if (dwT (dw_and (dt_cmp (or_nmem (room65 g.room)) os_nmem (deB (de_var (i := 2))) (deB (de_var (i := 1)))) (dw_and1 (dt_not (dbT (deB (de_call g (fnat_lv A.f21) Tx.m21 (da_cons (de_var (i := 0)) (da_cons (de_var (i := 1)) (da_cons (de_var (i := 2)) da_nil)))))))))) (ds_cons (ds_ret (own1 := []) (de_var (i := 2))) ds_nil) ds_nil) ds_nil)) (ds_cons (ds_ret (own1 := []) de_non) ds_nil)))
theorem o25 {n : Nat} (Tx : Txt K mg f0 f3 f4 f5 f7 f8 f10 f21 f22 f23 f25 f26 f27 f28 f12 f13 f14 f15 f16 f42 f17 f18 f19 f34 f35 f36 f45 f46 f20 d0 d3 d4 d5 d7 d8 d10 d21 d22 d23 d25 d26 d27 d28 d12 d13 d14 d15 d16 d42 d17 d18 d19 d34 d35 d36 d45 d46 d20 ca) (A : All P w K mg base ca n f0 f3 f4 f5 f7 f8 f10 f21 f22 f23 f25 f26 f27 f28 f12 f13 f14 f15 f16 f42 f17 f18 f19 f34 f35 f36 f45 f46 f20) : FnOk P w K mg base CX0 (n + 1) f25 d25 ["self", "field", "points"] (spD ⟨K, ca, T.cn⟩ T (n + 1) 25) :=
  fn_okX (N := N25) (fn := ⟨3, 3, false, b25⟩) (own' := []) Tx.F25 sc25 rfl rfl rfl fun cdv A' outer s H E g =>
    ((ds_cons (ds_ret (own1 := []) (de_cmp or_is os_is (deB (de_call g (fnat_lv A.f22) Tx.m22 (da_cons (de_var (i := 1)) (da_cons (de_var (i := 2)) da_nil)))) (deB de_non))) ds_nil))
theorem o26 {n : Nat} (Tx : Txt K mg f0 f3 f4 f5 f7 f8 f10 f21 f22 f23 f25 f26 f27 f28 f12 f13 f14 f15 f16 f42 f17 f18 f19 f34 f35 f36 f45 f46 f20 d0 d3 d4 d5 d7 d8 d10 d21 d22 d23 d25 d26 d27 d28 d12 d13 d14 d15 d16 d42 d17 d18 d19 d34 d35 d36 d45 d46 d20 ca) (A : All P w K mg base ca n f0 f3 f4 f5 f7 f8 f10 f21 f22 f23 f25 f26 f27 f28 f12 f13 f14 f15 f16 f42 f17 f18 f19 f34 f35 f36 f45 f46 f20) : FnOk P w K mg base CX0 (n + 1) f26 d26 ["self", "field", "points"] (spD ⟨K, ca, T.cn⟩ T (n + 1) 26) :=
  fn_okX (N := N26) (fn := ⟨3, 5, false, b26⟩) (own' := []) Tx.F26 sc26 rfl rfl rfl fun cdv A' outer s H E g =>
    ((ds_cons (ds_asg (own1 := []) (ps_set (i := 3) sc26.nd rfl (.inl rfl) (de_fld (de_var (i := 0)) (cfl_points Tx)))) (ds_cons (ds_if (dwT (dw_or (dt_cmp (op_neD g.room.units) os_ne (deB (de_len (deB (de_var (i := 3))) (hm := Tx.n_len))) (deB de_int)) (dw_or (dt_not (dbT (deB (de_call g (fnat_lv A.f8) Tx.m8 (da_cons (de_var (i := 1)) (da_cons (de_var (i := 3)) da_nil)))))) (dw_or1 (dt_not (dbT (deB (de_all g.calm (deB (de_comp g.calm sc26.nd (dr_sq (dz_f (di_var (i := 3)))) (blkOk_by (own := [("point", 4)]) (N := N26) (sc := defScope s26) (by decide +kernel)) rfl (fun _ _ _ _ _ => gbG g fun g => (dg_one (pg_name (i := 4) sc26.nd rfl (.inl rfl)))) (fun _ _ _ _ _ => gbE g fun g => (de_cmp (or_mem (room65 g.room)) os_mem (deB (de_var (i := 4))) (deB (de_var (i := 2))))))) (hm := Tx.n_all))))))))) (ds_cons (ds_ret (own1 := []) de_bl) ds_nil) ds_nil) (ds_cons (ds_ret (own1 := []) (de_call g (fnat_lv A.f10) Tx.m10 (da_cons (de_var (i := 1)) (da_cons (de_ix (di_var (i := 3)) (deB de_int)) (da_cons (de_ix (di_var (i := 3)) (deB de_int)) (da_cons (de_ix (di_var (i := 3)) (deB de_int)) da_nil)))))) ds_nil))))
theorem o27 {n : Nat} (Tx : Txt K mg f0 f3 f4 f5 f7 f8 f10 f21 f22 f23 f25 f26 f27 f28 f12 f13 f14 f15 f16 f42 f17 f18 f19 f34 f35 f36 f45 f46 f20 d0 d3 d4 d5 d7 d8 d10 d21 d22 d23 d25 d26 d27 d28 d12 d13 d14 d15 d16 d42 d17 d18 d19 d34 d35 d36 d45 d46 d20 ca) (A : All P w K mg base ca n f0 f3 f4 f5 f7 f8 f10 f21 f22 f23 f25 f26 f27 f28 f12 f13 f14 f15 f16 f42 f17 f18 f19 f34 f35 f36 f45 f46 f20) : FnOk P w K mg base CX0 (n + 1) f27 d27 ["self", "field", "points"] (spD ⟨K, ca, T.cn⟩ T (n + 1) 27) :=
  fn_okX (N := N27) (fn := ⟨3, 3, false, b27⟩) (own' := []) Tx.F27 sc27 rfl rfl rfl fun cdv A' outer s H E g =>
    ((ds_cons (ds_ret (own1 := []) (de_cmp or_is os_is (deB (de_call g (fnat_lv A.f23) Tx.m23 (da_cons (de_var (i := 1)) (da_cons (de_var (i := 2)) da_nil)))) (deB de_non))) ds_nil))
theorem o28 {n : Nat} (Tx : Txt K mg f0 f3 f4 f5 f7 f8 f10 f21 f22 f23 f25 f26 f27 f28 f12 f13 f14 f15 f16 f42 f17 f18 f19 f34 f35 f36 f45 f46 f20 d0 d3 d4 d5 d7 d8 d10 d21 d22 d23 d25 d26 d27 d28 d12 d13 d14 d15 d16 d42 d17 d18 d19 d34 d35 d36 d45 d46 d20 ca) (A : All P w K mg base ca n f0 f3 f4 f5 f7 f8 f10 f21 f22 f23 f25 f26 f27 f28 f12 f13 f14 f15 f16 f42 f17 f18 f19 f34 f35 f36 f45 f46 f20) : FnOk P w K mg base CX0 (n + 1) f28 d28 ["self", "field", "points"] (spD ⟨K, ca, T.cn⟩ T (n + 1) 28) :=
  fn_okX (N := N28) (fn := ⟨3, 3, false, b28⟩) (own' := []) Tx.F28 sc28 rfl rfl rfl fun cdv A' outer s H E g =>
    ((ds_cons (ds_if (dwT (dw_or (dt_not (dbT (deB (de_call g (fnat_lv A.f7) Tx.m7 (da_cons (de_var (i := 1)) (da_cons (de_fld (de_var (i := 0)) (cfl_point Tx)) da_nil)))))) (dw_or1 (dt_cmp (or_mem (room65 g.room)) os_mem (deB (de_fld (de_var (i := 0)) (cfl_point Tx))) (deB (de_var (i := 2))))))) (ds_cons (ds_ret (own1 := []) de_bl) ds_nil) ds_nil) (ds_cons (ds_ret (own1 := []) (de_not (deB (de_call g (fnat_lv A.f21) Tx.m21 (da_cons (de_var (i := 1)) (da_cons (de_var (i := 2)) (da_cons (de_fld (de_var (i := 0)) (cfl_point Tx)) da_nil))))))) ds_nil)))
theorem o12 {n : Nat} (Tx : Txt K mg f0 f3 f4 f5 f7 f8 f10 f21 f22 f23 f25 f26 f27 f28 f12 f13 f14 f15 f16 f42 f17 f18 f19 f34 f35 f36 f45 f46 f20 d0 d3 d4 d5 d7 d8 d10 d21 d22 d23 d25 d26 d27 d28 d12 d13 d14 d15 d16 d42 d17 d18 d19 d34 d35 d36 d45 d46 d20 ca) (A : All P w K mg base ca n f0 f3 f4 f5 f7 f8 f10 f21 f22 f23 f25 f26 f27 f28 f12 f13 f14 f15 f16 f42 f17 f18 f19 f34 f35 f36 f45 f46 f20) : FnOk P w K mg base CX0 (n + 1) f12 d12 ["_law_script", "_law_k"] (spD ⟨K, ca, T.cn⟩ T (n + 1) 12) :=
  fn_okX (N := N12) (fn := ⟨2, 2, false, b12⟩) (own' := []) Tx.F12 sc12 rfl rfl rfl fun cdv A' outer s H E g =>
    ((ds_cons (ds_if (dt_cmp (or_lt g.room.units0) os_lt (deB (de_var (i := 1))) (deB (de_len (deB (de_var (i := 0))) (hm := Tx.n_len)))) (ds_cons (ds_ret (own1 := []) (de_ix (di_var (i := 0)) (deB (de_var (i := 1))))) ds_nil) ds_nil) (ds_cons (ds_ret (own1 := []) de_int) ds_nil)))
theorem o13 {n : Nat} (Tx : Txt K mg f0 f3 f4 f5 f7 f8 f10 f21 f22 f23 f25 f26 f27 f28 f12 f13 f14 f15 f16 f42 f17 f18 f19 f34 f35 f36 f45 f46 f20 d0 d3 d4 d5 d7 d8 d10 d21 d22 d23 d25 d26 d27 d28 d12 d13 d14 d15 d16 d42 d17 d18 d19 d34 d35 d36 d45 d46 d20 ca) (A : All P w K mg base ca n f0 f3 f4 f5 f7 f8 f10 f21 f22 f23 f25 f26 f27 f28 f12 f13 f14 f15 f16 f42 f17 f18 f19 f34 f35 f36 f45 f46 f20) : FnOk P w K mg base CX0 (n + 1) f13 d13 ["_law_cell", "_law_k", "_law_many"] (spD ⟨K, ca, T.cn⟩ T (n + 1) 13) :=
  fn_okX (N := N13) (fn := ⟨3, 4, false, b13⟩) (own' := []) Tx.F13 sc13 rfl rfl rfl fun cdv A' outer s H E g =>
    ((ds_cons (ds_asg (own1 := []) (ps_set (i := 3) sc13.nd rfl (.inl rfl) (de_tup (da_cons de_int (da_cons de_int (da_cons de_int (da_cons de_int (da_cons de_int (da_cons de_int (da_cons de_int (da_cons de_int (da_cons de_int (da_cons de_int (da_cons de_int (da_cons de_int (da_cons de_int (da_cons de_int (da_cons de_int (da_cons de_int da_nil))))))))))))))))))) (ds_cons (ds_ret (own1 := []) (de_o2 op_modN os_mod (deB (de_o2 op_modN os_mod (deB (de_add (deI (de_o2 op_mul os_mul (deB (de_var (i := 0))) (deB de_int))) (deI (de_o2 op_mul os_mul (deB (de_var (i := 1))) (deB de_int))))) (deB (de_ix (di_var (i := 3)) (deB (de_o2 op_modN os_mod (deB (de_var (i := 1))) (deB de_int))))))) (deB (de_var (i := 2))))) ds_nil)))
theorem o14 {n : Nat} (Tx : Txt K mg f0 f3 f4 f5 f7 f8 f10 f21 f22 f23 f25 f26 f27 f28 f12 f13 f14 f15 f16 f42 f17 f18 f19 f34 f35 f36 f45 f46 f20 d0 d3 d4 d5 d7 d8 d10 d21 d22 d23 d25 d26 d27 d28 d12 d13 d14 d15 d16 d42 d17 d18 d19 d34 d35 d36 d45 d46 d20 ca) (A : All P w K mg base ca n f0 f3 f4 f5 f7 f8 f10 f21 f22 f23 f25 f26 f27 f28 f12 f13 f14 f15 f16 f42 f17 f18 f19 f34 f35 f36 f45 f46 f20) : FnOk P w K mg base CX0 (n + 1) f14 d14 ["_law_cell", "_law_turn"] (spD ⟨K, ca, T.cn⟩ T (n + 1) 14) :=
  fn_okX (N := N14) (fn := ⟨2, 4, false, b14⟩) (own' := []) Tx.F14 sc14 rfl rfl rfl fun cdv A' outer s H E g =>
    ((ds_cons (ds_if (dt_cmp op_ge os_ge (deB (de_var (i := 0))) (deB (de_o2 op_pow os_pow (deB de_int) (deB de_int)))) (ds_cons (ds_ret (own1 := []) (de_o2 op_shr os_shr (deB (de_o2 op_modN os_mod (deB (de_o2 op_sub os_sub (deB (de_var (i := 0))) (deB (de_o2 op_pow os_pow (deB de_int) (deB de_int))))) (deB (de_o2 op_pow os_pow (deB de_int) (deB de_int))))) (deB (de_o2 op_mul os_mul (deB de_int) (deB (de_var (i := 1))))))) ds_nil) ds_nil) (ds_cons (ds_asg (own1 := []) (ps_set (i := 2) sc14.nd rfl (.inl rfl) (de_o2 op_modN os_mod (deB (de_var (i := 0))) (deB (de_o2 op_pow os_pow (deB de_int) (deB de_int)))))) (ds_cons (ds_asg (own1 := []) (ps_set (i := 3) sc14.nd rfl (.inl rfl) (de_call g (fnat_lv A.f13) Tx.m13 (da_cons (de_o2 op_mul os_mul (deB (de_add (di_var (i := 2)) (deI (de_o2 op_mul os_mul (deB de_int) (deB (de_var (i := 1))))))) (deB (de_add (deI (de_add (di_var (i := 2)) (deI (de_o2 op_mul os_mul (deB de_int) (deB (de_var (i := 1))))))) (deI de_int)))) (da_cons (de_add (deI (de_o2 op_modN os_mod (deB (de_var (i := 1))) (deB de_int))) (deI de_int)) (da_cons de_int da_nil)))))) (ds_cons (ds_ret (own1 := []) (de_add (deI (de_o2 op_mul os_mul (deB (de_var (i := 3))) (deB de_int))) (deI (de_call g (fnat_lv A.f13) Tx.m13 (da_cons (de_add (deI (de_o2 op_mul os_mul (deB (de_add (di_var (i := 2)) (deI (de_o2 op_mul os_mul (deB de_int) (deB (de_var (i := 1))))))) (deB (de_add (di_var (i := 2)) (deI de_int))))) (deI (de_o2 op_mul os_mul (deB de_int) (deB (de_var (i := 1)))))) (da_cons (de_add (deI (de_o2 op_modN os_mod (deB (de_var (i := 1))) (deB de_int))) (deI de_int)) (da_cons de_int da_nil))))))) ds_nil)))))
theorem o15 {n : Nat} (Tx : Txt K mg f0 f3 f4 f5 f7 f8 f10 f21 f22 f23 f25 f26 f27 f28 f12 f13 f14 f15 f16 f42 f17 f18 f19 f34 f35 f36 f45 f46 f20 d0 d3 d4 d5 d7 d8 d10 d21 d22 d23 d25 d26 d27 d28 d12 d13 d14 d15 d16 d42 d17 d18 d19 d34 d35 d36 d45 d46 d20 ca) (A : All P w K mg base ca n f0 f3 f4 f5 f7 f8 f10 f21 f22 f23 f25 f26 f27 f28 f12 f13 f14 f15 f16 f42 f17 f18 f19 f34 f35 f36 f45 f46 f20) : FnOk P w K mg base CX0 (n + 1) f15 d15 ["_law_said", "_law_due"] (spD ⟨K, ca, T.cn⟩ T (n + 1) 15) :=
  fn_okX (N := N15) (fn := ⟨2, 2, false, b15⟩) (own' := []) Tx.F15 sc15 rfl rfl rfl fun cdv A' outer s H E g =>
    ((ds_cons (ds_ret (own1 := []) (de_and (deB (de_isi (t := .bool) (deB (de_var (i := 0))) PyProof.Rows.boot_bool (hm := Tx.n_isinstance) (hm2 := Tx.n_bool))) (de_one (de_cmp (op_eqD g.room.units) os_eq (deB (de_var (i := 0))) (deB (de_var (i := 1))))))) ds_nil))
theorem o16 {n : Nat} (Tx : Txt K mg f0 f3 f4 f5 f7 f8 f10 f21 f22 f23 f25 f26 f27 f28 f12 f13 f14 f15 f16 f42 f17 f18 f19 f34 f35 f36 f45 f46 f20 d0 d3 d4 d5 d7 d8 d10 d21 d22 d23 d25 d26 d27 d28 d12 d13 d14 d15 d16 d42 d17 d18 d19 d34 d35 d36 d45 d46 d20 ca) (A : All P w K mg base ca n f0 f3 f4 f5 f7 f8 f10 f21 f22 f23 f25 f26 f27 f28 f12 f13 f14 f15 f16 f42 f17 f18 f19 f34 f35 f36 f45 f46 f20) : FnOk P w K mg base CX0 (n + 1) f16 d16 ["_law_script", "_law_by"] (spD ⟨K, ca, T.cn⟩ T (n + 1) 16) :=
  fn_okX (N := N16) (fn := ⟨2, 5, false, b16⟩) (own' := []) Tx.F16 sc16 rfl rfl rfl fun cdv A' outer s H E g =>
    ((ds_cons (ds_asg (own1 := []) (ps_set (i := 2) sc16.nd rfl (.inl rfl) (de_call g (fnat_lv A.f12) Tx.m12 (da_cons (de_var (i := 0)) (da_cons (de_var (i := 1)) da_nil))))) (ds_cons (ds_par (own1 := []) false false (ps_par g.calm sc16.nd rfl rfl (by decide) rfl rfl (pa_cons (de_o2 op_modN os_mod (deB (de_call g (fnat_lv A.f14) Tx.m14 (da_cons (de_var (i := 2)) (da_cons de_int da_nil)))) (deB de_int)) (pa_cons (de_call g (fnat_lv A.f14) Tx.m14 (da_cons (de_var (i := 2)) (da_cons de_int da_nil))) pa_nil)) (by rfl))) (ds_cons (ds_if (dt_cmp (op_eqD g.room.units) os_eq (deB (de_var (i := 3))) (deB de_int)) (ds_cons (ds_ret (own1 := []) (de_tup (da_cons de_str (da_cons (de_add (deI de_int) (deI (de_o2 op_modN os_mod (deB (de_var (i := 4))) (deB de_int)))) da_nil)))) ds_nil) ds_nil) (ds_cons (ds_ret (own1 := []) (de_ite (dt_cmp (op_eqD g.room.units) os_eq (deB (de_var (i := 3))) (deB de_int)) (de_tup (da_cons de_str (da_cons (de_ix (deI (de_tup (da_cons de_int (da_cons de_int (da_cons de_int (da_cons de_int (da_cons de_int (da_cons de_int da_nil)))))))) (deB (de_o2 op_modN os_mod (deB (de_var (i := 4))) (deB de_int)))) da_nil))) (de_tup (da_cons de_str (da_cons (de_add (deI de_int) (deI (de_o2 op_modN os_mod (deB (de_var (i := 4))) (deB de_int)))) da_nil))))) ds_nil)))))
theorem o42 {n : Nat} (Tx : Txt K mg f0 f3 f4 f5 f7 f8 f10 f21 f22 f23 f25 f26 f27 f28 f12 f13 f14 f15 f16 f42 f17 f18 f19 f34 f35 f36 f45 f46 f20 d0 d3 d4 d5 d7 d8 d10 d21 d22 d23 d25 d26 d27 d28 d12 d13 d14 d15 d16 d42 d17 d18 d19 d34 d35 d36 d45 d46 d20 ca) (A : All P w K mg base ca n f0 f3 f4 f5 f7 f8 f10 f21 f22 f23 f25 f26 f27 f28 f12 f13 f14 f15 f16 f42 f17 f18 f19 f34 f35 f36 f45 f46 f20) : FnOk P w K mg base CX0 (n + 1) f42 d42 ["_law_script", "_law_by"] (spD ⟨K, ca, T.cn⟩ T (n + 1) 42) :=
  fn_okX (N := N42) (fn := ⟨2, 3, false, b42⟩) (own' := []) Tx.F42 sc42 rfl rfl rfl fun cdv A' outer s H E g =>
    ((ds_cons (ds_asg (own1 := []) (ps_set (i := 2) sc42.nd rfl (.inl rfl) (de_lst (da_cons (de_tup (da_cons de_str (da_cons de_int da_nil))) (da_cons (de_tup (da_cons de_str (da_cons de_int da_nil))) (da_cons (de_tup (da_cons de_str (da_cons de_int da_nil))) (da_cons (de_tup (da_cons de_str (da_cons de_int da_nil))) (da_cons (de_tup (da_cons de_str (da_cons de_int da_nil))) (da_cons (de_tup (da_cons de_str (da_cons de_int da_nil))) (da_cons (de_tup (da_cons de_str (da_cons de_int da_nil))) da_nil)))))))))) (ds_cons (ds_ret (own1 := []) (de_ix (di_var (i := 2)) (deB (de_o2 op_modN os_mod (deB (de_call g (fnat_lv A.f14) Tx.m14 (da_cons (de_call g (fnat_lv A.f12) Tx.m12 (da_cons (de_var (i := 0)) (da_cons (de_var (i := 1)) da_nil))) (da_cons de_int da_nil)))) (deB de_int))))) ds_nil)))
theorem o17 {n : Nat} (Tx : Txt K mg f0 f3 f4 f5 f7 f8 f10 f21 f22 f23 f25 f26 f27 f28 f12 f13 f14 f15 f16 f42 f17 f18 f19 f34 f35 f36 f45 f46 f20 d0 d3 d4 d5 d7 d8 d10 d21 d22 d23 d25 d26 d27 d28 d12 d13 d14 d15 d16 d42 d17 d18 d19 d34 d35 d36 d45 d46 d20 ca) (A : All P w K mg base ca n f0 f3 f4 f5 f7 f8 f10 f21 f22 f23 f25 f26 f27 f28 f12 f13 f14 f15 f16 f42 f17 f18 f19 f34 f35 f36 f45 f46 f20) : FnOk P w K mg base CX0 (n + 1) f17 d17 ["_law_field_here"] (spD ⟨K, ca, T.cn⟩ T (n + 1) 17) :=
  fn_okX (N := N17) (fn := ⟨1, 7, true, b17⟩) (own' := []) Tx.F17 sc17 rfl rfl rfl fun cdv A' outer s H E g =>
    ((ds_cons (ds_unp (own1 := []) (ps_asg (de_ite (dt_cmp (op_eqD g.room.units) os_eq (deB (de_ix (di_var (i := 0)) (deB de_int))) (deB de_str)) (de_tup (da_cons (de_ix (di_var (i := 0)) (deB de_int)) (da_cons de_int da_nil))) (de_tup (da_cons de_int (da_cons (de_ix (di_var (i := 0)) (deB de_int)) da_nil)))) (dg_many (is := [3, 4]) (pg_tup g.calm (pgs_cons (pg_name (i := 3) sc17.nd rfl (.inl rfl)) (pgs_cons (pg_name (i := 4) sc17.nd rfl (.inl rfl)) pgs_nil)))))) (ds_cons (ds_asgO (own1 := []) (ps_set (i := 1) sc17.nd rfl (.inl rfl) (de_lst da_nil))) (ds_cons (ds_for (own1 := [1]) g (dr_r1 (deB (de_call g (fnat_lv A.f18) Tx.m18 (da_cons (de_var (i := 4)) (da_cons (de_var (i := 3)) da_nil)))) (hm := Tx.n_range)) (dg_one (pg_name (i := 2) sc17.nd rfl (.inl rfl))) (ds_cons (ds_asg (own1 := [1]) (ps_set (i := 5) sc17.nd rfl (.inl rfl) (de_lst da_nil))) (ds_cons (ds_for (own1 := [1]) g (dr_r1 (deB (de_var (i := 3))) (hm := Tx.n_range)) (dg_one (pg_name (i := 6) sc17.nd rfl (.inl rfl))) (ds_cons (ds_asg (own1 := [1]) (ps_set (i := 5) sc17.nd rfl (.inl rfl) (de_add (deI (de_lst (da_cons (de_o2 op_modN os_mod (deB (de_var (i := 2))) (deB (de_var (i := 4)))) da_nil))) (di_var (i := 5))))) (ds_cons (ds_asg (own1 := [1]) (ps_set (i := 2) sc17.nd rfl (.inl rfl) (de_o2 op_fdivN os_fdiv (deB (de_var (i := 2))) (deB (de_var (i := 4)))))) ds_nil))) (ds_cons (ds_app (own1 := [1]) (ps_expr (pe_bm PySem.F.plainAttrs_list PySem.F.slot_list_append PySem.F.type_list_append mt_append (pv 1) (pa_cons (deP (de_tuple (di_var (i := 5)) (hm := Tx.n_tuple))) pa_nil)))) ds_nil)))) (ds_cons (ds_retO (own1 := []) (i := 1) (ps_ret (pv 1))) ds_nil)))))
theorem o18 {n : Nat} (Tx : Txt K mg f0 f3 f4 f5 f7 f8 f10 f21 f22 f23 f25 f26 f27 f28 f12 f13 f14 f15 f16 f42 f17 f18 f19 f34 f35 f36 f45 f46 f20 d0 d3 d4 d5 d7 d8 d10 d21 d22 d23 d25 d26 d27 d28 d12 d13 d14 d15 d16 d42 d17 d18 d19 d34 d35 d36 d45 d46 d20 ca) (A : All P w K mg base ca n f0 f3 f4 f5 f7 f8 f10 f21 f22 f23 f25 f26 f27 f28 f12 f13 f14 f15 f16 f42 f17 f18 f19 f34 f35 f36 f45 f46 f20) : FnOk P w K mg base CX0 (n + 1) f18 d18 ["_law_number", "_law_often"] (spD ⟨K, ca, T.cn⟩ T (n + 1) 18) :=
  fn_okX (N := N18) (fn := ⟨2, 4, false, b18⟩) (own' := []) Tx.F18 sc18 rfl rfl rfl fun cdv A' outer s H E g =>
    ((ds_cons (ds_asgO (own1 := []) (ps_set (i := 2) sc18.nd rfl (.inl rfl) de_int)) (ds_cons (ds_for (own1 := []) g (dr_r1 (deB (de_var (i := 1))) (hm := Tx.n_range)) (dg_one (pg_name (i := 3) sc18.nd rfl (.inl rfl))) (ds_cons (ds_asg (own1 := []) (ps_set (i := 2) sc18.nd rfl (.inl rfl) (de_o2 op_mul os_mul (deB (de_var (i := 2))) (deB (de_var (i := 0)))))) ds_nil)) (ds_cons (ds_ret (own1 := []) (de_var (i := 2))) ds_nil))))
theorem o19 {n : Nat} (Tx : Txt K mg f0 f3 f4 f5 f7 f8 f10 f21 f22 f23 f25 f26 f27 f28 f12 f13 f14 f15 f16 f42 f17 f18 f19 f34 f35 f36 f45 f46 f20 d0 d3 d4 d5 d7 d8 d10 d21 d22 d23 d25 d26 d27 d28 d12 d13 d14 d15 d16 d42 d17 d18 d19 d34 d35 d36 d45 d46 d20 ca) (A : All P w K mg base ca n f0 f3 f4 f5 f7 f8 f10 f21 f22 f23 f25 f26 f27 f28 f12 f13 f14 f15 f16 f42 f17 f18 f19 f34 f35 f36 f45 f46 f20) : FnOk P w K mg base CX0 (n + 1) f19 d19 ["_law_field_here", "_law_one", "_law_two", "_law_three"] (spD ⟨K, ca, T.cn⟩ T (n + 1) 19) :=
  fn_okX (N := N19) (fn := ⟨4, 7, false, b19⟩) (own' := []) Tx.F19 sc19 rfl rfl rfl fun cdv A' outer s H E g =>
    ((ds_cons (ds_if (dt_cmp (op_eqD g.room.units) os_eq (deB (de_ix (di_var (i := 0)) (deB de_int))) (deB de_str)) (ds_cons (ds_ret (own1 := []) (de_all g.calm (deB (de_comp g.calm sc19.nd (dr_r1 (deB (de_len (deB (de_var (i := 1))) (hm := Tx.n_len))) (hm := Tx.n_range)) (blkOk_by (own := [("_law_at", 6)]) (N := N19) (sc := defScope s19) (by decide +kernel)) rfl (fun _ _ _ _ _ => gbG g fun g => (dg_one (pg_name (i := 6) sc19.nd rfl (.inl rfl)))) (fun _ _ _ _ _ => gbE g fun g => (de_cmp (op_eqD g.room.units) os_eq (deB (de_o2 op_modN os_mod (deB (de_add (deI (de_add (deI (de_ix (di_var (i := 1)) (deB (de_var (i := 6))))) (deI (de_ix (di_var (i := 2)) (deB (de_var (i := 6))))))) (deI (de_ix (di_var (i := 3)) (deB (de_var (i := 6))))))) (deB de_int))) (deB de_int))))) (hm := Tx.n_all))) ds_nil) ds_nil) (ds_cons (ds_asg (own1 := []) (ps_set (i := 4) sc19.nd rfl (.inl rfl) (de_o2 op_mul os_mul (deB (de_o2 op_sub os_sub (deB (de_ix (di_var (i := 2)) (deB de_int))) (deB (de_ix (di_var (i := 1)) (deB de_int))))) (deB (de_o2 op_sub os_sub (deB (de_ix (di_var (i := 3)) (deB de_int))) (deB (de_ix (di_var (i := 1)) (deB de_int)))))))) (ds_cons (ds_asg (own1 := []) (ps_set (i := 5) sc19.nd rfl (.inl rfl) (de_o2 op_sub os_sub (deB (de_var (i := 4))) (deB (de_o2 op_mul os_mul (deB (de_o2 op_sub os_sub (deB (de_ix (di_var (i := 2)) (deB de_int))) (deB (de_ix (di_var (i := 1)) (deB de_int))))) (deB (de_o2 op_sub os_sub (deB (de_ix (di_var (i := 3)) (deB de_int))) (deB (de_ix (di_var (i := 1)) (deB de_int)))))))))) (ds_cons (ds_ret (own1 := []) (de_or (deB (de_cmp (op_eqD g.room.units) os_eq (deB (de_var (i := 5))) (deB de_int))) (de_one (de_and (deB (de_cmp (op_eqD g.room.units) os_eq (deB (de_ix (di_var (i := 0)) (deB de_int))) (deB de_str))) (de_one (de_cmp (op_eqD g.room.units) os_eq (deB (de_o2 op_modN os_mod (deB (de_var (i := 5))) (deB (de_ix (di_var (i := 0)) (deB de_int))))) (deB de_int))))))) ds_nil)))))
theorem o34 {n : Nat} (Tx : Txt K mg f0 f3 f4 f5 f7 f8 f10 f21 f22 f23 f25 f26 f27 f28 f12 f13 f14 f15 f16 f42 f17 f18 f19 f34 f35 f36 f45 f46 f20 d0 d3 d4 d5 d7 d8 d10 d21 d22 d23 d25 d26 d27 d28 d12 d13 d14 d15 d16 d42 d17 d18 d19 d34 d35 d36 d45 d46 d20 ca) (A : All P w K mg base ca n f0 f3 f4 f5 f7 f8 f10 f21 f22 f23 f25 f26 f27 f28 f12 f13 f14 f15 f16 f42 f17 f18 f19 f34 f35 f36 f45 f46 f20) : FnOk P w K mg base CX0 (n + 1) f34 d34 ["_law_field_here", "_law_points_here"] (spD ⟨K, ca, T.cn⟩ T (n + 1) 34) :=
  fn_okX (N := N34) (fn := ⟨2, 7, true, b34⟩) (own' := []) Tx.F34 sc34 rfl rfl rfl fun cdv A' outer s H E g =>
    ((ds_cons (ds_asgO (own1 := []) (ps_set (i := 2) sc34.nd rfl (.inl rfl) (de_lst da_nil))) (ds_cons (ds_for (own1 := [2]) g (dr_en (dz_t (de_var (i := 1))) (hm := Tx.n_enumerate)) (dg_many (is := [3, 4]) (pg_tup g.calm (pgs_cons (pg_name (i := 3) sc34.nd rfl (.inl rfl)) (pgs_cons (pg_name (i := 4) sc34.nd rfl (.inl rfl)) pgs_nil)))) (ds_cons (ds_for (own1 := [2]) g (dr_r2 (deB (de_add (di_var (i := 3)) (deI de_int))) (deB (de_len (deB (de_var (i := 1))) (hm := Tx.n_len))) (hm := Tx.n_range)) (dg_one (pg_name (i := 5) sc34.nd rfl (.inl rfl))) (ds_cons (ds_for (own1 := [2]) g (dr_sq (dz_t (de_slL (di_var (i := 1)) (deB (de_add (di_var (i := 5)) (deI de_int)))))) (dg_one (pg_name (i := 6) sc34.nd rfl (.inl rfl))) (ds_cons (ds_if (dbT (deB (de_call g (fnat_lv A.f19) Tx.m19 (da_cons (de_var (i := 0)) (da_cons (de_var (i := 4)) (da_cons (de_ix (di_var (i := 1)) (deB (de_var (i := 5)))) (da_cons (de_var (i := 6)) da_nil))))))) (ds_cons (ds_app (own1 := [2]) (ps_expr (pe_bm PySem.F.plainAttrs_list PySem.F.slot_list_append PySem.F.type_list_append mt_append (pv 2) (pa_cons (deP (de_lst (da_cons (de_var (i := 4)) (da_cons (de_ix (di_var (i := 1)) (deB (de_var (i := 5)))) (da_cons (de_var (i := 6)) da_nil))))) pa_nil)))) ds_nil) ds_nil) ds_nil)) ds_nil)) ds_nil)) (ds_cons (ds_retO (own1 := []) (i := 2) (ps_ret (pv 2))) ds_nil))))
theorem o35 {n : Nat} (Tx : Txt K mg f0 f3 f4 f5 f7 f8 f10 f21 f22 f23 f25 f26 f27 f28 f12 f13 f14 f15 f16 f42 f17 f18 f19 f34 f35 f36 f45 f46 f20 d0 d3 d4 d5 d7 d8 d10 d21 d22 d23 d25 d26 d27 d28 d12 d13 d14 d15 d16 d42 d17 d18 d19 d34 d35 d36 d45 d46 d20 ca) (A : All P w K mg base ca n f0 f3 f4 f5 f7 f8 f10 f21 f22 f23 f25 f26 f27 f28 f12 f13 f14 f15 f16 f42 f17 f18 f19 f34 f35 f36 f45 f46 f20) : FnOk P w K mg base CX0 (n + 1) f35 d35 ["_law_script", "_law_by", "_law_field_here", "_law_limit"] (spD ⟨K, ca, T.cn⟩ T (n + 1) 35) :=
  fn_okX (N := N35) (fn := ⟨4, 8, true, b35⟩) (own' := []) Tx.F35 sc35 rfl rfl rfl fun cdv A' outer s H E g =>
    ((ds_cons (ds_par (own1 := []) false true (ps_par g.calm sc35.nd rfl rfl (by decide) rfl rfl (pa_cons (de_call g (fnat_lv A.f17) Tx.m17 (da_cons (de_var (i := 2)) da_nil)) (pa_cons (de_lst da_nil) pa_nil)) (by rfl))) (ds_cons (ds_for (own1 := [6]) g (dr_r1 (deB (de_o2 op_modN os_mod (deB (de_call g (fnat_lv A.f14) Tx.m14 (da_cons (de_call g (fnat_lv A.f12) Tx.m12 (da_cons (de_var (i := 0)) (da_cons (de_var (i := 1)) da_nil))) (da_cons de_int da_nil)))) (deB (de_add (di_var (i := 3)) (deI de_int))))) (hm := Tx.n_range)) (dg_one (pg_name (i := 4) sc35.nd rfl (.inl rfl))) (ds_cons (ds_asg (own1 := [6]) (ps_set (i := 7) sc35.nd rfl (.inl rfl) (de_o2 op_fdivN os_fdiv (deB (de_call g (fnat_lv A.f14) Tx.m14 (da_cons (de_add (deI (de_call g (fnat_lv A.f12) Tx.m12 (da_cons (de_var (i := 0)) (da_cons (de_add (di_var (i := 1)) (deI (de_o2 op_modN os_mod (deB (de_var (i := 4))) (deB de_int)))) da_nil)))) (deI (de_o2 op_mul os_mul (deB de_int) (deB (de_var (i := 4)))))) (da_cons (de_add (deI de_int) (deI (de_o2 op_modN os_mod (deB (de_var (i := 4))) (deB de_int)))) da_nil)))) (deB de_int)))) (ds_cons (ds_app (own1 := [6]) (ps_expr (pe_bm PySem.F.plainAttrs_list PySem.F.slot_list_append PySem.F.type_list_append mt_append (pv 6) (pa_cons (deP (de_ix (di_var (i := 5)) (deB (de_o2 op_modN os_mod (deB (de_var (i := 7))) (deB (de_len (deB (de_var (i := 5))) (hm := Tx.n_len))))))) pa_nil)))) ds_nil))) (ds_cons (ds_ret (own1 := []) (de_ssort g.calm g.room.units (di_var (i := 6)) (hm := Tx.n_sorted) (hm2 := Tx.n_set))) ds_nil))))
theorem o36 {n : Nat} (Tx : Txt K mg f0 f3 f4 f5 f7 f8 f10 f21 f22 f23 f25 f26 f27 f28 f12 f13 f14 f15 f16 f42 f17 f18 f19 f34 f35 f36 f45 f46 f20 d0 d3 d4 d5 d7 d8 d10 d21 d22 d23 d25 d26 d27 d28 d12 d13 d14 d15 d16 d42 d17 d18 d19 d34 d35 d36 d45 d46 d20 ca) (A : All P w K mg base ca n f0 f3 f4 f5 f7 f8 f10 f21 f22 f23 f25 f26 f27 f28 f12 f13 f14 f15 f16 f42 f17 f18 f19 f34 f35 f36 f45 f46 f20) : FnOk P w K mg base CX0 (n + 1) f36 d36 ["_law_script", "_law_by", "_law_field_here", "_law_limit"] (spD ⟨K, ca, T.cn⟩ T (n + 1) 36) :=
  fn_okX (N := N36) (fn := ⟨4, 6, true, b36⟩) (own' := []) Tx.F36 sc36 rfl rfl rfl fun cdv A' outer s H E g =>
    ((ds_cons (ds_asgO (own1 := []) (ps_set (i := 4) sc36.nd rfl (.inl rfl) (de_lst da_nil))) (ds_cons (ds_for (own1 := [4]) g (dr_sq (dz_t (de_call g (fnat_lv A.f35) Tx.m35 (da_cons (de_var (i := 0)) (da_cons (de_var (i := 1)) (da_cons (de_var (i := 2)) (da_cons (de_var (i := 3)) da_nil))))))) (dg_one (pg_name (i := 5) sc36.nd rfl (.inl rfl))) (ds_cons (ds_if (dt_cmp (op_eqD g.room.units) os_eq (deB (de_call g (fnat_lv A.f34) Tx.m34 (da_cons (de_var (i := 2)) (da_cons (de_add (di_var (i := 4)) (deI (de_lst (da_cons (de_var (i := 5)) da_nil)))) da_nil)))) (deB (de_lst da_nil))) (ds_cons (ds_app (own1 := [4]) (ps_expr (pe_bm PySem.F.plainAttrs_list PySem.F.slot_list_append PySem.F.type_list_append mt_append (pv 4) (pa_cons (deP (de_var (i := 5))) pa_nil)))) ds_nil) ds_nil) ds_nil)) (ds_cons (ds_retO (own1 := []) (i := 4) (ps_ret (pv 4))) ds_nil))))
theorem o45 {n : Nat} (Tx : Txt K mg f0 f3 f4 f5 f7 f8 f10 f21 f22 f23 f25 f26 f27 f28 f12 f13 f14 f15 f16 f42 f17 f18 f19 f34 f35 f36 f45 f46 f20 d0 d3 d4 d5 d7 d8 d10 d21 d22 d23 d25 d26 d27 d28 d12 d13 d14 d15 d16 d42 d17 d18 d19 d34 d35 d36 d45 d46 d20 ca) (A : All P w K mg base ca n f0 f3 f4 f5 f7 f8 f10 f21 f22 f23 f25 f26 f27 f28 f12 f13 f14 f15 f16 f42 f17 f18 f19 f34 f35 f36 f45 f46 f20) : FnOk P w K mg base CX0 (n + 1) f45 d45 ["_law_field_here", "_law_points_here", "_law_three"] (spD ⟨K, ca, T.cn⟩ T (n + 1) 45) :=
  fn_okX (N := N45) (fn := ⟨3, 6, false, b45⟩) (own' := []) Tx.F45 sc45 rfl rfl rfl fun cdv A' outer s H E g =>
    ((ds_cons (ds_asgO (own1 := []) (ps_set (i := 3) sc45.nd rfl (.inl rfl) (de_list (di_var (i := 2)) (hm := Tx.n_list)))) (ds_cons (ds_asg (own1 := [3]) (ps_set (i := 4) sc45.nd rfl (.inl rfl) (de_mk g (cmk2 Tx ⟨rfl, rfl, rfl, rfl, rfl⟩) Tx.mc2 (dai_cons (di_var (i := 3)) dai_nil)))) (ds_cons (ds_app (own1 := [3]) (ps_expr (pe_bm PySem.F.plainAttrs_list PySem.F.slot_list_append PySem.F.type_list_append mt_append (pv 3) (pa_cons (deP (de_tup (da_cons de_int (da_cons de_int da_nil)))) pa_nil)))) (ds_cons (ds_asg (own1 := [3]) (ps_set (i := 5) sc45.nd rfl (.inl rfl) (de_cmp (or_mem (room65 g.room)) os_mem (deB (de_var (i := 2))) (deB (de_call g (fnat_lv A.f34) Tx.m34 (da_cons (de_var (i := 0)) (da_cons (de_var (i := 1)) da_nil))))))) (ds_cons (ds_ret (own1 := []) (de_and (deB (de_cmp (op_eqD g.room.units) os_eq (deB (de_fld (de_var (i := 4)) (cfl_points Tx))) (deB (de_var (i := 2))))) (de_one (de_call g (fnat_lv A.f15) Tx.m15 (da_cons (de_shows g (de_var (i := 4)) (csh Tx A) (da_cons (de_var (i := 0)) (da_cons (de_var (i := 1)) da_nil))) (da_cons (de_var (i := 5)) da_nil)))))) ds_nil))))))
theorem o46 {n : Nat} (Tx : Txt K mg f0 f3 f4 f5 f7 f8 f10 f21 f22 f23 f25 f26 f27 f28 f12 f13 f14 f15 f16 f42 f17 f18 f19 f34 f35 f36 f45 f46 f20 d0 d3 d4 d5 d7 d8 d10 d21 d22 d23 d25 d26 d27 d28 d12 d13 d14 d15 d16 d42 d17 d18 d19 d34 d35 d36 d45 d46 d20 ca) (A : All P w K mg base ca n f0 f3 f4 f5 f7 f8 f10 f21 f22 f23 f25 f26 f27 f28 f12 f13 f14 f15 f16 f42 f17 f18 f19 f34 f35 f36 f45 f46 f20) : FnOk P w K mg base CX0 (n + 1) f46 d46 ["_law_field_here", "_law_points_here", "_law_point"] (spD ⟨K, ca, T.cn⟩ T (n + 1) 46) :=
  fn_okX (N := N46) (fn := ⟨3, 4, false, b46⟩) (own' := []) Tx.F46 sc46 rfl rfl rfl fun cdv A' outer s H E g =>
    ((ds_cons (ds_asg (own1 := []) (ps_set (i := 3) sc46.nd rfl (.inl rfl) (de_and (deB (de_cmp (or_mem (room65 g.room)) os_mem (deB (de_var (i := 2))) (deB (de_call g (fnat_lv A.f17) Tx.m17 (da_cons (de_var (i := 0)) da_nil))))) (de_one (de_cmp (or_nmem (room65 g.room)) os_nmem (deB (de_var (i := 2))) (deB (de_var (i := 1)))))))) (ds_cons (ds_if (dbT (deB (de_var (i := 3)))) (ds_cons (ds_asg (own1 := []) (ps_set (i := 3) sc46.nd rfl (.inl rfl) (de_cmp (op_eqD g.room.units) os_eq (deB (de_call g (fnat_lv A.f34) Tx.m34 (da_cons (de_var (i := 0)) (da_cons (de_sort (deI (de_add (di_var (i := 1)) (deI (de_lst (da_cons (de_var (i := 2)) da_nil))))) (hm := Tx.n_sorted)) da_nil)))) (deB (de_lst da_nil))))) ds_nil) ds_nil) (ds_cons (ds_ret (own1 := []) (de_and (deB (de_cmp (op_eqD g.room.units) os_eq (deB (de_fld (de_mk g (cmk4 Tx ⟨rfl, rfl, rfl, rfl, rfl⟩) Tx.mc4 (dai_cons (di_var (i := 2)) dai_nil)) (cfl_point Tx))) (deB (de_var (i := 2))))) (de_one (de_call g (fnat_lv A.f15) Tx.m15 (da_cons (de_shows g (de_mk g (cmk4 Tx ⟨rfl, rfl, rfl, rfl, rfl⟩) Tx.mc4 (dai_cons (di_var (i := 2)) dai_nil)) (csh Tx A) (da_cons (de_var (i := 0)) (da_cons (de_var (i := 1)) da_nil))) (da_cons (de_var (i := 3)) da_nil)))))) ds_nil))))
theorem o20 {n : Nat} (Tx : Txt K mg f0 f3 f4 f5 f7 f8 f10 f21 f22 f23 f25 f26 f27 f28 f12 f13 f14 f15 f16 f42 f17 f18 f19 f34 f35 f36 f45 f46 f20 d0 d3 d4 d5 d7 d8 d10 d21 d22 d23 d25 d26 d27 d28 d12 d13 d14 d15 d16 d42 d17 d18 d19 d34 d35 d36 d45 d46 d20 ca) (A : All P w K mg base ca n f0 f3 f4 f5 f7 f8 f10 f21 f22 f23 f25 f26 f27 f28 f12 f13 f14 f15 f16 f42 f17 f18 f19 f34 f35 f36 f45 f46 f20) : FnOk P w K mg base CX0 (n + 1) f20 d20 ["_law_script"] (spD ⟨K, ca, T.cn⟩ T (n + 1) 20) :=
  fn_okX (N := N20) (fn := ⟨1, 12, false, b20⟩) (own' := []) Tx.F20 sc20 rfl rfl rfl fun cdv A' outer s H E g =>
    ((ds_cons (ds_asg (own1 := []) (ps_set (i := 0) sc20.nd rfl (.inl rfl) (de_slH (di_var (i := 0)) (deB de_int)))) (ds_cons (ds_for (own1 := []) g (dr_r2 (deB de_int) (deB (de_max2 g.calm (deB de_int) (deB (de_min2 g.calm (deB de_int) (deB (de_len (deB (de_var (i := 0))) (hm := Tx.n_len))) (hm := Tx.n_min))) (hm := Tx.n_max))) (hm := Tx.n_range)) (dg_one (pg_name (i := 1) sc20.nd rfl (.inl rfl))) (ds_cons (ds_asg (own1 := []) (ps_set (i := 2) sc20.nd rfl (.inr rfl) (de_call g (fnat_lv A.f16) Tx.m16 (da_cons (de_var (i := 0)) (da_cons (de_var (i := 1)) da_nil))))) (ds_cons (ds_if (dt_cmp op_gt os_gt (deB (de_len (deB (de_call g (fnat_lv A.f17) Tx.m17 (da_cons (de_var (i := 2)) da_nil))) (hm := Tx.n_len))) (deB de_int)) (ds_cons (ds_asg (own1 := []) (ps_set (i := 2) sc20.nd rfl (.inr rfl) (de_call g (fnat_lv A.f42) Tx.m42 (da_cons (de_var (i := 0)) (da_cons (de_var (i := 1)) da_nil))))) ds_nil) ds_nil) (ds_cons (ds_par (own1 := []) false false (ps_par g.calm sc20.nd rfl rfl (by decide) rfl rfl (pa_cons (de_call g (fnat_lv A.f17) Tx.m17 (da_cons (de_var (i := 2)) da_nil)) (pa_cons (de_call g (fnat_lv A.f35) Tx.m35 (da_cons (de_var (i := 0)) (da_cons (de_var (i := 1)) (da_cons (de_var (i := 2)) (da_cons de_int da_nil))))) pa_nil)) (by rfl))) (ds_cons (ds_asg (own1 := []) (ps_set (i := 3) sc20.nd rfl (.inl rfl) (de_slH (deI (de_call g (fnat_lv A.f34) Tx.m34 (da_cons (de_var (i := 2)) (da_cons (de_var (i := 11)) da_nil)))) (deB de_int)))) (ds_cons (ds_asg (own1 := []) (ps_set (i := 4) sc20.nd rfl (.inl rfl) (de_lst (da_cons (de_slH (di_var (i := 11)) (deB de_int)) (da_cons (de_slH (di_var (i := 10)) (deB de_int)) (da_cons (de_rep (deI (de_lst (da_cons (de_ix (di_var (i := 10)) (deB de_int)) da_nil))) (deB de_int)) (da_cons (de_lst (da_cons (de_tup (da_cons de_int (da_cons de_int da_nil))) (da_cons (de_tup (da_cons de_int (da_cons de_int da_nil))) (da_cons (de_tup (da_cons de_int (da_cons de_int da_nil))) da_nil)))) (da_cons (de_lst (da_cons (de_tup da_nil) (da_cons (de_tup da_nil) (da_cons (de_tup da_nil) da_nil)))) (da_cons (de_lst da_nil) da_nil))))))))) (ds_cons (ds_for (own1 := []) g (dr_sq (dz_t (de_var (i := 3)))) (dg_one (pg_name (i := 5) sc20.nd rfl (.inl rfl))) (ds_cons (ds_asg (own1 := []) (ps_set (i := 4) sc20.nd rfl (.inl rfl) (de_add (di_var (i := 4)) (deI (de_lst (da_cons (de_var (i := 5)) (da_cons (de_rev (di_var (i := 5))) (da_cons (de_slH (di_var (i := 5)) (deB de_int)) (da_cons (de_add (di_var (i := 5)) (deI (de_slH (di_var (i := 5)) (deB de_int)))) da_nil))))))))) ds_nil)) (ds_cons (ds_for (own1 := []) g (dr_sq (dz_t (de_var (i := 4)))) (dg_one (pg_name (i := 6) sc20.nd rfl (.inl rfl))) (ds_cons (ds_if (dt_not (dbT (deB (de_call g (fnat_lv A.f45) Tx.m45 (da_cons (de_var (i := 2)) (da_cons (de_var (i := 11)) (da_cons (de_var (i := 6)) da_nil))))))) (ds_cons (ds_ret (own1 := []) de_bl) ds_nil) ds_nil) ds_nil)) (ds_cons (ds_if (dt_not (dbT (deB (de_call g (fnat_lv A.f15) Tx.m15 (da_cons (de_shows g (de_mk0 g (cmk1 Tx ⟨rfl, rfl⟩) Tx.mc1) (csh Tx A) (da_cons (de_var (i := 2)) (da_cons (de_var (i := 11)) da_nil))) (da_cons (de_cmp (op_eqD g.room.units) os_eq (deB (de_var (i := 3))) (deB (de_lst da_nil))) da_nil)))))) (ds_cons (ds_ret (own1 := []) de_bl) ds_nil) ds_nil) (ds_cons (ds_asg (own1 := []) (ps_set (i := 7) sc20.nd rfl (.inr rfl) (de_call g (fnat_lv A.f36) Tx.m36 (da_cons (de_var (i := 0)) (da_cons (de_add (di_var (i := 1)) (deI de_int)) (da_cons (de_var (i := 2)) (da_cons de_int da_nil))))))) (ds_cons (ds_asg (own1 := []) (ps_set (i := 4) sc20.nd rfl (.inl rfl) (de_add (deI (de_add (deI (de_add (deI (de_slH (di_var (i := 10)) (deB de_int))) (deI (de_slL (di_var (i := 10)) (deB (de_neg (deB de_int))))))) (deI (de_slH (di_var (i := 7)) (deB de_int))))) (deI (de_lst (da_cons (de_tup da_nil) (da_cons (de_tup (da_cons de_int da_nil)) (da_cons (de_tup (da_cons (de_neg (deB de_int)) (da_cons de_int da_nil))) (da_cons (de_tup (da_cons de_int (da_cons (de_o2 op_pow os_pow (deB de_int) (deB de_int)) da_nil))) (da_cons (de_tup (da_cons de_int (da_cons de_int (da_cons de_int (da_cons de_int (da_cons de_int da_nil)))))) da_nil)))))))))) (ds_cons (ds_if (dt_not (dbT (deB (de_all g.calm (deB (de_comp g.calm sc20.nd (dr_sq (dz_f (di_var (i := 4)))) (blkOk_by (own := [("_law_point", 9)]) (N := N20) (sc := defScope s20) (by decide +kernel)) rfl (fun _ _ _ _ _ => gbG g fun g => (dg_one (pg_name (i := 9) sc20.nd rfl (.inl rfl)))) (fun _ _ _ _ _ => gbE g fun g => (de_call g (fnat_lv A.f46) Tx.m46 (da_cons (de_var (i := 2)) (da_cons (de_var (i := 7)) (da_cons (de_var (i := 9)) da_nil))))))) (hm := Tx.n_all))))) (ds_cons (ds_ret (own1 := []) de_bl) ds_nil) ds_nil) (ds_cons (ds_asg (own1 := []) (ps_set (i := 8) sc20.nd rfl (.inl rfl) de_bl)) (ds_cons (ds_for (own1 := []) g (dr_sq (dz_t (de_var (i := 10)))) (dg_one (pg_name (i := 9) sc20.nd rfl (.inl rfl))) (ds_cons (ds_if (dwT (dw_and (dt_cmp (or_nmem (room65 g.room)) os_nmem (deB (de_var (i := 9))) (deB (de_var (i := 7)))) (dw_and1 (dt_cmp (op_eqD g.room.units) os_eq (deB (de_call g (fnat_lv A.f34) Tx.m34 (da_cons (de_var (i := 2)) (da_cons (de_sort (deI (de_add (di_var (i := 7)) (deI (de_lst (da_cons (de_var (i := 9)) da_nil))))) (hm := Tx.n_sorted)) da_nil)))) (deB (de_lst da_nil)))))) (ds_cons (ds_asg (own1 := []) (ps_set (i := 8) sc20.nd rfl (.inl rfl) de_bl)) ds_nil) ds_nil) ds_nil)) (ds_cons (ds_if (dt_not (dbT (deB (de_call g (fnat_lv A.f15) Tx.m15 (da_cons (de_shows g (de_mk0 g (cmk3 Tx ⟨rfl, rfl⟩) Tx.mc3) (csh Tx A) (da_cons (de_var (i := 2)) (da_cons (de_var (i := 7)) da_nil))) (da_cons (de_var (i := 8)) da_nil)))))) (ds_cons (ds_ret (own1 := []) de_bl) ds_nil) ds_nil) ds_nil))))))))))))))) (ds_cons (ds_if (dt_cmp or_isn os_isn (deB (de_shows g (de_mk g (cmk2 Tx ⟨rfl, rfl, rfl, rfl, rfl⟩) Tx.mc2 (dai_cons (deI (de_lst (da_cons (de_tup (da_cons de_int (da_cons de_int da_nil))) (da_cons (de_tup (da_cons de_int (da_cons de_int da_nil))) (da_cons (de_tup (da_cons de_int (da_cons de_int da_nil))) da_nil))))) dai_nil)) (csh Tx A) (da_cons (de_tup (da_cons de_str (da_cons de_int da_nil))) (da_cons (de_lst (da_cons (de_tup (da_cons de_int (da_cons de_int da_nil))) (da_cons (de_tup (da_cons de_int (da_cons de_int da_nil))) (da_cons (de_tup (da_cons de_int (da_cons de_int da_nil))) da_nil)))) da_nil)))) (deB de_bl)) (ds_cons (ds_ret (own1 := []) de_bl) ds_nil) ds_nil) (ds_cons (ds_if (dt_cmp or_isn os_isn (deB (de_shows g (de_mk0 g (cmk3 Tx ⟨rfl, rfl⟩) Tx.mc3) (csh Tx A) (da_cons (de_tup (da_cons de_str (da_cons de_int da_nil))) (da_cons (de_lst (da_cons (de_tup (da_cons de_int (da_cons de_int da_nil))) da_nil)) da_nil)))) (deB de_bl)) (ds_cons (ds_ret (own1 := []) de_bl) ds_nil) ds_nil) (ds_cons (ds_ret (own1 := []) (de_cmp or_is os_is (deB (de_shows g (de_mk g (cmk4 Tx ⟨rfl, rfl, rfl, rfl, rfl⟩) Tx.mc4 (dai_cons (deI (de_tup (da_cons de_int (da_cons de_int da_nil)))) dai_nil)) (csh Tx A) (da_cons (de_tup (da_cons de_str (da_cons de_int da_nil))) (da_cons (de_lst (da_cons (de_tup (da_cons de_int (da_cons de_int da_nil))) (da_cons (de_tup (da_cons de_int (da_cons de_int da_nil))) da_nil))) da_nil)))) (deB de_bl))) ds_nil))))))
theorem all (Tx : Txt K mg f0 f3 f4 f5 f7 f8 f10 f21 f22 f23 f25 f26 f27 f28 f12 f13 f14 f15 f16 f42 f17 f18 f19 f34 f35 f36 f45 f46 f20 d0 d3 d4 d5 d7 d8 d10 d21 d22 d23 d25 d26 d27 d28 d12 d13 d14 d15 d16 d42 d17 d18 d19 d34 d35 d36 d45 d46 d20 ca) : ∀ n, All P w K mg base ca n f0 f3 f4 f5 f7 f8 f10 f21 f22 f23 f25 f26 f27 f28 f12 f13 f14 f15 f16 f42 f17 f18 f19 f34 f35 f36 f45 f46 f20
  | 0 => ⟨fn_zero Tx.F0.kp Tx.B0, fn_zero Tx.F3.kp Tx.B3, fn_zero Tx.F4.kp Tx.B4, fn_zero Tx.F5.kp Tx.B5, fn_zero Tx.F7.kp Tx.B7, fn_zero Tx.F8.kp Tx.B8, fn_zero Tx.F10.kp Tx.B10, fn_zero Tx.F21.kp Tx.B21, fn_zero Tx.F22.kp Tx.B22, fn_zero Tx.F23.kp Tx.B23, fn_zero Tx.F25.kp Tx.B25, fn_zero Tx.F26.kp Tx.B26, fn_zero Tx.F27.kp Tx.B27, fn_zero Tx.F28.kp Tx.B28, fn_zero Tx.F12.kp Tx.B12, fn_zero Tx.F13.kp Tx.B13, fn_zero Tx.F14.kp Tx.B14, fn_zero Tx.F15.kp Tx.B15, fn_zero Tx.F16.kp Tx.B16, fn_zero Tx.F42.kp Tx.B42, fn_zero Tx.F17.kp Tx.B17, fn_zero Tx.F18.kp Tx.B18, fn_zero Tx.F19.kp Tx.B19, fn_zero Tx.F34.kp Tx.B34, fn_zero Tx.F35.kp Tx.B35, fn_zero Tx.F36.kp Tx.B36, fn_zero Tx.F45.kp Tx.B45, fn_zero Tx.F46.kp Tx.B46, fn_zero Tx.F20.kp Tx.B20⟩
  | n + 1 => have A := all Tx n; ⟨fnat Tx.F0 Tx.B0 (o0 Tx A), fnat Tx.F3 Tx.B3 (o3 Tx A), fnat Tx.F4 Tx.B4 (o4 Tx A), fnat Tx.F5 Tx.B5 (o5 Tx A), fnat Tx.F7 Tx.B7 (o7 Tx A), fnat Tx.F8 Tx.B8 (o8 Tx A), fnat Tx.F10 Tx.B10 (o10 Tx A), fnat Tx.F21 Tx.B21 (o21 Tx A), fnat Tx.F22 Tx.B22 (o22 Tx A), fnat Tx.F23 Tx.B23 (o23 Tx A), fnat Tx.F25 Tx.B25 (o25 Tx A), fnat Tx.F26 Tx.B26 (o26 Tx A), fnat Tx.F27 Tx.B27 (o27 Tx A), fnat Tx.F28 Tx.B28 (o28 Tx A), fnat Tx.F12 Tx.B12 (o12 Tx A), fnat Tx.F13 Tx.B13 (o13 Tx A), fnat Tx.F14 Tx.B14 (o14 Tx A), fnat Tx.F15 Tx.B15 (o15 Tx A), fnat Tx.F16 Tx.B16 (o16 Tx A), fnat Tx.F42 Tx.B42 (o42 Tx A), fnat Tx.F17 Tx.B17 (o17 Tx A), fnat Tx.F18 Tx.B18 (o18 Tx A), fnat Tx.F19 Tx.B19 (o19 Tx A), fnat Tx.F34 Tx.B34 (o34 Tx A), fnat Tx.F35 Tx.B35 (o35 Tx A), fnat Tx.F36 Tx.B36 (o36 Tx A), fnat Tx.F45 Tx.B45 (o45 Tx A), fnat Tx.F46 Tx.B46 (o46 Tx A), fnat Tx.F20 Tx.B20 (o20 Tx A)⟩
end
theorem all_mk {l : PySem.W.OpenLaw} {w : World} {K : PySem.W.Frag} {h : Heap} {mg : Str → Option Value} {fa : Addr} (X : K.In h) (G : h.Ns mainGlobals mg) (hfa : mg "law" = some (.ref fa))
    {C0 C1 C2 C3 C4 f25 f26 f27 f28 fI2 fI4 : Addr}
    (zcg : PySem.W.specialIn K (.builtin "object.__class__") "__get__" = some (some (.builtin "getset_descriptor.__get__"))) (zct : PySem.W.takesIn K (.builtin "object.__class__") = some true)
    (aC0 : PySem.W.nsIn K mainGlobals "Answer" = some (some (.ref C0)))
    (aC1 : PySem.W.nsIn K mainGlobals "Clear" = some (some (.ref C1)))
    (aC2 : PySem.W.nsIn K mainGlobals "Line" = some (some (.ref C2)))
    (aC3 : PySem.W.nsIn K mainGlobals "Closed" = some (some (.ref C3)))
    (aC4 : PySem.W.nsIn K mainGlobals "More" = some (some (.ref C4)))
    (hpg1 : PySem.W.plainGet K C1 Str.empty = true)
    (hhd1 : PySem.W.hasDictIn K C1 = true)
    (hpo1 : PySem.W.plainOver K C1 = true)
    (hsa1 : PySem.W.findIn K (.ref C1) "__setattr__" = some (some (.builtin "object.__setattr__")))
    (hcz1 : PySem.W.findIn K (.ref C1) "__class__" = some (some (.builtin "object.__class__")))
    (hcm1 : PySem.W.mroIn K C1 (.type "object") = some true)
    (hsh1 : PySem.W.findIn K (.ref C1) "shows" = some (some (.ref f25)))
    (hsf1 : PySem.W.isFn K (.ref f25) = true)
    (hmk1 : PySem.W.makesIn K C1 = true)
    (hkC1 : PySem.W.keepIn K (.ref C1) = true)
    (hs0_1 : PySem.W.kitOne K (.ref C1) (.ref C0) = some true)
    (hs1_1 : PySem.W.kitOne K (.ref C1) (.ref C1) = some true)
    (hs2_1 : PySem.W.kitOne K (.ref C1) (.ref C2) = some false)
    (hs3_1 : PySem.W.kitOne K (.ref C1) (.ref C3) = some false)
    (hs4_1 : PySem.W.kitOne K (.ref C1) (.ref C4) = some false)
    (hmi1 : PySem.W.findIn K (.ref C1) "__init__" = some (some (.builtin "object.__init__")))
    (hpg2 : PySem.W.plainGet K C2 Str.empty = true)
    (hhd2 : PySem.W.hasDictIn K C2 = true)
    (hpo2 : PySem.W.plainOver K C2 = true)
    (hsa2 : PySem.W.findIn K (.ref C2) "__setattr__" = some (some (.builtin "object.__setattr__")))
    (hcz2 : PySem.W.findIn K (.ref C2) "__class__" = some (some (.builtin "object.__class__")))
    (hcm2 : PySem.W.mroIn K C2 (.type "object") = some true)
    (hsh2 : PySem.W.findIn K (.ref C2) "shows" = some (some (.ref f26)))
    (hsf2 : PySem.W.isFn K (.ref f26) = true)
    (hmk2 : PySem.W.makesIn K C2 = true)
    (hkC2 : PySem.W.keepIn K (.ref C2) = true)
    (hs0_2 : PySem.W.kitOne K (.ref C2) (.ref C0) = some true)
    (hs1_2 : PySem.W.kitOne K (.ref C2) (.ref C1) = some false)
    (hs2_2 : PySem.W.kitOne K (.ref C2) (.ref C2) = some true)
    (hs3_2 : PySem.W.kitOne K (.ref C2) (.ref C3) = some false)
    (hs4_2 : PySem.W.kitOne K (.ref C2) (.ref C4) = some false)
    (hna2 : PySem.W.findIn K (.ref C2) "points" = some none)
    (hin2 : PySem.W.findIn K (.ref C2) "__init__" = some (some (.ref fI2)))
    (hif2 : PySem.W.isFn K (.ref fI2) = true)
    {odI2 anI2 : Option Addr} {slI2 : Array (Option Value)} {ocI2 kVI2 dcI2 pmI2 cdI2 ctI2 : Value}
    (lI2 : K.lookup fI2 = some ⟨ocI2, odI2, .func (PySem.W.fnOf "__init__" "Line.__init__" (defArgs sI2) (defBody sI2) (defScope sI2) .none kVI2 dcI2 pmI2 anI2 cdI2 ctI2), slI2⟩) (cI2 : PySem.W.codeIn K cdI2 "Line.__init__" = true) (kI2 : PySem.W.keepIn K (.ref fI2) = true)
    (hpg3 : PySem.W.plainGet K C3 Str.empty = true)
    (hhd3 : PySem.W.hasDictIn K C3 = true)
    (hpo3 : PySem.W.plainOver K C3 = true)
    (hsa3 : PySem.W.findIn K (.ref C3) "__setattr__" = some (some (.builtin "object.__setattr__")))
    (hcz3 : PySem.W.findIn K (.ref C3) "__class__" = some (some (.builtin "object.__class__")))
    (hcm3 : PySem.W.mroIn K C3 (.type "object") = some true)
    (hsh3 : PySem.W.findIn K (.ref C3) "shows" = some (some (.ref f27)))
    (hsf3 : PySem.W.isFn K (.ref f27) = true)
    (hmk3 : PySem.W.makesIn K C3 = true)
    (hkC3 : PySem.W.keepIn K (.ref C3) = true)
    (hs0_3 : PySem.W.kitOne K (.ref C3) (.ref C0) = some true)
    (hs1_3 : PySem.W.kitOne K (.ref C3) (.ref C1) = some false)
    (hs2_3 : PySem.W.kitOne K (.ref C3) (.ref C2) = some false)
    (hs3_3 : PySem.W.kitOne K (.ref C3) (.ref C3) = some true)
    (hs4_3 : PySem.W.kitOne K (.ref C3) (.ref C4) = some false)
    (hmi3 : PySem.W.findIn K (.ref C3) "__init__" = some (some (.builtin "object.__init__")))
    (hpg4 : PySem.W.plainGet K C4 Str.empty = true)
    (hhd4 : PySem.W.hasDictIn K C4 = true)
    (hpo4 : PySem.W.plainOver K C4 = true)
    (hsa4 : PySem.W.findIn K (.ref C4) "__setattr__" = some (some (.builtin "object.__setattr__")))
    (hcz4 : PySem.W.findIn K (.ref C4) "__class__" = some (some (.builtin "object.__class__")))
    (hcm4 : PySem.W.mroIn K C4 (.type "object") = some true)
    (hsh4 : PySem.W.findIn K (.ref C4) "shows" = some (some (.ref f28)))
    (hsf4 : PySem.W.isFn K (.ref f28) = true)
    (hmk4 : PySem.W.makesIn K C4 = true)
    (hkC4 : PySem.W.keepIn K (.ref C4) = true)
    (hs0_4 : PySem.W.kitOne K (.ref C4) (.ref C0) = some true)
    (hs1_4 : PySem.W.kitOne K (.ref C4) (.ref C1) = some false)
    (hs2_4 : PySem.W.kitOne K (.ref C4) (.ref C2) = some false)
    (hs3_4 : PySem.W.kitOne K (.ref C4) (.ref C3) = some false)
    (hs4_4 : PySem.W.kitOne K (.ref C4) (.ref C4) = some true)
    (hna4 : PySem.W.findIn K (.ref C4) "point" = some none)
    (hin4 : PySem.W.findIn K (.ref C4) "__init__" = some (some (.ref fI4)))
    (hif4 : PySem.W.isFn K (.ref fI4) = true)
    {odI4 anI4 : Option Addr} {slI4 : Array (Option Value)} {ocI4 kVI4 dcI4 pmI4 cdI4 ctI4 : Value}
    (lI4 : K.lookup fI4 = some ⟨ocI4, odI4, .func (PySem.W.fnOf "__init__" "More.__init__" (defArgs sI4) (defBody sI4) (defScope sI4) .none kVI4 dcI4 pmI4 anI4 cdI4 ctI4), slI4⟩) (cI4 : PySem.W.codeIn K cdI4 "More.__init__" = true) (kI4 : PySem.W.keepIn K (.ref fI4) = true)
    {f0 : Addr} {od0 an0 : Option Addr} {sl0 : Array (Option Value)} {oc0 kV0 dc0 pm0 cd0 ct0 : Value}
    (a0 : PySem.W.nsIn K mainGlobals "is_whole" = some (some (.ref f0)))
    (l0 : K.lookup f0 = some ⟨oc0, od0, .func (PySem.W.fnOf "is_whole" "is_whole" (defArgs s0) (defBody s0) (defScope s0) .none kV0 dc0 pm0 an0 cd0 ct0), sl0⟩) (c0 : PySem.W.codeIn K cd0 "is_whole" = true) (k0 : PySem.W.keepIn K (.ref f0) = true)
    {f3 : Addr} {od3 an3 : Option Addr} {sl3 : Array (Option Value)} {oc3 kV3 dc3 pm3 cd3 ct3 : Value}
    (a3 : PySem.W.nsIn K mainGlobals "places_of" = some (some (.ref f3)))
    (l3 : K.lookup f3 = some ⟨oc3, od3, .func (PySem.W.fnOf "places_of" "places_of" (defArgs s3) (defBody s3) (defScope s3) .none kV3 dc3 pm3 an3 cd3 ct3), sl3⟩) (c3 : PySem.W.codeIn K cd3 "places_of" = true) (k3 : PySem.W.keepIn K (.ref f3) = true)
    {f4 : Addr} {od4 an4 : Option Addr} {sl4 : Array (Option Value)} {oc4 kV4 dc4 pm4 cd4 ct4 : Value}
    (a4 : PySem.W.nsIn K mainGlobals "numbers_of" = some (some (.ref f4)))
    (l4 : K.lookup f4 = some ⟨oc4, od4, .func (PySem.W.fnOf "numbers_of" "numbers_of" (defArgs s4) (defBody s4) (defScope s4) .none kV4 dc4 pm4 an4 cd4 ct4), sl4⟩) (c4 : PySem.W.codeIn K cd4 "numbers_of" = true) (k4 : PySem.W.keepIn K (.ref f4) = true)
    {f5 : Addr} {od5 an5 : Option Addr} {sl5 : Array (Option Value)} {oc5 kV5 dc5 pm5 cd5 ct5 : Value}
    (a5 : PySem.W.nsIn K mainGlobals "points_of" = some (some (.ref f5)))
    (l5 : K.lookup f5 = some ⟨oc5, od5, .func (PySem.W.fnOf "points_of" "points_of" (defArgs s5) (defBody s5) (defScope s5) .none kV5 dc5 pm5 an5 cd5 ct5), sl5⟩) (c5 : PySem.W.codeIn K cd5 "points_of" = true) (k5 : PySem.W.keepIn K (.ref f5) = true)
    {f7 : Addr} {od7 an7 : Option Addr} {sl7 : Array (Option Value)} {oc7 kV7 dc7 pm7 cd7 ct7 : Value}
    (a7 : PySem.W.nsIn K mainGlobals "is_point" = some (some (.ref f7)))
    (l7 : K.lookup f7 = some ⟨oc7, od7, .func (PySem.W.fnOf "is_point" "is_point" (defArgs s7) (defBody s7) (defScope s7) .none kV7 dc7 pm7 an7 cd7 ct7), sl7⟩) (c7 : PySem.W.codeIn K cd7 "is_point" = true) (k7 : PySem.W.keepIn K (.ref f7) = true)
    {f8 : Addr} {od8 an8 : Option Addr} {sl8 : Array (Option Value)} {oc8 kV8 dc8 pm8 cd8 ct8 : Value}
    (a8 : PySem.W.nsIn K mainGlobals "are_points" = some (some (.ref f8)))
    (l8 : K.lookup f8 = some ⟨oc8, od8, .func (PySem.W.fnOf "are_points" "are_points" (defArgs s8) (defBody s8) (defScope s8) .none kV8 dc8 pm8 an8 cd8 ct8), sl8⟩) (c8 : PySem.W.codeIn K cd8 "are_points" = true) (k8 : PySem.W.keepIn K (.ref f8) = true)
    {f10 : Addr} {od10 an10 : Option Addr} {sl10 : Array (Option Value)} {oc10 kV10 dc10 pm10 cd10 ct10 : Value}
    (a10 : PySem.W.nsIn K mainGlobals "lined" = some (some (.ref f10)))
    (l10 : K.lookup f10 = some ⟨oc10, od10, .func (PySem.W.fnOf "lined" "lined" (defArgs s10) (defBody s10) (defScope s10) .none kV10 dc10 pm10 an10 cd10 ct10), sl10⟩) (c10 : PySem.W.codeIn K cd10 "lined" = true) (k10 : PySem.W.keepIn K (.ref f10) = true)
    {f21 : Addr} {od21 an21 : Option Addr} {sl21 : Array (Option Value)} {oc21 kV21 dc21 pm21 cd21 ct21 : Value}
    (a21 : PySem.W.nsIn K mainGlobals "lines_with" = some (some (.ref f21)))
    (l21 : K.lookup f21 = some ⟨oc21, od21, .func (PySem.W.fnOf "lines_with" "lines_with" (defArgs s21) (defBody s21) (defScope s21) .none kV21 dc21 pm21 an21 cd21 ct21), sl21⟩) (c21 : PySem.W.codeIn K cd21 "lines_with" = true) (k21 : PySem.W.keepIn K (.ref f21) = true)
    {f22 : Addr} {od22 an22 : Option Addr} {sl22 : Array (Option Value)} {oc22 kV22 dc22 pm22 cd22 ct22 : Value}
    (a22 : PySem.W.nsIn K mainGlobals "first_line" = some (some (.ref f22)))
    (l22 : K.lookup f22 = some ⟨oc22, od22, .func (PySem.W.fnOf "first_line" "first_line" (defArgs s22) (defBody s22) (defScope s22) .none kV22 dc22 pm22 an22 cd22 ct22), sl22⟩) (c22 : PySem.W.codeIn K cd22 "first_line" = true) (k22 : PySem.W.keepIn K (.ref f22) = true)
    {f23 : Addr} {od23 an23 : Option Addr} {sl23 : Array (Option Value)} {oc23 kV23 dc23 pm23 cd23 ct23 : Value}
    (a23 : PySem.W.nsIn K mainGlobals "first_more" = some (some (.ref f23)))
    (l23 : K.lookup f23 = some ⟨oc23, od23, .func (PySem.W.fnOf "first_more" "first_more" (defArgs s23) (defBody s23) (defScope s23) .none kV23 dc23 pm23 an23 cd23 ct23), sl23⟩) (c23 : PySem.W.codeIn K cd23 "first_more" = true) (k23 : PySem.W.keepIn K (.ref f23) = true)
    {od25 an25 : Option Addr} {sl25 : Array (Option Value)} {oc25 kV25 dc25 pm25 cd25 ct25 : Value}
    (l25 : K.lookup f25 = some ⟨oc25, od25, .func (PySem.W.fnOf "shows" "Clear.shows" (defArgs s25) (defBody s25) (defScope s25) .none kV25 dc25 pm25 an25 cd25 ct25), sl25⟩) (c25 : PySem.W.codeIn K cd25 "Clear.shows" = true) (k25 : PySem.W.keepIn K (.ref f25) = true)
    {od26 an26 : Option Addr} {sl26 : Array (Option Value)} {oc26 kV26 dc26 pm26 cd26 ct26 : Value}
    (l26 : K.lookup f26 = some ⟨oc26, od26, .func (PySem.W.fnOf "shows" "Line.shows" (defArgs s26) (defBody s26) (defScope s26) .none kV26 dc26 pm26 an26 cd26 ct26), sl26⟩) (c26 : PySem.W.codeIn K cd26 "Line.shows" = true) (k26 : PySem.W.keepIn K (.ref f26) = true)
    {od27 an27 : Option Addr} {sl27 : Array (Option Value)} {oc27 kV27 dc27 pm27 cd27 ct27 : Value}
    (l27 : K.lookup f27 = some ⟨oc27, od27, .func (PySem.W.fnOf "shows" "Closed.shows" (defArgs s27) (defBody s27) (defScope s27) .none kV27 dc27 pm27 an27 cd27 ct27), sl27⟩) (c27 : PySem.W.codeIn K cd27 "Closed.shows" = true) (k27 : PySem.W.keepIn K (.ref f27) = true)
    {od28 an28 : Option Addr} {sl28 : Array (Option Value)} {oc28 kV28 dc28 pm28 cd28 ct28 : Value}
    (l28 : K.lookup f28 = some ⟨oc28, od28, .func (PySem.W.fnOf "shows" "More.shows" (defArgs s28) (defBody s28) (defScope s28) .none kV28 dc28 pm28 an28 cd28 ct28), sl28⟩) (c28 : PySem.W.codeIn K cd28 "More.shows" = true) (k28 : PySem.W.keepIn K (.ref f28) = true)
    {f12 : Addr} {od12 an12 : Option Addr} {sl12 : Array (Option Value)} {oc12 kV12 dc12 pm12 cd12 ct12 : Value}
    (a12 : PySem.W.nsIn K mainGlobals "_law_cell_at" = some (some (.ref f12)))
    (l12 : K.lookup f12 = some ⟨oc12, od12, .func (PySem.W.fnOf "_law_cell_at" "_law_cell_at" (defArgs s12) (defBody s12) (defScope s12) .none kV12 dc12 pm12 an12 cd12 ct12), sl12⟩) (c12 : PySem.W.codeIn K cd12 "_law_cell_at" = true) (k12 : PySem.W.keepIn K (.ref f12) = true)
    {f13 : Addr} {od13 an13 : Option Addr} {sl13 : Array (Option Value)} {oc13 kV13 dc13 pm13 cd13 ct13 : Value}
    (a13 : PySem.W.nsIn K mainGlobals "_law_draw" = some (some (.ref f13)))
    (l13 : K.lookup f13 = some ⟨oc13, od13, .func (PySem.W.fnOf "_law_draw" "_law_draw" (defArgs s13) (defBody s13) (defScope s13) .none kV13 dc13 pm13 an13 cd13 ct13), sl13⟩) (c13 : PySem.W.codeIn K cd13 "_law_draw" = true) (k13 : PySem.W.keepIn K (.ref f13) = true)
    {f14 : Addr} {od14 an14 : Option Addr} {sl14 : Array (Option Value)} {oc14 kV14 dc14 pm14 cd14 ct14 : Value}
    (a14 : PySem.W.nsIn K mainGlobals "_law_value" = some (some (.ref f14)))
    (l14 : K.lookup f14 = some ⟨oc14, od14, .func (PySem.W.fnOf "_law_value" "_law_value" (defArgs s14) (defBody s14) (defScope s14) .none kV14 dc14 pm14 an14 cd14 ct14), sl14⟩) (c14 : PySem.W.codeIn K cd14 "_law_value" = true) (k14 : PySem.W.keepIn K (.ref f14) = true)
    {f15 : Addr} {od15 an15 : Option Addr} {sl15 : Array (Option Value)} {oc15 kV15 dc15 pm15 cd15 ct15 : Value}
    (a15 : PySem.W.nsIn K mainGlobals "_law_says" = some (some (.ref f15)))
    (l15 : K.lookup f15 = some ⟨oc15, od15, .func (PySem.W.fnOf "_law_says" "_law_says" (defArgs s15) (defBody s15) (defScope s15) .none kV15 dc15 pm15 an15 cd15 ct15), sl15⟩) (c15 : PySem.W.codeIn K cd15 "_law_says" = true) (k15 : PySem.W.keepIn K (.ref f15) = true)
    {f16 : Addr} {od16 an16 : Option Addr} {sl16 : Array (Option Value)} {oc16 kV16 dc16 pm16 cd16 ct16 : Value}
    (a16 : PySem.W.nsIn K mainGlobals "_law_field" = some (some (.ref f16)))
    (l16 : K.lookup f16 = some ⟨oc16, od16, .func (PySem.W.fnOf "_law_field" "_law_field" (defArgs s16) (defBody s16) (defScope s16) .none kV16 dc16 pm16 an16 cd16 ct16), sl16⟩) (c16 : PySem.W.codeIn K cd16 "_law_field" = true) (k16 : PySem.W.keepIn K (.ref f16) = true)
    {f42 : Addr} {od42 an42 : Option Addr} {sl42 : Array (Option Value)} {oc42 kV42 dc42 pm42 cd42 ct42 : Value}
    (a42 : PySem.W.nsIn K mainGlobals "_law_small" = some (some (.ref f42)))
    (l42 : K.lookup f42 = some ⟨oc42, od42, .func (PySem.W.fnOf "_law_small" "_law_small" (defArgs s42) (defBody s42) (defScope s42) .none kV42 dc42 pm42 an42 cd42 ct42), sl42⟩) (c42 : PySem.W.codeIn K cd42 "_law_small" = true) (k42 : PySem.W.keepIn K (.ref f42) = true)
    {f17 : Addr} {od17 an17 : Option Addr} {sl17 : Array (Option Value)} {oc17 kV17 dc17 pm17 cd17 ct17 : Value}
    (a17 : PySem.W.nsIn K mainGlobals "_law_every" = some (some (.ref f17)))
    (l17 : K.lookup f17 = some ⟨oc17, od17, .func (PySem.W.fnOf "_law_every" "_law_every" (defArgs s17) (defBody s17) (defScope s17) .none kV17 dc17 pm17 an17 cd17 ct17), sl17⟩) (c17 : PySem.W.codeIn K cd17 "_law_every" = true) (k17 : PySem.W.keepIn K (.ref f17) = true)
    {f18 : Addr} {od18 an18 : Option Addr} {sl18 : Array (Option Value)} {oc18 kV18 dc18 pm18 cd18 ct18 : Value}
    (a18 : PySem.W.nsIn K mainGlobals "_law_power" = some (some (.ref f18)))
    (l18 : K.lookup f18 = some ⟨oc18, od18, .func (PySem.W.fnOf "_law_power" "_law_power" (defArgs s18) (defBody s18) (defScope s18) .none kV18 dc18 pm18 an18 cd18 ct18), sl18⟩) (c18 : PySem.W.codeIn K cd18 "_law_power" = true) (k18 : PySem.W.keepIn K (.ref f18) = true)
    {f19 : Addr} {od19 an19 : Option Addr} {sl19 : Array (Option Value)} {oc19 kV19 dc19 pm19 cd19 ct19 : Value}
    (a19 : PySem.W.nsIn K mainGlobals "_law_lined" = some (some (.ref f19)))
    (l19 : K.lookup f19 = some ⟨oc19, od19, .func (PySem.W.fnOf "_law_lined" "_law_lined" (defArgs s19) (defBody s19) (defScope s19) .none kV19 dc19 pm19 an19 cd19 ct19), sl19⟩) (c19 : PySem.W.codeIn K cd19 "_law_lined" = true) (k19 : PySem.W.keepIn K (.ref f19) = true)
    {f34 : Addr} {od34 an34 : Option Addr} {sl34 : Array (Option Value)} {oc34 kV34 dc34 pm34 cd34 ct34 : Value}
    (a34 : PySem.W.nsIn K mainGlobals "_law_threes" = some (some (.ref f34)))
    (l34 : K.lookup f34 = some ⟨oc34, od34, .func (PySem.W.fnOf "_law_threes" "_law_threes" (defArgs s34) (defBody s34) (defScope s34) .none kV34 dc34 pm34 an34 cd34 ct34), sl34⟩) (c34 : PySem.W.codeIn K cd34 "_law_threes" = true) (k34 : PySem.W.keepIn K (.ref f34) = true)
    {f35 : Addr} {od35 an35 : Option Addr} {sl35 : Array (Option Value)} {oc35 kV35 dc35 pm35 cd35 ct35 : Value}
    (a35 : PySem.W.nsIn K mainGlobals "_law_points" = some (some (.ref f35)))
    (l35 : K.lookup f35 = some ⟨oc35, od35, .func (PySem.W.fnOf "_law_points" "_law_points" (defArgs s35) (defBody s35) (defScope s35) .none kV35 dc35 pm35 an35 cd35 ct35), sl35⟩) (c35 : PySem.W.codeIn K cd35 "_law_points" = true) (k35 : PySem.W.keepIn K (.ref f35) = true)
    {f36 : Addr} {od36 an36 : Option Addr} {sl36 : Array (Option Value)} {oc36 kV36 dc36 pm36 cd36 ct36 : Value}
    (a36 : PySem.W.nsIn K mainGlobals "_law_clear" = some (some (.ref f36)))
    (l36 : K.lookup f36 = some ⟨oc36, od36, .func (PySem.W.fnOf "_law_clear" "_law_clear" (defArgs s36) (defBody s36) (defScope s36) .none kV36 dc36 pm36 an36 cd36 ct36), sl36⟩) (c36 : PySem.W.codeIn K cd36 "_law_clear" = true) (k36 : PySem.W.keepIn K (.ref f36) = true)
    {f45 : Addr} {od45 an45 : Option Addr} {sl45 : Array (Option Value)} {oc45 kV45 dc45 pm45 cd45 ct45 : Value}
    (a45 : PySem.W.nsIn K mainGlobals "_law_line_right" = some (some (.ref f45)))
    (l45 : K.lookup f45 = some ⟨oc45, od45, .func (PySem.W.fnOf "_law_line_right" "_law_line_right" (defArgs s45) (defBody s45) (defScope s45) .none kV45 dc45 pm45 an45 cd45 ct45), sl45⟩) (c45 : PySem.W.codeIn K cd45 "_law_line_right" = true) (k45 : PySem.W.keepIn K (.ref f45) = true)
    {f46 : Addr} {od46 an46 : Option Addr} {sl46 : Array (Option Value)} {oc46 kV46 dc46 pm46 cd46 ct46 : Value}
    (a46 : PySem.W.nsIn K mainGlobals "_law_point_right" = some (some (.ref f46)))
    (l46 : K.lookup f46 = some ⟨oc46, od46, .func (PySem.W.fnOf "_law_point_right" "_law_point_right" (defArgs s46) (defBody s46) (defScope s46) .none kV46 dc46 pm46 an46 cd46 ct46), sl46⟩) (c46 : PySem.W.codeIn K cd46 "_law_point_right" = true) (k46 : PySem.W.keepIn K (.ref f46) = true)
    {f20 : Addr} {od20 an20 : Option Addr} {sl20 : Array (Option Value)} {oc20 kV20 dc20 pm20 cd20 ct20 : Value}
    (a20 : PySem.W.nsIn K mainGlobals "law" = some (some (.ref f20)))
    (l20 : K.lookup f20 = some ⟨oc20, od20, .func (PySem.W.fnOf "law" "law" (defArgs s20) (defBody s20) (defScope s20) .none kV20 dc20 pm20 an20 cd20 ct20), sl20⟩) (c20 : PySem.W.codeIn K cd20 "law" = true) (k20 : PySem.W.keepIn K (.ref f20) = true)
    (z_all : PySem.W.nsIn K mainGlobals "all" = some none)
    (z_any : PySem.W.nsIn K mainGlobals "any" = some none)
    (z_bool : PySem.W.nsIn K mainGlobals "bool" = some none)
    (z_enumerate : PySem.W.nsIn K mainGlobals "enumerate" = some none)
    (z_int : PySem.W.nsIn K mainGlobals "int" = some none)
    (z_isinstance : PySem.W.nsIn K mainGlobals "isinstance" = some none)
    (z_len : PySem.W.nsIn K mainGlobals "len" = some none)
    (z_list : PySem.W.nsIn K mainGlobals "list" = some none)
    (z_max : PySem.W.nsIn K mainGlobals "max" = some none)
    (z_min : PySem.W.nsIn K mainGlobals "min" = some none)
    (z_range : PySem.W.nsIn K mainGlobals "range" = some none)
    (z_set : PySem.W.nsIn K mainGlobals "set" = some none)
    (z_sorted : PySem.W.nsIn K mainGlobals "sorted" = some none)
    (z_sum : PySem.W.nsIn K mainGlobals "sum" = some none)
    (z_tuple : PySem.W.nsIn K mainGlobals "tuple" = some none)
    (z_zip : PySem.W.nsIn K mainGlobals "zip" = some none)
    : ∃ fd : FuncData, (∀ (s : Shared) (v : Value), BindsTo s fd ⟨[v], []⟩ [("_law_script", v)]) ∧ ∀ base : Heap, K.In base → base.Ns mainGlobals mg → FnOk l.prog w K mg base CX0 40 fa fd ["_law_script"] (fun vs H Q E => ∀ ca, spD ⟨K, ca, T.cn⟩ T 40 20 vs H Q E) := by
  have e := hfa.symm.trans (PySem.W.mg_of X G a20)
  obtain rfl : fa = f20 := by injection (Option.some.inj e)
  have F0 := fun_mk (st := s0) l0 c0 k0
  have b0 := F0.binds (ps := ["thing"]) fun _ _ _ _ _ _ us hl => match us, hl with | [_], _ => rfl
  have F3 := fun_mk (st := s3) l3 c3 k3
  have b3 := F3.binds (ps := ["field"]) fun _ _ _ _ _ _ us hl => match us, hl with | [_], _ => rfl
  have F4 := fun_mk (st := s4) l4 c4 k4
  have b4 := F4.binds (ps := ["field"]) fun _ _ _ _ _ _ us hl => match us, hl with | [_], _ => rfl
  have F5 := fun_mk (st := s5) l5 c5 k5
  have b5 := F5.binds (ps := ["field"]) fun _ _ _ _ _ _ us hl => match us, hl with | [_], _ => rfl
  have F7 := fun_mk (st := s7) l7 c7 k7
  have b7 := F7.binds (ps := ["field", "thing"]) fun _ _ _ _ _ _ us hl => match us, hl with | [_, _], _ => rfl
  have F8 := fun_mk (st := s8) l8 c8 k8
  have b8 := F8.binds (ps := ["field", "thing"]) fun _ _ _ _ _ _ us hl => match us, hl with | [_, _], _ => rfl
  have F10 := fun_mk (st := s10) l10 c10 k10
  have b10 := F10.binds (ps := ["field", "one", "two", "three"]) fun _ _ _ _ _ _ us hl => match us, hl with | [_, _, _, _], _ => rfl
  have F21 := fun_mk (st := s21) l21 c21 k21
  have b21 := F21.binds (ps := ["field", "points", "point"]) fun _ _ _ _ _ _ us hl => match us, hl with | [_, _, _], _ => rfl
  have F22 := fun_mk (st := s22) l22 c22 k22
  have b22 := F22.binds (ps := ["field", "points"]) fun _ _ _ _ _ _ us hl => match us, hl with | [_, _], _ => rfl
  have F23 := fun_mk (st := s23) l23 c23 k23
  have b23 := F23.binds (ps := ["field", "points"]) fun _ _ _ _ _ _ us hl => match us, hl with | [_, _], _ => rfl
  have F25 := fun_mk (st := s25) l25 c25 k25
  have b25 := F25.binds (ps := ["self", "field", "points"]) fun _ _ _ _ _ _ us hl => match us, hl with | [_, _, _], _ => rfl
  have F26 := fun_mk (st := s26) l26 c26 k26
  have b26 := F26.binds (ps := ["self", "field", "points"]) fun _ _ _ _ _ _ us hl => match us, hl with | [_, _, _], _ => rfl
  have F27 := fun_mk (st := s27) l27 c27 k27
  have b27 := F27.binds (ps := ["self", "field", "points"]) fun _ _ _ _ _ _ us hl => match us, hl with | [_, _, _], _ => rfl
  have F28 := fun_mk (st := s28) l28 c28 k28
  have b28 := F28.binds (ps := ["self", "field", "points"]) fun _ _ _ _ _ _ us hl => match us, hl with | [_, _, _], _ => rfl
  have F12 := fun_mk (st := s12) l12 c12 k12
  have b12 := F12.binds (ps := ["_law_script", "_law_k"]) fun _ _ _ _ _ _ us hl => match us, hl with | [_, _], _ => rfl
  have F13 := fun_mk (st := s13) l13 c13 k13
  have b13 := F13.binds (ps := ["_law_cell", "_law_k", "_law_many"]) fun _ _ _ _ _ _ us hl => match us, hl with | [_, _, _], _ => rfl
  have F14 := fun_mk (st := s14) l14 c14 k14
  have b14 := F14.binds (ps := ["_law_cell", "_law_turn"]) fun _ _ _ _ _ _ us hl => match us, hl with | [_, _], _ => rfl
  have F15 := fun_mk (st := s15) l15 c15 k15
  have b15 := F15.binds (ps := ["_law_said", "_law_due"]) fun _ _ _ _ _ _ us hl => match us, hl with | [_, _], _ => rfl
  have F16 := fun_mk (st := s16) l16 c16 k16
  have b16 := F16.binds (ps := ["_law_script", "_law_by"]) fun _ _ _ _ _ _ us hl => match us, hl with | [_, _], _ => rfl
  have F42 := fun_mk (st := s42) l42 c42 k42
  have b42 := F42.binds (ps := ["_law_script", "_law_by"]) fun _ _ _ _ _ _ us hl => match us, hl with | [_, _], _ => rfl
  have F17 := fun_mk (st := s17) l17 c17 k17
  have b17 := F17.binds (ps := ["_law_field_here"]) fun _ _ _ _ _ _ us hl => match us, hl with | [_], _ => rfl
  have F18 := fun_mk (st := s18) l18 c18 k18
  have b18 := F18.binds (ps := ["_law_number", "_law_often"]) fun _ _ _ _ _ _ us hl => match us, hl with | [_, _], _ => rfl
  have F19 := fun_mk (st := s19) l19 c19 k19
  have b19 := F19.binds (ps := ["_law_field_here", "_law_one", "_law_two", "_law_three"]) fun _ _ _ _ _ _ us hl => match us, hl with | [_, _, _, _], _ => rfl
  have F34 := fun_mk (st := s34) l34 c34 k34
  have b34 := F34.binds (ps := ["_law_field_here", "_law_points_here"]) fun _ _ _ _ _ _ us hl => match us, hl with | [_, _], _ => rfl
  have F35 := fun_mk (st := s35) l35 c35 k35
  have b35 := F35.binds (ps := ["_law_script", "_law_by", "_law_field_here", "_law_limit"]) fun _ _ _ _ _ _ us hl => match us, hl with | [_, _, _, _], _ => rfl
  have F36 := fun_mk (st := s36) l36 c36 k36
  have b36 := F36.binds (ps := ["_law_script", "_law_by", "_law_field_here", "_law_limit"]) fun _ _ _ _ _ _ us hl => match us, hl with | [_, _, _, _], _ => rfl
  have F45 := fun_mk (st := s45) l45 c45 k45
  have b45 := F45.binds (ps := ["_law_field_here", "_law_points_here", "_law_three"]) fun _ _ _ _ _ _ us hl => match us, hl with | [_, _, _], _ => rfl
  have F46 := fun_mk (st := s46) l46 c46 k46
  have b46 := F46.binds (ps := ["_law_field_here", "_law_points_here", "_law_point"]) fun _ _ _ _ _ _ us hl => match us, hl with | [_, _, _], _ => rfl
  have F20 := fun_mk (st := s20) l20 c20 k20
  have b20 := F20.binds (ps := ["_law_script"]) fun _ _ _ _ _ _ us hl => match us, hl with | [_], _ => rfl
  have FI2 := fun_mk (st := sI2) lI2 cI2 kI2
  have bI2 := FI2.binds (ps := ["self", "points"]) fun _ _ _ _ _ _ us hl => match us, hl with | [_, _], _ => rfl
  have FI4 := fun_mk (st := sI4) lI4 cI4 kI4
  have bI4 := FI4.binds (ps := ["self", "point"]) fun _ _ _ _ _ _ us hl => match us, hl with | [_, _], _ => rfl
  have Tx : Txt K mg f0 f3 f4 f5 f7 f8 f10 f21 f22 f23 f25 f26 f27 f28 f12 f13 f14 f15 f16 f42 f17 f18 f19 f34 f35 f36 f45 f46 fa _ _ _ _ _ _ _ _ _ _ _ _ _ _ _ _ _ _ _ _ _ _ _ _ _ _ _ _ _ (fun i => match i with | 0 => C0 | 1 => C1 | 2 => C2 | 3 => C3 | 4 => C4 | _ => 0) := ⟨F0, b0, PySem.W.mg_of X G a0, F3, b3, PySem.W.mg_of X G a3, F4, b4, PySem.W.mg_of X G a4, F5, b5, PySem.W.mg_of X G a5, F7, b7, PySem.W.mg_of X G a7, F8, b8, PySem.W.mg_of X G a8, F10, b10, PySem.W.mg_of X G a10, F21, b21, PySem.W.mg_of X G a21, F22, b22, PySem.W.mg_of X G a22, F23, b23, PySem.W.mg_of X G a23, F25, b25, F26, b26, F27, b27, F28, b28, F12, b12, PySem.W.mg_of X G a12, F13, b13, PySem.W.mg_of X G a13, F14, b14, PySem.W.mg_of X G a14, F15, b15, PySem.W.mg_of X G a15, F16, b16, PySem.W.mg_of X G a16, F42, b42, PySem.W.mg_of X G a42, F17, b17, PySem.W.mg_of X G a17, F18, b18, PySem.W.mg_of X G a18, F19, b19, PySem.W.mg_of X G a19, F34, b34, PySem.W.mg_of X G a34, F35, b35, PySem.W.mg_of X G a35, F36, b36, PySem.W.mg_of X G a36, F45, b45, PySem.W.mg_of X G a45, F46, b46, PySem.W.mg_of X G a46, F20, b20, PySem.W.mg_of X G a20, PySem.W.mg_none_of X G z_all, PySem.W.mg_none_of X G z_any, PySem.W.mg_none_of X G z_bool, PySem.W.mg_none_of X G z_enumerate, PySem.W.mg_none_of X G z_int, PySem.W.mg_none_of X G z_isinstance, PySem.W.mg_none_of X G z_len, PySem.W.mg_none_of X G z_list, PySem.W.mg_none_of X G z_max, PySem.W.mg_none_of X G z_min, PySem.W.mg_none_of X G z_range, PySem.W.mg_none_of X G z_set, PySem.W.mg_none_of X G z_sorted, PySem.W.mg_none_of X G z_sum, PySem.W.mg_none_of X G z_tuple, PySem.W.mg_none_of X G z_zip, PySem.W.mg_of X G aC0, PySem.W.mg_of X G aC1, PySem.W.mg_of X G aC2, PySem.W.mg_of X G aC3, PySem.W.mg_of X G aC4, ⟨⟨hpg1, hhd1, hpo1, hsa1⟩, hcz1, zcg, zct, hcm1⟩, ⟨hsh1, hsf1, k25⟩, hs0_1, hs1_1, hs2_1, hs3_1, hs4_1, hmk1, hmi1, hkC1, ⟨⟨hpg2, hhd2, hpo2, hsa2⟩, hcz2, zcg, zct, hcm2⟩, ⟨hsh2, hsf2, k26⟩, hs0_2, hs1_2, hs2_2, hs3_2, hs4_2, hna2, ⟨_, _, ⟨hmk2, hin2, hif2, hkC2⟩, FI2, bI2⟩, ⟨⟨hpg3, hhd3, hpo3, hsa3⟩, hcz3, zcg, zct, hcm3⟩, ⟨hsh3, hsf3, k27⟩, hs0_3, hs1_3, hs2_3, hs3_3, hs4_3, hmk3, hmi3, hkC3, ⟨⟨hpg4, hhd4, hpo4, hsa4⟩, hcz4, zcg, zct, hcm4⟩, ⟨hsh4, hsf4, k28⟩, hs0_4, hs1_4, hs2_4, hs3_4, hs4_4, hna4, ⟨_, _, ⟨hmk4, hin4, hif4, hkC4⟩, FI4, bI4⟩⟩
  exact ⟨_, fun s v => .of_eq rfl, fun base _ _ => (o20 (n := 39) Tx (all Tx 39)).imp fun vs H Q E h => h _⟩
end Nt_nothrees_k04_by_hand

set_option Elab.async false
set_option linter.all false
set_option maxRecDepth 100000
set_option maxHeartbeats 0
namespace Nt_nothrees_k04_by_hand
open PySem Nt
theorem hA : HA T := ⟨rfl, rfl, rfl, rfl, rfl, rfl, rfl, rfl, rfl, rfl, rfl, rfl, rfl⟩
theorem z1 : C1 T := ⟨rfl, rfl, rfl⟩
theorem z2 : C2 T := ⟨rfl, rfl, rfl⟩
theorem z3 : C3 T := ⟨rfl, rfl, rfl⟩
theorem z4 : C4 T := ⟨rfl, rfl, rfl⟩
theorem e15 {m : Nat} (a : Bool) : Nt.run T (m + 1) 15 [.bl a, .bl a] = some (.bl true) := by rw [q15 hA (m := m) rfl]; cases a <;> rfl
theorem q45 {m : Nat} {k : Kd} {n : Int} (hf : okF k n) {ps : List Pt} (h : areP k n ps = true) (hl : ps.length ≤ 99) (t : List Pt) (ht : t.length ≤ 100) (hp : ∀ p ∈ t, p.length ≤ LIM) : run T (m + 10) 45 [fldD k n, ptsD ps, ptsD t] = some (.bl true) := by
  refine run_r (f := fn45) rfl rfl ?_
  have e26 := q26 hA z2 (m := m + 5) (k := k) (n := n) rfl hf t ps (by unfold LIM; omega) hp (by unfold LIM; omega)
  rw [shL_eq h] at e26
  have em := mk1t (T := { T with lv := m + 9 }) (cl := Nt.run T (m + 9)) (env := [some (fldD k n), some (ptsD ps), some (ptsD t), some (ptsD t), none, none]) (e := .var 3) (c := 2) z2.cf (by show 2 ≤ m + 9; omega)
  simp only [s_nil, s_asg, s_mov, s_par, s_ifs, s_ret, s_retn, s_ex, Ss.app, nx_nx, rt_rt, zv1, zv2, zv3, zv4, zv5, zv6, zv7, zv8, zv9, zv10, zv11, zv13, zv14, zv15, zv16, zv17, zv18, zv19, zw1, zw2, zr1, zr2, zr3, zr4, zr5, zr6, zr7, gt, sub_int, add_int, le_int, gt_int, ge_int, o_lt, o_eq, o_ne, o_mem, o_nmem, o_is, o_isn, o_not, o_len, o_all, o_any, o_sum, o_sort, o_ssort, o_lst, o_tup, o_ist, i_int, i_boolI, i_boolB, i_str, i_tup, i_lst, i_tupP, i_tupF, len_tup, len_lst, len_tupP, len_F, ix_tup, ix_lst, ix_tupP, ix_F0, ix_F1, not_bl, seq_tup, seq_lst, seq_tupP, lt_int, lst_lst, tpl_lst, tpl_tup, is_bb, isn_bb, bindD, setsD, List.length_cons, List.length_nil, List.map_cons, List.map_nil, List.replicate_succ, List.replicate_zero, List.append_nil, List.cons_append, List.nil_append, List.getElem?_cons_zero, List.getElem?_cons_succ, List.set_cons_zero, List.set_cons_succ, if_true, if_false, Nat.zero_add, Nat.sub_self, Nat.reduceAdd, Nat.reduceSub, Option.map_some, Option.map_none, Bool.not_true, Bool.not_false, Option.bind_some, nc0, nc1, nc2, nc3, nc4, Option.some.injEq, D.bl.injEq, D.int.injEq, reduceCtorEq, decide_true, decide_false, Int.reduceEq, Int.reduceNe, not_true_eq_false, not_false_eq_true, ne_eq, Int.reduceLE, Int.reduceLT, at0, at1, at2, eq_int, eq_bl, eq_sp, eq_pl, eq_fl, eq_tup, eq_pts, eq_lns, mem_pts, mem_lns, Bool.false_xor, Bool.true_xor, mod_int, fdiv_int, mul_int, Int.reduceNeg, Nat.reduceLT, Int.reduceAdd, Int.reduceMul, Int.reduceSub, and_self, or_true, true_or, reduceIte, beq_self_eq_true, Bool.and_self, Bool.true_and, Bool.and_true, Bool.false_and, Bool.and_false, Bool.or_true, Bool.true_or, Bool.or_false, Bool.false_or] at em
  simp only [fn45, s_nil, s_asg, s_mov, s_par, s_ifs, s_ret, s_retn, s_ex, Ss.app, nx_nx, rt_rt, zv1, zv2, zv3, zv4, zv5, zv6, zv7, zv8, zv9, zv10, zv11, zv13, zv14, zv15, zv16, zv17, zv18, zv19, zw1, zw2, zr1, zr2, zr3, zr4, zr5, zr6, zr7, gt, sub_int, add_int, le_int, gt_int, ge_int, o_lt, o_eq, o_ne, o_mem, o_nmem, o_is, o_isn, o_not, o_len, o_all, o_any, o_sum, o_sort, o_ssort, o_lst, o_tup, o_ist, i_int, i_boolI, i_boolB, i_str, i_tup, i_lst, i_tupP, i_tupF, len_tup, len_lst, len_tupP, len_F, ix_tup, ix_lst, ix_tupP, ix_F0, ix_F1, not_bl, seq_tup, seq_lst, seq_tupP, lt_int, lst_lst, tpl_lst, tpl_tup, is_bb, isn_bb, bindD, setsD, List.length_cons, List.length_nil, List.map_cons, List.map_nil, List.replicate_succ, List.replicate_zero, List.append_nil, List.cons_append, List.nil_append, List.getElem?_cons_zero, List.getElem?_cons_succ, List.set_cons_zero, List.set_cons_succ, if_true, if_false, Nat.zero_add, Nat.sub_self, Nat.reduceAdd, Nat.reduceSub, Option.map_some, Option.map_none, Bool.not_true, Bool.not_false, Option.bind_some, nc0, nc1, nc2, nc3, nc4, Option.some.injEq, D.bl.injEq, D.int.injEq, reduceCtorEq, decide_true, decide_false, Int.reduceEq, Int.reduceNe, not_true_eq_false, not_false_eq_true, ne_eq, Int.reduceLE, Int.reduceLT, at0, at1, at2, eq_int, eq_bl, eq_sp, eq_pl, eq_fl, eq_tup, eq_pts, eq_lns, mem_pts, mem_lns, Bool.false_xor, Bool.true_xor, mod_int, fdiv_int, mul_int, Int.reduceNeg, Nat.reduceLT, Int.reduceAdd, Int.reduceMul, Int.reduceSub, and_self, or_true, true_or, reduceIte, beq_self_eq_true, Bool.and_self, Bool.true_and, Bool.and_true, Bool.false_and, Bool.and_false, Bool.or_true, Bool.true_or, Bool.or_false, Bool.false_or, em]
  rw [s_app (xs := t.map tupD) (d := .tup [.int 0, .int 0]) rfl (by simp only [s_nil, s_asg, s_mov, s_par, s_ifs, s_ret, s_retn, s_ex, Ss.app, nx_nx, rt_rt, zv1, zv2, zv3, zv4, zv5, zv6, zv7, zv8, zv9, zv10, zv11, zv13, zv14, zv15, zv16, zv17, zv18, zv19, zw1, zw2, zr1, zr2, zr3, zr4, zr5, zr6, zr7, gt, sub_int, add_int, le_int, gt_int, ge_int, o_lt, o_eq, o_ne, o_mem, o_nmem, o_is, o_isn, o_not, o_len, o_all, o_any, o_sum, o_sort, o_ssort, o_lst, o_tup, o_ist, i_int, i_boolI, i_boolB, i_str, i_tup, i_lst, i_tupP, i_tupF, len_tup, len_lst, len_tupP, len_F, ix_tup, ix_lst, ix_tupP, ix_F0, ix_F1, not_bl, seq_tup, seq_lst, seq_tupP, lt_int, lst_lst, tpl_lst, tpl_tup, is_bb, isn_bb, bindD, setsD, List.length_cons, List.length_nil, List.map_cons, List.map_nil, List.replicate_succ, List.replicate_zero, List.append_nil, List.cons_append, List.nil_append, List.getElem?_cons_zero, List.getElem?_cons_succ, List.set_cons_zero, List.set_cons_succ, if_true, if_false, Nat.zero_add, Nat.sub_self, Nat.reduceAdd, Nat.reduceSub, Option.map_some, Option.map_none, Bool.not_true, Bool.not_false, Option.bind_some, nc0, nc1, nc2, nc3, nc4, Option.some.injEq, D.bl.injEq, D.int.injEq, reduceCtorEq, decide_true, decide_false, Int.reduceEq, Int.reduceNe, not_true_eq_false, not_false_eq_true, ne_eq, Int.reduceLE, Int.reduceLT, at0, at1, at2, eq_int, eq_bl, eq_sp, eq_pl, eq_fl, eq_tup, eq_pts, eq_lns, mem_pts, mem_lns, Bool.false_xor, Bool.true_xor, mod_int, fdiv_int, mul_int, Int.reduceNeg, Nat.reduceLT, Int.reduceAdd, Int.reduceMul, Int.reduceSub, and_self, or_true, true_or, reduceIte, beq_self_eq_true, Bool.and_self, Bool.true_and, Bool.and_true, Bool.false_and, Bool.and_false, Bool.or_true, Bool.true_or, Bool.or_false, Bool.false_or]) (by rw [List.length_map]; unfold LIM; omega)]
  simp only [s_nil, s_asg, s_mov, s_par, s_ifs, s_ret, s_retn, s_ex, Ss.app, nx_nx, rt_rt, zv1, zv2, zv3, zv4, zv5, zv6, zv7, zv8, zv9, zv10, zv11, zv13, zv14, zv15, zv16, zv17, zv18, zv19, zw1, zw2, zr1, zr2, zr3, zr4, zr5, zr6, zr7, gt, sub_int, add_int, le_int, gt_int, ge_int, o_lt, o_eq, o_ne, o_mem, o_nmem, o_is, o_isn, o_not, o_len, o_all, o_any, o_sum, o_sort, o_ssort, o_lst, o_tup, o_ist, i_int, i_boolI, i_boolB, i_str, i_tup, i_lst, i_tupP, i_tupF, len_tup, len_lst, len_tupP, len_F, ix_tup, ix_lst, ix_tupP, ix_F0, ix_F1, not_bl, seq_tup, seq_lst, seq_tupP, lt_int, lst_lst, tpl_lst, tpl_tup, is_bb, isn_bb, bindD, setsD, List.length_cons, List.length_nil, List.map_cons, List.map_nil, List.replicate_succ, List.replicate_zero, List.append_nil, List.cons_append, List.nil_append, List.getElem?_cons_zero, List.getElem?_cons_succ, List.set_cons_zero, List.set_cons_succ, if_true, if_false, Nat.zero_add, Nat.sub_self, Nat.reduceAdd, Nat.reduceSub, Option.map_some, Option.map_none, Bool.not_true, Bool.not_false, Option.bind_some, nc0, nc1, nc2, nc3, nc4, Option.some.injEq, D.bl.injEq, D.int.injEq, reduceCtorEq, decide_true, decide_false, Int.reduceEq, Int.reduceNe, not_true_eq_false, not_false_eq_true, ne_eq, Int.reduceLE, Int.reduceLT, at0, at1, at2, eq_int, eq_bl, eq_sp, eq_pl, eq_fl, eq_tup, eq_pts, eq_lns, mem_pts, mem_lns, Bool.false_xor, Bool.true_xor, mod_int, fdiv_int, mul_int, Int.reduceNeg, Nat.reduceLT, Int.reduceAdd, Int.reduceMul, Int.reduceSub, and_self, or_true, true_or, reduceIte, beq_self_eq_true, Bool.and_self, Bool.true_and, Bool.and_true, Bool.false_and, Bool.and_false, Bool.or_true, Bool.true_or, Bool.or_false, Bool.false_or, q34 hA (m := m + 7) rfl hf ps hl (areP_iff.mp h).1, fld1 z2.cn, z2.sh, e26, e15, eq_self_pts]
theorem q46 {m : Nat} {k : Kd} {n : Int} (hf : okF k n) {ps : List Pt} (h : areP k n ps = true) (hc : clr k n ps) (hl : ps.length ≤ 50) (p : Pt) (hp : p.length ≤ LIM) : run T (m + 10) 46 [fldD k n, ptsD ps, tupD p] = some (.bl true) := by
  refine run_r (f := fn46) rfl rfl ?_
  have hl1 := lng_le hf
  have e28 := q28 hA z4 (m := m + 6) (k := k) (n := n) rfl rfl hf p hp ps (by omega) (areP_iff.mp h).1
  have em := fun x3 => mk1f (T := { T with lv := m + 9 }) (cl := Nt.run T (m + 9)) (env := [some (fldD k n), some (ptsD ps), some (tupD p), some (.bl x3)]) (e := .var 2) (c := 4) z4.cf (by show 2 ≤ m + 9; omega)
  simp only [s_nil, s_asg, s_mov, s_par, s_ifs, s_ret, s_retn, s_ex, Ss.app, nx_nx, rt_rt, zv1, zv2, zv3, zv4, zv5, zv6, zv7, zv8, zv9, zv10, zv11, zv13, zv14, zv15, zv16, zv17, zv18, zv19, zw1, zw2, zr1, zr2, zr3, zr4, zr5, zr6, zr7, gt, sub_int, add_int, le_int, gt_int, ge_int, o_lt, o_eq, o_ne, o_mem, o_nmem, o_is, o_isn, o_not, o_len, o_all, o_any, o_sum, o_sort, o_ssort, o_lst, o_tup, o_ist, i_int, i_boolI, i_boolB, i_str, i_tup, i_lst, i_tupP, i_tupF, len_tup, len_lst, len_tupP, len_F, ix_tup, ix_lst, ix_tupP, ix_F0, ix_F1, not_bl, seq_tup, seq_lst, seq_tupP, lt_int, lst_lst, tpl_lst, tpl_tup, is_bb, isn_bb, bindD, setsD, List.length_cons, List.length_nil, List.map_cons, List.map_nil, List.replicate_succ, List.replicate_zero, List.append_nil, List.cons_append, List.nil_append, List.getElem?_cons_zero, List.getElem?_cons_succ, List.set_cons_zero, List.set_cons_succ, if_true, if_false, Nat.zero_add, Nat.sub_self, Nat.reduceAdd, Nat.reduceSub, Option.map_some, Option.map_none, Bool.not_true, Bool.not_false, Option.bind_some, nc0, nc1, nc2, nc3, nc4, Option.some.injEq, D.bl.injEq, D.int.injEq, reduceCtorEq, decide_true, decide_false, Int.reduceEq, Int.reduceNe, not_true_eq_false, not_false_eq_true, ne_eq, Int.reduceLE, Int.reduceLT, at0, at1, at2, eq_int, eq_bl, eq_sp, eq_pl, eq_fl, eq_tup, eq_pts, eq_lns, mem_pts, mem_lns, Bool.false_xor, Bool.true_xor, mod_int, fdiv_int, mul_int, Int.reduceNeg, Nat.reduceLT, Int.reduceAdd, Int.reduceMul, Int.reduceSub, and_self, or_true, true_or, reduceIte, beq_self_eq_true, Bool.and_self, Bool.true_and, Bool.and_true, Bool.false_and, Bool.and_false, Bool.or_true, Bool.true_or, Bool.or_false, Bool.false_or, show notL (tupD p) = true from rfl] at em
  have et : eqD (tupD p) (tupD p) = some true := (eq_tup p p).trans (by simp)
  simp only [fn46, s_nil, s_asg, s_mov, s_par, s_ifs, s_ret, s_retn, s_ex, Ss.app, nx_nx, rt_rt, zv1, zv2, zv3, zv4, zv5, zv6, zv7, zv8, zv9, zv10, zv11, zv13, zv14, zv15, zv16, zv17, zv18, zv19, zw1, zw2, zr1, zr2, zr3, zr4, zr5, zr6, zr7, gt, sub_int, add_int, le_int, gt_int, ge_int, o_lt, o_eq, o_ne, o_mem, o_nmem, o_is, o_isn, o_not, o_len, o_all, o_any, o_sum, o_sort, o_ssort, o_lst, o_tup, o_ist, i_int, i_boolI, i_boolB, i_str, i_tup, i_lst, i_tupP, i_tupF, len_tup, len_lst, len_tupP, len_F, ix_tup, ix_lst, ix_tupP, ix_F0, ix_F1, not_bl, seq_tup, seq_lst, seq_tupP, lt_int, lst_lst, tpl_lst, tpl_tup, is_bb, isn_bb, bindD, setsD, List.length_cons, List.length_nil, List.map_cons, List.map_nil, List.replicate_succ, List.replicate_zero, List.append_nil, List.cons_append, List.nil_append, List.getElem?_cons_zero, List.getElem?_cons_succ, List.set_cons_zero, List.set_cons_succ, if_true, if_false, Nat.zero_add, Nat.sub_self, Nat.reduceAdd, Nat.reduceSub, Option.map_some, Option.map_none, Bool.not_true, Bool.not_false, Option.bind_some, nc0, nc1, nc2, nc3, nc4, Option.some.injEq, D.bl.injEq, D.int.injEq, reduceCtorEq, decide_true, decide_false, Int.reduceEq, Int.reduceNe, not_true_eq_false, not_false_eq_true, ne_eq, Int.reduceLE, Int.reduceLT, at0, at1, at2, eq_int, eq_bl, eq_sp, eq_pl, eq_fl, eq_tup, eq_pts, eq_lns, mem_pts, mem_lns, Bool.false_xor, Bool.true_xor, mod_int, fdiv_int, mul_int, Int.reduceNeg, Nat.reduceLT, Int.reduceAdd, Int.reduceMul, Int.reduceSub, and_self, or_true, true_or, reduceIte, beq_self_eq_true, Bool.and_self, Bool.true_and, Bool.and_true, Bool.false_and, Bool.and_false, Bool.or_true, Bool.true_or, Bool.or_false, Bool.false_or, q17 hA (m := m + 7) hf]
  by_cases he : p ∈ every k n
  · by_cases hm : p ∈ ps
    · have e : p ∉ moreL k n ps := fun z => ((mem_moreL hf).mp z).2.1 hm
      rw [decide_eq_false e] at e28
      simp only [s_nil, s_asg, s_mov, s_par, s_ifs, s_ret, s_retn, s_ex, Ss.app, nx_nx, rt_rt, zv1, zv2, zv3, zv4, zv5, zv6, zv7, zv8, zv9, zv10, zv11, zv13, zv14, zv15, zv16, zv17, zv18, zv19, zw1, zw2, zr1, zr2, zr3, zr4, zr5, zr6, zr7, gt, sub_int, add_int, le_int, gt_int, ge_int, o_lt, o_eq, o_ne, o_mem, o_nmem, o_is, o_isn, o_not, o_len, o_all, o_any, o_sum, o_sort, o_ssort, o_lst, o_tup, o_ist, i_int, i_boolI, i_boolB, i_str, i_tup, i_lst, i_tupP, i_tupF, len_tup, len_lst, len_tupP, len_F, ix_tup, ix_lst, ix_tupP, ix_F0, ix_F1, not_bl, seq_tup, seq_lst, seq_tupP, lt_int, lst_lst, tpl_lst, tpl_tup, is_bb, isn_bb, bindD, setsD, List.length_cons, List.length_nil, List.map_cons, List.map_nil, List.replicate_succ, List.replicate_zero, List.append_nil, List.cons_append, List.nil_append, List.getElem?_cons_zero, List.getElem?_cons_succ, List.set_cons_zero, List.set_cons_succ, if_true, if_false, Nat.zero_add, Nat.sub_self, Nat.reduceAdd, Nat.reduceSub, Option.map_some, Option.map_none, Bool.not_true, Bool.not_false, Option.bind_some, nc0, nc1, nc2, nc3, nc4, Option.some.injEq, D.bl.injEq, D.int.injEq, reduceCtorEq, decide_true, decide_false, Int.reduceEq, Int.reduceNe, not_true_eq_false, not_false_eq_true, ne_eq, Int.reduceLE, Int.reduceLT, at0, at1, at2, eq_int, eq_bl, eq_sp, eq_pl, eq_fl, eq_tup, eq_pts, eq_lns, mem_pts, mem_lns, Bool.false_xor, Bool.true_xor, mod_int, fdiv_int, mul_int, Int.reduceNeg, Nat.reduceLT, Int.reduceAdd, Int.reduceMul, Int.reduceSub, and_self, or_true, true_or, reduceIte, beq_self_eq_true, Bool.and_self, Bool.true_and, Bool.and_true, Bool.false_and, Bool.and_false, Bool.or_true, Bool.true_or, Bool.or_false, Bool.false_or, he, hm, em, fld1 z4.cn, z4.sh, e28, e15, et]
    · have ip := (isPt_every hf).mpr he
      have es := sort_pts (d := (lng k n).toNat) (qs := ps ++ [p]) (by omega) (fun q m => isPt_bd hf (by
        rcases List.mem_append.mp m with m | m
        · exact (areP_iff.mp h).1 q m
        · rw [List.mem_singleton.mp m]; exact ip)) (by rw [List.length_append]; simp; omega)
      have e34 := q34 hA (m := m + 7) rfl hf (sortL (ps ++ [p])) (by rw [ins_len]; omega) (areP_iff.mp (ins_areP hf h ip hm)).1
      have ee : decide (p ∈ moreL k n ps) = decide (thr k n (sortL (ps ++ [p])) = []) := decide_eq_decide.mpr (by
        rw [mem_moreL hf, clr_iff, ins_clr hf h hc ip hm]
        simp [ip, hm])
      rw [ee] at e28
      simp only [s_nil, s_asg, s_mov, s_par, s_ifs, s_ret, s_retn, s_ex, Ss.app, nx_nx, rt_rt, zv1, zv2, zv3, zv4, zv5, zv6, zv7, zv8, zv9, zv10, zv11, zv13, zv14, zv15, zv16, zv17, zv18, zv19, zw1, zw2, zr1, zr2, zr3, zr4, zr5, zr6, zr7, gt, sub_int, add_int, le_int, gt_int, ge_int, o_lt, o_eq, o_ne, o_mem, o_nmem, o_is, o_isn, o_not, o_len, o_all, o_any, o_sum, o_sort, o_ssort, o_lst, o_tup, o_ist, i_int, i_boolI, i_boolB, i_str, i_tup, i_lst, i_tupP, i_tupF, len_tup, len_lst, len_tupP, len_F, ix_tup, ix_lst, ix_tupP, ix_F0, ix_F1, not_bl, seq_tup, seq_lst, seq_tupP, lt_int, lst_lst, tpl_lst, tpl_tup, is_bb, isn_bb, bindD, setsD, List.length_cons, List.length_nil, List.map_cons, List.map_nil, List.replicate_succ, List.replicate_zero, List.append_nil, List.cons_append, List.nil_append, List.getElem?_cons_zero, List.getElem?_cons_succ, List.set_cons_zero, List.set_cons_succ, if_true, if_false, Nat.zero_add, Nat.sub_self, Nat.reduceAdd, Nat.reduceSub, Option.map_some, Option.map_none, Bool.not_true, Bool.not_false, Option.bind_some, nc0, nc1, nc2, nc3, nc4, Option.some.injEq, D.bl.injEq, D.int.injEq, reduceCtorEq, decide_true, decide_false, Int.reduceEq, Int.reduceNe, not_true_eq_false, not_false_eq_true, ne_eq, Int.reduceLE, Int.reduceLT, at0, at1, at2, eq_int, eq_bl, eq_sp, eq_pl, eq_fl, eq_tup, eq_pts, eq_lns, mem_pts, mem_lns, Bool.false_xor, Bool.true_xor, mod_int, fdiv_int, mul_int, Int.reduceNeg, Nat.reduceLT, Int.reduceAdd, Int.reduceMul, Int.reduceSub, and_self, or_true, true_or, reduceIte, beq_self_eq_true, Bool.and_self, Bool.true_and, Bool.and_true, Bool.false_and, Bool.and_false, Bool.or_true, Bool.true_or, Bool.or_false, Bool.false_or, he, hm]
      rw [add_lst _ _ (by simp [LIM]; omega), pts_snoc]
      simp only [s_nil, s_asg, s_mov, s_par, s_ifs, s_ret, s_retn, s_ex, Ss.app, nx_nx, rt_rt, zv1, zv2, zv3, zv4, zv5, zv6, zv7, zv8, zv9, zv10, zv11, zv13, zv14, zv15, zv16, zv17, zv18, zv19, zw1, zw2, zr1, zr2, zr3, zr4, zr5, zr6, zr7, gt, sub_int, add_int, le_int, gt_int, ge_int, o_lt, o_eq, o_ne, o_mem, o_nmem, o_is, o_isn, o_not, o_len, o_all, o_any, o_sum, o_sort, o_ssort, o_lst, o_tup, o_ist, i_int, i_boolI, i_boolB, i_str, i_tup, i_lst, i_tupP, i_tupF, len_tup, len_lst, len_tupP, len_F, ix_tup, ix_lst, ix_tupP, ix_F0, ix_F1, not_bl, seq_tup, seq_lst, seq_tupP, lt_int, lst_lst, tpl_lst, tpl_tup, is_bb, isn_bb, bindD, setsD, List.length_cons, List.length_nil, List.map_cons, List.map_nil, List.replicate_succ, List.replicate_zero, List.append_nil, List.cons_append, List.nil_append, List.getElem?_cons_zero, List.getElem?_cons_succ, List.set_cons_zero, List.set_cons_succ, if_true, if_false, Nat.zero_add, Nat.sub_self, Nat.reduceAdd, Nat.reduceSub, Option.map_some, Option.map_none, Bool.not_true, Bool.not_false, Option.bind_some, nc0, nc1, nc2, nc3, nc4, Option.some.injEq, D.bl.injEq, D.int.injEq, reduceCtorEq, decide_true, decide_false, Int.reduceEq, Int.reduceNe, not_true_eq_false, not_false_eq_true, ne_eq, Int.reduceLE, Int.reduceLT, at0, at1, at2, eq_int, eq_bl, eq_sp, eq_pl, eq_fl, eq_tup, eq_pts, eq_lns, mem_pts, mem_lns, Bool.false_xor, Bool.true_xor, mod_int, fdiv_int, mul_int, Int.reduceNeg, Nat.reduceLT, Int.reduceAdd, Int.reduceMul, Int.reduceSub, and_self, or_true, true_or, reduceIte, beq_self_eq_true, Bool.and_self, Bool.true_and, Bool.and_true, Bool.false_and, Bool.and_false, Bool.or_true, Bool.true_or, Bool.or_false, Bool.false_or, es, e34, eq_lns_nil, em, fld1 z4.cn, z4.sh, e28, e15, et]
  · have e : p ∉ moreL k n ps := fun z => he ((isPt_every hf).mp ((mem_moreL hf).mp z).1)
    rw [decide_eq_false e] at e28
    simp only [s_nil, s_asg, s_mov, s_par, s_ifs, s_ret, s_retn, s_ex, Ss.app, nx_nx, rt_rt, zv1, zv2, zv3, zv4, zv5, zv6, zv7, zv8, zv9, zv10, zv11, zv13, zv14, zv15, zv16, zv17, zv18, zv19, zw1, zw2, zr1, zr2, zr3, zr4, zr5, zr6, zr7, gt, sub_int, add_int, le_int, gt_int, ge_int, o_lt, o_eq, o_ne, o_mem, o_nmem, o_is, o_isn, o_not, o_len, o_all, o_any, o_sum, o_sort, o_ssort, o_lst, o_tup, o_ist, i_int, i_boolI, i_boolB, i_str, i_tup, i_lst, i_tupP, i_tupF, len_tup, len_lst, len_tupP, len_F, ix_tup, ix_lst, ix_tupP, ix_F0, ix_F1, not_bl, seq_tup, seq_lst, seq_tupP, lt_int, lst_lst, tpl_lst, tpl_tup, is_bb, isn_bb, bindD, setsD, List.length_cons, List.length_nil, List.map_cons, List.map_nil, List.replicate_succ, List.replicate_zero, List.append_nil, List.cons_append, List.nil_append, List.getElem?_cons_zero, List.getElem?_cons_succ, List.set_cons_zero, List.set_cons_succ, if_true, if_false, Nat.zero_add, Nat.sub_self, Nat.reduceAdd, Nat.reduceSub, Option.map_some, Option.map_none, Bool.not_true, Bool.not_false, Option.bind_some, nc0, nc1, nc2, nc3, nc4, Option.some.injEq, D.bl.injEq, D.int.injEq, reduceCtorEq, decide_true, decide_false, Int.reduceEq, Int.reduceNe, not_true_eq_false, not_false_eq_true, ne_eq, Int.reduceLE, Int.reduceLT, at0, at1, at2, eq_int, eq_bl, eq_sp, eq_pl, eq_fl, eq_tup, eq_pts, eq_lns, mem_pts, mem_lns, Bool.false_xor, Bool.true_xor, mod_int, fdiv_int, mul_int, Int.reduceNeg, Nat.reduceLT, Int.reduceAdd, Int.reduceMul, Int.reduceSub, and_self, or_true, true_or, reduceIte, beq_self_eq_true, Bool.and_self, Bool.true_and, Bool.and_true, Bool.false_and, Bool.and_false, Bool.or_true, Bool.true_or, Bool.or_false, Bool.false_or, he, em, fld1 z4.cn, z4.sh, e28, e15, et]
def rest : Ss := (.cons (.par 10 11 (.call 17 (.cons (.var 2) .nil)) (.call 35 (.cons (.var 0) (.cons (.var 1) (.cons (.var 2) (.cons (.lit (.int 9)) .nil)))))) (.cons (.asg 3 (.slH (.call 34 (.cons (.var 2) (.cons (.var 11) .nil))) (.lit (.int 2)))) (.cons (.asg 4 (.lst (.cons (.slH (.var 11) (.lit (.int 3))) (.cons (.slH (.var 10) (.lit (.int 3))) (.cons (.o2 .rep (.lst (.cons (.ix (.var 10) (.lit (.int 0))) .nil)) (.lit (.int 3))) (.cons (.lst (.cons (.tup (.cons (.lit (.int 99)) (.cons (.lit (.int 99)) .nil))) (.cons (.tup (.cons (.lit (.int 99)) (.cons (.lit (.int 100)) .nil))) (.cons (.tup (.cons (.lit (.int 99)) (.cons (.lit (.int 101)) .nil))) .nil)))) (.cons (.lst (.cons (.tup .nil) (.cons (.tup .nil) (.cons (.tup .nil) .nil)))) (.cons (.lst .nil) .nil)))))))) (.cons (.for (.one 5) (.sq (.var 3)) (.cons (.asg 4 (.o2 .add (.var 4) (.lst (.cons (.var 5) (.cons (.rev (.var 5)) (.cons (.slH (.var 5) (.lit (.int 2))) (.cons (.o2 .add (.var 5) (.slH (.var 5) (.lit (.int 1)))) .nil))))))) .nil)) (.cons (.for (.one 6) (.sq (.var 4)) (.cons (.ifs (.o1 .not (.call 45 (.cons (.var 2) (.cons (.var 11) (.cons (.var 6) .nil))))) (.cons (.ret (.lit (.bl false))) .nil) .nil) .nil)) (.cons (.ifs (.o1 .not (.call 15 (.cons (.shows (.mk 1 .nil) (.cons (.var 2) (.cons (.var 11) .nil))) (.cons (.o2 .eq (.var 3) (.lst .nil)) .nil)))) (.cons (.ret (.lit (.bl false))) .nil) .nil) (.cons (.asg 7 (.call 36 (.cons (.var 0) (.cons (.o2 .add (.var 1) (.lit (.int 1))) (.cons (.var 2) (.cons (.lit (.int 6)) .nil)))))) (.cons (.asg 4 (.o2 .add (.o2 .add (.o2 .add (.slH (.var 10) (.lit (.int 5))) (.slL (.var 10) (.o1 .neg (.lit (.int 3))))) (.slH (.var 7) (.lit (.int 2)))) (.lst (.cons (.tup .nil) (.cons (.tup (.cons (.lit (.int 99)) .nil)) (.cons (.tup (.cons (.o1 .neg (.lit (.int 1))) (.cons (.lit (.int 0)) .nil))) (.cons (.tup (.cons (.lit (.int 0)) (.cons (.o2 .pow (.lit (.int 10)) (.lit (.int 20))) .nil))) (.cons (.tup (.cons (.lit (.int 0)) (.cons (.lit (.int 0)) (.cons (.lit (.int 0)) (.cons (.lit (.int 0)) (.cons (.lit (.int 0)) .nil)))))) .nil)))))))) (.cons (.ifs (.o1 .not (.o1 .all (.comp (.sq (.var 4)) (.one 9) (.call 46 (.cons (.var 2) (.cons (.var 7) (.cons (.var 9) .nil))))))) (.cons (.ret (.lit (.bl false))) .nil) .nil) (.cons (.asg 8 (.lit (.bl true))) (.cons (.for (.one 9) (.sq (.var 10)) (.cons (.ifs (.and (.o2 .nmem (.var 9) (.var 7)) (.o2 .eq (.call 34 (.cons (.var 2) (.cons (.o1 .sort (.o2 .add (.var 7) (.lst (.cons (.var 9) .nil)))) .nil))) (.lst .nil))) (.cons (.asg 8 (.lit (.bl false))) .nil) .nil) .nil)) (.cons (.ifs (.o1 .not (.call 15 (.cons (.shows (.mk 3 .nil) (.cons (.var 2) (.cons (.var 7) .nil))) (.cons (.var 8) .nil)))) (.cons (.ret (.lit (.bl false))) .nil) .nil) .nil))))))))))))
/-- each of points that can be asked -/
def okT (t : List Pt) : Prop := t.length ≤ 100 ∧ ∀ p ∈ t, p.length ≤ LIM
theorem body {k : Kd} {n : Int} (hF : okF k n) (hE : (every k n).length ≤ 27) {ns : List Int} {b : Nat} {x3 x4 x5 x6 x7 x8 x9 x10 x11 : Option D} :
    Nx (fun env => ∃ x1 x2 x3 x4 x5 x6 x7 x8 x9 x10 x11, env = [some (.lst (ns.map .int)), x1, x2, x3, x4, x5, x6, x7, x8, x9, x10, x11]) (exs { T with lv := 39 } (Nt.run T 39) rest [some (.lst (ns.map .int)), some (.int (b : Int)), some (fldD k n), x3, x4, x5, x6, x7, x8, x9, x10, x11]) := by
  obtain ⟨ps, e35, pa, pl, _⟩ := q35 hA (m := 36) (ns := ns) (b := (b : Int)) rfl hF (by omega) (lim := 9) (by decide) (by decide)
  obtain ⟨qs, e36, qa, ql, _, qc⟩ := q36 hA (m := 35) (ns := ns) (b := (b : Int) + 1) rfl rfl rfl hF (by omega) (lim := 6) (by decide) (by decide)
  have hE0 := every_len hF
  have hl1 := lng_le hF
  have s1 : slD none (some 3) (.lst (ps.map tupD)) = some (.lst ((ps.take 3).map tupD)) := sl_take ps 3
  have s2 : slD none (some 3) (.lst ((every k n).map tupD)) = some (.lst (((every k n).take 3).map tupD)) := sl_take _ 3
  have s3 : L2.atI ((every k n).map tupD) 0 = some (tupD ((every k n).getD 0 [])) := ix_pts (s := 0) (by omega)
  have evp : ∀ p ∈ every k n, p.length ≤ LIM := fun p m => by have := (every_pt hF m).2.1; unfold LIM; omega
  have e0 : (every k n).getD 0 [] ∈ every k n := (at_pts (qs := every k n) (i := 0) (by omega) (by omega)).2
  simp only [rest, s_nil, s_asg, s_mov, s_par, s_ifs, s_ret, s_retn, s_ex, Ss.app, nx_nx, rt_rt, zv1, zv2, zv3, zv4, zv5, zv6, zv7, zv8, zv9, zv10, zv11, zv13, zv14, zv15, zv16, zv17, zv18, zv19, zw1, zw2, zr1, zr2, zr3, zr4, zr5, zr6, zr7, gt, sub_int, add_int, le_int, gt_int, ge_int, o_lt, o_eq, o_ne, o_mem, o_nmem, o_is, o_isn, o_not, o_len, o_all, o_any, o_sum, o_sort, o_ssort, o_lst, o_tup, o_ist, i_int, i_boolI, i_boolB, i_str, i_tup, i_lst, i_tupP, i_tupF, len_tup, len_lst, len_tupP, len_F, ix_tup, ix_lst, ix_tupP, ix_F0, ix_F1, not_bl, seq_tup, seq_lst, seq_tupP, lt_int, lst_lst, tpl_lst, tpl_tup, is_bb, isn_bb, bindD, setsD, List.length_cons, List.length_nil, List.map_cons, List.map_nil, List.replicate_succ, List.replicate_zero, List.append_nil, List.cons_append, List.nil_append, List.getElem?_cons_zero, List.getElem?_cons_succ, List.set_cons_zero, List.set_cons_succ, if_true, if_false, Nat.zero_add, Nat.sub_self, Nat.reduceAdd, Nat.reduceSub, Option.map_some, Option.map_none, Bool.not_true, Bool.not_false, Option.bind_some, nc0, nc1, nc2, nc3, nc4, Option.some.injEq, D.bl.injEq, D.int.injEq, reduceCtorEq, decide_true, decide_false, Int.reduceEq, Int.reduceNe, not_true_eq_false, not_false_eq_true, ne_eq, Int.reduceLE, Int.reduceLT, at0, at1, at2, eq_int, eq_bl, eq_sp, eq_pl, eq_fl, eq_tup, eq_pts, eq_lns, mem_pts, mem_lns, Bool.false_xor, Bool.true_xor, mod_int, fdiv_int, mul_int, Int.reduceNeg, Nat.reduceLT, Int.reduceAdd, Int.reduceMul, Int.reduceSub, and_self, or_true, true_or, reduceIte, beq_self_eq_true, Bool.and_self, Bool.true_and, Bool.and_true, Bool.false_and, Bool.and_false, Bool.or_true, Bool.true_or, Bool.or_false, Bool.false_or, q17 hA (m := 37) hF, e35, q34 hA (m := 37) rfl hF ps (by omega) (areP_iff.mp pa).1, take_lns, s1, s2, s3, rep3]
  generalize hT0 : [ps.take 3, (every k n).take 3, [(every k n).getD 0 [], (every k n).getD 0 [], (every k n).getD 0 []], [[99, 99], [99, 100], [99, 101]], [[], [], []], []] = T0
  have okT0 : ∀ t ∈ T0, okT t := by
    rw [← hT0]
    intro t ht
    simp only [List.mem_cons, List.not_mem_nil, or_false] at ht
    rcases ht with rfl | rfl | rfl | rfl | rfl | rfl
    · exact ⟨by rw [List.length_take]; omega, fun p m => areP_pts hF pa p (List.mem_of_mem_take m)⟩
    · exact ⟨by rw [List.length_take]; omega, fun p m => evp p (List.mem_of_mem_take m)⟩
    · refine ⟨by simp, fun p m => ?_⟩
      simp only [List.mem_cons, List.not_mem_nil, or_false, or_self] at m
      rw [m]; exact evp _ e0
    · exact ⟨by simp, by unfold LIM; decide⟩
    · exact ⟨by simp, by unfold LIM; decide⟩
    · exact ⟨by simp, fun p m => by cases m⟩
  have lenT0 : T0.length = 6 := by rw [← hT0]; rfl
  have htl : ∀ l ∈ (thr k n ps).take 2, okT l ∧ l.length ≤ 3 := fun l m => by
    obtain ⟨p, q, r, rfl, s, _⟩ := mem_thr.mp (List.mem_of_mem_take m)
    exact ⟨⟨by simp, fun x hx => areP_pts hF pa x (s.subset hx)⟩, by simp⟩
  have ltk : ((thr k n ps).take 2).length ≤ 2 := by rw [List.length_take]; omega
  refine s_accP (g := ptsD) (xs := (thr k n ps).take 2) (P := fun acc env => ∃ x5, env = [some (.lst (ns.map .int)), some (.int (b : Int)), some (fldD k n), some (lnsD ((thr k n ps).take 2)), some (lnsD acc), x5, x6, x7, x8, x9, some (ptsD (every k n)), some (ptsD ps)]) (fun l => [l, l.reverse, l.take 2, l ++ l.take 1]) T0 ?_ ⟨x5, by subst hT0; rfl⟩ ?_ ?_
  · simp only [s_nil, s_asg, s_mov, s_par, s_ifs, s_ret, s_retn, s_ex, Ss.app, nx_nx, rt_rt, zv1, zv2, zv3, zv4, zv5, zv6, zv7, zv8, zv9, zv10, zv11, zv13, zv14, zv15, zv16, zv17, zv18, zv19, zw1, zw2, zr1, zr2, zr3, zr4, zr5, zr6, zr7, gt, sub_int, add_int, le_int, gt_int, ge_int, o_lt, o_eq, o_ne, o_mem, o_nmem, o_is, o_isn, o_not, o_len, o_all, o_any, o_sum, o_sort, o_ssort, o_lst, o_tup, o_ist, i_int, i_boolI, i_boolB, i_str, i_tup, i_lst, i_tupP, i_tupF, len_tup, len_lst, len_tupP, len_F, ix_tup, ix_lst, ix_tupP, ix_F0, ix_F1, not_bl, seq_tup, seq_lst, seq_tupP, lt_int, lst_lst, tpl_lst, tpl_tup, is_bb, isn_bb, bindD, setsD, List.length_cons, List.length_nil, List.map_cons, List.map_nil, List.replicate_succ, List.replicate_zero, List.append_nil, List.cons_append, List.nil_append, List.getElem?_cons_zero, List.getElem?_cons_succ, List.set_cons_zero, List.set_cons_succ, if_true, if_false, Nat.zero_add, Nat.sub_self, Nat.reduceAdd, Nat.reduceSub, Option.map_some, Option.map_none, Bool.not_true, Bool.not_false, Option.bind_some, nc0, nc1, nc2, nc3, nc4, Option.some.injEq, D.bl.injEq, D.int.injEq, reduceCtorEq, decide_true, decide_false, Int.reduceEq, Int.reduceNe, not_true_eq_false, not_false_eq_true, ne_eq, Int.reduceLE, Int.reduceLT, at0, at1, at2, eq_int, eq_bl, eq_sp, eq_pl, eq_fl, eq_tup, eq_pts, eq_lns, mem_pts, mem_lns, Bool.false_xor, Bool.true_xor, mod_int, fdiv_int, mul_int, Int.reduceNeg, Nat.reduceLT, Int.reduceAdd, Int.reduceMul, Int.reduceSub, and_self, or_true, true_or, reduceIte, beq_self_eq_true, Bool.and_self, Bool.true_and, Bool.and_true, Bool.false_and, Bool.and_false, Bool.or_true, Bool.true_or, Bool.or_false, Bool.false_or]
  · rintro pre l post hpre env ⟨x5, rfl⟩
    refine ⟨_, rfl, ?_⟩
    have hl : l ∈ (thr k n ps).take 2 := by rw [hpre]; simp
    have hl2 := (htl l hl).2
    have t2 : slD none (some 2) (.lst (l.map tupD)) = some (.lst ((l.take 2).map tupD)) := sl_take l 2
    have t1 : slD none (some 1) (.lst (l.map tupD)) = some (.lst ((l.take 1).map tupD)) := sl_take l 1
    have al : (T0 ++ pre.flatMap fun l => [l, l.reverse, l.take 2, l ++ l.take 1]).length ≤ 20 := by
      have h1 := congrArg List.length hpre
      rw [List.length_append, List.length_cons] at h1
      rw [List.length_append, len_flat (w := 4) (fun a _ => rfl), lenT0]
      omega
    generalize T0 ++ (pre.flatMap fun l => [l, l.reverse, l.take 2, l ++ l.take 1]) = acc at al ⊢
    simp only [s_nil, s_asg, s_mov, s_par, s_ifs, s_ret, s_retn, s_ex, Ss.app, nx_nx, rt_rt, zv1, zv2, zv3, zv4, zv5, zv6, zv7, zv8, zv9, zv10, zv11, zv13, zv14, zv15, zv16, zv17, zv18, zv19, zw1, zw2, zr1, zr2, zr3, zr4, zr5, zr6, zr7, gt, sub_int, add_int, le_int, gt_int, ge_int, o_lt, o_eq, o_ne, o_mem, o_nmem, o_is, o_isn, o_not, o_len, o_all, o_any, o_sum, o_sort, o_ssort, o_lst, o_tup, o_ist, i_int, i_boolI, i_boolB, i_str, i_tup, i_lst, i_tupP, i_tupF, len_tup, len_lst, len_tupP, len_F, ix_tup, ix_lst, ix_tupP, ix_F0, ix_F1, not_bl, seq_tup, seq_lst, seq_tupP, lt_int, lst_lst, tpl_lst, tpl_tup, is_bb, isn_bb, bindD, setsD, List.length_cons, List.length_nil, List.map_cons, List.map_nil, List.replicate_succ, List.replicate_zero, List.append_nil, List.cons_append, List.nil_append, List.getElem?_cons_zero, List.getElem?_cons_succ, List.set_cons_zero, List.set_cons_succ, if_true, if_false, Nat.zero_add, Nat.sub_self, Nat.reduceAdd, Nat.reduceSub, Option.map_some, Option.map_none, Bool.not_true, Bool.not_false, Option.bind_some, nc0, nc1, nc2, nc3, nc4, Option.some.injEq, D.bl.injEq, D.int.injEq, reduceCtorEq, decide_true, decide_false, Int.reduceEq, Int.reduceNe, not_true_eq_false, not_false_eq_true, ne_eq, Int.reduceLE, Int.reduceLT, at0, at1, at2, eq_int, eq_bl, eq_sp, eq_pl, eq_fl, eq_tup, eq_pts, eq_lns, mem_pts, mem_lns, Bool.false_xor, Bool.true_xor, mod_int, fdiv_int, mul_int, Int.reduceNeg, Nat.reduceLT, Int.reduceAdd, Int.reduceMul, Int.reduceSub, and_self, or_true, true_or, reduceIte, beq_self_eq_true, Bool.and_self, Bool.true_and, Bool.and_true, Bool.false_and, Bool.and_false, Bool.or_true, Bool.true_or, Bool.or_false, Bool.false_or, t1, t2, rev_pts]
    rw [add_lst (l.map tupD) ((l.take 1).map tupD) (by simp [LIM]; omega), pts_add]
    simp only [s_nil, s_asg, s_mov, s_par, s_ifs, s_ret, s_retn, s_ex, Ss.app, nx_nx, rt_rt, zv1, zv2, zv3, zv4, zv5, zv6, zv7, zv8, zv9, zv10, zv11, zv13, zv14, zv15, zv16, zv17, zv18, zv19, zw1, zw2, zr1, zr2, zr3, zr4, zr5, zr6, zr7, gt, sub_int, add_int, le_int, gt_int, ge_int, o_lt, o_eq, o_ne, o_mem, o_nmem, o_is, o_isn, o_not, o_len, o_all, o_any, o_sum, o_sort, o_ssort, o_lst, o_tup, o_ist, i_int, i_boolI, i_boolB, i_str, i_tup, i_lst, i_tupP, i_tupF, len_tup, len_lst, len_tupP, len_F, ix_tup, ix_lst, ix_tupP, ix_F0, ix_F1, not_bl, seq_tup, seq_lst, seq_tupP, lt_int, lst_lst, tpl_lst, tpl_tup, is_bb, isn_bb, bindD, setsD, List.length_cons, List.length_nil, List.map_cons, List.map_nil, List.replicate_succ, List.replicate_zero, List.append_nil, List.cons_append, List.nil_append, List.getElem?_cons_zero, List.getElem?_cons_succ, List.set_cons_zero, List.set_cons_succ, if_true, if_false, Nat.zero_add, Nat.sub_self, Nat.reduceAdd, Nat.reduceSub, Option.map_some, Option.map_none, Bool.not_true, Bool.not_false, Option.bind_some, nc0, nc1, nc2, nc3, nc4, Option.some.injEq, D.bl.injEq, D.int.injEq, reduceCtorEq, decide_true, decide_false, Int.reduceEq, Int.reduceNe, not_true_eq_false, not_false_eq_true, ne_eq, Int.reduceLE, Int.reduceLT, at0, at1, at2, eq_int, eq_bl, eq_sp, eq_pl, eq_fl, eq_tup, eq_pts, eq_lns, mem_pts, mem_lns, Bool.false_xor, Bool.true_xor, mod_int, fdiv_int, mul_int, Int.reduceNeg, Nat.reduceLT, Int.reduceAdd, Int.reduceMul, Int.reduceSub, and_self, or_true, true_or, reduceIte, beq_self_eq_true, Bool.and_self, Bool.true_and, Bool.and_true, Bool.false_and, Bool.and_false, Bool.or_true, Bool.true_or, Bool.or_false, Bool.false_or]
    rw [add_lst _ _ (by simp [LIM]; omega)]
    simp only [s_nil, s_asg, s_mov, s_par, s_ifs, s_ret, s_retn, s_ex, Ss.app, nx_nx, rt_rt, zv1, zv2, zv3, zv4, zv5, zv6, zv7, zv8, zv9, zv10, zv11, zv13, zv14, zv15, zv16, zv17, zv18, zv19, zw1, zw2, zr1, zr2, zr3, zr4, zr5, zr6, zr7, gt, sub_int, add_int, le_int, gt_int, ge_int, o_lt, o_eq, o_ne, o_mem, o_nmem, o_is, o_isn, o_not, o_len, o_all, o_any, o_sum, o_sort, o_ssort, o_lst, o_tup, o_ist, i_int, i_boolI, i_boolB, i_str, i_tup, i_lst, i_tupP, i_tupF, len_tup, len_lst, len_tupP, len_F, ix_tup, ix_lst, ix_tupP, ix_F0, ix_F1, not_bl, seq_tup, seq_lst, seq_tupP, lt_int, lst_lst, tpl_lst, tpl_tup, is_bb, isn_bb, bindD, setsD, List.length_cons, List.length_nil, List.map_cons, List.map_nil, List.replicate_succ, List.replicate_zero, List.append_nil, List.cons_append, List.nil_append, List.getElem?_cons_zero, List.getElem?_cons_succ, List.set_cons_zero, List.set_cons_succ, if_true, if_false, Nat.zero_add, Nat.sub_self, Nat.reduceAdd, Nat.reduceSub, Option.map_some, Option.map_none, Bool.not_true, Bool.not_false, Option.bind_some, nc0, nc1, nc2, nc3, nc4, Option.some.injEq, D.bl.injEq, D.int.injEq, reduceCtorEq, decide_true, decide_false, Int.reduceEq, Int.reduceNe, not_true_eq_false, not_false_eq_true, ne_eq, Int.reduceLE, Int.reduceLT, at0, at1, at2, eq_int, eq_bl, eq_sp, eq_pl, eq_fl, eq_tup, eq_pts, eq_lns, mem_pts, mem_lns, Bool.false_xor, Bool.true_xor, mod_int, fdiv_int, mul_int, Int.reduceNeg, Nat.reduceLT, Int.reduceAdd, Int.reduceMul, Int.reduceSub, and_self, or_true, true_or, reduceIte, beq_self_eq_true, Bool.and_self, Bool.true_and, Bool.and_true, Bool.false_and, Bool.and_false, Bool.or_true, Bool.true_or, Bool.or_false, Bool.false_or]
    exact ⟨_, by rw [← lns_add]; rfl⟩
  · rintro env ⟨x5, rfl⟩
    have okT1 : ∀ t ∈ T0 ++ ((thr k n ps).take 2).flatMap fun l => [l, l.reverse, l.take 2, l ++ l.take 1], okT t := fun t ht => by
      rcases List.mem_append.mp ht with ht | ht
      · exact okT0 t ht
      · obtain ⟨l, hl, ht⟩ := List.mem_flatMap.mp ht
        obtain ⟨⟨h1, h2⟩, h3⟩ := htl l hl
        simp only [List.mem_cons, List.not_mem_nil, or_false] at ht
        rcases ht with rfl | rfl | rfl | rfl
        · exact ⟨h1, h2⟩
        · exact ⟨by simpa using h1, fun p m => h2 p (by simpa using m)⟩
        · exact ⟨by rw [List.length_take]; omega, fun p m => h2 p (List.mem_of_mem_take m)⟩
        · refine ⟨by rw [List.length_append, List.length_take]; omega, fun p m => ?_⟩
          rcases List.mem_append.mp m with m | m
          · exact h2 p m
          · exact h2 p (List.mem_of_mem_take m)
    generalize T0 ++ (((thr k n ps).take 2).flatMap fun l => [l, l.reverse, l.take 2, l ++ l.take 1]) = T1 at okT1 ⊢
    refine s_skip (g := ptsD) (xs := T1) (fun env => ∃ x6, env = [some (.lst (ns.map .int)), some (.int (b : Int)), some (fldD k n), some (lnsD ((thr k n ps).take 2)), some (lnsD T1), x5, x6, x7, x8, x9, some (ptsD (every k n)), some (ptsD ps)]) (by simp only [s_nil, s_asg, s_mov, s_par, s_ifs, s_ret, s_retn, s_ex, Ss.app, nx_nx, rt_rt, zv1, zv2, zv3, zv4, zv5, zv6, zv7, zv8, zv9, zv10, zv11, zv13, zv14, zv15, zv16, zv17, zv18, zv19, zw1, zw2, zr1, zr2, zr3, zr4, zr5, zr6, zr7, gt, sub_int, add_int, le_int, gt_int, ge_int, o_lt, o_eq, o_ne, o_mem, o_nmem, o_is, o_isn, o_not, o_len, o_all, o_any, o_sum, o_sort, o_ssort, o_lst, o_tup, o_ist, i_int, i_boolI, i_boolB, i_str, i_tup, i_lst, i_tupP, i_tupF, len_tup, len_lst, len_tupP, len_F, ix_tup, ix_lst, ix_tupP, ix_F0, ix_F1, not_bl, seq_tup, seq_lst, seq_tupP, lt_int, lst_lst, tpl_lst, tpl_tup, is_bb, isn_bb, bindD, setsD, List.length_cons, List.length_nil, List.map_cons, List.map_nil, List.replicate_succ, List.replicate_zero, List.append_nil, List.cons_append, List.nil_append, List.getElem?_cons_zero, List.getElem?_cons_succ, List.set_cons_zero, List.set_cons_succ, if_true, if_false, Nat.zero_add, Nat.sub_self, Nat.reduceAdd, Nat.reduceSub, Option.map_some, Option.map_none, Bool.not_true, Bool.not_false, Option.bind_some, nc0, nc1, nc2, nc3, nc4, Option.some.injEq, D.bl.injEq, D.int.injEq, reduceCtorEq, decide_true, decide_false, Int.reduceEq, Int.reduceNe, not_true_eq_false, not_false_eq_true, ne_eq, Int.reduceLE, Int.reduceLT, at0, at1, at2, eq_int, eq_bl, eq_sp, eq_pl, eq_fl, eq_tup, eq_pts, eq_lns, mem_pts, mem_lns, Bool.false_xor, Bool.true_xor, mod_int, fdiv_int, mul_int, Int.reduceNeg, Nat.reduceLT, Int.reduceAdd, Int.reduceMul, Int.reduceSub, and_self, or_true, true_or, reduceIte, beq_self_eq_true, Bool.and_self, Bool.true_and, Bool.and_true, Bool.false_and, Bool.and_false, Bool.or_true, Bool.true_or, Bool.or_false, Bool.false_or]) ⟨_, rfl⟩ ?_ ?_
    · rintro t ht env ⟨x6, rfl⟩
      refine ⟨_, rfl, ?_⟩
      obtain ⟨t1, t2⟩ := okT1 t ht
      simp only [s_nil, s_asg, s_mov, s_par, s_ifs, s_ret, s_retn, s_ex, Ss.app, nx_nx, rt_rt, zv1, zv2, zv3, zv4, zv5, zv6, zv7, zv8, zv9, zv10, zv11, zv13, zv14, zv15, zv16, zv17, zv18, zv19, zw1, zw2, zr1, zr2, zr3, zr4, zr5, zr6, zr7, gt, sub_int, add_int, le_int, gt_int, ge_int, o_lt, o_eq, o_ne, o_mem, o_nmem, o_is, o_isn, o_not, o_len, o_all, o_any, o_sum, o_sort, o_ssort, o_lst, o_tup, o_ist, i_int, i_boolI, i_boolB, i_str, i_tup, i_lst, i_tupP, i_tupF, len_tup, len_lst, len_tupP, len_F, ix_tup, ix_lst, ix_tupP, ix_F0, ix_F1, not_bl, seq_tup, seq_lst, seq_tupP, lt_int, lst_lst, tpl_lst, tpl_tup, is_bb, isn_bb, bindD, setsD, List.length_cons, List.length_nil, List.map_cons, List.map_nil, List.replicate_succ, List.replicate_zero, List.append_nil, List.cons_append, List.nil_append, List.getElem?_cons_zero, List.getElem?_cons_succ, List.set_cons_zero, List.set_cons_succ, if_true, if_false, Nat.zero_add, Nat.sub_self, Nat.reduceAdd, Nat.reduceSub, Option.map_some, Option.map_none, Bool.not_true, Bool.not_false, Option.bind_some, nc0, nc1, nc2, nc3, nc4, Option.some.injEq, D.bl.injEq, D.int.injEq, reduceCtorEq, decide_true, decide_false, Int.reduceEq, Int.reduceNe, not_true_eq_false, not_false_eq_true, ne_eq, Int.reduceLE, Int.reduceLT, at0, at1, at2, eq_int, eq_bl, eq_sp, eq_pl, eq_fl, eq_tup, eq_pts, eq_lns, mem_pts, mem_lns, Bool.false_xor, Bool.true_xor, mod_int, fdiv_int, mul_int, Int.reduceNeg, Nat.reduceLT, Int.reduceAdd, Int.reduceMul, Int.reduceSub, and_self, or_true, true_or, reduceIte, beq_self_eq_true, Bool.and_self, Bool.true_and, Bool.and_true, Bool.false_and, Bool.and_false, Bool.or_true, Bool.true_or, Bool.or_false, Bool.false_or, q45 (m := 29) hF pa (by omega) t t1 t2]
      exact ⟨_, rfl⟩
    · rintro env ⟨x6, rfl⟩
      have m0 := fun env => mk0 (T := { T with lv := 39 }) (cl := Nt.run T 39) (env := env) (c := 1) z1.cf (by show 2 ≤ 39; omega)
      have m3 := fun env => mk0 (T := { T with lv := 39 }) (cl := Nt.run T 39) (env := env) (c := 3) z3.cf (by show 2 ≤ 39; omega)
      have tk : decide ((thr k n ps).take 2 = []) = decide (thr k n ps = []) := decide_eq_decide.mpr (by cases thr k n ps <;> simp)
      obtain ⟨cs, ec, cl, cm⟩ := cut_sub (every k n) (-3)
      have c1 : slD none (some 5) (.lst ((every k n).map tupD)) = some (.lst (((every k n).take 5).map tupD)) := sl_take _ 5
      have c2 : slD none (some 2) (.lst (qs.map tupD)) = some (.lst ((qs.take 2).map tupD)) := sl_take _ 2
      have q25' := q25 hA (m := 36) (fs := []) rfl rfl hF ps (by omega) (areP_iff.mp pa).1
      have a1 := add_pts ((every k n).take 5) cs (by rw [List.length_take]; omega)
      have a2 := add_pts ((every k n).take 5 ++ cs) (qs.take 2) (by rw [List.length_append, List.length_take, List.length_take]; omega)
      have a3 : op2 .add (.lst (((every k n).take 5 ++ cs ++ qs.take 2).map tupD)) (.lst [.tup [], .tup [.int 99], .tup [.int (-1), .int 0], .tup [.int 0, .int 100000000000000000000], .tup [.int 0, .int 0, .int 0, .int 0, .int 0]]) = some (.lst ((((every k n).take 5 ++ cs ++ qs.take 2) ++ [[], [99], [-1, 0], [0, 100000000000000000000], [0, 0, 0, 0, 0]]).map tupD)) := add_pts ((every k n).take 5 ++ cs ++ qs.take 2) [[], [99], [-1, 0], [0, 100000000000000000000], [0, 0, 0, 0, 0]] (by rw [List.length_append, List.length_append, List.length_take, List.length_take]; simp; omega)
      simp only [s_nil, s_asg, s_mov, s_par, s_ifs, s_ret, s_retn, s_ex, Ss.app, nx_nx, rt_rt, zv1, zv2, zv3, zv4, zv5, zv6, zv7, zv8, zv9, zv10, zv11, zv13, zv14, zv15, zv16, zv17, zv18, zv19, zw1, zw2, zr1, zr2, zr3, zr4, zr5, zr6, zr7, gt, sub_int, add_int, le_int, gt_int, ge_int, o_lt, o_eq, o_ne, o_mem, o_nmem, o_is, o_isn, o_not, o_len, o_all, o_any, o_sum, o_sort, o_ssort, o_lst, o_tup, o_ist, i_int, i_boolI, i_boolB, i_str, i_tup, i_lst, i_tupP, i_tupF, len_tup, len_lst, len_tupP, len_F, ix_tup, ix_lst, ix_tupP, ix_F0, ix_F1, not_bl, seq_tup, seq_lst, seq_tupP, lt_int, lst_lst, tpl_lst, tpl_tup, is_bb, isn_bb, bindD, setsD, List.length_cons, List.length_nil, List.map_cons, List.map_nil, List.replicate_succ, List.replicate_zero, List.append_nil, List.cons_append, List.nil_append, List.getElem?_cons_zero, List.getElem?_cons_succ, List.set_cons_zero, List.set_cons_succ, if_true, if_false, Nat.zero_add, Nat.sub_self, Nat.reduceAdd, Nat.reduceSub, Option.map_some, Option.map_none, Bool.not_true, Bool.not_false, Option.bind_some, nc0, nc1, nc2, nc3, nc4, Option.some.injEq, D.bl.injEq, D.int.injEq, reduceCtorEq, decide_true, decide_false, Int.reduceEq, Int.reduceNe, not_true_eq_false, not_false_eq_true, ne_eq, Int.reduceLE, Int.reduceLT, at0, at1, at2, eq_int, eq_bl, eq_sp, eq_pl, eq_fl, eq_tup, eq_pts, eq_lns, mem_pts, mem_lns, Bool.false_xor, Bool.true_xor, mod_int, fdiv_int, mul_int, Int.reduceNeg, Nat.reduceLT, Int.reduceAdd, Int.reduceMul, Int.reduceSub, and_self, or_true, true_or, reduceIte, beq_self_eq_true, Bool.and_self, Bool.true_and, Bool.and_true, Bool.false_and, Bool.and_false, Bool.or_true, Bool.true_or, Bool.or_false, Bool.false_or, m0, z1.sh, q25', eq_lns_nil, tk, e15, e36, neg_int, ec, c1, c2, pow20, a1, a2, a3]
      have tried : ∀ p ∈ ((every k n).take 5 ++ cs ++ qs.take 2) ++ [[], [99], [-1, 0], [0, 100000000000000000000], [0, 0, 0, 0, 0]], p.length ≤ LIM := fun p m => by
        simp only [List.mem_append] at m
        rcases m with ((m | m) | m) | m
        · exact evp p (List.mem_of_mem_take m)
        · exact evp p (cm p m)
        · exact areP_pts hF qa p (List.mem_of_mem_take m)
        · simp only [List.mem_cons, List.not_mem_nil, or_false] at m
          unfold LIM
          rcases m with rfl | rfl | rfl | rfl | rfl <;> decide
      have tl : (((every k n).take 5 ++ cs ++ qs.take 2) ++ [[], [99], [-1, 0], [0, 100000000000000000000], [0, 0, 0, 0, 0]]).length ≤ LIM := by
        simp only [List.length_append, List.length_take, List.length_cons, List.length_nil]
        unfold LIM
        omega
      generalize ((every k n).take 5 ++ cs ++ qs.take 2) ++ [[], [99], [-1, 0], [0, 100000000000000000000], [0, 0, 0, 0, 0]] = tr at tried tl ⊢
      rw [e_comp (g := tupD) (xs := tr) (fun p => D.bl true) (by simp only [s_nil, s_asg, s_mov, s_par, s_ifs, s_ret, s_retn, s_ex, Ss.app, nx_nx, rt_rt, zv1, zv2, zv3, zv4, zv5, zv6, zv7, zv8, zv9, zv10, zv11, zv13, zv14, zv15, zv16, zv17, zv18, zv19, zw1, zw2, zr1, zr2, zr3, zr4, zr5, zr6, zr7, gt, sub_int, add_int, le_int, gt_int, ge_int, o_lt, o_eq, o_ne, o_mem, o_nmem, o_is, o_isn, o_not, o_len, o_all, o_any, o_sum, o_sort, o_ssort, o_lst, o_tup, o_ist, i_int, i_boolI, i_boolB, i_str, i_tup, i_lst, i_tupP, i_tupF, len_tup, len_lst, len_tupP, len_F, ix_tup, ix_lst, ix_tupP, ix_F0, ix_F1, not_bl, seq_tup, seq_lst, seq_tupP, lt_int, lst_lst, tpl_lst, tpl_tup, is_bb, isn_bb, bindD, setsD, List.length_cons, List.length_nil, List.map_cons, List.map_nil, List.replicate_succ, List.replicate_zero, List.append_nil, List.cons_append, List.nil_append, List.getElem?_cons_zero, List.getElem?_cons_succ, List.set_cons_zero, List.set_cons_succ, if_true, if_false, Nat.zero_add, Nat.sub_self, Nat.reduceAdd, Nat.reduceSub, Option.map_some, Option.map_none, Bool.not_true, Bool.not_false, Option.bind_some, nc0, nc1, nc2, nc3, nc4, Option.some.injEq, D.bl.injEq, D.int.injEq, reduceCtorEq, decide_true, decide_false, Int.reduceEq, Int.reduceNe, not_true_eq_false, not_false_eq_true, ne_eq, Int.reduceLE, Int.reduceLT, at0, at1, at2, eq_int, eq_bl, eq_sp, eq_pl, eq_fl, eq_tup, eq_pts, eq_lns, mem_pts, mem_lns, Bool.false_xor, Bool.true_xor, mod_int, fdiv_int, mul_int, Int.reduceNeg, Nat.reduceLT, Int.reduceAdd, Int.reduceMul, Int.reduceSub, and_self, or_true, true_or, reduceIte, beq_self_eq_true, Bool.and_self, Bool.true_and, Bool.and_true, Bool.false_and, Bool.and_false, Bool.or_true, Bool.true_or, Bool.or_false, Bool.false_or]) tl (fun p m => ⟨_, rfl, by simp only [s_nil, s_asg, s_mov, s_par, s_ifs, s_ret, s_retn, s_ex, Ss.app, nx_nx, rt_rt, zv1, zv2, zv3, zv4, zv5, zv6, zv7, zv8, zv9, zv10, zv11, zv13, zv14, zv15, zv16, zv17, zv18, zv19, zw1, zw2, zr1, zr2, zr3, zr4, zr5, zr6, zr7, gt, sub_int, add_int, le_int, gt_int, ge_int, o_lt, o_eq, o_ne, o_mem, o_nmem, o_is, o_isn, o_not, o_len, o_all, o_any, o_sum, o_sort, o_ssort, o_lst, o_tup, o_ist, i_int, i_boolI, i_boolB, i_str, i_tup, i_lst, i_tupP, i_tupF, len_tup, len_lst, len_tupP, len_F, ix_tup, ix_lst, ix_tupP, ix_F0, ix_F1, not_bl, seq_tup, seq_lst, seq_tupP, lt_int, lst_lst, tpl_lst, tpl_tup, is_bb, isn_bb, bindD, setsD, List.length_cons, List.length_nil, List.map_cons, List.map_nil, List.replicate_succ, List.replicate_zero, List.append_nil, List.cons_append, List.nil_append, List.getElem?_cons_zero, List.getElem?_cons_succ, List.set_cons_zero, List.set_cons_succ, if_true, if_false, Nat.zero_add, Nat.sub_self, Nat.reduceAdd, Nat.reduceSub, Option.map_some, Option.map_none, Bool.not_true, Bool.not_false, Option.bind_some, nc0, nc1, nc2, nc3, nc4, Option.some.injEq, D.bl.injEq, D.int.injEq, reduceCtorEq, decide_true, decide_false, Int.reduceEq, Int.reduceNe, not_true_eq_false, not_false_eq_true, ne_eq, Int.reduceLE, Int.reduceLT, at0, at1, at2, eq_int, eq_bl, eq_sp, eq_pl, eq_fl, eq_tup, eq_pts, eq_lns, mem_pts, mem_lns, Bool.false_xor, Bool.true_xor, mod_int, fdiv_int, mul_int, Int.reduceNeg, Nat.reduceLT, Int.reduceAdd, Int.reduceMul, Int.reduceSub, and_self, or_true, true_or, reduceIte, beq_self_eq_true, Bool.and_self, Bool.true_and, Bool.and_true, Bool.false_and, Bool.and_false, Bool.or_true, Bool.true_or, Bool.or_false, Bool.false_or, q46 (m := 29) hF qa qc (by omega) p (tried p m)]⟩)]
      have et : (tr.all fun _ => true) = true := List.all_eq_true.mpr fun _ _ => rfl
      simp only [s_nil, s_asg, s_mov, s_par, s_ifs, s_ret, s_retn, s_ex, Ss.app, nx_nx, rt_rt, zv1, zv2, zv3, zv4, zv5, zv6, zv7, zv8, zv9, zv10, zv11, zv13, zv14, zv15, zv16, zv17, zv18, zv19, zw1, zw2, zr1, zr2, zr3, zr4, zr5, zr6, zr7, gt, sub_int, add_int, le_int, gt_int, ge_int, o_lt, o_eq, o_ne, o_mem, o_nmem, o_is, o_isn, o_not, o_len, o_all, o_any, o_sum, o_sort, o_ssort, o_lst, o_tup, o_ist, i_int, i_boolI, i_boolB, i_str, i_tup, i_lst, i_tupP, i_tupF, len_tup, len_lst, len_tupP, len_F, ix_tup, ix_lst, ix_tupP, ix_F0, ix_F1, not_bl, seq_tup, seq_lst, seq_tupP, lt_int, lst_lst, tpl_lst, tpl_tup, is_bb, isn_bb, bindD, setsD, List.length_cons, List.length_nil, List.map_cons, List.map_nil, List.replicate_succ, List.replicate_zero, List.append_nil, List.cons_append, List.nil_append, List.getElem?_cons_zero, List.getElem?_cons_succ, List.set_cons_zero, List.set_cons_succ, if_true, if_false, Nat.zero_add, Nat.sub_self, Nat.reduceAdd, Nat.reduceSub, Option.map_some, Option.map_none, Bool.not_true, Bool.not_false, Option.bind_some, nc0, nc1, nc2, nc3, nc4, Option.some.injEq, D.bl.injEq, D.int.injEq, reduceCtorEq, decide_true, decide_false, Int.reduceEq, Int.reduceNe, not_true_eq_false, not_false_eq_true, ne_eq, Int.reduceLE, Int.reduceLT, at0, at1, at2, eq_int, eq_bl, eq_sp, eq_pl, eq_fl, eq_tup, eq_pts, eq_lns, mem_pts, mem_lns, Bool.false_xor, Bool.true_xor, mod_int, fdiv_int, mul_int, Int.reduceNeg, Nat.reduceLT, Int.reduceAdd, Int.reduceMul, Int.reduceSub, and_self, or_true, true_or, reduceIte, beq_self_eq_true, Bool.and_self, Bool.true_and, Bool.and_true, Bool.false_and, Bool.and_false, Bool.or_true, Bool.true_or, Bool.or_false, Bool.false_or, all_mapf, et]
      refine s_fold (g := tupD) (xs := every k n) (P := fun (g : Bool) env => ∃ x9, env = [some (.lst (ns.map .int)), some (.int (b : Int)), some (fldD k n), some (lnsD ((thr k n ps).take 2)), some (ptsD tr), x5, x6, some (ptsD qs), some (.bl g), x9, some (ptsD (every k n)), some (ptsD ps)]) (fun g p => g && !goodP k n qs p) true ?_ ⟨_, rfl⟩ ?_ ?_
      · simp only [s_nil, s_asg, s_mov, s_par, s_ifs, s_ret, s_retn, s_ex, Ss.app, nx_nx, rt_rt, zv1, zv2, zv3, zv4, zv5, zv6, zv7, zv8, zv9, zv10, zv11, zv13, zv14, zv15, zv16, zv17, zv18, zv19, zw1, zw2, zr1, zr2, zr3, zr4, zr5, zr6, zr7, gt, sub_int, add_int, le_int, gt_int, ge_int, o_lt, o_eq, o_ne, o_mem, o_nmem, o_is, o_isn, o_not, o_len, o_all, o_any, o_sum, o_sort, o_ssort, o_lst, o_tup, o_ist, i_int, i_boolI, i_boolB, i_str, i_tup, i_lst, i_tupP, i_tupF, len_tup, len_lst, len_tupP, len_F, ix_tup, ix_lst, ix_tupP, ix_F0, ix_F1, not_bl, seq_tup, seq_lst, seq_tupP, lt_int, lst_lst, tpl_lst, tpl_tup, is_bb, isn_bb, bindD, setsD, List.length_cons, List.length_nil, List.map_cons, List.map_nil, List.replicate_succ, List.replicate_zero, List.append_nil, List.cons_append, List.nil_append, List.getElem?_cons_zero, List.getElem?_cons_succ, List.set_cons_zero, List.set_cons_succ, if_true, if_false, Nat.zero_add, Nat.sub_self, Nat.reduceAdd, Nat.reduceSub, Option.map_some, Option.map_none, Bool.not_true, Bool.not_false, Option.bind_some, nc0, nc1, nc2, nc3, nc4, Option.some.injEq, D.bl.injEq, D.int.injEq, reduceCtorEq, decide_true, decide_false, Int.reduceEq, Int.reduceNe, not_true_eq_false, not_false_eq_true, ne_eq, Int.reduceLE, Int.reduceLT, at0, at1, at2, eq_int, eq_bl, eq_sp, eq_pl, eq_fl, eq_tup, eq_pts, eq_lns, mem_pts, mem_lns, Bool.false_xor, Bool.true_xor, mod_int, fdiv_int, mul_int, Int.reduceNeg, Nat.reduceLT, Int.reduceAdd, Int.reduceMul, Int.reduceSub, and_self, or_true, true_or, reduceIte, beq_self_eq_true, Bool.and_self, Bool.true_and, Bool.and_true, Bool.false_and, Bool.and_false, Bool.or_true, Bool.true_or, Bool.or_false, Bool.false_or]
      · rintro g p hp env ⟨x9, rfl⟩
        refine ⟨_, rfl, ?_⟩
        have ip := (isPt_every hF).mpr hp
        unfold goodP
        by_cases hm : p ∈ qs
        · simp only [s_nil, s_asg, s_mov, s_par, s_ifs, s_ret, s_retn, s_ex, Ss.app, nx_nx, rt_rt, zv1, zv2, zv3, zv4, zv5, zv6, zv7, zv8, zv9, zv10, zv11, zv13, zv14, zv15, zv16, zv17, zv18, zv19, zw1, zw2, zr1, zr2, zr3, zr4, zr5, zr6, zr7, gt, sub_int, add_int, le_int, gt_int, ge_int, o_lt, o_eq, o_ne, o_mem, o_nmem, o_is, o_isn, o_not, o_len, o_all, o_any, o_sum, o_sort, o_ssort, o_lst, o_tup, o_ist, i_int, i_boolI, i_boolB, i_str, i_tup, i_lst, i_tupP, i_tupF, len_tup, len_lst, len_tupP, len_F, ix_tup, ix_lst, ix_tupP, ix_F0, ix_F1, not_bl, seq_tup, seq_lst, seq_tupP, lt_int, lst_lst, tpl_lst, tpl_tup, is_bb, isn_bb, bindD, setsD, List.length_cons, List.length_nil, List.map_cons, List.map_nil, List.replicate_succ, List.replicate_zero, List.append_nil, List.cons_append, List.nil_append, List.getElem?_cons_zero, List.getElem?_cons_succ, List.set_cons_zero, List.set_cons_succ, if_true, if_false, Nat.zero_add, Nat.sub_self, Nat.reduceAdd, Nat.reduceSub, Option.map_some, Option.map_none, Bool.not_true, Bool.not_false, Option.bind_some, nc0, nc1, nc2, nc3, nc4, Option.some.injEq, D.bl.injEq, D.int.injEq, reduceCtorEq, decide_true, decide_false, Int.reduceEq, Int.reduceNe, not_true_eq_false, not_false_eq_true, ne_eq, Int.reduceLE, Int.reduceLT, at0, at1, at2, eq_int, eq_bl, eq_sp, eq_pl, eq_fl, eq_tup, eq_pts, eq_lns, mem_pts, mem_lns, Bool.false_xor, Bool.true_xor, mod_int, fdiv_int, mul_int, Int.reduceNeg, Nat.reduceLT, Int.reduceAdd, Int.reduceMul, Int.reduceSub, and_self, or_true, true_or, reduceIte, beq_self_eq_true, Bool.and_self, Bool.true_and, Bool.and_true, Bool.false_and, Bool.and_false, Bool.or_true, Bool.true_or, Bool.or_false, Bool.false_or, hm]
          exact ⟨_, rfl⟩
        · have es := sort_pts (d := (lng k n).toNat) (qs := qs ++ [p]) (by omega) (fun q m => isPt_bd hF (by
            rcases List.mem_append.mp m with m | m
            · exact (areP_iff.mp qa).1 q m
            · rw [List.mem_singleton.mp m]; exact ip)) (by rw [List.length_append]; simp; omega)
          have e34 := q34 hA (m := 37) rfl hF (sortL (qs ++ [p])) (by rw [ins_len]; omega) (areP_iff.mp (ins_areP hF qa ip hm)).1
          have ee : decide (thr k n (sortL (qs ++ [p])) = []) = !linW k n qs p := by
            rw [Bool.eq_iff_iff, decide_eq_true_eq, clr_iff, ins_clr hF qa qc ip hm]
            simp
          simp only [s_nil, s_asg, s_mov, s_par, s_ifs, s_ret, s_retn, s_ex, Ss.app, nx_nx, rt_rt, zv1, zv2, zv3, zv4, zv5, zv6, zv7, zv8, zv9, zv10, zv11, zv13, zv14, zv15, zv16, zv17, zv18, zv19, zw1, zw2, zr1, zr2, zr3, zr4, zr5, zr6, zr7, gt, sub_int, add_int, le_int, gt_int, ge_int, o_lt, o_eq, o_ne, o_mem, o_nmem, o_is, o_isn, o_not, o_len, o_all, o_any, o_sum, o_sort, o_ssort, o_lst, o_tup, o_ist, i_int, i_boolI, i_boolB, i_str, i_tup, i_lst, i_tupP, i_tupF, len_tup, len_lst, len_tupP, len_F, ix_tup, ix_lst, ix_tupP, ix_F0, ix_F1, not_bl, seq_tup, seq_lst, seq_tupP, lt_int, lst_lst, tpl_lst, tpl_tup, is_bb, isn_bb, bindD, setsD, List.length_cons, List.length_nil, List.map_cons, List.map_nil, List.replicate_succ, List.replicate_zero, List.append_nil, List.cons_append, List.nil_append, List.getElem?_cons_zero, List.getElem?_cons_succ, List.set_cons_zero, List.set_cons_succ, if_true, if_false, Nat.zero_add, Nat.sub_self, Nat.reduceAdd, Nat.reduceSub, Option.map_some, Option.map_none, Bool.not_true, Bool.not_false, Option.bind_some, nc0, nc1, nc2, nc3, nc4, Option.some.injEq, D.bl.injEq, D.int.injEq, reduceCtorEq, decide_true, decide_false, Int.reduceEq, Int.reduceNe, not_true_eq_false, not_false_eq_true, ne_eq, Int.reduceLE, Int.reduceLT, at0, at1, at2, eq_int, eq_bl, eq_sp, eq_pl, eq_fl, eq_tup, eq_pts, eq_lns, mem_pts, mem_lns, Bool.false_xor, Bool.true_xor, mod_int, fdiv_int, mul_int, Int.reduceNeg, Nat.reduceLT, Int.reduceAdd, Int.reduceMul, Int.reduceSub, and_self, or_true, true_or, reduceIte, beq_self_eq_true, Bool.and_self, Bool.true_and, Bool.and_true, Bool.false_and, Bool.and_false, Bool.or_true, Bool.true_or, Bool.or_false, Bool.false_or, hm, add_snoc qs p (by omega), es, e34, eq_lns_nil, ee]
          cases linW k n qs p with
          | true => simp only [s_nil, s_asg, s_mov, s_par, s_ifs, s_ret, s_retn, s_ex, Ss.app, nx_nx, rt_rt, zv1, zv2, zv3, zv4, zv5, zv6, zv7, zv8, zv9, zv10, zv11, zv13, zv14, zv15, zv16, zv17, zv18, zv19, zw1, zw2, zr1, zr2, zr3, zr4, zr5, zr6, zr7, gt, sub_int, add_int, le_int, gt_int, ge_int, o_lt, o_eq, o_ne, o_mem, o_nmem, o_is, o_isn, o_not, o_len, o_all, o_any, o_sum, o_sort, o_ssort, o_lst, o_tup, o_ist, i_int, i_boolI, i_boolB, i_str, i_tup, i_lst, i_tupP, i_tupF, len_tup, len_lst, len_tupP, len_F, ix_tup, ix_lst, ix_tupP, ix_F0, ix_F1, not_bl, seq_tup, seq_lst, seq_tupP, lt_int, lst_lst, tpl_lst, tpl_tup, is_bb, isn_bb, bindD, setsD, List.length_cons, List.length_nil, List.map_cons, List.map_nil, List.replicate_succ, List.replicate_zero, List.append_nil, List.cons_append, List.nil_append, List.getElem?_cons_zero, List.getElem?_cons_succ, List.set_cons_zero, List.set_cons_succ, if_true, if_false, Nat.zero_add, Nat.sub_self, Nat.reduceAdd, Nat.reduceSub, Option.map_some, Option.map_none, Bool.not_true, Bool.not_false, Option.bind_some, nc0, nc1, nc2, nc3, nc4, Option.some.injEq, D.bl.injEq, D.int.injEq, reduceCtorEq, decide_true, decide_false, Int.reduceEq, Int.reduceNe, not_true_eq_false, not_false_eq_true, ne_eq, Int.reduceLE, Int.reduceLT, at0, at1, at2, eq_int, eq_bl, eq_sp, eq_pl, eq_fl, eq_tup, eq_pts, eq_lns, mem_pts, mem_lns, Bool.false_xor, Bool.true_xor, mod_int, fdiv_int, mul_int, Int.reduceNeg, Nat.reduceLT, Int.reduceAdd, Int.reduceMul, Int.reduceSub, and_self, or_true, true_or, reduceIte, beq_self_eq_true, Bool.and_self, Bool.true_and, Bool.and_true, Bool.false_and, Bool.and_false, Bool.or_true, Bool.true_or, Bool.or_false, Bool.false_or]; exact ⟨_, rfl⟩
          | false => simp only [s_nil, s_asg, s_mov, s_par, s_ifs, s_ret, s_retn, s_ex, Ss.app, nx_nx, rt_rt, zv1, zv2, zv3, zv4, zv5, zv6, zv7, zv8, zv9, zv10, zv11, zv13, zv14, zv15, zv16, zv17, zv18, zv19, zw1, zw2, zr1, zr2, zr3, zr4, zr5, zr6, zr7, gt, sub_int, add_int, le_int, gt_int, ge_int, o_lt, o_eq, o_ne, o_mem, o_nmem, o_is, o_isn, o_not, o_len, o_all, o_any, o_sum, o_sort, o_ssort, o_lst, o_tup, o_ist, i_int, i_boolI, i_boolB, i_str, i_tup, i_lst, i_tupP, i_tupF, len_tup, len_lst, len_tupP, len_F, ix_tup, ix_lst, ix_tupP, ix_F0, ix_F1, not_bl, seq_tup, seq_lst, seq_tupP, lt_int, lst_lst, tpl_lst, tpl_tup, is_bb, isn_bb, bindD, setsD, List.length_cons, List.length_nil, List.map_cons, List.map_nil, List.replicate_succ, List.replicate_zero, List.append_nil, List.cons_append, List.nil_append, List.getElem?_cons_zero, List.getElem?_cons_succ, List.set_cons_zero, List.set_cons_succ, if_true, if_false, Nat.zero_add, Nat.sub_self, Nat.reduceAdd, Nat.reduceSub, Option.map_some, Option.map_none, Bool.not_true, Bool.not_false, Option.bind_some, nc0, nc1, nc2, nc3, nc4, Option.some.injEq, D.bl.injEq, D.int.injEq, reduceCtorEq, decide_true, decide_false, Int.reduceEq, Int.reduceNe, not_true_eq_false, not_false_eq_true, ne_eq, Int.reduceLE, Int.reduceLT, at0, at1, at2, eq_int, eq_bl, eq_sp, eq_pl, eq_fl, eq_tup, eq_pts, eq_lns, mem_pts, mem_lns, Bool.false_xor, Bool.true_xor, mod_int, fdiv_int, mul_int, Int.reduceNeg, Nat.reduceLT, Int.reduceAdd, Int.reduceMul, Int.reduceSub, and_self, or_true, true_or, reduceIte, beq_self_eq_true, Bool.and_self, Bool.true_and, Bool.and_true, Bool.false_and, Bool.and_false, Bool.or_true, Bool.true_or, Bool.or_false, Bool.false_or]; exact ⟨_, rfl⟩
      · rintro env ⟨x9, rfl⟩
        rw [foldl_and]
        have en : decide (moreL k n qs = []) = (true && !(every k n).any fun p => goodP k n qs p) := by
          rw [Bool.eq_iff_iff, decide_eq_true_eq]
          unfold moreL
          simp
        have e27 := q27 hA (m := 35) (fs := []) rfl rfl rfl hF qs (by omega) (areP_iff.mp qa).1
        rw [en] at e27
        generalize (true && !(every k n).any fun p => goodP k n qs p) = g at e27 ⊢
        simp only [s_nil, s_asg, s_mov, s_par, s_ifs, s_ret, s_retn, s_ex, Ss.app, nx_nx, rt_rt, zv1, zv2, zv3, zv4, zv5, zv6, zv7, zv8, zv9, zv10, zv11, zv13, zv14, zv15, zv16, zv17, zv18, zv19, zw1, zw2, zr1, zr2, zr3, zr4, zr5, zr6, zr7, gt, sub_int, add_int, le_int, gt_int, ge_int, o_lt, o_eq, o_ne, o_mem, o_nmem, o_is, o_isn, o_not, o_len, o_all, o_any, o_sum, o_sort, o_ssort, o_lst, o_tup, o_ist, i_int, i_boolI, i_boolB, i_str, i_tup, i_lst, i_tupP, i_tupF, len_tup, len_lst, len_tupP, len_F, ix_tup, ix_lst, ix_tupP, ix_F0, ix_F1, not_bl, seq_tup, seq_lst, seq_tupP, lt_int, lst_lst, tpl_lst, tpl_tup, is_bb, isn_bb, bindD, setsD, List.length_cons, List.length_nil, List.map_cons, List.map_nil, List.replicate_succ, List.replicate_zero, List.append_nil, List.cons_append, List.nil_append, List.getElem?_cons_zero, List.getElem?_cons_succ, List.set_cons_zero, List.set_cons_succ, if_true, if_false, Nat.zero_add, Nat.sub_self, Nat.reduceAdd, Nat.reduceSub, Option.map_some, Option.map_none, Bool.not_true, Bool.not_false, Option.bind_some, nc0, nc1, nc2, nc3, nc4, Option.some.injEq, D.bl.injEq, D.int.injEq, reduceCtorEq, decide_true, decide_false, Int.reduceEq, Int.reduceNe, not_true_eq_false, not_false_eq_true, ne_eq, Int.reduceLE, Int.reduceLT, at0, at1, at2, eq_int, eq_bl, eq_sp, eq_pl, eq_fl, eq_tup, eq_pts, eq_lns, mem_pts, mem_lns, Bool.false_xor, Bool.true_xor, mod_int, fdiv_int, mul_int, Int.reduceNeg, Nat.reduceLT, Int.reduceAdd, Int.reduceMul, Int.reduceSub, and_self, or_true, true_or, reduceIte, beq_self_eq_true, Bool.and_self, Bool.true_and, Bool.and_true, Bool.false_and, Bool.and_false, Bool.or_true, Bool.true_or, Bool.or_false, Bool.false_or, m3, z3.sh, e27, e15]
        exact ⟨_, _, _, _, _, _, _, _, _, _, _, rfl⟩
theorem main (ns : List Int) (hl : ns.length ≤ 63) : Nt.run T 40 20 [.frl ns] = some (.bl true) := by
  refine run_r (f := ⟨1, 12, false, b20⟩) rfl rfl ?_
  have e0 := slice63 hl
  simp only [b20, s_nil, s_asg, s_mov, s_par, s_ifs, s_ret, s_retn, s_ex, Ss.app, nx_nx, rt_rt, zv1, zv2, zv3, zv4, zv5, zv6, zv7, zv8, zv9, zv10, zv11, zv13, zv14, zv15, zv16, zv17, zv18, zv19, zw1, zw2, zr1, zr2, zr3, zr4, zr5, zr6, zr7, gt, sub_int, add_int, le_int, gt_int, ge_int, o_lt, o_eq, o_ne, o_mem, o_nmem, o_is, o_isn, o_not, o_len, o_all, o_any, o_sum, o_sort, o_ssort, o_lst, o_tup, o_ist, i_int, i_boolI, i_boolB, i_str, i_tup, i_lst, i_tupP, i_tupF, len_tup, len_lst, len_tupP, len_F, ix_tup, ix_lst, ix_tupP, ix_F0, ix_F1, not_bl, seq_tup, seq_lst, seq_tupP, lt_int, lst_lst, tpl_lst, tpl_tup, is_bb, isn_bb, bindD, setsD, List.length_cons, List.length_nil, List.map_cons, List.map_nil, List.replicate_succ, List.replicate_zero, List.append_nil, List.cons_append, List.nil_append, List.getElem?_cons_zero, List.getElem?_cons_succ, List.set_cons_zero, List.set_cons_succ, if_true, if_false, Nat.zero_add, Nat.sub_self, Nat.reduceAdd, Nat.reduceSub, Option.map_some, Option.map_none, Bool.not_true, Bool.not_false, Option.bind_some, nc0, nc1, nc2, nc3, nc4, Option.some.injEq, D.bl.injEq, D.int.injEq, reduceCtorEq, decide_true, decide_false, Int.reduceEq, Int.reduceNe, not_true_eq_false, not_false_eq_true, ne_eq, Int.reduceLE, Int.reduceLT, at0, at1, at2, eq_int, eq_bl, eq_sp, eq_pl, eq_fl, eq_tup, eq_pts, eq_lns, mem_pts, mem_lns, Bool.false_xor, Bool.true_xor, mod_int, fdiv_int, mul_int, Int.reduceNeg, Nat.reduceLT, Int.reduceAdd, Int.reduceMul, Int.reduceSub, and_self, or_true, true_or, reduceIte, beq_self_eq_true, Bool.and_self, Bool.true_and, Bool.and_true, Bool.false_and, Bool.and_false, Bool.or_true, Bool.true_or, Bool.or_false, Bool.false_or, e0]
  generalize hI : (if (ns.length : Int) < 2 then (ns.length : Int) else 2) = I
  generalize hJ : (if I > 1 then I else 1) = J
  have hJ2 : 0 ≤ J ∧ J ≤ 1000000 := by
    rw [← hJ, ← hI]
    split <;> split <;> omega
  have eI : op2 .min (.int 2) (.int (ns.length : Int)) = some (.int I) := by rw [← hI]; rfl
  have eJ : op2 .max (.int 1) (.int I) = some (.int J) := by rw [← hJ]; rfl
  refine s_skip (g := fun (i : Nat) => D.int (i : Int)) (xs := List.range J.toNat) (fun env => ∃ x1 x2 x3 x4 x5 x6 x7 x8 x9 x10 x11, env = [some (.lst (ns.map .int)), x1, x2, x3, x4, x5, x6, x7, x8, x9, x10, x11]) ?_ ⟨_, _, _, _, _, _, _, _, _, _, _, rfl⟩ ?_ ?_
  · simp only [s_nil, s_asg, s_mov, s_par, s_ifs, s_ret, s_retn, s_ex, Ss.app, nx_nx, rt_rt, zv1, zv2, zv3, zv4, zv5, zv6, zv7, zv8, zv9, zv10, zv11, zv13, zv14, zv15, zv16, zv17, zv18, zv19, zw1, zw2, zr1, zr2, zr3, zr4, zr5, zr6, zr7, gt, sub_int, add_int, le_int, gt_int, ge_int, o_lt, o_eq, o_ne, o_mem, o_nmem, o_is, o_isn, o_not, o_len, o_all, o_any, o_sum, o_sort, o_ssort, o_lst, o_tup, o_ist, i_int, i_boolI, i_boolB, i_str, i_tup, i_lst, i_tupP, i_tupF, len_tup, len_lst, len_tupP, len_F, ix_tup, ix_lst, ix_tupP, ix_F0, ix_F1, not_bl, seq_tup, seq_lst, seq_tupP, lt_int, lst_lst, tpl_lst, tpl_tup, is_bb, isn_bb, bindD, setsD, List.length_cons, List.length_nil, List.map_cons, List.map_nil, List.replicate_succ, List.replicate_zero, List.append_nil, List.cons_append, List.nil_append, List.getElem?_cons_zero, List.getElem?_cons_succ, List.set_cons_zero, List.set_cons_succ, if_true, if_false, Nat.zero_add, Nat.sub_self, Nat.reduceAdd, Nat.reduceSub, Option.map_some, Option.map_none, Bool.not_true, Bool.not_false, Option.bind_some, nc0, nc1, nc2, nc3, nc4, Option.some.injEq, D.bl.injEq, D.int.injEq, reduceCtorEq, decide_true, decide_false, Int.reduceEq, Int.reduceNe, not_true_eq_false, not_false_eq_true, ne_eq, Int.reduceLE, Int.reduceLT, at0, at1, at2, eq_int, eq_bl, eq_sp, eq_pl, eq_fl, eq_tup, eq_pts, eq_lns, mem_pts, mem_lns, Bool.false_xor, Bool.true_xor, mod_int, fdiv_int, mul_int, Int.reduceNeg, Nat.reduceLT, Int.reduceAdd, Int.reduceMul, Int.reduceSub, and_self, or_true, true_or, reduceIte, beq_self_eq_true, Bool.and_self, Bool.true_and, Bool.and_true, Bool.false_and, Bool.and_false, Bool.or_true, Bool.true_or, Bool.or_false, Bool.false_or, List.length_map, eI, eJ, small_nat (n := 0) (by decide) (by decide), small_nat hJ2.1 hJ2.2, range_nat]
  · rintro x _ env ⟨x1, x2, x3, x4, x5, x6, x7, x8, x9, x10, x11, rfl⟩
    refine ⟨_, rfl, ?_⟩
    have hF := okF_fldM (cel ns x)
    have key : ∀ {k : Kd} {n : Int}, okF k n → (every k n).length ≤ 27 → Nx (fun env => ∃ x1 x2 x3 x4 x5 x6 x7 x8 x9 x10 x11, env = [some (.lst (ns.map .int)), x1, x2, x3, x4, x5, x6, x7, x8, x9, x10, x11]) (exs { T with lv := 39 } (Nt.run T 39) rest [some (.lst (ns.map .int)), some (.int (x : Int)), some (fldD k n), x3, x4, x5, x6, x7, x8, x9, x10, x11]) := fun hF hE => body hF hE
    by_cases h27 : (27 : Int) < ((every (fldM (cel ns x)).1 (fldM (cel ns x)).2).length : Int)
    · obtain ⟨sF, s9⟩ := smlM_ok (cel ns x)
      have hb := key sF (by omega)
      simp only [rest, s_nil, s_asg, s_mov, s_par, s_ifs, s_ret, s_retn, s_ex, Ss.app, nx_nx, rt_rt, zv1, zv2, zv3, zv4, zv5, zv6, zv7, zv8, zv9, zv10, zv11, zv13, zv14, zv15, zv16, zv17, zv18, zv19, zw1, zw2, zr1, zr2, zr3, zr4, zr5, zr6, zr7, gt, sub_int, add_int, le_int, gt_int, ge_int, o_lt, o_eq, o_ne, o_mem, o_nmem, o_is, o_isn, o_not, o_len, o_all, o_any, o_sum, o_sort, o_ssort, o_lst, o_tup, o_ist, i_int, i_boolI, i_boolB, i_str, i_tup, i_lst, i_tupP, i_tupF, len_tup, len_lst, len_tupP, len_F, ix_tup, ix_lst, ix_tupP, ix_F0, ix_F1, not_bl, seq_tup, seq_lst, seq_tupP, lt_int, lst_lst, tpl_lst, tpl_tup, is_bb, isn_bb, bindD, setsD, List.length_cons, List.length_nil, List.map_cons, List.map_nil, List.replicate_succ, List.replicate_zero, List.append_nil, List.cons_append, List.nil_append, List.getElem?_cons_zero, List.getElem?_cons_succ, List.set_cons_zero, List.set_cons_succ, if_true, if_false, Nat.zero_add, Nat.sub_self, Nat.reduceAdd, Nat.reduceSub, Option.map_some, Option.map_none, Bool.not_true, Bool.not_false, Option.bind_some, nc0, nc1, nc2, nc3, nc4, Option.some.injEq, D.bl.injEq, D.int.injEq, reduceCtorEq, decide_true, decide_false, Int.reduceEq, Int.reduceNe, not_true_eq_false, not_false_eq_true, ne_eq, Int.reduceLE, Int.reduceLT, at0, at1, at2, eq_int, eq_bl, eq_sp, eq_pl, eq_fl, eq_tup, eq_pts, eq_lns, mem_pts, mem_lns, Bool.false_xor, Bool.true_xor, mod_int, fdiv_int, mul_int, Int.reduceNeg, Nat.reduceLT, Int.reduceAdd, Int.reduceMul, Int.reduceSub, and_self, or_true, true_or, reduceIte, beq_self_eq_true, Bool.and_self, Bool.true_and, Bool.and_true, Bool.false_and, Bool.and_false, Bool.or_true, Bool.true_or, Bool.or_false, Bool.false_or] at hb
      simp only [s_nil, s_asg, s_mov, s_par, s_ifs, s_ret, s_retn, s_ex, Ss.app, nx_nx, rt_rt, zv1, zv2, zv3, zv4, zv5, zv6, zv7, zv8, zv9, zv10, zv11, zv13, zv14, zv15, zv16, zv17, zv18, zv19, zw1, zw2, zr1, zr2, zr3, zr4, zr5, zr6, zr7, gt, sub_int, add_int, le_int, gt_int, ge_int, o_lt, o_eq, o_ne, o_mem, o_nmem, o_is, o_isn, o_not, o_len, o_all, o_any, o_sum, o_sort, o_ssort, o_lst, o_tup, o_ist, i_int, i_boolI, i_boolB, i_str, i_tup, i_lst, i_tupP, i_tupF, len_tup, len_lst, len_tupP, len_F, ix_tup, ix_lst, ix_tupP, ix_F0, ix_F1, not_bl, seq_tup, seq_lst, seq_tupP, lt_int, lst_lst, tpl_lst, tpl_tup, is_bb, isn_bb, bindD, setsD, List.length_cons, List.length_nil, List.map_cons, List.map_nil, List.replicate_succ, List.replicate_zero, List.append_nil, List.cons_append, List.nil_append, List.getElem?_cons_zero, List.getElem?_cons_succ, List.set_cons_zero, List.set_cons_succ, if_true, if_false, Nat.zero_add, Nat.sub_self, Nat.reduceAdd, Nat.reduceSub, Option.map_some, Option.map_none, Bool.not_true, Bool.not_false, Option.bind_some, nc0, nc1, nc2, nc3, nc4, Option.some.injEq, D.bl.injEq, D.int.injEq, reduceCtorEq, decide_true, decide_false, Int.reduceEq, Int.reduceNe, not_true_eq_false, not_false_eq_true, ne_eq, Int.reduceLE, Int.reduceLT, at0, at1, at2, eq_int, eq_bl, eq_sp, eq_pl, eq_fl, eq_tup, eq_pts, eq_lns, mem_pts, mem_lns, Bool.false_xor, Bool.true_xor, mod_int, fdiv_int, mul_int, Int.reduceNeg, Nat.reduceLT, Int.reduceAdd, Int.reduceMul, Int.reduceSub, and_self, or_true, true_or, reduceIte, beq_self_eq_true, Bool.and_self, Bool.true_and, Bool.and_true, Bool.false_and, Bool.and_false, Bool.or_true, Bool.true_or, Bool.or_false, Bool.false_or, q16 hA (m := 36) rfl (show 0 ≤ (x : Int) by omega), q17 hA (m := 37) hF, List.length_map, h27, q42 hA (m := 36) rfl (show 0 ≤ (x : Int) by omega)]
      exact hb
    · have hb := key hF (by omega)
      simp only [rest, s_nil, s_asg, s_mov, s_par, s_ifs, s_ret, s_retn, s_ex, Ss.app, nx_nx, rt_rt, zv1, zv2, zv3, zv4, zv5, zv6, zv7, zv8, zv9, zv10, zv11, zv13, zv14, zv15, zv16, zv17, zv18, zv19, zw1, zw2, zr1, zr2, zr3, zr4, zr5, zr6, zr7, gt, sub_int, add_int, le_int, gt_int, ge_int, o_lt, o_eq, o_ne, o_mem, o_nmem, o_is, o_isn, o_not, o_len, o_all, o_any, o_sum, o_sort, o_ssort, o_lst, o_tup, o_ist, i_int, i_boolI, i_boolB, i_str, i_tup, i_lst, i_tupP, i_tupF, len_tup, len_lst, len_tupP, len_F, ix_tup, ix_lst, ix_tupP, ix_F0, ix_F1, not_bl, seq_tup, seq_lst, seq_tupP, lt_int, lst_lst, tpl_lst, tpl_tup, is_bb, isn_bb, bindD, setsD, List.length_cons, List.length_nil, List.map_cons, List.map_nil, List.replicate_succ, List.replicate_zero, List.append_nil, List.cons_append, List.nil_append, List.getElem?_cons_zero, List.getElem?_cons_succ, List.set_cons_zero, List.set_cons_succ, if_true, if_false, Nat.zero_add, Nat.sub_self, Nat.reduceAdd, Nat.reduceSub, Option.map_some, Option.map_none, Bool.not_true, Bool.not_false, Option.bind_some, nc0, nc1, nc2, nc3, nc4, Option.some.injEq, D.bl.injEq, D.int.injEq, reduceCtorEq, decide_true, decide_false, Int.reduceEq, Int.reduceNe, not_true_eq_false, not_false_eq_true, ne_eq, Int.reduceLE, Int.reduceLT, at0, at1, at2, eq_int, eq_bl, eq_sp, eq_pl, eq_fl, eq_tup, eq_pts, eq_lns, mem_pts, mem_lns, Bool.false_xor, Bool.true_xor, mod_int, fdiv_int, mul_int, Int.reduceNeg, Nat.reduceLT, Int.reduceAdd, Int.reduceMul, Int.reduceSub, and_self, or_true, true_or, reduceIte, beq_self_eq_true, Bool.and_self, Bool.true_and, Bool.and_true, Bool.false_and, Bool.and_false, Bool.or_true, Bool.true_or, Bool.or_false, Bool.false_or] at hb
      simp only [s_nil, s_asg, s_mov, s_par, s_ifs, s_ret, s_retn, s_ex, Ss.app, nx_nx, rt_rt, zv1, zv2, zv3, zv4, zv5, zv6, zv7, zv8, zv9, zv10, zv11, zv13, zv14, zv15, zv16, zv17, zv18, zv19, zw1, zw2, zr1, zr2, zr3, zr4, zr5, zr6, zr7, gt, sub_int, add_int, le_int, gt_int, ge_int, o_lt, o_eq, o_ne, o_mem, o_nmem, o_is, o_isn, o_not, o_len, o_all, o_any, o_sum, o_sort, o_ssort, o_lst, o_tup, o_ist, i_int, i_boolI, i_boolB, i_str, i_tup, i_lst, i_tupP, i_tupF, len_tup, len_lst, len_tupP, len_F, ix_tup, ix_lst, ix_tupP, ix_F0, ix_F1, not_bl, seq_tup, seq_lst, seq_tupP, lt_int, lst_lst, tpl_lst, tpl_tup, is_bb, isn_bb, bindD, setsD, List.length_cons, List.length_nil, List.map_cons, List.map_nil, List.replicate_succ, List.replicate_zero, List.append_nil, List.cons_append, List.nil_append, List.getElem?_cons_zero, List.getElem?_cons_succ, List.set_cons_zero, List.set_cons_succ, if_true, if_false, Nat.zero_add, Nat.sub_self, Nat.reduceAdd, Nat.reduceSub, Option.map_some, Option.map_none, Bool.not_true, Bool.not_false, Option.bind_some, nc0, nc1, nc2, nc3, nc4, Option.some.injEq, D.bl.injEq, D.int.injEq, reduceCtorEq, decide_true, decide_false, Int.reduceEq, Int.reduceNe, not_true_eq_false, not_false_eq_true, ne_eq, Int.reduceLE, Int.reduceLT, at0, at1, at2, eq_int, eq_bl, eq_sp, eq_pl, eq_fl, eq_tup, eq_pts, eq_lns, mem_pts, mem_lns, Bool.false_xor, Bool.true_xor, mod_int, fdiv_int, mul_int, Int.reduceNeg, Nat.reduceLT, Int.reduceAdd, Int.reduceMul, Int.reduceSub, and_self, or_true, true_or, reduceIte, beq_self_eq_true, Bool.and_self, Bool.true_and, Bool.and_true, Bool.false_and, Bool.and_false, Bool.or_true, Bool.true_or, Bool.or_false, Bool.false_or, q16 hA (m := 36) rfl (show 0 ≤ (x : Int) by omega), q17 hA (m := 37) hF, List.length_map, h27]
      have e17 := q17 hA (m := 37) hF
      simp only [e17] at hb ⊢
      exact hb
  · rintro env ⟨x1, x2, x3, x4, x5, x6, x7, x8, x9, x10, x11, rfl⟩
    have c26 : Nt.run T 39 26 [.ins 2 [.lst [.tup [.int 0, .int 0], .tup [.int 0, .int 1], .tup [.int 0, .int 2]]], .tup [.str "floor", .int 3], .lst [.tup [.int 0, .int 0], .tup [.int 0, .int 1], .tup [.int 0, .int 2]]] = some (.bl true) :=
      (q26 hA z2 (m := 35) (k := .fl) (n := 3) rfl (by decide) [[0, 0], [0, 1], [0, 2]] [[0, 0], [0, 1], [0, 2]] (by decide) (by decide) (by decide)).trans (congrArg (fun b => some (D.bl b)) (by decide))
    have c27 : Nt.run T 39 27 [.ins 3 [], .tup [.str "floor", .int 1], .lst [.tup [.int 0, .int 0]]] = some (.bl true) :=
      (q27 hA (m := 35) (fs := []) (k := .fl) (n := 1) rfl rfl rfl (by decide) [[0, 0]] (by decide) (by decide)).trans (congrArg (fun b => some (D.bl b)) (by decide +kernel))
    have c28 : Nt.run T 39 28 [.ins 4 [.tup [.int 0, .int 2]], .tup [.str "floor", .int 3], .lst [.tup [.int 0, .int 0], .tup [.int 0, .int 1]]] = some (.bl false) :=
      (q28 hA z4 (m := 36) (k := .fl) (n := 3) rfl rfl (by decide) [0, 2] (by decide) [[0, 0], [0, 1]] (by decide) (by decide)).trans (congrArg (fun b => some (D.bl b)) (by decide +kernel))
    have m3 := fun env => mk0 (T := { T with lv := 39 }) (cl := Nt.run T 39) (env := env) (c := 3) z3.cf (by show 2 ≤ 39; omega)
    have m2 := fun env e => mk1t (T := { T with lv := 39 }) (cl := Nt.run T 39) (env := env) (e := e) (c := 2) z2.cf (by show 2 ≤ 39; omega)
    have m4 := fun env e => mk1f (T := { T with lv := 39 }) (cl := Nt.run T 39) (env := env) (e := e) (c := 4) z4.cf (by show 2 ≤ 39; omega)
    have nt : notL (.tup [.int 0, .int 2]) = true := rfl
    simp only [s_nil, s_asg, s_mov, s_par, s_ifs, s_ret, s_retn, s_ex, Ss.app, nx_nx, rt_rt, zv1, zv2, zv3, zv4, zv5, zv6, zv7, zv8, zv9, zv10, zv11, zv13, zv14, zv15, zv16, zv17, zv18, zv19, zw1, zw2, zr1, zr2, zr3, zr4, zr5, zr6, zr7, gt, sub_int, add_int, le_int, gt_int, ge_int, o_lt, o_eq, o_ne, o_mem, o_nmem, o_is, o_isn, o_not, o_len, o_all, o_any, o_sum, o_sort, o_ssort, o_lst, o_tup, o_ist, i_int, i_boolI, i_boolB, i_str, i_tup, i_lst, i_tupP, i_tupF, len_tup, len_lst, len_tupP, len_F, ix_tup, ix_lst, ix_tupP, ix_F0, ix_F1, not_bl, seq_tup, seq_lst, seq_tupP, lt_int, lst_lst, tpl_lst, tpl_tup, is_bb, isn_bb, bindD, setsD, List.length_cons, List.length_nil, List.map_cons, List.map_nil, List.replicate_succ, List.replicate_zero, List.append_nil, List.cons_append, List.nil_append, List.getElem?_cons_zero, List.getElem?_cons_succ, List.set_cons_zero, List.set_cons_succ, if_true, if_false, Nat.zero_add, Nat.sub_self, Nat.reduceAdd, Nat.reduceSub, Option.map_some, Option.map_none, Bool.not_true, Bool.not_false, Option.bind_some, nc0, nc1, nc2, nc3, nc4, Option.some.injEq, D.bl.injEq, D.int.injEq, reduceCtorEq, decide_true, decide_false, Int.reduceEq, Int.reduceNe, not_true_eq_false, not_false_eq_true, ne_eq, Int.reduceLE, Int.reduceLT, at0, at1, at2, eq_int, eq_bl, eq_sp, eq_pl, eq_fl, eq_tup, eq_pts, eq_lns, mem_pts, mem_lns, Bool.false_xor, Bool.true_xor, mod_int, fdiv_int, mul_int, Int.reduceNeg, Nat.reduceLT, Int.reduceAdd, Int.reduceMul, Int.reduceSub, and_self, or_true, true_or, reduceIte, beq_self_eq_true, Bool.and_self, Bool.true_and, Bool.and_true, Bool.false_and, Bool.and_false, Bool.or_true, Bool.true_or, Bool.or_false, Bool.false_or, m2, m3, m4, nt, z2.sh, z3.sh, z4.sh, c26, c27, c28]
end Nt_nothrees_k04_by_hand

set_option Elab.async false
set_option linter.all false
set_option maxRecDepth 100000
set_option maxHeartbeats 0
open PySem PySem.W PyProof.Rows
theorem PySem.Challenge.cw_nothrees_k04_by_hand_holds : PySem.Challenge.rw_nothrees_k04_by_hand.Holds := by
  w_on; o_law; k_head; (case hw => w_witness2)
  k_fill
  refine L2.walk_of (l := PySem.Challenge.rw_nothrees_k04_by_hand) (n := 63) (k := 40) (x := "_law_script") (CX := fun _ => L2.CX0) (sp := fun w vs H Q E => ∀ ca, Nt.spD ⟨_, ca, Nt_nothrees_k04_by_hand.T.cn⟩ Nt_nothrees_k04_by_hand.T 40 20 vs H Q E) rfl (by decide) rfl ⟨rfl, by decide, by decide⟩ (fun w h Y => PySem.W.kIn_of Y) ?F (fun _ _ a ns hl _ hS ca => Nt.law_sp rfl rfl hS (Nt_nothrees_k04_by_hand.main ns hl) fun _ _ e => e) (fun _ _ _ _ _ h => h)
  case F =>
    intro w mg fa h KX G hmg
    refine' Nt_nothrees_k04_by_hand.all_mk KX G hmg ?zcg ?zct ?aC0 ?aC1 ?aC2 ?aC3 ?aC4 ?hpg1 ?hhd1 ?hpo1 ?hsa1 ?hcz1 ?hcm1 ?hsh1 ?hsf1 ?hmk1 ?hkC1 ?hs0_1 ?hs1_1 ?hs2_1 ?hs3_1 ?hs4_1 ?hmi1 ?hpg2 ?hhd2 ?hpo2 ?hsa2 ?hcz2 ?hcm2 ?hsh2 ?hsf2 ?hmk2 ?hkC2 ?hs0_2 ?hs1_2 ?hs2_2 ?hs3_2 ?hs4_2 ?hna2 ?hin2 ?hif2 ?lI2 ?cI2 ?kI2 ?hpg3 ?hhd3 ?hpo3 ?hsa3 ?hcz3 ?hcm3 ?hsh3 ?hsf3 ?hmk3 ?hkC3 ?hs0_3 ?hs1_3 ?hs2_3 ?hs3_3 ?hs4_3 ?hmi3 ?hpg4 ?hhd4 ?hpo4 ?hsa4 ?hcz4 ?hcm4 ?hsh4 ?hsf4 ?hmk4 ?hkC4 ?hs0_4 ?hs1_4 ?hs2_4 ?hs3_4 ?hs4_4 ?hna4 ?hin4 ?hif4 ?lI4 ?cI4 ?kI4 ?a0 ?l0 ?c0 ?k0 ?a3 ?l3 ?c3 ?k3 ?a4 ?l4 ?c4 ?k4 ?a5 ?l5 ?c5 ?k5 ?a7 ?l7 ?c7 ?k7 ?a8 ?l8 ?c8 ?k8 ?a10 ?l10 ?c10 ?k10 ?a21 ?l21 ?c21 ?k21 ?a22 ?l22 ?c22 ?k22 ?a23 ?l23 ?c23 ?k23 ?l25 ?c25 ?k25 ?l26 ?c26 ?k26 ?l27 ?c27 ?k27 ?l28 ?c28 ?k28 ?a12 ?l12 ?c12 ?k12 ?a13 ?l13 ?c13 ?k13 ?a14 ?l14 ?c14 ?k14 ?a15 ?l15 ?c15 ?k15 ?a16 ?l16 ?c16 ?k16 ?a42 ?l42 ?c42 ?k42 ?a17 ?l17 ?c17 ?k17 ?a18 ?l18 ?c18 ?k18 ?a19 ?l19 ?c19 ?k19 ?a34 ?l34 ?c34 ?k34 ?a35 ?l35 ?c35 ?k35 ?a36 ?l36 ?c36 ?k36 ?a45 ?l45 ?c45 ?k45 ?a46 ?l46 ?c46 ?k46 ?a20 ?l20 ?c20 ?k20 ?z_all ?z_any ?z_bool ?z_enumerate ?z_int ?z_isinstance ?z_len ?z_list ?z_max ?z_min ?z_range ?z_set ?z_sorted ?z_sum ?z_tuple ?z_zip
    (case zcg => k_is); (case zct => k_is); (case aC0 => k_is); (case aC1 => k_is); (case aC2 => k_is); (case aC3 => k_is); (case aC4 => k_is); (case hpg1 => k_is); (case hhd1 => k_is); (case hpo1 => k_is); (case hsa1 => k_is); (case hcz1 => k_is); (case hcm1 => k_is); (case hsh1 => k_is); (case hsf1 => k_is); (case hmk1 => k_is); (case hkC1 => k_is); (case hs0_1 => kit_is); (case hs1_1 => kit_is); (case hs2_1 => kit_is); (case hs3_1 => kit_is); (case hs4_1 => kit_is); (case hmi1 => k_is); (case hpg2 => k_is); (case hhd2 => k_is); (case hpo2 => k_is); (case hsa2 => k_is); (case hcz2 => k_is); (case hcm2 => k_is); (case hsh2 => k_is); (case hsf2 => k_is); (case hmk2 => k_is); (case hkC2 => k_is); (case hs0_2 => kit_is); (case hs1_2 => kit_is); (case hs2_2 => kit_is); (case hs3_2 => kit_is); (case hs4_2 => kit_is); (case hna2 => k_is); (case hin2 => k_is); (case hif2 => k_is); (case lI2 => k_is); (case cI2 => k_is); (case kI2 => k_is); (case hpg3 => k_is); (case hhd3 => k_is); (case hpo3 => k_is); (case hsa3 => k_is); (case hcz3 => k_is); (case hcm3 => k_is); (case hsh3 => k_is); (case hsf3 => k_is); (case hmk3 => k_is); (case hkC3 => k_is); (case hs0_3 => kit_is); (case hs1_3 => kit_is); (case hs2_3 => kit_is); (case hs3_3 => kit_is); (case hs4_3 => kit_is); (case hmi3 => k_is); (case hpg4 => k_is); (case hhd4 => k_is); (case hpo4 => k_is); (case hsa4 => k_is); (case hcz4 => k_is); (case hcm4 => k_is); (case hsh4 => k_is); (case hsf4 => k_is); (case hmk4 => k_is); (case hkC4 => k_is); (case hs0_4 => kit_is); (case hs1_4 => kit_is); (case hs2_4 => kit_is); (case hs3_4 => kit_is); (case hs4_4 => kit_is); (case hna4 => k_is); (case hin4 => k_is); (case hif4 => k_is); (case lI4 => k_is); (case cI4 => k_is); (case kI4 => k_is); (case a0 => k_is); (case l0 => k_is); (case c0 => k_is); (case k0 => k_is); (case a3 => k_is); (case l3 => k_is); (case c3 => k_is); (case k3 => k_is); (case a4 => k_is); (case l4 => k_is); (case c4 => k_is); (case k4 => k_is); (case a5 => k_is); (case l5 => k_is); (case c5 => k_is); (case k5 => k_is); (case a7 => k_is); (case l7 => k_is); (case c7 => k_is); (case k7 => k_is); (case a8 => k_is); (case l8 => k_is); (case c8 => k_is); (case k8 => k_is); (case a10 => k_is); (case l10 => k_is); (case c10 => k_is); (case k10 => k_is); (case a21 => k_is); (case l21 => k_is); (case c21 => k_is); (case k21 => k_is); (case a22 => k_is); (case l22 => k_is); (case c22 => k_is); (case k22 => k_is); (case a23 => k_is); (case l23 => k_is); (case c23 => k_is); (case k23 => k_is); (case l25 => k_is); (case c25 => k_is); (case k25 => k_is); (case l26 => k_is); (case c26 => k_is); (case k26 => k_is); (case l27 => k_is); (case c27 => k_is); (case k27 => k_is); (case l28 => k_is); (case c28 => k_is); (case k28 => k_is); (case a12 => k_is); (case l12 => k_is); (case c12 => k_is); (case k12 => k_is); (case a13 => k_is); (case l13 => k_is); (case c13 => k_is); (case k13 => k_is); (case a14 => k_is); (case l14 => k_is); (case c14 => k_is); (case k14 => k_is); (case a15 => k_is); (case l15 => k_is); (case c15 => k_is); (case k15 => k_is); (case a16 => k_is); (case l16 => k_is); (case c16 => k_is); (case k16 => k_is); (case a42 => k_is); (case l42 => k_is); (case c42 => k_is); (case k42 => k_is); (case a17 => k_is); (case l17 => k_is); (case c17 => k_is); (case k17 => k_is); (case a18 => k_is); (case l18 => k_is); (case c18 => k_is); (case k18 => k_is); (case a19 => k_is); (case l19 => k_is); (case c19 => k_is); (case k19 => k_is); (case a34 => k_is); (case l34 => k_is); (case c34 => k_is); (case k34 => k_is); (case a35 => k_is); (case l35 => k_is); (case c35 => k_is); (case k35 => k_is); (case a36 => k_is); (case l36 => k_is); (case c36 => k_is); (case k36 => k_is); (case a45 => k_is); (case l45 => k_is); (case c45 => k_is); (case k45 => k_is); (case a46 => k_is); (case l46 => k_is); (case c46 => k_is); (case k46 => k_is); (case a20 => k_is); (case l20 => k_is); (case c20 => k_is); (case k20 => k_is); (case z_all => k_is); (case z_any => k_is); (case z_bool => k_is); (case z_enumerate => k_is); (case z_int => k_is); (case z_isinstance => k_is); (case z_len => k_is); (case z_list => k_is); (case z_max => k_is); (case z_min => k_is); (case z_range => k_is); (case z_set => k_is); (case z_sorted => k_is); (case z_sum => k_is); (case z_tuple => k_is); (case z_zip => k_is)
