import PyProof.Rows.All
import Wide.All
import OpenK.AllK
import Wide.FinOn
import PySem.Str
import HandS.ForMost
import HandS.Gcd
import HandS.ForExc
import HandS.SortInts
import HandS.TupAny
import HandS.IsInst
import HandS.Rev
import HandS.Zip
import HandS.Iter
import HandS.Codes
import HandS.CallSlots
import HandS.Defaults
import HandS.MakeKw
import HandS.MakeKwOnly
import HandS.Strs
import HandS.More
import HandS.TupLe
import HandS.HeadEnd
import HandS.HeadHook2
import KE.KStateDown
import HandS.Head0
import HandS.Head1
import HandS.Head2
import HandS.HeadHook1
import HandS.Head3
import PySem.Challenge.RW_lanternhouse_k32_coins
set_option Elab.async false
/-! EvA -/
/-! EvA: plain data, ownership trees, a clean syntax of the bodies and its evaluator. Nothing of the model but its texts (Str). -/
namespace Ev
open PySem (Str)

/-- plain data; ins c xs: an instance of the c-th class with its fields in order; scr: the script -/
inductive D where
  | non | bl (b : Bool) | int (i : Int) | str (x : Str)
  | lst (xs : List D) | tup (x : Bool) (xs : List D) | ins (c : Nat) (xs : List D)
  | scr (ns : List Int)
  deriving Inhabited

/-- who owns what: fz d is frozen data, l, t, i stand alone in the hands of one variable -/
inductive O where
  | dead | fz (d : D) | l (os : List O) | t (os : List O) | i (c : Nat) (os : List O)
  deriving Inhabited

mutual
def O.rd : O → Option D
  | .dead => none
  | .fz d => some d
  | .l os => (rds os).map D.lst
  | .t os => (rds os).map (D.tup false)
  | .i c os => (rds os).map (D.ins c)
def rds : List O → Option (List D)
  | [] => some []
  | o :: os => match O.rd o, rds os with
    | some d, some ds => some (d :: ds)
    | _, _ => none
end

/-- a value in passing: tm o is nobody's yet (or frozen), al o is a look at what a variable owns -/
inductive Val where
  | tm (o : O) | al (o : O)
def Val.o : Val → O
  | .tm o => o
  | .al o => o
def look : O → Val
  | .fz d => .tm (.fz d)
  | o => .al o

inductive R (α : Type) where
  | ok (a : α) | exc (c : Nat) | bad
@[reducible] def R.bind {α β : Type} (r : R α) (f : α → R β) : R β := match r with
  | .ok a => f a
  | .exc c => .exc c
  | .bad => .bad
def R.of {α : Type} : Option α → R α
  | some a => .ok a
  | none => .bad

inductive Op where | add | sub | mul | fdv | mod | pow
inductive Cm where | eq | ne | lt | le | gt | ge | is | isn | inn | nin
/-- built-in functions -/
inductive Bi where | len | int | list | tuple | sum | all | any | max | min | max2 | min2 | abs | sorted | lenset | ascend | maxd | gcd
/-- methods without effect -/
inductive Mt where | count | index | join | replace
/-- kinds of values that isinstance asks -/
inductive Ty where | int | bool | str | list | tuple | cls (c : Nat)

mutual
inductive Tg where
  | nm (i : Nat) | tp (ts : Tgs)
inductive Tgs where
  | nil | cons (a : Tg) (r : Tgs)
end

mutual
inductive E where
  | var (i : Nat)
  | int (i : Int) | bl (b : Bool) | non | str (x : Str)
  | gst (n x : Str)
  | bin (op : Op) (a b : E)
  | neg (a : E)
  | cmp (op : Cm) (a b : E)
  | chn (op op' : Cm) (a b c : E)
  | and_ (a b : E) | or_ (a b : E) | not_ (a : E)
  | ite (c a b : E)
  | tup (es : Es) | lst (es : Es)
  | idx (a i : E)
  | slc (a : E) (lo hi : OE)
  | fld (c f : Nat) (a : E)
  | bi (f : Bi) (es : Es)
  | mt (m : Mt) (a : E) (es : Es)
  | isi (a : E) (t : Ty)
  | call (f : Nat) (es : Es) (ds : List D)
  | callb (f : Nat) (es : Es) (ds : List D)
  | nev
  | mk (c : Nat) (es : Es) (ds : List D)
  | mkk (c : Nat) (es kes : Es) (ks : List Str)
  | lc (own : List Nat) (tg : Tg) (it : It) (c : OE) (e : E)
inductive Es where
  | nil | cons (e : E) (es : Es)
inductive OE where
  | no | so (e : E)
inductive It where
  | ex (e : E) | rg1 (a : E) | rg2 (a b : E) | zip (a b : E) | enu (a : E) | rev (a : E)
end

/-! ### values -/
def sizeMax : Nat := 2 ^ 24
def ixN (n : Nat) (i : Int) : Option Nat := if 0 ≤ i then (if i < n then some i.toNat else none) else if -(n : Int) ≤ i then some (i + n).toNat else none
def atI {α : Type} (xs : List α) (i : Int) : Option α := (ixN xs.length i).bind fun j => xs[j]?
/-- a slice's end -/
def sIx (n : Nat) (d : Nat) : Option Int → Nat
  | none => d
  | some i => if i < 0 then (i + n).toNat else min i.toNat n
def cut {α : Type} (xs : List α) (lo hi : Option Int) : List α := (xs.drop (sIx xs.length 0 lo)).take (sIx xs.length xs.length hi - sIx xs.length 0 lo)

def fz1 : O → Option D
  | .fz d => some d
  | _ => none
def fzs : List O → Option (List D)
  | [] => some []
  | .fz d :: os => (fzs os).map (d :: ·)
  | _ :: _ => none
def items : O → Option (List O)
  | .l os => some os
  | .t os => some os
  | .fz (.lst ds) => some (ds.map .fz)
  | .fz (.tup _ ds) => some (ds.map .fz)
  | _ => none
def isList : O → Bool
  | .l _ => true
  | .fz (.lst _) => true
  | _ => false
def isTup : O → Bool
  | .t _ => true
  | .fz (.tup _ _) => true
  | _ => false
def asInt : O → Option Int
  | .fz (.int i) => some i
  | _ => none
def asBl : O → Option Bool
  | .fz (.bl b) => some b
  | _ => none
def asStr : O → Option Str
  | .fz (.str x) => some x
  | _ => none
def intsO : List O → Option (List Int)
  | [] => some []
  | .fz (.int i) :: os => (intsO os).map (i :: ·)
  | _ :: _ => none
def blsO : List O → Option (List Bool)
  | [] => some []
  | .fz (.bl b) :: os => (blsO os).map (b :: ·)
  | _ :: _ => none
def strsO : List O → Option (List Str)
  | [] => some []
  | .fz (.str x) :: os => (strsO os).map (x :: ·)
  | _ :: _ => none
def flat : D → Bool
  | .non | .bl _ | .int _ | .str _ => true
  | _ => false
def eqF : D → D → Bool
  | .non, .non => true
  | .bl a, .bl b => a == b
  | .bl a, .int b => (if a then 1 else 0) == b
  | .int a, .bl b => a == (if b then 1 else 0)
  | .int a, .int b => a == b
  | .str a, .str b => a == b
  | _, _ => false
mutual
def eqD : D → D → Bool
  | .lst xs, .lst ys => eqDs xs ys
  | .tup _ xs, .tup _ ys => eqDs xs ys
  | x, y => eqF x y
def eqDs : List D → List D → Bool
  | [], [] => true
  | x :: xs, y :: ys => eqD x y && eqDs xs ys
  | _, _ => false
end
def strOk (x : Str) : Bool := x.cps.toList.all fun c => decide (c < 55296)
mutual
def okEq : Nat → D → Bool
  | _, .non => true
  | _, .bl _ => true
  | _, .int _ => true
  | _, .str x => strOk x
  | k + 1, .lst xs => okEqs k xs
  | k + 1, .tup _ xs => okEqs k xs
  | _, _ => false
def okEqs : Nat → List D → Bool
  | _, [] => true
  | k, x :: xs => okEq k x && okEqs k xs
end

def isNon : D → Bool
  | .non => true
  | _ => false
def big (i : Int) : Bool := decide (-(2 ^ 64) < i) && decide (i < 2 ^ 64)
def binO : Op → O → O → Option O
  | .add, .fz (.int a), .fz (.int b) => some (.fz (.int (a + b)))
  | .add, .fz (.str a), .fz (.str b) => if a.cps.size + b.cps.size ≤ sizeMax then some (.fz (.str (a ++ b))) else none
  | .sub, .fz (.int a), .fz (.int b) => some (.fz (.int (a - b)))
  | .mul, .fz (.int a), .fz (.int b) => if big a || big b then some (.fz (.int (a * b))) else none
  | .fdv, .fz (.int a), .fz (.int b) => if 0 < b ∧ b < 1073741824 then some (.fz (.int (a / b))) else none
  | .mod, .fz (.int a), .fz (.int b) => if 0 < b then some (.fz (.int (a % b))) else none
  | .pow, .fz (.int a), .fz (.int b) => if 0 ≤ b ∧ b ≤ 1000000 ∧ a.natAbs < 2 ^ 64 then some (.fz (.int (a ^ b.toNat))) else none
  | .add, a, b => match isList a, isList b, (items a).bind fzs, (items b).bind fzs with
    | true, true, some xs, some ys => if xs.length + ys.length ≤ sizeMax then some (.l ((xs ++ ys).map .fz)) else none
    | _, _, _, _ => none
  | .mul, a, .fz (.int k) => match isList a, (items a).bind fzs with
    | true, some xs => if -(2 ^ 63) ≤ k ∧ k < 2 ^ 63 ∧ xs.length * k.toNat ≤ sizeMax then some (.l ((List.replicate k.toNat xs).flatten.map .fz)) else none
    | _, _ => none
  | _, _, _ => none
def cmpO (op : Cm) (a b : O) : Option Bool := match op with
  | .lt => match asInt a, asInt b with
    | some i, some j => some (decide (i < j))
    | _, _ => none
  | .le => match asInt a, asInt b with
    | some i, some j => some (decide (i ≤ j))
    | _, _ => none
  | .gt => match asInt a, asInt b with
    | some i, some j => some (decide (j < i))
    | _, _ => none
  | .ge => match asInt a, asInt b with
    | some i, some j => some (decide (j ≤ i))
    | _, _ => none
  | .is => match a.rd, b with
    | some d, .fz .non => some (isNon d)
    | _, _ => none
  | .isn => match a.rd, b with
    | some d, .fz .non => some (!isNon d)
    | _, _ => none
  | .eq => match a.rd, b.rd with
    | some d, some e => if okEq 60 d && okEq 60 e then some (eqD d e) else none
    | _, _ => none
  | .ne => match a.rd, b.rd with
    | some d, some e => if okEq 60 d && okEq 60 e then some (!eqD d e) else none
    | _, _ => none
  | .inn => match a, b with
    | .fz (.str x), .fz (.str z) => match x.cps.toList with
      | [c] => some (decide (c ∈ z.cps.toList))
      | _ => none
    | .fz d, b => match (items b).bind fzs with
      | some xs => if flat d && xs.all flat then some (xs.any fun y => eqF y d) else none
      | none => none
    | _, _ => none
  | .nin => match a, b with
    | .fz (.str x), .fz (.str z) => match x.cps.toList with
      | [c] => some (!decide (c ∈ z.cps.toList))
      | _ => none
    | .fz d, b => match (items b).bind fzs with
      | some xs => if flat d && xs.all flat then some (!(xs.any fun y => eqF y d)) else none
      | none => none
    | _, _ => none
def idxO (a : O) (i : Int) : Option O := match a with
  | .l os => atI os i
  | .t os => atI os i
  | .fz (.lst ds) => (atI ds i).map .fz
  | .fz (.tup _ ds) => (atI ds i).map .fz
  | .fz (.scr ns) => (atI ns i).map fun n => .fz (.int n)
  | .fz (.str z) => if z.cps.size ≤ sizeMax then (atI z.cps.toList i).map fun c => .fz (.str ⟨#[c]⟩) else none
  | _ => none
def slcO (a : O) (lo hi : Option Int) : Option O := match a with
  | .fz (.str z) => if z.cps.size ≤ sizeMax then some (.fz (.str ⟨(cut z.cps.toList lo hi).toArray⟩)) else none
  | .fz (.tup x ds) => some (.fz (.tup (x && decide (sIx ds.length 0 lo = 0 ∧ sIx ds.length ds.length hi = ds.length)) (cut ds lo hi)))
  | a => match isList a, (items a).bind fzs with
    | true, some ds => some (.l ((cut ds lo hi).map .fz))
    | _, _ => none
def fldO (a : O) (c f : Nat) : Option O := match a with
  | .fz (.ins c' ds) => if c' = c then ds[f]?.map .fz else none
  | .i c' os => if c' = c then os[f]? else none
  | _ => none
def maxL : List Int → Int
  | [] => 0
  | [a] => a
  | a :: l => max a (maxL l)
def minL : List Int → Int
  | [] => 0
  | [a] => a
  | a :: l => min a (minL l)
def isort (l : List Int) : List Int := l.mergeSort (fun a b => decide (a ≤ b))
def biO (f : Bi) (vs : List O) : Option O := match f, vs with
  | .len, [.fz (.str z)] => if z.cps.size ≤ sizeMax then some (.fz (.int z.cps.size)) else none
  | .len, [.fz (.scr ns)] => some (.fz (.int ns.length))
  | .len, [a] => (items a).map fun os => .fz (.int os.length)
  | .int, [.fz (.int i)] => some (.fz (.int i))
  | .int, [.fz (.bl b)] => some (.fz (.int (if b then 1 else 0)))
  | .list, [a] => ((items a).bind fzs).map fun ds => .l (ds.map .fz)
  | .tuple, [.t _] => none
  | .tuple, [.fz (.tup x ds)] => some (.fz (.tup x ds))
  | .tuple, [a] => ((items a).bind fzs).map fun ds => .fz (.tup true ds)
  | .sum, [a] => match isList a, (items a).bind intsO with
    | true, some ns => some (.fz (.int ns.sum))
    | _, _ => none
  | .all, [a] => match isList a, (items a).bind blsO with
    | true, some bs => some (.fz (.bl (bs.all id)))
    | _, _ => none
  | .any, [a] => match isList a, (items a).bind blsO with
    | true, some bs => some (.fz (.bl (bs.any id)))
    | _, _ => none
  | .max, [a] => match isList a, (items a).bind intsO with
    | true, some (n :: ns) => some (.fz (.int (maxL (n :: ns))))
    | _, _ => none
  | .min, [a] => match (items a).bind intsO with
    | some (n :: ns) => some (.fz (.int (minL (n :: ns))))
    | _ => none
  | .max2, [.fz (.int i), .fz (.int j)] => some (.fz (.int (if j > i then j else i)))
  | .min2, [.fz (.int i), .fz (.int j)] => some (.fz (.int (if j < i then j else i)))
  | .abs, [.fz (.int i)] => some (.fz (.int (if i < 0 then -i else i)))
  | .sorted, [a] => match isList a, (items a).bind intsO with
    | true, some ns => some (.l ((isort ns).map fun n => .fz (.int n)))
    | _, _ => none
  | .maxd, [a, .fz (.int d)] => match isList a, (items a).bind intsO with
    | true, some [] => some (.fz (.int d))
    | true, some ns => some (.fz (.int (maxL ns)))
    | _, _ => none
  | .gcd, [.fz (.int i), .fz (.int j)] => some (.fz (.int (Nat.gcd i.natAbs j.natAbs : Nat)))
  | .lenset, [.fz (.str z)] => if z.cps.size < 1000 then some (.fz (.int z.cps.toList.eraseDups.length)) else none
  | .lenset, [a] => match isList a, (items a).bind intsO with
    | true, some ns => if ns.length < 1000 then some (.fz (.int ns.eraseDups.length)) else none
    | _, _ => none
  | .ascend, [a] => match (items a).bind intsO with
    | some ns => if ns.length < 64 then some (.l ((isort ns.eraseDups).map fun n => .fz (.int n))) else none
    | _ => none
  | _, _ => none
def joinS (sep : Str) : List Str → Str
  | [] => ⟨#[]⟩
  | [a] => a
  | a :: b :: l => a ++ sep ++ joinS sep (b :: l)
def mtO (m : Mt) (a : O) (vs : List O) : Option O := match m, a, vs with
  | .count, .fz (.str z), [.fz (.str x)] => match x.cps.toList with
    | [c] => some (.fz (.int (z.cps.toList.count c)))
    | _ => none
  | .index, a, [.fz d] => match (items a).bind fzs with
    | some ds => if flat d && ds.all flat then (ds.findIdx? fun y => eqF y d).map fun (j : Nat) => O.fz (.int (j : Int)) else none
    | none => none
  | .join, .fz (.str s), [a] => match (items a).bind strsO with
    | some xs => if (xs.map fun x => x.cps.size).sum + xs.length * s.cps.size ≤ sizeMax then some (.fz (.str (joinS s xs))) else none
    | none => none
  | _, _, _ => none
def isStr : O → Bool
  | .fz (.str _) => true
  | _ => false
def isXtp : O → Bool
  | .fz (.tup true _) => true
  | _ => false
def mtRecv (m : Mt) (o : O) : Bool := match m with
  | .index => isList o || isXtp o
  | _ => isStr o
inductive Kd where | int | bool | non | str | list | tuple
def kd : O → Option Kd
  | .fz (.int _) => some .int
  | .fz (.bl _) => some .bool
  | .fz .non => some .non
  | .fz (.str _) => some .str
  | .fz (.lst _) => some .list
  | .l _ => some .list
  | .fz (.tup _ _) => some .tuple
  | .t _ => some .tuple
  | _ => none
def isK : Kd → Ty → Bool
  | .int, .int => true
  | .bool, .int => true
  | .bool, .bool => true
  | .str, .str => true
  | .list, .list => true
  | .tuple, .tuple => true
  | _, _ => false
def isiO (a : O) (t : Ty) : Option Bool := match t with
  | .cls c => match a with
    | .fz (.ins c' _) => if c = c' then some true else none
    | .i c' _ => if c = c' then some true else none
    | _ => none
  | t => (kd a).map fun k => isK k t

/-! ### expressions -/
abbrev Env := List O
inductive CR where
  | ok (o : O) (outs : List O) | exc (c : Nat) | bad
abbrev Cf := Nat → List O → CR
def CR.val : CR → R Val
  | .ok o [] => .ok (.tm o)
  | .exc c => .exc c
  | _ => .bad
def CR.made : CR → R Val
  | .ok (.fz .non) [o] => .ok (.tm o)
  | _ => .bad
/-- a value that is kept: nobody else's -/
def keep : Val → R O
  | .tm o => .ok o
  | .al _ => .bad
def frz : Val → R D
  | .tm o => R.of o.rd
  | .al _ => .bad
mutual
def setTg : Tg → D → Env → Option Env
  | .nm i, d, env => some (env.set i (.fz d))
  | .tp ts, .tup _ ds, env => setTgs ts ds env
  | _, _, _ => none
def setTgs : Tgs → List D → Env → Option Env
  | .nil, [], env => some env
  | .cons a r, d :: ds, env => (setTg a d env).bind fun e => setTgs r ds e
  | _, _, _ => none
end
def wipe (env : Env) : List Nat → Env
  | [] => env
  | i :: r => (wipe env r).set i .dead
/-- a result that names no object -/
def flatR : R Val → R Val
  | .ok (.tm (.fz d)) => if flat d then .ok (.tm (.fz d)) else .bad
  | .exc c => .exc c
  | _ => .bad
/-- nothing is raised within a comprehension -/
def calmR {α : Type} : R α → R α
  | .ok a => .ok a
  | _ => .bad
def rangeD (lo hi : Int) : List D := (List.range (hi - lo).toNat).map fun k => D.int (lo + (k : Nat))
def near (i : Int) : Bool := decide (-(2 ^ 62) ≤ i) && decide (i < 2 ^ 62)
/-- what is walked: a list, a tuple, a text -/
def walkO (look : Bool) : Val → Option (List D)
  | .tm (.fz (.str z)) => some (z.cps.toList.map fun c => D.str ⟨#[c]⟩)
  | .tm (.fz (.lst ds)) => some ds
  | .tm (.fz (.tup _ ds)) => some ds
  | .tm (.l os) => rds os
  | .al (.l os) => if look then fzs os else none
  | _ => none
/-- a comprehension's turns -/
def turns (f : D → R (Option O)) : List D → R (List O)
  | [] => .ok []
  | d :: ds => (f d).bind fun r => (turns f ds).bind fun os => .ok (match r with
    | some o => o :: os
    | none => os)
mutual
def ev (cf : Cf) (ini : Nat → Nat) : E → Env → R Val
  | .var i, env => match env[i]? with
    | none => .bad
    | some .dead => .bad
    | some o => .ok (look o)
  | .int i, _ => .ok (.tm (.fz (.int i)))
  | .bl b, _ => .ok (.tm (.fz (.bl b)))
  | .non, _ => .ok (.tm (.fz .non))
  | .str x, _ => .ok (.tm (.fz (.str x)))
  | .gst _ x, _ => .ok (.tm (.fz (.str x)))
  | .bin op a b, env => (ev cf ini a env).bind fun x => (ev cf ini b env).bind fun y => (R.of (binO op x.o y.o)).bind fun o => .ok (.tm o)
  | .neg a, env => (ev cf ini a env).bind fun x => (R.of (asInt x.o)).bind fun i => .ok (.tm (.fz (.int (-i))))
  | .cmp op a b, env => (ev cf ini a env).bind fun x => (ev cf ini b env).bind fun y => (R.of (cmpO op x.o y.o)).bind fun r => .ok (.tm (.fz (.bl r)))
  | .chn op op' a b c, env => (ev cf ini a env).bind fun x => (ev cf ini b env).bind fun y => (R.of (cmpO op x.o y.o)).bind fun r =>
    match r with
    | true => (ev cf ini c env).bind fun z => (R.of (cmpO op' y.o z.o)).bind fun r' => .ok (.tm (.fz (.bl r')))
    | false => .ok (.tm (.fz (.bl false)))
  | .and_ a b, env => (ev cf ini a env).bind fun x => (R.of (asBl x.o)).bind fun r => match r with
    | true => (ev cf ini b env).bind fun y => (R.of (asBl y.o)).bind fun r' => .ok (.tm (.fz (.bl r')))
    | false => .ok (.tm (.fz (.bl false)))
  | .or_ a b, env => (ev cf ini a env).bind fun x => (R.of (asBl x.o)).bind fun r => match r with
    | true => .ok (.tm (.fz (.bl true)))
    | false => (ev cf ini b env).bind fun y => (R.of (asBl y.o)).bind fun r' => .ok (.tm (.fz (.bl r')))
  | .not_ a, env => (ev cf ini a env).bind fun x => (R.of (asBl x.o)).bind fun r => .ok (.tm (.fz (.bl (!r))))
  | .ite c a b, env => (ev cf ini c env).bind fun x => (R.of (asBl x.o)).bind fun r => match r with
    | true => ev cf ini a env
    | false => ev cf ini b env
  | .tup es, env => (evs cf ini es env).bind fun os => if os.length ≤ sizeMax then match fzs os with
    | some ds => .ok (.tm (.fz (.tup false ds)))
    | none => .ok (.tm (.t os)) else .bad
  | .lst es, env => (evs cf ini es env).bind fun os => if os.length ≤ sizeMax then .ok (.tm (.l os)) else .bad
  | .idx a i, env => (ev cf ini a env).bind fun x => (ev cf ini i env).bind fun y => (R.of (asInt y.o)).bind fun j => (R.of (idxO x.o j)).bind fun o => .ok (look o)
  | .slc a lo hi, env => (ev cf ini a env).bind fun x => (evo cf ini lo env).bind fun l => (evo cf ini hi env).bind fun h => (R.of (slcO x.o l h)).bind fun o => .ok (.tm o)
  | .fld c f a, env => (ev cf ini a env).bind fun x => (R.of (fldO x.o c f)).bind fun o => .ok (look o)
  | .bi f es, env => (evl cf ini es env).bind fun vs => (R.of (biO f vs)).bind fun o => .ok (.tm o)
  | .mt m a es, env => (ev cf ini a env).bind fun x => if mtRecv m x.o = true then (evl cf ini es env).bind fun vs => (R.of (mtO m x.o vs)).bind fun o => .ok (.tm o) else .bad
  | .isi a t, env => (ev cf ini a env).bind fun x => (R.of (isiO x.o t)).bind fun r => .ok (.tm (.fz (.bl r)))
  | .call f es dfl, env => (evf cf ini es env).bind fun ds => (cf f ((ds ++ dfl).map .fz)).val
  | .callb f es dfl, env => (evl cf ini es env).bind fun os => (R.of (rds os)).bind fun ds => flatR (cf f ((ds ++ dfl).map .fz)).val
  | .nev, _ => .bad
  | .mk c es dfl, env => (evf cf ini es env).bind fun ds => (cf (ini c) (.i c [] :: (ds ++ dfl).map .fz)).made
  | .mkk c es kes _, env => (evf cf ini es env).bind fun ds => (evf cf ini kes env).bind fun zs => (cf (ini c) (.i c [] :: (ds ++ zs).map .fz)).made
  | .lc own tg it c e, env => (evi cf ini true it env).bind fun ds => if ds.length ≤ sizeMax then
    (turns (fun d => match setTg tg d (wipe env own) with
      | none => .bad
      | some env' => calmR ((evc cf ini c env').bind fun b => match b with
        | true => (ev cf ini e env').bind fun x => (keep x).bind fun o => .ok (some o)
        | false => .ok none)) ds).bind fun os => .ok (.tm (.l os)) else .bad
/-- items that are kept -/
def evs (cf : Cf) (ini : Nat → Nat) : Es → Env → R (List O)
  | .nil, _ => .ok []
  | .cons e es, env => (ev cf ini e env).bind fun x => (keep x).bind fun o => (evs cf ini es env).bind fun os => .ok (o :: os)
/-- items that are looked at -/
def evl (cf : Cf) (ini : Nat → Nat) : Es → Env → R (List O)
  | .nil, _ => .ok []
  | .cons e es, env => (ev cf ini e env).bind fun x => (evl cf ini es env).bind fun os => .ok (x.o :: os)
/-- items that are frozen -/
def evf (cf : Cf) (ini : Nat → Nat) : Es → Env → R (List D)
  | .nil, _ => .ok []
  | .cons e es, env => (ev cf ini e env).bind fun x => (frz x).bind fun d => (evf cf ini es env).bind fun ds => .ok (d :: ds)
def evo (cf : Cf) (ini : Nat → Nat) : OE → Env → R (Option Int)
  | .no, _ => .ok none
  | .so e, env => (ev cf ini e env).bind fun x => (R.of (asInt x.o)).bind fun i => .ok (some i)
def evc (cf : Cf) (ini : Nat → Nat) : OE → Env → R Bool
  | .no, _ => .ok true
  | .so e, env => (ev cf ini e env).bind fun x => R.of (asBl x.o)
def evi (cf : Cf) (ini : Nat → Nat) (lk : Bool) : It → Env → R (List D)
  | .ex e, env => (ev cf ini e env).bind fun x => R.of (walkO lk x)
  | .rg1 a, env => (ev cf ini a env).bind fun x => (R.of (asInt x.o)).bind fun i => if near i = true then .ok (rangeD 0 i) else .bad
  | .rg2 a b, env => (ev cf ini a env).bind fun x => (ev cf ini b env).bind fun y => (R.of (asInt x.o)).bind fun i => (R.of (asInt y.o)).bind fun j =>
    if near i = true ∧ near j = true then .ok (rangeD i j) else .bad
  | .zip a b, env => (ev cf ini a env).bind fun x => (frz x).bind fun d => (ev cf ini b env).bind fun y => (frz y).bind fun d' => match d, d' with
    | .lst xs, .lst ys => .ok ((xs.zip ys).map fun p => D.tup false [p.1, p.2])
    | .tup _ xs, .tup _ ys => .ok ((xs.zip ys).map fun p => D.tup false [p.1, p.2])
    | _, _ => .bad
  | .enu a, env => (ev cf ini a env).bind fun x => (frz x).bind fun d => match d with
    | .lst xs => .ok (xs.zipIdx.map fun p => D.tup false [D.int p.2, p.1])
    | _ => .bad
  | .rev a, env => (ev cf ini a env).bind fun x => (frz x).bind fun d => match d with
    | .lst xs => .ok xs.reverse
    | .tup _ xs => .ok xs.reverse
    | _ => .bad
end

/-! ### heaps -/
section
variable {α : Type} (lt : α → α → Bool)
def swapL (l : List α) (i j : Nat) : List α := match l[i]?, l[j]? with
  | some x, some y => (l.set i y).set j x
  | _, _ => l
def ltAt (l : List α) (i j : Nat) : Bool := match l[i]?, l[j]? with
  | some x, some y => lt x y
  | _, _ => false
def upH : Nat → List α → Nat → List α
  | 0, l, _ => l
  | n + 1, l, pos => if 0 < pos then (if ltAt lt l pos ((pos - 1) / 2) = true then upH n (swapL l ((pos - 1) / 2) pos) ((pos - 1) / 2) else l) else l
def childH (l : List α) (pos : Nat) : Nat := if 2 * pos + 1 + 1 < l.length ∧ ltAt lt l (2 * pos + 1) (2 * pos + 1 + 1) = false then 2 * pos + 1 + 1 else 2 * pos + 1
def downH : Nat → List α → Nat → List α
  | 0, l, _ => l
  | n + 1, l, pos => if pos < l.length / 2 then downH n (swapL l (childH lt l pos) pos) (childH lt l pos) else upH lt (l.length + 1) l pos
def pushH (l : List α) (x : α) : List α := upH lt (l.length + 1) (l ++ [x]) l.length
def popH (l : List α) : Option (α × List α) := match l with
  | [] => none
  | x :: r => match r.getLast? with
    | none => some (x, [])
    | some z => some (x, downH lt (l.length + 1) (z :: r.dropLast) 0)
end
def ltP (a b : Int × Int) : Bool := decide (a.1 < b.1) || (decide (a.1 = b.1) && decide (a.2 < b.2))
def keyO : O → Option (Int × Int)
  | .fz (.tup false [.int a, .int b]) => some (a, b)
  | _ => none
def ltO (x y : O) : Bool := match keyO x, keyO y with
  | some a, some b => ltP a b
  | _, _ => false
/-! ### statements -/
/-- a place within what a variable owns -/
inductive Pt where
  | nil | sub (p : Pt) (e : E) | fld (p : Pt) (c f : Nat)
def getP : O → List Nat → Option O
  | o, [] => some o
  | .l os, j :: js => (os[j]?).bind fun o => getP o js
  | .i _ os, j :: js => (os[j]?).bind fun o => getP o js
  | _, _ => none
def putP : O → List Nat → O → Option O
  | _, [], n => some n
  | .l os, j :: js, n => (os[j]?).bind fun o => (putP o js n).map fun o' => .l (os.set j o')
  | .i c os, j :: js, n => (os[j]?).bind fun o => (putP o js n).map fun o' => .i c (os.set j o')
  | _, _, _ => none
def evp (cf : Cf) (ini : Nat → Nat) : Pt → O → Env → R (List Nat × O)
  | .nil, .dead, _ => .bad
  | .nil, o, _ => .ok ([], o)
  | .sub p e, o, env => (evp cf ini p o env).bind fun q => match q.2 with
    | .l os => (ev cf ini e env).bind fun y => (R.of (asInt y.o)).bind fun k => (R.of (ixN os.length k)).bind fun j => (R.of os[j]?).bind fun q' => .ok (q.1 ++ [j], q')
    | _ => .bad
  | .fld p c f, o, env => (evp cf ini p o env).bind fun q => match q.2 with
    | .i c' os => if c' = c then (R.of os[f]?).bind fun q' => .ok (q.1 ++ [f], q') else .bad
    | _ => .bad
def augI : Op → Int → Int → Option Int
  | .add, a, b => some (a + b)
  | .sub, a, b => some (a - b)
  | _, _, _ => none
mutual
inductive S where
  | set (own : Bool) (i : Nat) (e : E)
  | unp (tg : Tg) (e : E)
  | par (i j : Nat) (a b : E)
  | app (i : Nat) (p : Pt) (e : E)
  | ins (i : Nat) (p : Pt) (a b : E)
  | sto (i : Nat) (p : Pt) (a b : E)
  | fst (i : Nat) (p : Pt) (c f : Nat) (e : E)
  | adto (op : Op) (i : Nat) (p : Pt) (a b : E)
  | aug (op : Op) (i : Nat) (e : E)
  | expr (e : E)
  | frz (i : Nat)
  | hpush (i : Nat) (p : Pt) (e : E)
  | hpop (tg : Tg) (i : Nat) (p : Pt)
  | ret (e : E)
  | retN
  | ifs (c : E) (a b : Ss)
  | for_ (tg : Tg) (it : It) (b : Ss)
  | whl (n : Nat) (c : E) (b : Ss)
  | pass | brk | cont
  | nev
  | raise (c : Nat)
  | try_ (b : Ss) (hs : Hs)
inductive Ss where
  | nil | cons (s : S) (ss : Ss)
/-- except clauses: the class, what is handed back (the suites of the laws hand back at once) -/
inductive Hs where
  | nil | ret (c : Nat) (e : E) (hs : Hs)
end
inductive RS where
  | nx (env : Env) | rt (o : O) (env : Env) | bk (env : Env) | ct (env : Env) | exc (c : Nat) (env : Env) | bad
/-- an expression within a statement -/
def lift {α : Type} (env : Env) (r : R α) (f : α → RS) : RS := match r with
  | .ok a => f a
  | .exc c => .exc c env
  | .bad => .bad
def thn (r : RS) (f : Env → RS) : RS := match r with
  | .nx env => f env
  | r => r
/-- a for's turns -/
def forT (f : D → Env → RS) : List D → Env → RS
  | [], env => .nx env
  | d :: ds, env => match f d env with
    | .nx env' => forT f ds env'
    | .ct env' => forT f ds env'
    | .bk env' => .nx env'
    | r => r
def whlT (c : Env → R Bool) (b : Env → RS) : Nat → Env → RS
  | 0, _ => .bad
  | n + 1, env => lift env (c env) fun t => match t with
    | false => .nx env
    | true => match b env with
      | .nx env' => whlT c b n env'
      | .ct env' => whlT c b n env'
      | .bk env' => .nx env'
      | r => r
/-- what stands at slot i is changed -/
def put1 (env : Env) (i : Nat) (o : O) (js : List Nat) (n : O) : RS := match putP o js n with
  | some o' => .nx (env.set i o')
  | none => .bad
mutual
def ex (cf : Cf) (ini : Nat → Nat) (sb : Nat → Nat → Bool) (io : List Nat) : S → Env → RS
  | .set own i e, env => if io.contains i then .bad else lift env (ev cf ini e env) fun x => match own with
    | true => lift env (keep x) fun o => .nx (env.set i o)
    | false => lift env (frz x) fun d => .nx (env.set i (.fz d))
  | .unp tg e, env => lift env (ev cf ini e env) fun x => lift env (frz x) fun d => match setTg tg d env with
    | some env' => .nx env'
    | none => .bad
  | .par i j a b, env => if io.contains i || io.contains j || i == j then .bad else lift env (ev cf ini a env) fun x => lift env (frz x) fun d => lift env (ev cf ini b env) fun y => lift env (frz y) fun d' =>
    .nx ((env.set i (.fz d)).set j (.fz d'))
  | .app i p e, env => match env[i]? with
    | some o => lift env (evp cf ini p o env) fun q => match q.2 with
      | .l os => lift env (ev cf ini e env) fun x => lift env (keep x) fun n => if os.length < sizeMax then put1 env i o q.1 (.l (os ++ [n])) else .bad
      | _ => .bad
    | none => .bad
  | .ins i p a b, env => match env[i]? with
    | some o => lift env (evp cf ini p o env) fun q => match q.2 with
      | .l os => lift env (ev cf ini a env) fun x => lift env (R.of (asInt x.o)) fun k => lift env (ev cf ini b env) fun y => lift env (keep y) fun n =>
        if os.length < sizeMax ∧ 0 ≤ k ∧ k < 2 ^ 63 then put1 env i o q.1 (.l (os.take k.toNat ++ [n] ++ os.drop k.toNat)) else .bad
      | _ => .bad
    | none => .bad
  | .sto i p a b, env => lift env (ev cf ini b env) fun y => lift env (keep y) fun n => match env[i]? with
    | some o => lift env (evp cf ini p o env) fun q => match q.2 with
      | .l os => lift env (ev cf ini a env) fun x => lift env (R.of (asInt x.o)) fun k => lift env (R.of (ixN os.length k)) fun j => put1 env i o q.1 (.l (os.set j n))
      | _ => .bad
    | none => .bad
  | .fst i p c f e, env => lift env (ev cf ini e env) fun x => lift env (keep x) fun n => match env[i]? with
    | some o => lift env (evp cf ini p o env) fun q => match q.2 with
      | .i c' os => if c' ≠ c then .bad else if f < os.length then put1 env i o q.1 (.i c (os.set f n)) else if f = os.length then put1 env i o q.1 (.i c (os ++ [n])) else .bad
      | _ => .bad
    | none => .bad
  | .adto op i p a b, env => match env[i]? with
    | some o => lift env (evp cf ini p o env) fun q => match q.2 with
      | .l os => lift env (ev cf ini a env) fun x => lift env (R.of (asInt x.o)) fun k => lift env (R.of (ixN os.length k)) fun j => match os[j]? with
        | some (.fz (.int u)) => lift env (ev cf ini b env) fun y => lift env (R.of (asInt y.o)) fun w => lift env (R.of (augI op u w)) fun r => put1 env i o q.1 (.l (os.set j (.fz (.int r))))
        | _ => .bad
      | _ => .bad
    | none => .bad
  | .aug op i e, env => if io.contains i then .bad else match env[i]? with
    | some (.fz (.int u)) => lift env (ev cf ini e env) fun y => lift env (R.of (asInt y.o)) fun w => lift env (R.of (augI op u w)) fun r => .nx (env.set i (.fz (.int r)))
    | _ => .bad
  | .expr e, env => lift env (ev cf ini e env) fun _ => .nx env
  | .frz i, env => if io.contains i then .bad else match (env[i]?).bind O.rd with
    | some d => .nx (env.set i (.fz d))
    | none => .bad
  | .hpush i p e, env => match env[i]? with
    | some o => lift env (evp cf ini p o env) fun q => match q.2 with
      | .l os => lift env (ev cf ini e env) fun x => lift env (keep x) fun n => if os.length < sizeMax ∧ (os ++ [n]).all (fun o => (keyO o).isSome) = true then put1 env i o q.1 (.l (pushH ltO os n)) else .bad
      | _ => .bad
    | none => .bad
  | .hpop tg i p, env => match env[i]? with
    | some o => lift env (evp cf ini p o env) fun q => match q.2 with
      | .l os => match popH ltO os with
        | some (.fz d, os') => if os.all (fun o => (keyO o).isSome) = true then thn (put1 env i o q.1 (.l os')) fun env' => match setTg tg d env' with
          | some env'' => .nx env''
          | none => .bad else .bad
        | _ => .bad
      | _ => .bad
    | none => .bad
  | .ret e, env => lift env (ev cf ini e env) fun x => match io with
    | [] => .rt x.o env
    | _ :: _ => lift env (keep x) fun o => .rt o env
  | .retN, env => .rt (.fz .non) env
  | .ifs c a b, env => lift env (ev cf ini c env) fun x => lift env (R.of (asBl x.o)) fun r => match r with
    | true => exs cf ini sb io a env
    | false => exs cf ini sb io b env
  | .for_ tg it b, env => lift env (evi cf ini false it env) fun ds => forT (fun d env => match setTg tg d env with
      | some env' => exs cf ini sb io b env'
      | none => .bad) ds env
  | .whl n c b, env => whlT (fun env => (ev cf ini c env).bind fun x => R.of (asBl x.o)) (fun env => exs cf ini sb io b env) n env
  | .pass, env => .nx env
  | .brk, env => .bk env
  | .cont, env => .ct env
  | .nev, _ => .bad
  | .raise c, env => .exc c env
  | .try_ b hs, env => match exs cf ini sb io b env with
    | .exc c env' => exh cf ini sb c hs env'
    | r => r
def exs (cf : Cf) (ini : Nat → Nat) (sb : Nat → Nat → Bool) (io : List Nat) : Ss → Env → RS
  | .nil, env => .nx env
  | .cons s ss, env => thn (ex cf ini sb io s env) fun env' => exs cf ini sb io ss env'
def exh (cf : Cf) (ini : Nat → Nat) (sb : Nat → Nat → Bool) (c : Nat) : Hs → Env → RS
  | .nil, env => .exc c env
  | .ret k e hs, env => if sb c k then lift env (ev cf ini e env) fun x => .rt x.o env else exh cf ini sb c hs env
end

def es : List E → Es
  | [] => .nil
  | e :: r => .cons e (es r)
def ss : List S → Ss
  | [] => .nil
  | s :: r => .cons s (ss r)
def tgs : List Tg → Tgs
  | [] => .nil
  | a :: r => .cons a (tgs r)
/-! ### defs -/
structure FnD where
  np : Nat
  nl : Nat
  io : List Nat
  body : Ss
structure Prog where
  fns : List FnD
  ini : Nat → Nat
  sb : Nat → Nat → Bool
def outs (io : List Nat) (env : Env) : List O := io.map fun i => env.getD i .dead
def fin (io : List Nat) : RS → CR
  | .nx env => .ok (.fz .non) (outs io env)
  | .rt o env => .ok o (outs io env)
  | .exc c _ => .exc c
  | _ => .bad
def start (fd : FnD) (os : List O) : Env := os ++ List.replicate (fd.nl - os.length) .dead
def isFz : O → Bool
  | .fz _ => true
  | _ => false
/-- only the places io may own something -/
def ioOk (io : List Nat) : Nat → List O → Bool
  | _, [] => true
  | i, o :: os => (isFz o || io.contains i) && ioOk io (i + 1) os
def step (p : Prog) (cf : Cf) : Cf := fun f os => match p.fns[f]? with
  | none => .bad
  | some fd => if os.length = fd.np ∧ ioOk fd.io 0 os = true then fin fd.io (exs cf p.ini p.sb fd.io fd.body (start fd os)) else .bad
def Prog.np (p : Prog) (f : Nat) : Nat := match p.fns[f]? with
  | some fd => fd.np
  | none => 0
def Prog.io (p : Prog) (f : Nat) : List Nat := match p.fns[f]? with
  | some fd => fd.io
  | none => []
def callD (p : Prog) : Nat → Cf
  | 0 => fun _ _ => .bad
  | k + 1 => step p (callD p k)
end Ev

/-! EvT1 -/
set_option Elab.async false
set_option linter.all false
set_option maxRecDepth 100000
set_option maxHeartbeats 2000000
/-! EvT1: min over a tuple of ints. -/
namespace Ev
open PySem PySem.Spec PyProof.Rows L2
section
variable {prog : Program} {w : World} {A : Around} {E : Value → Shared → Prop} {s : Shared} {l : Addr} {xs : Array (Int × Tok)} {its : List Value} {ns : List Int} {Q : Value → Shared → Prop}
theorem minT_items (hh : A.handled = none) (hl : s.heap.IsTuple l (intItems xs)) (hne : 0 < xs.size)
    (h : ∀ v h' tk, (intItems xs)[argBest (fun i j => decide (numAt xs i < numAt xs j)) (xs.size - 1)]? = some v → (∀ b o, s.heap.get? b = some o → h'.get? b = some o) → Q v { s with heap := h', toks := tk }) :
    wpAny (model prog w) A (call (.builtin "min") [.ref l]) Q E s := by
  have hlt : l < s.heap.objs.size := by obtain ⟨_, e, _⟩ := hl; exact Heap.lt_size e
  refine call_min_walk (wpAny_pyIter_tuple hl ?_)
  refine ⟨_, _, _, _, _, _, _, rfl, Walks.tuple (A := A.in1) hh s.heap.objs.size l (Nat.ne_of_lt hlt) (intItems xs), ⟨⟨_, Heap.get?_push_size _ rfl, rfl, rfl⟩, hl.push _⟩, fun b hb => ?_, by simpa [intItems] using hne, CmpOf.ints_lt (numAt xs) (fun _ _ => intItems_at), fun v h' tk hP hk => ?_⟩
  · show b < (s.heap.push _).objs.size
    rw [Heap.size_push]
    rcases List.mem_cons.mp hb with rfl | hb
    · exact Nat.lt_succ_self _
    · rcases List.mem_cons.mp hb with rfl | hb
      · exact Nat.lt_succ_of_lt hlt
      · cases hb
  · refine h v h' tk (by simpa [intItems] using hP) fun b o e => hk b o (fun hm => ?_) (Heap.get?_push_of_some _ e)
    rcases List.mem_cons.mp hm with e1 | hm
    · exact absurd (e1 ▸ Heap.lt_size e) (Nat.lt_irrefl _)
    · cases hm
theorem minT_raw (hh : A.handled = none) (hl : s.heap.IsTuple l its.toArray) (hi : IntsAre its ns) (hne : 0 < ns.length)
    (h : ∀ h' tk M t', (∀ b o, s.heap.get? b = some o → h'.get? b = some o) → M ∈ ns → (∀ a, a ∈ ns → M ≤ a) → Q (.int M t') { s with heap := h', toks := tk }) : wpAny (model prog w) A (call (.builtin "min") [.ref l]) Q E s := by
  obtain ⟨xs, e⟩ := hi.allInts.items
  have hn : numsOf (intItems xs).toList = ns := by rw [← e]; exact hi.numsOf
  rw [nums_intItems] at hn
  subst hn
  rw [e] at hl
  refine minT_items hh hl (by simpa using hne) fun v h' tk hv hk => ?_
  obtain ⟨t, rfl⟩ := intItems_at hv
  obtain ⟨h1, h2⟩ := argBest_lt (numAt xs) (xs.size - 1)
  refine h h' tk _ t hk ?_ fun a ha => ?_
  · rw [numAt_eq]
    refine PySem.getD_mem ?_
    rw [List.length_map, Array.length_toList]
    have : 0 < xs.size := by simpa using hne
    omega
  · obtain ⟨j, hj, rfl⟩ := mem_getD ha
    rw [List.length_map, Array.length_toList] at hj
    rw [← numAt_eq]
    exact h2 j (by omega)
end
theorem cr_minT {X : Cx} (hc : X.calm = true) : CallR X (.builtin "min") (fun vs H Q => ∃ (a : Addr) (ns : List Int), vs = [V.ref a] ∧ SqT X.K H a (ns.map V.int) ∧ 0 < ns.length ∧ ∀ m, m ∈ ns → (∀ y, y ∈ ns → m ≤ y) → Q (.int m) H) := by
  intro pins s σ H vs us Q I r h
  obtain ⟨a, ns, rfl, hs, hne, q⟩ := h
  obtain ⟨its, rv, hl, _⟩ := I.tuple hs
  rw [Vals.ref1 r]
  exact minT_raw (I.ok.hd hc) hl rv.ints hne fun h' tk m t' hk h1 h2 => ⟨.int _, H, I.kept hk, ⟨_, rfl⟩, q m h1 h2⟩
end Ev

/-! EvB1 -/
set_option Elab.async false
set_option linter.all false
set_option maxRecDepth 100000
set_option maxHeartbeats 2000000
/-! EvB1: how data stands in the abstract heap. -/
namespace Ev
open PySem PySem.Spec PyProof.Rows L2

/-- the classes: where they stand, their fields -/
structure Ctx where
  C : Nat → Addr
  fl : Nat → List Str
  K : PySem.W.Frag
/-- a list of the module's frozen part -/
def CL (K : PySem.W.Frag) (a : Addr) (xs : List V) : Prop := ∃ (o : Obj) (its : Array Value) (n : Nat), K.lookup a = some o ∧ o.cls = .type "list" ∧ o.dict = none ∧ o.data = .seq its n ∧ its.size ≤ sizeLine ∧ Vals xs its.toList
/-- a frozen tuple; x: it is exactly a tuple, without a dict -/
def TupA (H : Hp) (a : Addr) : Bool → List V → Prop
  | true, vs => ∃ o : Obj, H a = some (.frz o (.tup vs)) ∧ o.cls = .type "tuple" ∧ o.dict = none
  | false, vs => H a = some (.tup vs)
theorem TupA.rd {H : Hp} {a : Addr} {x : Bool} {vs : List V} (h : TupA H a x vs) : Rd H a (.tup vs) := by
  cases x with
  | true => obtain ⟨o, h, _⟩ := h; exact .inr ⟨o, h⟩
  | false => exact .inl h
theorem TupA.mono {H H' : Hp} {a : Addr} {x : Bool} {vs : List V} (k : ∀ o, H a = some o → H' a = some o) (h : TupA H a x vs) : TupA H' a x vs := by
  cases x with
  | true => obtain ⟨o, h, r⟩ := h; exact ⟨o, k _ h, r⟩
  | false => exact k _ h
/-- the frozen part, the heap -/
structure Mem where
  S : Addr → Prop
  H : Hp
variable (G : Ctx)

mutual
def Rep (M : Mem) : D → V → Prop
  | .non, v => v = .non
  | .bl b, v => v = .bl b
  | .int i, v => v = .int i
  | .str x, v => v = .str x
  | .lst ds, v => ∃ a vs, v = .ref a ∧ M.S a ∧ M.H a = some (.lst vs) ∧ Reps M ds vs
  | .tup x ds, v => ∃ a vs, v = .ref a ∧ M.S a ∧ TupA M.H a x vs ∧ Reps M ds vs
  | .ins c ds, v => ∃ a dx fs, v = .ref a ∧ M.S a ∧ M.H a = some (.ins (G.C c) dx fs) ∧ fs.map (·.1) = (G.fl c).take fs.length ∧ Reps M ds (fs.map (·.2))
  | .scr ns, v => ∃ a, v = .ref a ∧ ((∃ o, M.S a ∧ M.H a = some (.frz o (.lst (ns.map V.int)))) ∨ CL G.K a (ns.map V.int))
def Reps (M : Mem) : List D → List V → Prop
  | [], vs => vs = []
  | d :: ds, vs => ∃ v r, vs = v :: r ∧ Rep M d v ∧ Reps M ds r
end
mutual
/-- ownership: the addresses at F are this value's own -/
def Own (M : Mem) : O → V → List Addr → Prop
  | .dead, _, F => F = []
  | .fz d, v, F => F = [] ∧ Rep G M d v
  | .l os, v, F => ∃ a vs r, v = .ref a ∧ F = a :: r ∧ M.H a = some (.lst vs) ∧ Owns M os vs r
  | .t os, v, F => ∃ a vs r, v = .ref a ∧ F = a :: r ∧ M.H a = some (.tup vs) ∧ Owns M os vs r
  | .i c os, v, F => ∃ a dx fs r, v = .ref a ∧ F = a :: r ∧ M.H a = some (.ins (G.C c) dx fs) ∧ fs.map (·.1) = (G.fl c).take fs.length ∧ Owns M os (fs.map (·.2)) r
def Owns (M : Mem) : List O → List V → List Addr → Prop
  | [], vs, F => vs = [] ∧ F = []
  | o :: os, vs, F => ∃ v r F1 F2, vs = v :: r ∧ F = F1 ++ F2 ∧ Own M o v F1 ∧ Owns M os r F2
end

/-- what is frozen stays -/
structure Keep (M M' : Mem) : Prop where
  s : ∀ a, M.S a → M'.S a
  h : ∀ a o, M.S a → M.H a = some o → M'.H a = some o
/-- only new things come -/
structure Ext (M M' : Mem) : Prop where
  s : ∀ a, M.S a → M'.S a
  h : Same M.H M'.H
  n : ∀ a, M'.S a → M.S a ∨ M.H a = none
  d : ∀ a, M'.S a → M'.H a ≠ none
variable {G : Ctx} {M M' M'' : Mem}
theorem Ext.keep (e : Ext M M') : Keep M M' := ⟨e.s, fun a o _ h => e.h a o h⟩
theorem Keep.refl : Keep M M := ⟨fun _ h => h, fun _ _ _ h => h⟩
theorem Keep.trans (a : Keep M M') (b : Keep M' M'') : Keep M M'' := ⟨fun x h => b.s x (a.s x h), fun x o s h => b.h x o (a.s x s) (a.h x o s h)⟩
theorem Ext.refl (d : ∀ a, M.S a → M.H a ≠ none) : Ext M M := ⟨fun _ h => h, Same.refl _, fun _ h => .inl h, d⟩
theorem same_none {H H' : Hp} (e : Same H H') {a : Addr} (h : H' a = none) : H a = none := e.free h
theorem Ext.trans (a : Ext M M') (b : Ext M' M'') : Ext M M'' := ⟨fun x h => b.s x (a.s x h), a.h.trans b.h, fun x h => by
  rcases b.n x h with q | q
  · exact a.n x q
  · exact .inr (same_none a.h q), b.d⟩

mutual
theorem Rep.mono (k : Keep M M') : ∀ {d : D} {v : V}, Rep G M d v → Rep G M' d v
  | .non, _, h => by simpa only [Rep] using h
  | .bl _, _, h => by simpa only [Rep] using h
  | .int _, _, h => by simpa only [Rep] using h
  | .str _, _, h => by simpa only [Rep] using h
  | .lst ds, _, h => by
    simp only [Rep] at h ⊢
    obtain ⟨a, vs, e, s, q, r⟩ := h
    exact ⟨a, vs, e, k.s a s, k.h a _ s q, Reps.mono k r⟩
  | .tup x ds, _, h => by
    simp only [Rep] at h ⊢
    obtain ⟨a, vs, e, s, q, r⟩ := h
    exact ⟨a, vs, e, k.s a s, q.mono fun o z => k.h a o s z, Reps.mono k r⟩
  | .ins c ds, _, h => by
    simp only [Rep] at h ⊢
    obtain ⟨a, dx, fs, e, s, q, m, r⟩ := h
    exact ⟨a, dx, fs, e, k.s a s, k.h a _ s q, m, Reps.mono k r⟩
  | .scr ns, _, h => by
    simp only [Rep] at h ⊢
    obtain ⟨a, e, h⟩ := h
    refine ⟨a, e, h.imp (fun ⟨o, s, q⟩ => ⟨o, k.s a s, k.h a _ s q⟩) id⟩
theorem Reps.mono (k : Keep M M') : ∀ {ds : List D} {vs : List V}, Reps G M ds vs → Reps G M' ds vs
  | [], _, h => by simpa only [Reps] using h
  | d :: ds, _, h => by
    simp only [Reps] at h ⊢
    obtain ⟨v, r, e, q, t⟩ := h
    exact ⟨v, r, e, Rep.mono k q, Reps.mono k t⟩
end
mutual
theorem Own.there : ∀ {o : O} {v : V} {F : List Addr}, Own G M o v F → ∀ a ∈ F, M.H a ≠ none
  | .dead, _, _, h => by
    simp only [Own] at h
    subst h
    simp
  | .fz _, _, _, h => by
    simp only [Own] at h
    obtain ⟨rfl, _⟩ := h
    simp
  | .l os, _, _, h => by
    simp only [Own] at h
    obtain ⟨a, vs, r, _, rfl, q, t⟩ := h
    intro b hb
    rcases List.mem_cons.mp hb with rfl | hb
    · rw [q]; simp
    · exact Owns.there t b hb
  | .t os, _, _, h => by
    simp only [Own] at h
    obtain ⟨a, vs, r, _, rfl, q, t⟩ := h
    intro b hb
    rcases List.mem_cons.mp hb with rfl | hb
    · rw [q]; simp
    · exact Owns.there t b hb
  | .i c os, _, _, h => by
    simp only [Own] at h
    obtain ⟨a, dx, fs, r, _, rfl, q, _, t⟩ := h
    intro b hb
    rcases List.mem_cons.mp hb with rfl | hb
    · rw [q]; simp
    · exact Owns.there t b hb
theorem Owns.there : ∀ {os : List O} {vs : List V} {F : List Addr}, Owns G M os vs F → ∀ a ∈ F, M.H a ≠ none
  | [], _, _, h => by
    simp only [Owns] at h
    obtain ⟨_, rfl⟩ := h
    simp
  | o :: os, _, _, h => by
    simp only [Owns] at h
    obtain ⟨v, r, F1, F2, _, rfl, q, t⟩ := h
    intro b hb
    rcases List.mem_append.mp hb with hb | hb
    · exact Own.there q b hb
    · exact Owns.there t b hb
end
mutual
theorem Own.mono (k : Keep M M') : ∀ {o : O} {v : V} {F : List Addr}, (∀ a ∈ F, ∀ u, M.H a = some u → M'.H a = some u) → Own G M o v F → Own G M' o v F
  | .dead, _, _, _, h => by simpa only [Own] using h
  | .fz _, _, _, _, h => by
    simp only [Own] at h ⊢
    exact ⟨h.1, Rep.mono k h.2⟩
  | .l os, _, _, f, h => by
    simp only [Own] at h ⊢
    obtain ⟨a, vs, r, e, rfl, q, t⟩ := h
    exact ⟨a, vs, r, e, rfl, f a List.mem_cons_self _ q, Owns.mono k (fun b hb => f b (List.mem_cons_of_mem _ hb)) t⟩
  | .t os, _, _, f, h => by
    simp only [Own] at h ⊢
    obtain ⟨a, vs, r, e, rfl, q, t⟩ := h
    exact ⟨a, vs, r, e, rfl, f a List.mem_cons_self _ q, Owns.mono k (fun b hb => f b (List.mem_cons_of_mem _ hb)) t⟩
  | .i c os, _, _, f, h => by
    simp only [Own] at h ⊢
    obtain ⟨a, dx, fs, r, e, rfl, q, m, t⟩ := h
    exact ⟨a, dx, fs, r, e, rfl, f a List.mem_cons_self _ q, m, Owns.mono k (fun b hb => f b (List.mem_cons_of_mem _ hb)) t⟩
theorem Owns.mono (k : Keep M M') : ∀ {os : List O} {vs : List V} {F : List Addr}, (∀ a ∈ F, ∀ u, M.H a = some u → M'.H a = some u) → Owns G M os vs F → Owns G M' os vs F
  | [], _, _, _, h => by simpa only [Owns] using h
  | o :: os, _, _, f, h => by
    simp only [Owns] at h ⊢
    obtain ⟨v, r, F1, F2, e, rfl, q, t⟩ := h
    exact ⟨v, r, F1, F2, e, rfl, Own.mono k (fun b hb => f b (List.mem_append_left _ hb)) q, Owns.mono k (fun b hb => f b (List.mem_append_right _ hb)) t⟩
end
/-- freezing -/
def Mem.add (M : Mem) (F : List Addr) : Mem := ⟨fun a => M.S a ∨ a ∈ F, M.H⟩
theorem keep_add {F : List Addr} : Keep M (M.add F) := ⟨fun _ h => .inl h, fun _ _ _ h => h⟩
mutual
theorem Own.frz : ∀ {o : O} {v : V} {F F' : List Addr} {d : D}, Own G M o v F → o.rd = some d → (∀ a ∈ F, a ∈ F') → Rep G (M.add F') d v
  | .dead, _, _, _, _, _, e, _ => by simp [O.rd] at e
  | .fz d, _, _, _, _, h, e, _ => by
    simp only [O.rd, Option.some.injEq] at e
    subst e
    simp only [Own] at h
    exact Rep.mono keep_add h.2
  | .l os, _, _, _, _, h, e, f => by
    simp only [O.rd, Option.map_eq_some_iff] at e
    obtain ⟨ds, e, rfl⟩ := e
    simp only [Own] at h
    obtain ⟨a, vs, r, e1, rfl, q, t⟩ := h
    simp only [Rep]
    exact ⟨a, vs, e1, .inr (f a List.mem_cons_self), q, Owns.frz t e fun b hb => f b (List.mem_cons_of_mem _ hb)⟩
  | .t os, _, _, _, _, h, e, f => by
    simp only [O.rd, Option.map_eq_some_iff] at e
    obtain ⟨ds, e, rfl⟩ := e
    simp only [Own] at h
    obtain ⟨a, vs, r, e1, rfl, q, t⟩ := h
    simp only [Rep]
    exact ⟨a, vs, e1, .inr (f a List.mem_cons_self), q, Owns.frz t e fun b hb => f b (List.mem_cons_of_mem _ hb)⟩
  | .i c os, _, _, _, _, h, e, f => by
    simp only [O.rd, Option.map_eq_some_iff] at e
    obtain ⟨ds, e, rfl⟩ := e
    simp only [Own] at h
    obtain ⟨a, dx, fs, r, e1, rfl, q, m, t⟩ := h
    simp only [Rep]
    exact ⟨a, dx, fs, e1, .inr (f a List.mem_cons_self), q, m, Owns.frz t e fun b hb => f b (List.mem_cons_of_mem _ hb)⟩
theorem Owns.frz : ∀ {os : List O} {vs : List V} {F F' : List Addr} {ds : List D}, Owns G M os vs F → rds os = some ds → (∀ a ∈ F, a ∈ F') → Reps G (M.add F') ds vs
  | [], _, _, _, _, h, e, _ => by
    simp only [rds, Option.some.injEq] at e
    subst e
    simp only [Owns] at h
    simp only [Reps]
    exact h.1
  | o :: os, _, _, _, _, h, e, f => by
    simp only [rds] at e
    split at e
    · rename_i d ds e1 e2
      simp only [Option.some.injEq] at e
      subst e
      simp only [Owns] at h
      obtain ⟨v, r, F1, F2, rfl, rfl, q, t⟩ := h
      simp only [Reps]
      exact ⟨v, r, rfl, Own.frz q e1 (fun b hb => f b (List.mem_append_left _ hb)), Owns.frz t e2 fun b hb => f b (List.mem_append_right _ hb)⟩
    · cases e
end
/-! ### lists of frozen things -/
theorem Owns.fzs : ∀ {os : List O} {ds : List D} {vs : List V} {F : List Addr}, Owns G M os vs F → fzs os = some ds → F = [] ∧ os = ds.map .fz ∧ Reps G M ds vs
  | [], _, _, _, h, e => by
    simp only [Ev.fzs, Option.some.injEq] at e
    subst e
    simp only [Owns] at h
    simp only [Reps]
    exact ⟨h.2, rfl, h.1⟩
  | .fz d :: os, _, _, _, h, e => by
    simp only [Ev.fzs, Option.map_eq_some_iff] at e
    obtain ⟨ds, e, rfl⟩ := e
    simp only [Owns, Own] at h
    obtain ⟨v, r, F1, F2, rfl, rfl, ⟨rfl, q⟩, t⟩ := h
    obtain ⟨rfl, rfl, t2⟩ := Owns.fzs t e
    simp only [Reps]
    exact ⟨rfl, rfl, v, r, rfl, q, t2⟩
  | .dead :: _, _, _, _, _, e => by simp [Ev.fzs] at e
  | .l _ :: _, _, _, _, _, e => by simp [Ev.fzs] at e
  | .t _ :: _, _, _, _, _, e => by simp [Ev.fzs] at e
  | .i _ _ :: _, _, _, _, _, e => by simp [Ev.fzs] at e
theorem Reps.owns : ∀ {ds : List D} {vs : List V}, Reps G M ds vs → Owns G M (ds.map .fz) vs []
  | [], _, h => by
    simp only [Reps] at h
    simp only [List.map, Owns]
    exact ⟨h, trivial⟩
  | d :: ds, _, h => by
    simp only [Reps] at h
    obtain ⟨v, r, rfl, q, t⟩ := h
    simp only [List.map, Owns]
    exact ⟨v, r, [], [], rfl, rfl, by simp only [Own]; exact ⟨trivial, q⟩, Reps.owns t⟩
theorem Reps.length : ∀ {ds : List D} {vs : List V}, Reps G M ds vs → vs.length = ds.length
  | [], _, h => by simp only [Reps] at h; subst h; rfl
  | d :: ds, _, h => by
    simp only [Reps] at h
    obtain ⟨v, r, rfl, q, t⟩ := h
    simp [Reps.length t]
theorem Owns.length : ∀ {os : List O} {vs : List V} {F : List Addr}, Owns G M os vs F → vs.length = os.length
  | [], _, _, h => by simp only [Owns] at h; obtain ⟨rfl, _⟩ := h; rfl
  | o :: os, _, _, h => by
    simp only [Owns] at h
    obtain ⟨v, r, F1, F2, rfl, rfl, q, t⟩ := h
    simp [Owns.length t]
theorem Reps.get : ∀ {ds : List D} {vs : List V} {i : Nat} {d : D}, Reps G M ds vs → ds[i]? = some d → ∃ v, vs[i]? = some v ∧ Rep G M d v
  | [], _, _, _, _, e => by simp at e
  | d :: ds, _, 0, _, h, e => by
    simp only [Reps] at h
    obtain ⟨v, r, rfl, q, t⟩ := h
    simp at e
    subst e
    exact ⟨v, rfl, q⟩
  | d :: ds, _, i + 1, _, h, e => by
    simp only [Reps] at h
    obtain ⟨v, r, rfl, q, t⟩ := h
    obtain ⟨u, e2, q2⟩ := Reps.get (i := i) t (by simpa using e)
    exact ⟨u, by simpa using e2, q2⟩
theorem Owns.get : ∀ {os : List O} {vs : List V} {F : List Addr} {i : Nat} {o : O}, Owns G M os vs F → os[i]? = some o → ∃ v F', vs[i]? = some v ∧ Own G M o v F' ∧ F'.Sublist F
  | [], _, _, _, _, _, e => by simp at e
  | o :: os, _, _, 0, _, h, e => by
    simp only [Owns] at h
    obtain ⟨v, r, F1, F2, rfl, rfl, q, t⟩ := h
    simp at e
    subst e
    exact ⟨v, F1, rfl, q, List.sublist_append_left _ _⟩
  | o :: os, _, _, i + 1, _, h, e => by
    simp only [Owns] at h
    obtain ⟨v, r, F1, F2, rfl, rfl, q, t⟩ := h
    obtain ⟨u, F', e2, q2, s⟩ := Owns.get (i := i) t (by simpa using e)
    exact ⟨u, F', by simpa using e2, q2, s.trans (List.sublist_append_right _ _)⟩
theorem Reps.append : ∀ {ds es : List D} {vs us : List V}, Reps G M ds vs → Reps G M es us → Reps G M (ds ++ es) (vs ++ us)
  | [], _, _, _, h, k => by simp only [Reps] at h; subst h; exact k
  | d :: ds, _, _, _, h, k => by
    simp only [Reps] at h
    obtain ⟨v, r, rfl, q, t⟩ := h
    simp only [List.cons_append, Reps]
    exact ⟨v, _, rfl, q, Reps.append t k⟩
theorem Owns.append : ∀ {os ps : List O} {vs us : List V} {F F' : List Addr}, Owns G M os vs F → Owns G M ps us F' → Owns G M (os ++ ps) (vs ++ us) (F ++ F')
  | [], _, _, _, _, _, h, k => by simp only [Owns] at h; obtain ⟨rfl, rfl⟩ := h; exact k
  | o :: os, _, _, _, _, _, h, k => by
    simp only [Owns] at h
    obtain ⟨v, r, F1, F2, rfl, rfl, q, t⟩ := h
    simp only [List.cons_append, Owns]
    exact ⟨v, _, F1, _, rfl, List.append_assoc _ _ _, q, Owns.append t k⟩
theorem Owns.one {o : O} {v : V} {F : List Addr} (h : Own G M o v F) : Owns G M [o] [v] F := by
  simp only [Owns]
  exact ⟨v, [], F, [], rfl, (List.append_nil _).symm, h, rfl, rfl⟩
theorem Reps.drop : ∀ {ds : List D} {vs : List V} (n : Nat), Reps G M ds vs → Reps G M (ds.drop n) (vs.drop n)
  | _, _, 0, h => h
  | [], _, n + 1, h => by simp only [Reps] at h; subst h; simp [Reps]
  | d :: ds, _, n + 1, h => by
    simp only [Reps] at h
    obtain ⟨v, r, rfl, q, t⟩ := h
    exact Reps.drop n t
theorem Reps.take : ∀ {ds : List D} {vs : List V} (n : Nat), Reps G M ds vs → Reps G M (ds.take n) (vs.take n)
  | _, _, 0, h => by simp [Reps]
  | [], _, n + 1, h => by simp only [Reps] at h; subst h; simp [Reps]
  | d :: ds, _, n + 1, h => by
    simp only [Reps] at h
    obtain ⟨v, r, rfl, q, t⟩ := h
    simp only [List.take_succ_cons, Reps]
    exact ⟨v, _, rfl, q, Reps.take n t⟩
/-- a list cut in two -/
theorem Owns.cut : ∀ {os : List O} {vs : List V} {F : List Addr} (n : Nat), Owns G M os vs F → ∃ F1 F2, F = F1 ++ F2 ∧ Owns G M (os.take n) (vs.take n) F1 ∧ Owns G M (os.drop n) (vs.drop n) F2
  | os, vs, F, 0, h => ⟨[], F, rfl, by simp [Owns], h⟩
  | [], _, _, n + 1, h => by simp only [Owns] at h; obtain ⟨rfl, rfl⟩ := h; exact ⟨[], [], rfl, by simp [Owns], by simp [Owns]⟩
  | o :: os, _, _, n + 1, h => by
    simp only [Owns] at h
    obtain ⟨v, r, F1, F2, rfl, rfl, q, t⟩ := h
    obtain ⟨F3, F4, rfl, q3, q4⟩ := Owns.cut n t
    refine ⟨F1 ++ F3, F4, by simp, ?_, by simpa using q4⟩
    simp only [List.take_succ_cons, Owns]
    exact ⟨v, _, F1, F3, rfl, rfl, q, q3⟩
theorem Owns.split {os ps : List O} {vs : List V} {F : List Addr} (h : Owns G M (os ++ ps) vs F) : ∃ us ws F1 F2, vs = us ++ ws ∧ F = F1 ++ F2 ∧ Owns G M os us F1 ∧ Owns G M ps ws F2 := by
  obtain ⟨F1, F2, rfl, h1, h2⟩ := Owns.cut os.length h
  rw [List.take_left] at h1
  rw [List.drop_left] at h2
  exact ⟨_, _, F1, F2, (List.take_append_drop _ _).symm, rfl, h1, h2⟩
/-- one item put in another's place -/
theorem Owns.put {os : List O} {vs : List V} {F : List Addr} {i : Nat} {o : O} {v : V} {F' : List Addr} (h : Owns G M os vs F) (hi : i < os.length) (q : Own G M o v F') :
    ∃ F'', Owns G M (os.set i o) (vs.set i v) F'' ∧ (∀ a ∈ F'', a ∈ F ∨ a ∈ F') ∧ (F.Nodup → F'.Nodup → (∀ a ∈ F', a ∉ F) → F''.Nodup) := by
  obtain ⟨F1, F2, rfl, h1, h2⟩ := Owns.cut i h
  have l1 := h.length
  have e1 : os.drop i = os[i] :: os.drop (i + 1) := (List.drop_eq_getElem_cons hi)
  have e2 : vs.drop i = vs[i]'(by omega) :: vs.drop (i + 1) := (List.drop_eq_getElem_cons (by omega))
  rw [e1, e2] at h2
  simp only [Owns] at h2
  obtain ⟨v0, r0, F3, F4, e3, rfl, q0, t0⟩ := h2
  injection e3 with e3 e4
  subst e3 e4
  refine ⟨F1 ++ (F' ++ F4), ?_, ?_, ?_⟩
  · rw [List.set_eq_take_append_cons_drop, if_pos hi, List.set_eq_take_append_cons_drop, if_pos (by omega)]
    refine Owns.append h1 ?_
    simp only [Owns]
    exact ⟨v, _, F', F4, rfl, rfl, q, t0⟩
  · intro a ha
    simp only [List.mem_append] at ha ⊢
    rcases ha with ha | ha | ha
    · exact .inl (.inl ha)
    · exact .inr ha
    · exact .inl (.inr (.inr ha))
  · intro n1 n2 dj
    simp only [List.nodup_append, List.mem_append] at n1 ⊢
    obtain ⟨m1, ⟨m2, m3, m4⟩, m5⟩ := n1
    refine ⟨m1, ⟨n2, m3, fun a ha b hb e => ?_⟩, fun a ha b hb e => ?_⟩
    · subst e
      exact dj a ha (by simp [hb])
    · subst e
      rcases hb with hb | hb
      · exact dj a hb (by simp [ha])
      · exact m5 a ha a (.inr hb) rfl
end Ev

/-! EvB2 -/
set_option Elab.async false
set_option linter.all false
set_option maxRecDepth 100000
set_option maxHeartbeats 2000000
/-! EvB2: environments, values in passing, the readings. -/
namespace Ev
open PySem PySem.Spec PyProof.Rows L2

/-- a def's entry: what was frozen, the heap, what it may change (its own arguments'), where these stand -/
structure Frm where
  S0 : Addr → Prop
  H0 : Hp
  I : List Addr
  pin : List (Nat × V)
variable {G : Ctx} {Fm : Frm} {M M' M0 M1 M2 : Mem} {env : Env} {σ : L2.St}

def SR (G : Ctx) (M : Mem) (o : O) (x : Option V) (F : List Addr) : Prop := (o = .dead ∧ F = []) ∨ ∃ v, x = some v ∧ Own G M o v F
structure Slots (G : Ctx) (Fm : Frm) (M : Mem) (env : Env) (σ : L2.St) (FS : Nat → List Addr) : Prop where
  at_ : ∀ i o, env[i]? = some o → ∃ x, σ[i]? = some x ∧ SR G M o x (FS i)
  nod : ∀ i, (FS i).Nodup
  dis : ∀ i j a, a ∈ FS i → a ∈ FS j → i = j
  own : ∀ i a, a ∈ FS i → ¬ M.S a ∧ M.H a ≠ none ∧ (Fm.H0 a = none ∨ (a ∈ Fm.I ∧ i ∈ Fm.pin.map (·.1)))
structure ER (G : Ctx) (Fm : Frm) (M : Mem) (env : Env) (σ : L2.St) : Prop where
  len : σ.length = env.length
  dom : ∀ a, M.S a → M.H a ≠ none
  fr : ∀ b o, Fm.H0 b = some o → b ∉ Fm.I → M.H b = some o
  io : ∀ b, b ∈ Fm.I → M.H b ≠ none
  new : ∀ a, M.S a → Fm.S0 a ∨ Fm.H0 a = none
  old : ∀ a, Fm.S0 a → M.S a
  pin : ∀ p ∈ Fm.pin, σ[p.1]? = some (some p.2)
  slots : ∃ FS, Slots G Fm M env σ FS
theorem ER.h0 (e : ER G Fm M env σ) {a : Addr} (h : M.H a = none) : Fm.H0 a = none := by
  cases q : Fm.H0 a with
  | none => rfl
  | some o =>
    by_cases hi : a ∈ Fm.I
    · exact absurd h (e.io a hi)
    · rw [e.fr a o q hi] at h; cases h
theorem SR.mono (k : Keep M M') {o : O} {x : Option V} {F : List Addr} (f : ∀ a ∈ F, ∀ u, M.H a = some u → M'.H a = some u) (h : SR G M o x F) : SR G M' o x F := by
  rcases h with h | ⟨v, e, h⟩
  · exact .inl h
  · exact .inr ⟨v, e, Own.mono k f h⟩
theorem Ext.frame (e : Ext M M') {F : List Addr} (hf : ∀ a ∈ F, ¬ M.S a ∧ M.H a ≠ none) : ∀ a ∈ F, ¬ M'.S a := fun a ha s => by
  rcases e.n a s with q | q
  · exact (hf a ha).1 q
  · exact (hf a ha).2 q
theorem Slots.ext {FS : Nat → List Addr} (s : Slots G Fm M env σ FS) (x : Ext M M') : Slots G Fm M' env σ FS := by
  refine ⟨?_, s.nod, s.dis, fun i a ha => ?_⟩
  · intro i o h
    obtain ⟨y, e1, e2⟩ := s.at_ i o h
    exact ⟨y, e1, SR.mono x.keep (fun a _ u q => x.h a u q) e2⟩
  · obtain ⟨q1, q2, q3⟩ := s.own i a ha
    exact ⟨fun z => (x.n a z).elim q1 q2, fun z => q2 (same_none x.h z), q3⟩
theorem ER.ext (e : ER G Fm M env σ) (x : Ext M M') : ER G Fm M' env σ := by
  obtain ⟨FS, s⟩ := e.slots
  refine ⟨e.len, x.d, fun b o h hi => x.h b o (e.fr b o h hi), fun b hb q => e.io b hb (same_none x.h q), fun a h => ?_, fun a h => x.s a (e.old a h), e.pin, FS, s.ext x⟩
  rcases x.n a h with q | q
  · exact e.new a q
  · exact .inr (e.h0 q)

/-- a value in passing: M0 the memory ahead of it -/
def VR (G : Ctx) (Fm : Frm) (M0 M : Mem) (w : Val) (v : V) : Prop := ∃ F, Own G M w.o v F ∧ F.Nodup ∧ (∀ a ∈ F, ¬ M.S a ∧ (Fm.H0 a = none ∨ a ∈ Fm.I)) ∧ (match w with
  | .tm _ => ∀ a ∈ F, M0.H a = none
  | .al _ => True)
theorem VR.ext {w : Val} {v : V} (e : Ext M M') (h : VR G Fm M0 M w v) : VR G Fm M0 M' w v := by
  obtain ⟨F, h1, h2, h3, h4⟩ := h
  exact ⟨F, Own.mono e.keep (fun a _ u q => e.h a u q) h1, h2, fun a ha => ⟨Ext.frame e (fun b hb => ⟨(h3 b hb).1, Own.there h1 b hb⟩) a ha, (h3 a ha).2⟩, h4⟩
theorem VR.earlier {w : Val} {v : V} (e : Ext M0 M1) (h : VR G Fm M1 M w v) : VR G Fm M0 M w v := by
  obtain ⟨F, h1, h2, h3, h4⟩ := h
  refine ⟨F, h1, h2, h3, ?_⟩
  cases w with
  | tm o => exact fun a ha => same_none e.h (h4 a ha)
  | al o => trivial
theorem VR.fz {d : D} {v : V} (h : Rep G M d v) : VR G Fm M0 M (.tm (.fz d)) v := ⟨[], by simp only [Val.o, Own]; exact ⟨trivial, h⟩, List.nodup_nil, by simp, by simp⟩

/-- what an expression's outcome asks -/
def Out (G : Ctx) (Fm : Frm) (W : WX) (σ : L2.St) (M : Mem) (Q : VK) : R Val → Prop
  | .ok w => ∀ v M', Ext M M' → VR G Fm M M' w v → Q v M'.H
  | .exc c => ∀ M', Ext M M' → W (.ref (G.C c)) none σ M'.H
  | .bad => False
variable {W : WX} {Q Q' : VK}
theorem Out.ext {r : R Val} (e : Ext M M1) (h : Out G Fm W σ M Q r) : Out G Fm W σ M1 Q r := by
  cases r with
  | ok w => exact fun v M' x q => h v M' (e.trans x) (VR.earlier e q)
  | exc c => exact fun M' x => h M' (e.trans x)
  | bad => exact h
theorem Out.step {r : R Val} {f : Val → R Val} (h : Out G Fm W σ M Q (r.bind f)) (k : ∀ w v M1, Ext M M1 → VR G Fm M M1 w v → Out G Fm W σ M1 Q (f w) → Q' v M1.H) : Out G Fm W σ M Q' r := by
  cases r with
  | ok w => exact fun v M1 e q => k w v M1 e q (Out.ext e h)
  | exc c => exact h
  | bad => exact h
theorem Out.of {α : Type} {r : Option α} {f : α → R Val} (h : Out G Fm W σ M Q ((R.of r).bind f)) : ∃ a, r = some a ∧ Out G Fm W σ M Q (f a) := by
  cases r with
  | some a => exact ⟨a, rfl, h⟩
  | none => exact h.elim

section
variable (G : Ctx) (Fm : Frm) (cf : Cf) (ini : Nat → Nat) (W : WX)
def tE (ae : E) : TE := fun σ H Q => ∃ S env, ER G Fm ⟨S, H⟩ env σ ∧ Out G Fm W σ ⟨S, H⟩ Q (ev cf ini ae env)
end
/-- a weaker reading -/
theorem _root_.L2.PE.imp {X : Cx} {e : Expr} {t t' : TE} (h : PE X e t) (w : ∀ σ H Q, t' σ H Q → t σ H Q) : PE X e t' := ⟨fun pins s σ H Q I q => h.run pins s σ H Q I (w σ H Q q)⟩
theorem _root_.L2.PT.imp {X : Cx} {e : Expr} {t t' : TT} (h : PT X e t) (w : ∀ σ H Q, t' σ H Q → t σ H Q) : PT X e t' := ⟨fun pins s σ H Q I q => h.run pins s σ H Q I (w σ H Q q)⟩
theorem _root_.L2.PW.imp {X : Cx} {e : Expr} {t t' : TT} (h : PW X e t) (w : ∀ σ H Q, t' σ H Q → t σ H Q) : PW X e t' := ⟨fun wh pins s σ H Q I q => h.run wh pins s σ H Q I (w σ H Q q)⟩
theorem _root_.L2.PA.imp {X : Cx} {e : List Expr} {t t' : TA} (h : PA X e t) (w : ∀ σ H Q, t' σ H Q → t σ H Q) : PA X e t' := ⟨fun p pins s σ H Q I q => h.run p pins s σ H Q I (w σ H Q q)⟩
theorem _root_.L2.PS.imp {X : Cx} {e : Stmt} {t t' : TS} (h : PS X e t) (w : ∀ D σ H, t' D σ H → t D σ H) : PS X e t' := ⟨fun pins s σ H D I q => h.run pins s σ H D I (w D σ H q)⟩
theorem _root_.L2.PSs.imp {X : Cx} {e : List Stmt} {t t' : TS} (h : PSs X e t) (w : ∀ D σ H, t' D σ H → t D σ H) : PSs X e t' := ⟨fun pins s σ H D I q => h.run pins s σ H D I (w D σ H q)⟩
theorem _root_.L2.PI.imp {X : Cx} {tg e : Expr} {t t' : TI} (h : PI X tg e t) (w : ∀ σ H R, t' σ H R → t σ H R) : PI X tg e t' := ⟨fun pins s σ H R I q => h.run pins s σ H R I (w σ H R q)⟩
theorem _root_.L2.PG.imp {X : Cx} {e : Expr} {t t' : TG} (h : PG X e t) (w : ∀ v σ H Q, t' v σ H Q → t v σ H Q) : PG X e t' := ⟨fun pins s σ H v u Q I r q => h.run pins s σ H v u Q I r (w v σ H Q q)⟩
theorem _root_.L2.PGs.imp {X : Cx} {e : List Expr} {t t' : TGs} (h : PGs X e t) (w : ∀ v σ H Q, t' v σ H Q → t v σ H Q) : PGs X e t' := ⟨fun pins s σ H v u Q I r q => h.run pins s σ H v u Q I r (w v σ H Q q)⟩

/-! ### reading lists and tuples -/
/-- a list stands there -/
def LstAt (M : Mem) (a : Addr) (vs : List V) : Prop := M.H a = some (.lst vs)
theorem items_of {o : O} {os : List O} {v : V} {F : List Addr} (h : Own G M o v F) (e : items o = some os) :
    ∃ a vs F', v = .ref a ∧ (M.H a = some (.lst vs) ∧ isList o = true ∨ Rd M.H a (.tup vs) ∧ isList o = false) ∧ Owns G M os vs F' ∧ (∀ b ∈ F', b ∈ F) ∧ F'.Sublist F := by
  cases o with
  | dead => simp [items] at e
  | i c os => simp [items] at e
  | l ps =>
    simp only [items, Option.some.injEq] at e
    subst e
    simp only [Own] at h
    obtain ⟨a, vs, r, e1, rfl, q, t⟩ := h
    exact ⟨a, vs, r, e1, .inl ⟨q, rfl⟩, t, fun b hb => List.mem_cons_of_mem _ hb, List.sublist_cons_self _ _⟩
  | t ps =>
    simp only [items, Option.some.injEq] at e
    subst e
    simp only [Own] at h
    obtain ⟨a, vs, r, e1, rfl, q, t⟩ := h
    exact ⟨a, vs, r, e1, .inr ⟨.inl q, rfl⟩, t, fun b hb => List.mem_cons_of_mem _ hb, List.sublist_cons_self _ _⟩
  | fz d =>
    simp only [Own] at h
    obtain ⟨rfl, h⟩ := h
    cases d with
    | lst ds =>
      simp only [items, Option.some.injEq] at e
      subst e
      simp only [Rep] at h
      obtain ⟨a, vs, e1, s, q, t⟩ := h
      exact ⟨a, vs, [], e1, .inl ⟨q, rfl⟩, t.owns, by simp, List.Sublist.refl _⟩
    | tup x ds =>
      simp only [items, Option.some.injEq] at e
      subst e
      simp only [Rep] at h
      obtain ⟨a, vs, e1, s, q, t⟩ := h
      exact ⟨a, vs, [], e1, .inr ⟨q.rd, rfl⟩, t.owns, by simp, List.Sublist.refl _⟩
    | _ => simp [items] at e
theorem fitems_of {o : O} {ds : List D} {v : V} {F : List Addr} (h : Own G M o v F) (e : (items o).bind fzs = some ds) :
    ∃ a vs, v = .ref a ∧ (M.H a = some (.lst vs) ∧ isList o = true ∨ Rd M.H a (.tup vs) ∧ isList o = false) ∧ Reps G M ds vs := by
  obtain ⟨os, e1, e2⟩ := Option.bind_eq_some_iff.mp e
  obtain ⟨a, vs, F', rfl, q, t, _⟩ := items_of h e1
  obtain ⟨_, _, t⟩ := Owns.fzs t e2
  exact ⟨a, vs, rfl, q, t⟩
theorem ints_of : ∀ {os : List O} {ns : List Int} {vs : List V} {F : List Addr}, Owns G M os vs F → intsO os = some ns → vs = ns.map V.int
  | [], _, _, _, h, e => by
    simp only [intsO, Option.some.injEq] at e
    subst e
    simp only [Owns] at h
    exact h.1
  | .fz (.int i) :: os, _, _, _, h, e => by
    simp only [intsO, Option.map_eq_some_iff] at e
    obtain ⟨ns, e, rfl⟩ := e
    simp only [Owns, Own, Rep] at h
    obtain ⟨v, r, F1, F2, rfl, rfl, ⟨rfl, rfl⟩, t⟩ := h
    rw [ints_of t e]
    rfl
  | .fz .non :: _, _, _, _, _, e => by simp [intsO] at e
  | .fz (.bl _) :: _, _, _, _, _, e => by simp [intsO] at e
  | .fz (.str _) :: _, _, _, _, _, e => by simp [intsO] at e
  | .fz (.lst _) :: _, _, _, _, _, e => by simp [intsO] at e
  | .fz (.tup _ _) :: _, _, _, _, _, e => by simp [intsO] at e
  | .fz (.ins _ _) :: _, _, _, _, _, e => by simp [intsO] at e
  | .fz (.scr _) :: _, _, _, _, _, e => by simp [intsO] at e
  | .dead :: _, _, _, _, _, e => by simp [intsO] at e
  | .l _ :: _, _, _, _, _, e => by simp [intsO] at e
  | .t _ :: _, _, _, _, _, e => by simp [intsO] at e
  | .i _ _ :: _, _, _, _, _, e => by simp [intsO] at e
theorem bls_of : ∀ {os : List O} {ns : List Bool} {vs : List V} {F : List Addr}, Owns G M os vs F → blsO os = some ns → vs = ns.map V.bl
  | [], _, _, _, h, e => by
    simp only [blsO, Option.some.injEq] at e
    subst e
    simp only [Owns] at h
    exact h.1
  | .fz (.bl i) :: os, _, _, _, h, e => by
    simp only [blsO, Option.map_eq_some_iff] at e
    obtain ⟨ns, e, rfl⟩ := e
    simp only [Owns, Own, Rep] at h
    obtain ⟨v, r, F1, F2, rfl, rfl, ⟨rfl, rfl⟩, t⟩ := h
    rw [bls_of t e]
    rfl
  | .fz .non :: _, _, _, _, _, e => by simp [blsO] at e
  | .fz (.int _) :: _, _, _, _, _, e => by simp [blsO] at e
  | .fz (.str _) :: _, _, _, _, _, e => by simp [blsO] at e
  | .fz (.lst _) :: _, _, _, _, _, e => by simp [blsO] at e
  | .fz (.tup _ _) :: _, _, _, _, _, e => by simp [blsO] at e
  | .fz (.ins _ _) :: _, _, _, _, _, e => by simp [blsO] at e
  | .fz (.scr _) :: _, _, _, _, _, e => by simp [blsO] at e
  | .dead :: _, _, _, _, _, e => by simp [blsO] at e
  | .l _ :: _, _, _, _, _, e => by simp [blsO] at e
  | .t _ :: _, _, _, _, _, e => by simp [blsO] at e
  | .i _ _ :: _, _, _, _, _, e => by simp [blsO] at e
theorem strs_of : ∀ {os : List O} {ns : List Str} {vs : List V} {F : List Addr}, Owns G M os vs F → strsO os = some ns → vs = ns.map V.str
  | [], _, _, _, h, e => by
    simp only [strsO, Option.some.injEq] at e
    subst e
    simp only [Owns] at h
    exact h.1
  | .fz (.str i) :: os, _, _, _, h, e => by
    simp only [strsO, Option.map_eq_some_iff] at e
    obtain ⟨ns, e, rfl⟩ := e
    simp only [Owns, Own, Rep] at h
    obtain ⟨v, r, F1, F2, rfl, rfl, ⟨rfl, rfl⟩, t⟩ := h
    rw [strs_of t e]
    rfl
  | .fz .non :: _, _, _, _, _, e => by simp [strsO] at e
  | .fz (.int _) :: _, _, _, _, _, e => by simp [strsO] at e
  | .fz (.bl _) :: _, _, _, _, _, e => by simp [strsO] at e
  | .fz (.lst _) :: _, _, _, _, _, e => by simp [strsO] at e
  | .fz (.tup _ _) :: _, _, _, _, _, e => by simp [strsO] at e
  | .fz (.ins _ _) :: _, _, _, _, _, e => by simp [strsO] at e
  | .fz (.scr _) :: _, _, _, _, _, e => by simp [strsO] at e
  | .dead :: _, _, _, _, _, e => by simp [strsO] at e
  | .l _ :: _, _, _, _, _, e => by simp [strsO] at e
  | .t _ :: _, _, _, _, _, e => by simp [strsO] at e
  | .i _ _ :: _, _, _, _, _, e => by simp [strsO] at e
theorem asInt_of {o : O} {i : Int} {v : V} {F : List Addr} (h : Own G M o v F) (e : asInt o = some i) : v = .int i := by
  cases o with
  | fz d =>
    cases d with
    | int j =>
      simp only [asInt, Option.some.injEq] at e
      subst e
      simp only [Own, Rep] at h
      exact h.2
    | _ => simp [asInt] at e
  | _ => simp [asInt] at e
theorem asBl_of {o : O} {i : Bool} {v : V} {F : List Addr} (h : Own G M o v F) (e : asBl o = some i) : v = .bl i := by
  cases o with
  | fz d =>
    cases d with
    | bl j =>
      simp only [asBl, Option.some.injEq] at e
      subst e
      simp only [Own, Rep] at h
      exact h.2
    | _ => simp [asBl] at e
  | _ => simp [asBl] at e
mutual
def toPy : D → PyData
  | .non => .none
  | .bl b => .bool b
  | .int i => .int i
  | .str x => .str x
  | .lst ds => .list (toPys ds)
  | .tup _ ds => .tuple (toPys ds)
  | .ins _ _ => .none
  | .scr _ => .none
def toPys : List D → List PyData
  | [] => []
  | d :: ds => toPy d :: toPys ds
end

/-! ### new objects -/
theorem ext_upd {p : Addr} {o : HO} (d : ∀ a, M.S a → M.H a ≠ none) (h : M.H p = none) : Ext M ⟨M.S, upd M.H p o⟩ :=
  ⟨fun _ s => s, fun b u q => (upd_ne (ne_of_none q h)).trans q, fun _ s => .inl s, fun a s q => by
    have hn : a ≠ p := fun e => d a s (e ▸ h)
    exact d a s ((upd_ne hn).symm.trans q)⟩
theorem ext_updF {p : Addr} {o : HO} (d : ∀ a, M.S a → M.H a ≠ none) (h : M.H p = none) : Ext M ⟨fun a => M.S a ∨ a = p, upd M.H p o⟩ :=
  ⟨fun _ s => .inl s, fun b u q => (upd_ne (ne_of_none q h)).trans q, fun a s => s.elim .inl fun e => .inr (e ▸ h), fun a s q => by
    rcases s with s | s
    · have hn : a ≠ p := fun e => d a s (e ▸ h)
      exact d a s ((upd_ne hn).symm.trans q)
    · subst s
      exact absurd (upd_same.symm.trans q) (by simp)⟩
/-- a new value, nobody's -/
def New (G : Ctx) (M M' : Mem) (o : O) (v : V) : Prop := ∃ F, Own G M' o v F ∧ F.Nodup ∧ ∀ a ∈ F, ¬ M'.S a ∧ M.H a = none
theorem New.vr {o : O} {v : V} (er : ∀ a, M.H a = none → Fm.H0 a = none) (h : New G M M' o v) : VR G Fm M M' (.tm o) v := by
  obtain ⟨F, h1, h2, h3⟩ := h
  exact ⟨F, h1, h2, fun a ha => ⟨(h3 a ha).1, .inl (er a (h3 a ha).2)⟩, fun a ha => (h3 a ha).2⟩
theorem New.fz {d : D} {v : V} (h : Rep G M' d v) : New G M M' (.fz d) v := ⟨[], by simp only [Own]; exact ⟨trivial, h⟩, List.nodup_nil, by simp⟩
theorem New.lst {p : Addr} {ds : List D} {vs : List V} (d : ∀ a, M.S a → M.H a ≠ none) (h : M.H p = none) (r : Reps G M ds vs) : New G M ⟨M.S, upd M.H p (.lst vs)⟩ (.l (ds.map .fz)) (.ref p) := by
  refine ⟨[p], ?_, by simp, fun a ha => ?_⟩
  · simp only [Own]
    exact ⟨p, vs, [], rfl, rfl, upd_same, (r.mono (ext_upd d h).keep).owns⟩
  · have e : a = p := by simpa using ha
    subst e
    exact ⟨fun s => d a s h, h⟩
theorem New.tup {p : Addr} {ds : List D} {vs : List V} (d : ∀ a, M.S a → M.H a ≠ none) (h : M.H p = none) (r : Reps G M ds vs) : New G M ⟨fun a => M.S a ∨ a = p, upd M.H p (.tup vs)⟩ (.fz (.tup false ds)) (.ref p) := by
  refine New.fz ?_
  simp only [Rep]
  exact ⟨p, vs, rfl, .inr rfl, upd_same, r.mono (ext_updF d h).keep⟩
theorem ints_reps : ∀ ns : List Int, Reps G M (ns.map D.int) (ns.map V.int)
  | [] => by simp [Reps]
  | n :: ns => by
    simp only [List.map, Reps]
    exact ⟨_, _, rfl, by simp only [Rep], ints_reps ns⟩
theorem fzint_map (ns : List Int) : (ns.map fun n => O.fz (.int n)) = (ns.map D.int).map O.fz := by rw [List.map_map]; rfl
end Ev

/-! EvB3 -/
set_option Elab.async false
set_option linter.all false
set_option maxRecDepth 100000
set_option maxHeartbeats 2000000
/-! EvB3: operators. -/
namespace Ev
open PySem PySem.Spec PyProof.Rows L2
variable {G : Ctx} {Fm : Frm} {M M' M0 M1 M2 : Mem} {X : Cx}

def pyOp : Op → Operator
  | .add => .Add
  | .sub => .Sub
  | .mul => .Mult
  | .fdv => .FloorDiv
  | .mod => .Mod
  | .pow => .Pow
def pyCm : Cm → CmpOp
  | .eq => .Eq
  | .ne => .NotEq
  | .lt => .Lt
  | .le => .LtE
  | .gt => .Gt
  | .ge => .GtE
  | .is => .Is
  | .isn => .IsNot
  | .inn => .In
  | .nin => .NotIn
/-- a value comes new -/
def Gives (G : Ctx) (M : Mem) (o : O) (Q : VK) : Prop := ∀ v M', Ext M M' → New G M M' o v → Q v M'.H
theorem Gives.fz {d : D} {v : V} {Q : VK} (g : Gives G M (.fz d) Q) (dm : ∀ a, M.S a → M.H a ≠ none) (h : Rep G M d v) : Q v M.H := g v M (Ext.refl dm) (New.fz h)
theorem Gives.lst {ds : List D} {vs : List V} {Q : VK} (g : Gives G M (.l (ds.map .fz)) Q) (dm : ∀ a, M.S a → M.H a ≠ none) (r : Reps G M ds vs) : ∀ p, M.H p = none → Q (.ref p) (upd M.H p (.lst vs)) :=
  fun p hp => g (.ref p) ⟨M.S, upd M.H p (.lst vs)⟩ (ext_upd dm hp) (New.lst dm hp r)
theorem Gives.tup {ds : List D} {vs : List V} {Q : VK} (g : Gives G M (.fz (.tup false ds)) Q) (dm : ∀ a, M.S a → M.H a ≠ none) (r : Reps G M ds vs) : ∀ p, M.H p = none → Q (.ref p) (upd M.H p (.tup vs)) :=
  fun p hp => g (.ref p) ⟨fun a => M.S a ∨ a = p, upd M.H p (.tup vs)⟩ (ext_updF dm hp) (New.tup dm hp r)
def rOp (G : Ctx) (op : Op) : R2 := fun x y H Q => ∃ M oa ob o Fa Fb, M.H = H ∧ (∀ a, M.S a → M.H a ≠ none) ∧ Own G M oa x Fa ∧ Own G M ob y Fb ∧ binO op oa ob = some o ∧ Gives G M o Q
theorem big_ok {i : Int} (h : big i = true) : -(2 ^ 64) < i ∧ i < 2 ^ 64 := by
  unfold big at h
  simpa using h
theorem line : sizeMax = sizeLine := by rw [sizeLine_eq]; rfl
theorem Reps.flat2 : ∀ {k : Nat} {ds : List D} {vs : List V}, Reps G M ds vs → Reps G M (List.replicate k ds).flatten (List.replicate k vs).flatten
  | 0, _, _, _ => by simp [Reps]
  | k + 1, _, _, h => by
    rw [List.replicate_succ, List.replicate_succ, List.flatten_cons, List.flatten_cons]
    exact Reps.append h (Reps.flat2 h)
theorem lst_of {o : O} {ds : List D} {v : V} {F : List Addr} (h : Own G M o v F) (hl : isList o = true) (e : (items o).bind fzs = some ds) :
    ∃ a vs, v = .ref a ∧ M.H a = some (.lst vs) ∧ Reps G M ds vs := by
  obtain ⟨a, vs, rfl, q, t⟩ := fitems_of h e
  rcases q with ⟨q, _⟩ | ⟨_, q⟩
  · exact ⟨a, vs, rfl, q, t⟩
  · rw [hl] at q; cases q
theorem str_len (z : Str) : z.length = z.cps.size := rfl
theorem bin_ok (op : Op) : OpR X (binaryOp (pyOp op)) (rOp G op) := by
  intro pins s σ H x y v u Q I rx ry ⟨M, oa, ob, o, Fa, Fb, eH, d, ha, hb, e, k⟩
  subst eH
  cases op with
  | add =>
    unfold binO at e
    split at e
    · simp only [Own, Rep] at ha hb
      cases e
      exact op_add pins s σ _ x y v u Q I rx ry ⟨_, _, ha.2, hb.2, k.fz d (by simp only [Rep])⟩
    · simp only [Own, Rep] at ha hb
      split at e
      · rename_i hz
        cases e
        exact op_add_str pins s σ _ x y v u Q I rx ry ⟨_, _, ha.2, hb.2, by rw [str_len, str_len, ← line]; exact hz, k.fz d (by simp only [Rep])⟩
      · cases e
    · contradiction
    · contradiction
    · contradiction
    · contradiction
    · contradiction
    · split at e
      · rename_i xs ys h1 h2 h3 h4
        split at e
        · rename_i hz
          cases e
          obtain ⟨a, vs, rfl, q1, t1⟩ := lst_of ha h1 h3
          obtain ⟨b, us, rfl, q2, t2⟩ := lst_of hb h2 h4
          refine op_cat pins s σ _ _ _ v u Q I rx ry ⟨a, b, vs, us, rfl, rfl, q1, q2, by rw [t1.length, t2.length, ← line]; exact hz, k.lst d (Reps.append t1 t2)⟩
        · cases e
      · cases e
    · contradiction
    · cases e
  | sub =>
    unfold binO at e
    split at e <;> first
      | contradiction
      | (simp only [Own, Rep] at ha hb
         cases e
         exact op_sub pins s σ _ x y v u Q I rx ry ⟨_, _, ha.2, hb.2, k.fz d (by simp only [Rep])⟩)
  | mul =>
    unfold binO at e
    split at e
    · contradiction
    · contradiction
    · contradiction
    · simp only [Own, Rep] at ha hb
      split at e
      · rename_i hz
        cases e
        refine op_mul pins s σ _ x y v u Q I rx ry ⟨_, _, ha.2, hb.2, ?_, k.fz d (by simp only [Rep])⟩
        rcases Bool.or_eq_true_iff.mp hz with q | q
        · exact .inl (big_ok q)
        · exact .inr (big_ok q)
      · cases e
    · contradiction
    · contradiction
    · contradiction
    · contradiction
    · split at e
      · rename_i xs h1 h3
        split at e
        · rename_i hz
          cases e
          obtain ⟨a, vs, rfl, q1, t1⟩ := lst_of ha h1 h3
          simp only [Own, Rep] at hb
          refine op_rep pins s σ _ _ _ v u Q I rx ry ⟨a, _, vs, rfl, hb.2, q1, hz.1, hz.2.1, by rw [t1.length, ← line]; exact hz.2.2, k.lst d t1.flat2⟩
        · cases e
      · cases e
    · cases e
  | fdv =>
    unfold binO at e
    split at e <;> first
      | contradiction
      | (simp only [Own, Rep] at ha hb
         split at e
         · rename_i hz
           cases e
           exact op_fdiv pins s σ _ x y v u Q I rx ry ⟨_, _, ha.2, hb.2, hz, k.fz d (by simp only [Rep])⟩
         · cases e)
  | mod =>
    unfold binO at e
    split at e <;> first
      | contradiction
      | (simp only [Own, Rep] at ha hb
         split at e
         · rename_i hz
           cases e
           exact op_mod pins s σ _ x y v u Q I rx ry ⟨_, _, ha.2, hb.2, hz, k.fz d (by simp only [Rep])⟩
         · cases e)
  | pow =>
    unfold binO at e
    split at e <;> first
      | contradiction
      | (simp only [Own, Rep] at ha hb
         split at e
         · rename_i hz
           cases e
           exact op_pow pins s σ _ x y v u Q I rx ry ⟨_, _, ha.2, hb.2, hz, k.fz d (by simp only [Rep])⟩
         · cases e)
/-! ### comparisons -/
def rCm (G : Ctx) (op : Cm) : R2 := fun x y H Q => ∃ M oa ob r Fa Fb, M.H = H ∧ Own G M oa x Fa ∧ Own G M ob y Fb ∧ cmpO op oa ob = some r ∧ Q (.bl r) H
mutual
theorem dp_of {K : PySem.W.Frag} : ∀ {d : D} {v : V} {k : Nat}, Rep G M d v → okEq k d = true → Dp K M.H v (toPy d)
  | .non, _, _, h, _ => by simp only [Rep] at h; subst h; simp only [toPy]; exact .non
  | .bl b, _, _, h, _ => by simp only [Rep] at h; subst h; simp only [toPy]; exact .bl b
  | .int i, _, _, h, _ => by simp only [Rep] at h; subst h; simp only [toPy]; exact .int i
  | .str x, _, _, h, _ => by simp only [Rep] at h; subst h; simp only [toPy]; exact .str x
  | .lst ds, _, k + 1, h, e => by
    simp only [Rep] at h
    simp only [okEq] at e
    obtain ⟨a, vs, rfl, _, q, t⟩ := h
    simp only [toPy]
    exact .lst (SqL.of q) (dps_of t e)
  | .tup _ ds, _, k + 1, h, e => by
    simp only [Rep] at h
    simp only [okEq] at e
    obtain ⟨a, vs, rfl, _, q, t⟩ := h
    simp only [toPy]
    exact .tup (.inl q.rd) (dps_of t e)
  | .lst _, _, 0, _, e => by simp [okEq] at e
  | .tup _ _, _, 0, _, e => by simp [okEq] at e
  | .ins _ _, _, k, _, e => by cases k <;> simp [okEq] at e
  | .scr _, _, k, _, e => by cases k <;> simp [okEq] at e
theorem dps_of {K : PySem.W.Frag} : ∀ {ds : List D} {vs : List V} {k : Nat}, Reps G M ds vs → okEqs k ds = true → DpAll K M.H vs (toPys ds)
  | [], _, _, h, _ => by simp only [Reps] at h; subst h; simp only [toPys]; exact .nil
  | d :: ds, _, _, h, e => by
    simp only [Reps] at h
    simp only [okEqs, Bool.and_eq_true] at e
    obtain ⟨v, r, rfl, q, t⟩ := h
    simp only [toPys]
    exact .cons (dp_of q e.1) (dps_of t e.2)
end
theorem rd_dp {K : PySem.W.Frag} {o : O} {d : D} {v : V} {F : List Addr} (h : Own G M o v F) (e : o.rd = some d) (k : okEq 60 d = true) : Dp K M.H v (toPy d) :=
  dp_of (M := M.add F) (h.frz e fun _ h => h) k
theorem strOk_of {x : Str} (h : strOk x = true) : PyData.strOk x = true := by
  unfold strOk at h
  unfold PyData.strOk
  rw [List.all_eq_true] at h
  rw [Array.all_eq_true']
  intro c hc
  have := h c (by simpa using hc)
  simp only [decide_eq_true_eq] at this ⊢
  omega
mutual
theorem can_of : ∀ {d : D} {k : Nat}, okEq k d = true → PyData.canLay0 (toPy d) = true ∧ PyData.depth (toPy d) ≤ k + 1
  | .non, _, _ => by simp [toPy, PyData.canLay0, PyData.depth]
  | .bl b, _, _ => by simp [toPy, PyData.canLay0, PyData.depth]
  | .int i, _, _ => by simp [toPy, PyData.canLay0, PyData.depth]
  | .str x, k, e => by
    have e' : strOk x = true := by cases k <;> simpa [okEq] using e
    simp [toPy, PyData.canLay0, PyData.depth, strOk_of e']
  | .lst ds, k + 1, e => by
    simp only [okEq] at e
    obtain ⟨h1, h2⟩ := cans_of e
    simp only [toPy, PyData.canLay0, PyData.depth]
    exact ⟨h1, by omega⟩
  | .tup _ ds, k + 1, e => by
    simp only [okEq] at e
    obtain ⟨h1, h2⟩ := cans_of e
    simp only [toPy, PyData.canLay0, PyData.depth]
    exact ⟨h1, by omega⟩
  | .lst _, 0, e => by simp [okEq] at e
  | .tup _ _, 0, e => by simp [okEq] at e
  | .ins _ _, k, e => by cases k <;> simp [okEq] at e
  | .scr _, k, e => by cases k <;> simp [okEq] at e
theorem cans_of : ∀ {ds : List D} {k : Nat}, okEqs k ds = true → PyData.canLayAll0 (toPys ds) = true ∧ PyData.depthAll (toPys ds) ≤ k + 1
  | [], _, _ => by simp [toPys, PyData.canLayAll0, PyData.depthAll]
  | d :: ds, _, e => by
    simp only [okEqs, Bool.and_eq_true] at e
    obtain ⟨h1, h2⟩ := can_of e.1
    obtain ⟨h3, h4⟩ := cans_of e.2
    simp only [toPys, PyData.canLayAll0, PyData.depthAll, h1, h3]
    exact ⟨rfl, by omega⟩
end
theorem shaped_of {d : D} (e : okEq 60 d = true) : SeqAt.shaped (toPy d) = true := by
  obtain ⟨h1, h2⟩ := can_of e
  unfold SeqAt.shaped
  rw [h1, Bool.true_and]
  exact decide_eq_true (by omega)
mutual
theorem eqv_of : ∀ {d e : D} {k j : Nat}, okEq k d = true → okEq j e = true → PyData.eqv (toPy d) (toPy e) = eqD d e
  | .lst xs, .lst ys, k + 1, j + 1, h1, h2 => by
    simp only [okEq] at h1 h2
    simp only [toPy, PyData.eqv, eqD]
    exact eqvs_of h1 h2
  | .tup _ xs, .tup _ ys, k + 1, j + 1, h1, h2 => by
    simp only [okEq] at h1 h2
    simp only [toPy, PyData.eqv, eqD]
    exact eqvs_of h1 h2
  | .lst _, .lst _, 0, _, h1, _ => by simp [okEq] at h1
  | .lst _, .lst _, _ + 1, 0, _, h2 => by simp [okEq] at h2
  | .tup _ _, .tup _ _, 0, _, h1, _ => by simp [okEq] at h1
  | .tup _ _, .tup _ _, _ + 1, 0, _, h2 => by simp [okEq] at h2
  | .ins _ _, _, k, _, h, _ => by cases k <;> simp [okEq] at h
  | .scr _, _, k, _, h, _ => by cases k <;> simp [okEq] at h
  | .non, e, _, j, _, h => by cases e <;> first | (cases j <;> simp [okEq] at h; done) | simp [toPy, PyData.eqv, eqD, eqF]
  | .bl _, e, _, j, _, h => by cases e <;> first | (cases j <;> simp [okEq] at h; done) | simp [toPy, PyData.eqv, eqD, eqF]
  | .int _, e, _, j, _, h => by cases e <;> first | (cases j <;> simp [okEq] at h; done) | simp [toPy, PyData.eqv, eqD, eqF]
  | .str _, e, _, j, _, h => by cases e <;> first | (cases j <;> simp [okEq] at h; done) | simp [toPy, PyData.eqv, eqD, eqF]
  | .lst _, .tup _ _, _, _, _, _ => by simp [toPy, PyData.eqv, eqD, eqF]
  | .lst _, .non, _, _, _, _ => by simp [toPy, PyData.eqv, eqD, eqF]
  | .lst _, .bl _, _, _, _, _ => by simp [toPy, PyData.eqv, eqD, eqF]
  | .lst _, .int _, _, _, _, _ => by simp [toPy, PyData.eqv, eqD, eqF]
  | .lst _, .str _, _, _, _, _ => by simp [toPy, PyData.eqv, eqD, eqF]
  | .lst _, .ins _ _, _, j, _, h => by cases j <;> simp [okEq] at h
  | .lst _, .scr _, _, j, _, h => by cases j <;> simp [okEq] at h
  | .tup _ _, .lst _, _, _, _, _ => by simp [toPy, PyData.eqv, eqD, eqF]
  | .tup _ _, .non, _, _, _, _ => by simp [toPy, PyData.eqv, eqD, eqF]
  | .tup _ _, .bl _, _, _, _, _ => by simp [toPy, PyData.eqv, eqD, eqF]
  | .tup _ _, .int _, _, _, _, _ => by simp [toPy, PyData.eqv, eqD, eqF]
  | .tup _ _, .str _, _, _, _, _ => by simp [toPy, PyData.eqv, eqD, eqF]
  | .tup _ _, .ins _ _, _, j, _, h => by cases j <;> simp [okEq] at h
  | .tup _ _, .scr _, _, j, _, h => by cases j <;> simp [okEq] at h
theorem eqvs_of : ∀ {ds es : List D} {k j : Nat}, okEqs k ds = true → okEqs j es = true → PyData.eqvAll (toPys ds) (toPys es) = eqDs ds es
  | [], [], _, _, _, _ => by simp [toPys, PyData.eqvAll, eqDs]
  | [], _ :: _, _, _, _, _ => by simp [toPys, PyData.eqvAll, eqDs]
  | _ :: _, [], _, _, _, _ => by simp [toPys, PyData.eqvAll, eqDs]
  | d :: ds, e :: es, _, _, h1, h2 => by
    simp only [okEqs, Bool.and_eq_true] at h1 h2
    simp only [toPys, PyData.eqvAll, eqDs]
    rw [eqv_of h1.1 h2.1, eqvs_of h1.2 h2.2]
end
/-- flat things and lists of them -/
theorem flat_of {d : D} {v : V} (h : Rep G M d v) (e : flat d = true) : flatV v = true := by
  cases d <;> simp only [Rep] at h <;> first | (simp [flat] at e; done) | (subst h; rfl)
theorem eqF_of {d e : D} {v u : V} (h : Rep G M d v) (k : Rep G M e u) (hd : flat d = true) (he : flat e = true) : eqV v u = eqF d e := by
  cases d <;> simp only [flat] at hd <;> cases e <;> simp only [flat] at he <;> simp only [Rep] at h k <;> first | contradiction | (subst h k; simp [eqV, eqF])
theorem flats_of : ∀ {ds : List D} {vs : List V}, Reps G M ds vs → ds.all flat = true → vs.all flatV = true
  | [], _, h, _ => by simp only [Reps] at h; subst h; rfl
  | d :: ds, _, h, e => by
    simp only [Reps] at h
    obtain ⟨v, r, rfl, q, t⟩ := h
    simp only [List.all_cons, Bool.and_eq_true] at e ⊢
    exact ⟨flat_of q e.1, flats_of t e.2⟩
theorem anyF_of {d : D} {v : V} (h : Rep G M d v) (hd : flat d = true) : ∀ {ds : List D} {vs : List V}, Reps G M ds vs → ds.all flat = true → inV v vs = ds.any fun y => eqF y d
  | [], _, k, _ => by simp only [Reps] at k; subst k; rfl
  | e :: ds, _, k, hs => by
    simp only [Reps] at k
    obtain ⟨u, r, rfl, q, t⟩ := k
    simp only [List.all_cons, Bool.and_eq_true] at hs
    have ih := anyF_of h hd t hs.2
    unfold inV at ih ⊢
    rw [List.any_cons, List.any_cons, ih, eqF_of q h hs.1 hd]
theorem none_of {o : O} {d : D} {v : V} {F : List Addr} (h : Own G M o v F) (e : o.rd = some d) : decide (v = V.non) = isNon d := by
  have r := h.frz e (F' := F) fun _ h => h
  cases d <;> simp only [Rep] at r
  case non => subst r; rfl
  case bl => subst r; rfl
  case int => subst r; rfl
  case str => subst r; rfl
  case lst => obtain ⟨a, vs, rfl, _⟩ := r; rfl
  case tup => obtain ⟨a, vs, rfl, _⟩ := r; rfl
  case ins => obtain ⟨a, dx, fs, rfl, _⟩ := r; rfl
  case scr => obtain ⟨a, rfl, _⟩ := r; rfl
theorem cm_ok (hu : X.A.units + 64 < cLine) (op : Cm) : OpR X (compareOp (pyCm op)) (rCm G op) := by
  intro pins s σ H x y v u Q I rx ry ⟨M, oa, ob, r, Fa, Fb, eH, ha, hb, e, k⟩
  subst eH
  cases op with
  | lt =>
    simp only [cmpO] at e
    split at e
    · rename_i i j h1 h2
      cases e
      exact op_lt pins s σ _ x y v u Q I rx ry ⟨_, _, asInt_of ha h1, asInt_of hb h2, k⟩
    · cases e
  | le =>
    simp only [cmpO] at e
    split at e
    · rename_i i j h1 h2
      cases e
      exact op_le pins s σ _ x y v u Q I rx ry ⟨_, _, asInt_of ha h1, asInt_of hb h2, k⟩
    · cases e
  | gt =>
    simp only [cmpO] at e
    split at e
    · rename_i i j h1 h2
      cases e
      exact op_gt pins s σ _ x y v u Q I rx ry ⟨_, _, asInt_of ha h1, asInt_of hb h2, k⟩
    · cases e
  | ge =>
    simp only [cmpO] at e
    split at e
    · rename_i i j h1 h2
      cases e
      exact op_ge pins s σ _ x y v u Q I rx ry ⟨_, _, asInt_of ha h1, asInt_of hb h2, k⟩
    · cases e
  | is =>
    simp only [cmpO] at e
    split at e
    · rename_i d h1
      cases e
      simp only [Own, Rep] at hb
      refine op_isN pins s σ _ x y v u Q I rx ry ⟨hb.2, ?_⟩
      rw [none_of ha h1]
      exact k
    · cases e
  | isn =>
    simp only [cmpO] at e
    split at e
    · rename_i d h1
      cases e
      simp only [Own, Rep] at hb
      refine op_notN pins s σ _ x y v u Q I rx ry ⟨hb.2, ?_⟩
      rw [none_of ha h1]
      exact k
    · cases e
  | eq =>
    simp only [cmpO] at e
    split at e
    · rename_i d1 d2 h1 h2
      split at e
      · rename_i h3
        obtain ⟨h3, h4⟩ := Bool.and_eq_true_iff.mp h3
        cases e
        refine op_eqD hu pins s σ _ x y v u Q I rx ry ⟨_, _, rd_dp ha h1 h3, rd_dp hb h2 h4, shaped_of h3, shaped_of h4, ?_⟩
        rw [eqv_of h3 h4]
        exact k
      · cases e
    · cases e
  | ne =>
    simp only [cmpO] at e
    split at e
    · rename_i d1 d2 h1 h2
      split at e
      · rename_i h3
        obtain ⟨h3, h4⟩ := Bool.and_eq_true_iff.mp h3
        cases e
        refine op_neD hu pins s σ _ x y v u Q I rx ry ⟨_, _, rd_dp ha h1 h3, rd_dp hb h2 h4, shaped_of h3, shaped_of h4, ?_⟩
        rw [eqv_of h3 h4]
        exact k
      · cases e
    · cases e
  | inn =>
    simp only [cmpO] at e
    split at e
    · rename_i x' z
      split at e
      · rename_i c hc
        cases e
        simp only [Own, Rep] at ha hb
        have ex : x' = ⟨#[c]⟩ := by
          obtain ⟨⟨l⟩⟩ := x'
          simp only at hc
          rw [hc]
        subst ex
        exact op_in_sign pins s σ _ x y v u Q I rx ry ⟨c, z, ha.2, hb.2, k⟩
      · cases e
    · rename_i d b _
      split at e
      · rename_i xs hx
        split at e
        · rename_i hf
          obtain ⟨hf, hg⟩ := Bool.and_eq_true_iff.mp hf
          cases e
          obtain ⟨a, vs, rfl, q, t⟩ := fitems_of hb hx
          simp only [Own] at ha
          refine op_in_seq pins s σ _ _ _ v u Q I rx ry ⟨a, vs, rfl, ?_, flat_of ha.2 hf, flats_of t hg, ?_⟩
          · rcases q with ⟨q, _⟩ | ⟨q, _⟩
            · exact .inl (SqL.of q)
            · exact .inr (.inl q)
          · rw [if_neg Bool.false_ne_true, anyF_of ha.2 hf t hg]
            exact k
        · cases e
      · cases e
    · cases e
  | nin =>
    simp only [cmpO] at e
    split at e
    · rename_i x' z
      split at e
      · rename_i c hc
        cases e
        simp only [Own, Rep] at ha hb
        have ex : x' = ⟨#[c]⟩ := by
          obtain ⟨⟨l⟩⟩ := x'
          simp only at hc
          rw [hc]
        subst ex
        exact op_notIn_sign pins s σ _ x y v u Q I rx ry ⟨c, z, ha.2, hb.2, k⟩
      · cases e
    · rename_i d b _
      split at e
      · rename_i xs hx
        split at e
        · rename_i hf
          obtain ⟨hf, hg⟩ := Bool.and_eq_true_iff.mp hf
          cases e
          obtain ⟨a, vs, rfl, q, t⟩ := fitems_of hb hx
          simp only [Own] at ha
          refine op_notIn_seq pins s σ _ _ _ v u Q I rx ry ⟨a, vs, rfl, ?_, flat_of ha.2 hf, flats_of t hg, ?_⟩
          · rcases q with ⟨q, _⟩ | ⟨q, _⟩
            · exact .inl (SqL.of q)
            · exact .inr (.inl q)
          · rw [if_pos rfl, anyF_of ha.2 hf t hg]
            exact k
        · cases e
      · cases e
    · cases e
end Ev

/-! EvB4 -/
set_option Elab.async false
set_option linter.all false
set_option maxRecDepth 100000
set_option maxHeartbeats 2000000
/-! EvB4: subscripts, slices, fields, built-in functions, isinstance. -/
namespace Ev
open PySem PySem.Spec PyProof.Rows L2
variable {G : Ctx} {Fm : Frm} {M M' M0 M1 M2 : Mem} {X : Cx}

/-- an item is looked at: its own addresses are the whole's -/
def rIdx (G : Ctx) : R2 := fun x y H Q => ∃ M oa i o Fa, M.H = H ∧ Own G M oa x Fa ∧ y = .int i ∧ idxO oa i = some o ∧ ∀ v F', Own G M o v F' → F'.Sublist Fa → Q v H
theorem atI_get {α : Type} {xs : List α} {i : Int} {v : α} (h : atI xs i = some v) : ∃ j : Nat, xs[j]? = some v ∧ ixN xs.length i = some j := by
  unfold atI at h
  obtain ⟨j, e1, e2⟩ := Option.bind_eq_some_iff.mp h
  exact ⟨j, e2, e1⟩
theorem atI_mk {α : Type} {xs : List α} {i : Int} {v : α} {n j : Nat} (hn : xs.length = n) (e : ixN n i = some j) (h : xs[j]? = some v) : L2.atI xs i = some v := by
  unfold L2.atI
  rw [hn, show L2.ixN n i = some j from e]
  exact h
theorem scr_sq {K : PySem.W.Frag} {a : Addr} {ns : List Int} (hK : K = G.K) (h : (∃ o, M.S a ∧ M.H a = some (.frz o (.lst (ns.map V.int)))) ∨ CL G.K a (ns.map V.int)) : SqL K M.H a (ns.map V.int) := by
  rcases h with ⟨o, _, q⟩ | h
  · exact .inl (.inr ⟨o, q⟩)
  · exact .inr (hK ▸ h)
theorem ix_ok (hK : X.K = G.K) : IxR X (rIdx G) := by
  intro value slice pins s σ H x y v u Q I rx ry ⟨M, oa, i, o, Fa, eH, ha, hy, e, k⟩ hs
  subst eH
  cases oa with
  | dead => simp [idxO] at e
  | i c os => simp [idxO] at e
  | l os =>
    simp only [idxO] at e
    obtain ⟨j, e1, e2⟩ := atI_get e
    simp only [Own] at ha
    obtain ⟨a, vs, r, rfl, rfl, q, t⟩ := ha
    obtain ⟨w, F', e3, e4, e5⟩ := t.get e1
    exact ix_list value slice pins s σ _ _ y v u Q I rx ry ⟨a, vs, i, w, rfl, hy, SqL.of q, atI_mk t.length e2 e3, k w F' e4 (e5.trans (List.sublist_cons_self _ _))⟩ hs
  | t os =>
    simp only [idxO] at e
    obtain ⟨j, e1, e2⟩ := atI_get e
    simp only [Own] at ha
    obtain ⟨a, vs, r, rfl, rfl, q, t⟩ := ha
    obtain ⟨w, F', e3, e4, e5⟩ := t.get e1
    exact ix_tup value slice pins s σ _ _ y v u Q I rx ry ⟨a, vs, i, w, rfl, hy, SqT.of q, atI_mk t.length e2 e3, k w F' e4 (e5.trans (List.sublist_cons_self _ _))⟩ hs
  | fz d =>
    simp only [Own] at ha
    obtain ⟨rfl, ha⟩ := ha
    cases d with
    | lst ds =>
      simp only [idxO, Option.map_eq_some_iff] at e
      obtain ⟨d, e, rfl⟩ := e
      obtain ⟨j, e1, e2⟩ := atI_get e
      simp only [Rep] at ha
      obtain ⟨a, vs, rfl, _, q, t⟩ := ha
      obtain ⟨w, e3, e4⟩ := t.get e1
      exact ix_list value slice pins s σ _ _ y v u Q I rx ry ⟨a, vs, i, w, rfl, hy, SqL.of q, atI_mk t.length e2 e3, k w [] (by simp only [Own]; exact ⟨trivial, e4⟩) (List.Sublist.refl _)⟩ hs
    | tup _ ds =>
      simp only [idxO, Option.map_eq_some_iff] at e
      obtain ⟨d, e, rfl⟩ := e
      obtain ⟨j, e1, e2⟩ := atI_get e
      simp only [Rep] at ha
      obtain ⟨a, vs, rfl, _, q, t⟩ := ha
      obtain ⟨w, e3, e4⟩ := t.get e1
      exact ix_tup value slice pins s σ _ _ y v u Q I rx ry ⟨a, vs, i, w, rfl, hy, .inl q.rd, atI_mk t.length e2 e3, k w [] (by simp only [Own]; exact ⟨trivial, e4⟩) (List.Sublist.refl _)⟩ hs
    | scr ns =>
      simp only [idxO, Option.map_eq_some_iff] at e
      obtain ⟨n, e, rfl⟩ := e
      obtain ⟨j, e1, e2⟩ := atI_get e
      simp only [Rep] at ha
      obtain ⟨a, rfl, q⟩ := ha
      exact ix_list value slice pins s σ _ _ y v u Q I rx ry ⟨a, _, i, .int n, rfl, hy, scr_sq hK q, atI_mk (by simp) e2 (by simp [e1]), k _ [] (by simp only [Own, Rep]; exact ⟨trivial, trivial⟩) (List.Sublist.refl _)⟩ hs
    | str z =>
      simp only [idxO] at e
      split at e
      · rename_i hz
        obtain ⟨c, e', rfl⟩ := Option.map_eq_some_iff.mp e
        obtain ⟨j, e1, e2⟩ := atI_get e'
        simp only [Rep] at ha
        exact ix_str value slice pins s σ _ _ y v u Q I rx ry ⟨z, i, c, ha, hy, by rw [str_len, ← line]; exact hz, atI_mk rfl e2 e1, k _ [] (by simp only [Own, Rep]; exact ⟨trivial, trivial⟩) (List.Sublist.refl _)⟩ hs
      · cases e
    | _ => simp [idxO] at e

theorem sIx_eq (n d : Nat) (o : Option Int) : sIx n d o = HT.sIx n d o := by cases o <;> rfl
theorem cut_reps {ds : List D} {vs : List V} (lo hi : Option Int) (h : Reps G M ds vs) : Reps G M (cut ds lo hi) (cutV vs lo hi) := by
  unfold cut cutV
  rw [← sIx_eq, ← sIx_eq, h.length]
  exact (h.drop _).take _
def rSlc (G : Ctx) : V → Option Int → Option Int → Hp → VK → Prop := fun x lo hi H Q => ∃ M oa o Fa, M.H = H ∧ (∀ a, M.S a → M.H a ≠ none) ∧ Own G M oa x Fa ∧ slcO oa lo hi = some o ∧ Gives G M o Q
theorem cut_all {α : Type} {xs : List α} {lo hi : Option Int} (h : sIx xs.length 0 lo = 0 ∧ sIx xs.length xs.length hi = xs.length) : cut xs lo hi = xs := by
  unfold cut
  rw [h.1, h.2]
  simp
theorem slc_list (o : O) (lo hi : Option Int) {r : O} (h1 : isList o = true) (h : slcO o lo hi = some r) : ∃ ds, (items o).bind fzs = some ds ∧ r = .l ((cut ds lo hi).map .fz) := by
  unfold slcO at h
  split at h
  · simp [isList] at h1
  · simp [isList] at h1
  · split at h
    · rename_i ds _ e
      cases h
      exact ⟨ds, e, rfl⟩
    · cases h
theorem slc_ok : SlR X (rSlc G) := by
  intro pins s σ H x v vl vu lo hi sl Q I rx hs pl pu ⟨M, oa, o, Fa, eH, d, ha, e, k⟩
  subst eH
  cases hl : isList oa with
  | true =>
    obtain ⟨ds, e1, rfl⟩ := slc_list oa lo hi hl e
    obtain ⟨a, vs, rfl, q, t⟩ := lst_of ha hl e1
    exact sl_list pins s σ _ _ v vl vu lo hi sl Q I rx hs pl pu ⟨a, vs, rfl, SqL.of q, k.lst d (cut_reps lo hi t)⟩
  | false =>
    unfold slcO at e
    split at e
    · split at e
      · rename_i z hz
        cases e
        simp only [Own, Rep] at ha
        refine sl_str pins s σ _ _ v vl vu lo hi sl Q I rx hs pl pu ⟨z, ha.2, by rw [str_len, ← line]; exact hz, ?_⟩
        refine k.fz d ?_
        simp only [Rep]
        unfold cutS cut
        rw [← sIx_eq, ← sIx_eq]
        rfl
      · cases e
    · rename_i xx ds
      cases e
      simp only [Own, Rep] at ha
      obtain ⟨rfl, a, vs, rfl, sa, q, t⟩ := ha
      have hcc : (HT.sIx vs.length 0 lo = 0 ∧ HT.sIx vs.length vs.length hi = vs.length) ↔ (sIx ds.length 0 lo = 0 ∧ sIx ds.length ds.length hi = ds.length) := by
        rw [sIx_eq, sIx_eq, ← t.length]
      refine sl_tupA pins s σ _ _ v vl vu lo hi sl Q I rx hs pl pu ⟨a, vs, rfl, .inl q.rd, fun hc => ?_, fun hn => ?_⟩
      rotate_left
      · have hf : decide (sIx ds.length 0 lo = 0 ∧ sIx ds.length ds.length hi = ds.length) = false := decide_eq_false fun z => hn (hcc.mpr z)
        rw [hf, Bool.and_false] at k
        exact k.tup d (cut_reps lo hi t)
      have hc' := hcc.mp hc
      refine k.fz d ?_
      rw [cut_all hc', decide_eq_true hc', Bool.and_true]
      simp only [Rep]
      exact ⟨a, vs, rfl, sa, q, t⟩
    · rw [hl] at e
      split at e
      · rename_i h _; cases h
      · cases e

/-! ### fields -/
theorem take_lookup : ∀ {fs : List (Str × V)} {ns : List Str} {i : Nat} {x : Str} {v : V}, fs.map (·.1) = ns → ns.Nodup → ns[i]? = some x → (fs.map (·.2))[i]? = some v → fs.lookup x = some v
  | [], _, _, _, _, _, _, _, h => by simp at h
  | (y, w) :: fs, _, i, x, v, e, nd, h1, h2 => by
    subst e
    cases i with
    | zero =>
      simp at h1 h2
      subst h1 h2
      simp
    | succ i =>
      have h1' : (fs.map (·.1))[i]? = some x := h1
      have h2' : (fs.map (·.2))[i]? = some v := h2
      have nd' := List.nodup_cons.mp (show (y :: fs.map (·.1)).Nodup from nd)
      have hne : ¬ (x = y) := fun q => nd'.1 (q ▸ List.mem_of_getElem? h1')
      have hb : (x == y) = false := by simpa using hne
      rw [List.lookup_cons, hb]
      exact take_lookup (i := i) rfl nd'.2 h1' h2'
theorem Reps.get2 {ds : List D} {vs : List V} {i : Nat} {d : D} (h : Reps G M ds vs) (e : ds[i]? = some d) : ∃ v, vs[i]? = some v ∧ Rep G M d v := h.get e
/-- a field is looked at -/
theorem fld_of {oa o : O} {x : V} {Fa : List Addr} {c f : Nat} {nm : Str} (ha : Own G M oa x Fa) (e : fldO oa c f = some o) (nd : (G.fl c).Nodup) (hn : (G.fl c)[f]? = some nm) :
    ∃ a dx fs v F', x = .ref a ∧ M.H a = some (.ins (G.C c) dx fs) ∧ fs.lookup nm = some v ∧ Own G M o v F' ∧ F'.Sublist Fa := by
  cases oa with
  | i c' os =>
    simp only [fldO] at e
    split at e
    · rename_i hc
      subst hc
      simp only [Own] at ha
      obtain ⟨a, dx, fs, r, rfl, rfl, q, m, t⟩ := ha
      obtain ⟨v, F', e1, e2, e3⟩ := t.get e
      refine ⟨a, dx, fs, v, F', rfl, q, ?_, e2, e3.trans (List.sublist_cons_self _ _)⟩
      refine take_lookup m (nd.sublist (List.take_sublist _ _)) ?_ e1
      rw [List.getElem?_take_of_lt]
      · exact hn
      · have := (List.getElem?_eq_some_iff.mp e1).1
        simpa using this
    · cases e
  | fz d =>
    cases d with
    | ins c' ds =>
      simp only [fldO] at e
      split at e
      · rename_i hc
        subst hc
        obtain ⟨d, e', rfl⟩ := Option.map_eq_some_iff.mp e
        simp only [Own, Rep] at ha
        obtain ⟨rfl, a, dx, fs, rfl, _, q, m, t⟩ := ha
        obtain ⟨v, e1, e2⟩ := t.get e'
        refine ⟨a, dx, fs, v, [], rfl, q, ?_, by simp only [Own]; exact ⟨trivial, e2⟩, List.Sublist.refl _⟩
        refine take_lookup m (nd.sublist (List.take_sublist _ _)) ?_ e1
        rw [List.getElem?_take_of_lt]
        · exact hn
        · have := (List.getElem?_eq_some_iff.mp e1).1
          simpa using this
      · cases e
    | _ => simp [fldO] at e
  | _ => simp [fldO] at e

/-! ### built-in functions by values -/
def Lk (G : Ctx) (M : Mem) : List O → List V → Prop
  | [], vs => vs = []
  | o :: os, vs => ∃ v r F, vs = v :: r ∧ Own G M o v F ∧ Lk G M os r
theorem Lk.ext (e : Ext M M') : ∀ {os : List O} {vs : List V}, Lk G M os vs → Lk G M' os vs
  | [], _, h => h
  | o :: os, _, ⟨v, r, F, h1, h2, h3⟩ => ⟨v, r, F, h1, h2.mono e.keep (fun a _ u q => e.h a u q), Lk.ext e h3⟩
def rBi (G : Ctx) (f : Bi) : List V → Hp → VK → Prop := fun xs H Q => ∃ M os o, M.H = H ∧ (∀ a, M.S a → M.H a ≠ none) ∧ Lk G M os xs ∧ biO f os = some o ∧ Gives G M o Q
theorem lk1 {o : O} {xs : List V} (h : Lk G M [o] xs) : ∃ v F, xs = [v] ∧ Own G M o v F := by
  obtain ⟨v, r, F, rfl, h2, h3⟩ := h
  cases h3
  exact ⟨v, F, rfl, h2⟩
theorem lk2 {o o' : O} {xs : List V} (h : Lk G M [o, o'] xs) : ∃ v u F F', xs = [v, u] ∧ Own G M o v F ∧ Own G M o' u F' := by
  obtain ⟨v, r, F, rfl, h2, u, r', F', rfl, h3, h4⟩ := h
  cases h4
  exact ⟨v, u, F, F', rfl, h2, h3⟩
theorem intsL_of {o : O} {v : V} {F : List Addr} {ns : List Int} (h : Own G M o v F) (hl : isList o = true) (e : (items o).bind intsO = some ns) : ∃ a, v = .ref a ∧ M.H a = some (.lst (ns.map V.int)) := by
  obtain ⟨os, e1, e2⟩ := Option.bind_eq_some_iff.mp e
  obtain ⟨a, vs, F', rfl, q, t, _⟩ := items_of h e1
  rcases q with ⟨q, _⟩ | ⟨_, q⟩
  · rw [ints_of t e2] at q
    exact ⟨a, rfl, q⟩
  · rw [hl] at q; cases q
theorem intsX_of {o : O} {v : V} {F : List Addr} {ns : List Int} (h : Own G M o v F) (e : (items o).bind intsO = some ns) : ∃ a, v = .ref a ∧ (M.H a = some (.lst (ns.map V.int)) ∨ Rd M.H a (.tup (ns.map V.int))) := by
  obtain ⟨os, e1, e2⟩ := Option.bind_eq_some_iff.mp e
  obtain ⟨a, vs, F', rfl, q, t, _⟩ := items_of h e1
  rw [ints_of t e2] at q
  exact ⟨a, rfl, q.imp And.left And.left⟩
theorem blsL_of {o : O} {v : V} {F : List Addr} {ns : List Bool} (h : Own G M o v F) (hl : isList o = true) (e : (items o).bind blsO = some ns) : ∃ a, v = .ref a ∧ M.H a = some (.lst (ns.map V.bl)) := by
  obtain ⟨os, e1, e2⟩ := Option.bind_eq_some_iff.mp e
  obtain ⟨a, vs, F', rfl, q, t, _⟩ := items_of h e1
  rcases q with ⟨q, _⟩ | ⟨_, q⟩
  · rw [bls_of t e2] at q
    exact ⟨a, rfl, q⟩
  · rw [hl] at q; cases q
theorem maxL_is : ∀ {l : List Int} {m : Int}, m ∈ l → (∀ y ∈ l, y ≤ m) → m = maxL l
  | [a], m, h, _ => by simpa [maxL] using h
  | a :: b :: l, m, h, k => by
    have e : maxL (a :: b :: l) = max a (maxL (b :: l)) := rfl
    rw [e]
    have up : ∀ (l : List Int) (x : Int), l ≠ [] → (∀ y ∈ l, y ≤ x) → maxL l ≤ x := by
      intro l x
      induction l with
      | nil => intro h; exact absurd rfl h
      | cons a l ih =>
        intro _ h
        cases l with
        | nil => exact h a (by simp)
        | cons b l =>
          have e : maxL (a :: b :: l) = max a (maxL (b :: l)) := rfl
          rw [e]
          have h1 := h a (by simp)
          have h2 := ih (by simp) fun y hy => h y (by simp [List.mem_cons.mp hy])
          omega
    have h1 := k a (by simp)
    have h2 := up (b :: l) m (by simp) fun y hy => k y (by simp [List.mem_cons.mp hy])
    rcases List.mem_cons.mp h with rfl | h
    · omega
    · have lo : ∀ (l : List Int) (x : Int), x ∈ l → x ≤ maxL l := by
        intro l x
        induction l with
        | nil => intro h; cases h
        | cons a l ih =>
          intro h
          cases l with
          | nil => simp at h; subst h; exact Int.le_refl _
          | cons b l =>
            have e : maxL (a :: b :: l) = max a (maxL (b :: l)) := rfl
            rw [e]
            rcases List.mem_cons.mp h with rfl | h
            · omega
            · have := ih h; omega
      have := lo (b :: l) m h
      omega
theorem minL_is : ∀ {l : List Int} {m : Int}, m ∈ l → (∀ y ∈ l, m ≤ y) → m = minL l
  | [a], m, h, _ => by simpa [minL] using h
  | a :: b :: l, m, h, k => by
    have e : minL (a :: b :: l) = min a (minL (b :: l)) := rfl
    rw [e]
    have up : ∀ (l : List Int) (x : Int), l ≠ [] → (∀ y ∈ l, x ≤ y) → x ≤ minL l := by
      intro l x
      induction l with
      | nil => intro h; exact absurd rfl h
      | cons a l ih =>
        intro _ h
        cases l with
        | nil => exact h a (by simp)
        | cons b l =>
          have e : minL (a :: b :: l) = min a (minL (b :: l)) := rfl
          rw [e]
          have h1 := h a (by simp)
          have h2 := ih (by simp) fun y hy => h y (by simp [List.mem_cons.mp hy])
          omega
    have h1 := k a (by simp)
    have h2 := up (b :: l) m (by simp) fun y hy => k y (by simp [List.mem_cons.mp hy])
    rcases List.mem_cons.mp h with rfl | h
    · omega
    · have lo : ∀ (l : List Int) (x : Int), x ∈ l → minL l ≤ x := by
        intro l x
        induction l with
        | nil => intro h; cases h
        | cons a l ih =>
          intro h
          cases l with
          | nil => simp at h; subst h; exact Int.le_refl _
          | cons b l =>
            have e : minL (a :: b :: l) = min a (minL (b :: l)) := rfl
            rw [e]
            rcases List.mem_cons.mp h with rfl | h
            · omega
            · have := ih h; omega
      have := lo (b :: l) m h
      omega
theorem isort_is {l m : List Int} (p : m.Perm l) (h : m.Pairwise (· ≤ ·)) : m = isort l := by
  unfold isort
  refine (p.trans (List.mergeSort_perm l _).symm).eq_of_pairwise (fun x y _ _ h1 h2 => Int.le_antisymm h1 h2) h ?_
  have q := List.pairwise_mergeSort (le := fun a b : Int => decide (a ≤ b)) (fun a b c h1 h2 => by simp at h1 h2 ⊢; omega) (fun a b => by simp; omega) l
  exact q.imp fun h => by simpa using h

/-- which built-ins these are -/
def biFn : Bi → Option String
  | .len => some "len"
  | .sum => some "sum"
  | .all => some "all"
  | .any => some "any"
  | .max => some "max"
  | .min => some "min"
  | .max2 => some "max"
  | .min2 => some "min"
  | .abs => some "abs"
  | .sorted => some "sorted"
  | _ => none
def biTy : Bi → Option String
  | .int => some "int"
  | .list => some "list"
  | .tuple => some "tuple"
  | _ => none
theorem bi_len (hc : X.calm = true) (hK : X.K = G.K) : CallR X (.builtin "len") (rBi G .len) := by
  intro pins s σ H xs us Q I r ⟨M, os, o, eH, d, hk, e, k⟩
  subst eH
  unfold biO at e
  split at e <;> first | contradiction | skip
  · obtain ⟨v, F, rfl, h⟩ := lk1 hk
    simp only [Own, Rep] at h
    split at e
    · rename_i hz
      cases e
      refine call_len pins s σ _ _ us Q I r ⟨v, _, rfl, ?_, k.fz (v := .int ((_ : Nat) : Int)) d (by simp only [Rep]; rfl)⟩
      rw [h.2]
      exact ⟨by rw [str_len, ← line]; exact hz, rfl⟩
    · cases e
  · obtain ⟨v, F, rfl, h⟩ := lk1 hk
    cases e
    simp only [Own, Rep] at h
    obtain ⟨_, a, rfl, q⟩ := h
    refine call_len pins s σ _ _ us Q I r ⟨_, _, rfl, .inl ⟨_, scr_sq hK q, rfl⟩, ?_⟩
    rw [List.length_map]
    exact k.fz d (by simp only [Rep])
  · obtain ⟨v, F, rfl, h⟩ := lk1 hk
    obtain ⟨ps, e1, rfl⟩ := Option.map_eq_some_iff.mp e
    obtain ⟨a, vs, F', rfl, q, t, _⟩ := items_of h e1
    refine call_len pins s σ _ _ us Q I r ⟨_, vs.length, rfl, ?_, ?_⟩
    · rcases q with ⟨q, _⟩ | ⟨q, _⟩
      · exact .inl ⟨_, SqL.of q, rfl⟩
      · exact .inr ⟨_, .inl q, rfl⟩
    · rw [t.length]
      exact k.fz d (by simp only [Rep])
theorem bi_int : CallR X (.type "int") (rBi G .int) := by
  intro pins s σ H xs us Q I r ⟨M, os, o, eH, d, hk, e, k⟩
  subst eH
  unfold biO at e
  split at e <;> first | contradiction | skip
  · obtain ⟨v, F, rfl, h⟩ := lk1 hk
    simp only [Own, Rep] at h
    cases e
    exact call_int1 pins s σ _ _ us Q I r (.inl ⟨_, by rw [h.2], k.fz d (by simp only [Rep])⟩)
  · obtain ⟨v, F, rfl, h⟩ := lk1 hk
    simp only [Own, Rep] at h
    cases e
    exact call_int1 pins s σ _ _ us Q I r (.inr ⟨_, by rw [h.2], k.fz d (by simp only [Rep])⟩)
theorem bi_list : CallR X (.type "list") (rBi G .list) := by
  intro pins s σ H xs us Q I r ⟨M, os, o, eH, d, hk, e, k⟩
  subst eH
  unfold biO at e
  split at e <;> first | contradiction | skip
  obtain ⟨v, F, rfl, h⟩ := lk1 hk
  obtain ⟨ds, e1, rfl⟩ := Option.map_eq_some_iff.mp e
  obtain ⟨a, vs, rfl, q, t⟩ := fitems_of h e1
  refine call_list_of pins s σ _ _ us Q I r ⟨a, vs, rfl, ?_, k.lst d t⟩
  rcases q with ⟨q, _⟩ | ⟨q, _⟩
  · exact .inl (SqL.of q)
  · exact .inr (.inl q)
theorem call_tuple_ofX : CallR X (.type "tuple") (fun xs H Q => ∃ p ys, xs = [.ref p] ∧ ((SqL X.K H p ys ∧ ∀ l (o : Obj), H l = none → o.cls = .type "tuple" → o.dict = none → Q (.ref l) (upd H l (.frz o (.tup ys)))) ∨ (SqT X.K H p ys ∧ Q (.ref p) H))) := by
  intro pins s σ H xs us Q I r h
  obtain ⟨p, ys, rfl, h⟩ := h
  obtain ⟨u, rfl, rx⟩ := vals1 r
  cases rx
  rcases h with ⟨hq, q⟩ | ⟨hq, q⟩
  · obtain ⟨its, r', pl, hz⟩ := I.list hq
    have hlen := r'.length
    refine call_tuple_list pl.isList (fun h' kp => ?_) (by simp only [List.size_toArray] <;> omega)
    have I1 : Inv X pins σ H { s with heap := h' } := I.kept (t' := s.toks) kp
    have I2 : Inv X pins σ (upd H h'.objs.size (.frz { cls := .type "tuple", data := .seq its.toArray } (.tup ys))) { s with heap := h'.push { cls := .type "tuple", data := .seq its.toArray } } :=
      I1.laid (t' := s.toks) (fun b o e => Heap.get?_push_of_some _ e) (Nat.le_refl _) (show ObjOk X.prog X.w _ _ _ (.frz _ (.tup ys)) from ⟨Heap.get?_push_size _ rfl, hz, its, r', IsTup.new _ _⟩)
    exact ⟨.ref h'.objs.size, _, I2, rfl, q _ _ (I1.hok.fresh (Nat.le_refl _)) rfl rfl⟩
  · obtain ⟨its, r', pl, hz⟩ := I.tuple hq
    exact call_tuple_same pl ⟨.ref p, H, I, rfl, q⟩
theorem New.tupX {p : Addr} {ob : Obj} {ds : List D} {vs : List V} (d : ∀ a, M.S a → M.H a ≠ none) (h : M.H p = none) (hc : ob.cls = .type "tuple") (hd : ob.dict = none) (r : Reps G M ds vs) : New G M ⟨fun a => M.S a ∨ a = p, upd M.H p (.frz ob (.tup vs))⟩ (.fz (.tup true ds)) (.ref p) := by
  refine New.fz ?_
  simp only [Rep]
  exact ⟨p, vs, rfl, .inr rfl, ⟨ob, upd_same, hc, hd⟩, r.mono (ext_updF d h).keep⟩
theorem Gives.tupX {ds : List D} {vs : List V} {Q : VK} (g : Gives G M (.fz (.tup true ds)) Q) (dm : ∀ a, M.S a → M.H a ≠ none) (r : Reps G M ds vs) : ∀ p (o : Obj), M.H p = none → o.cls = .type "tuple" → o.dict = none → Q (.ref p) (upd M.H p (.frz o (.tup vs))) :=
  fun p o hp hc hd => g (.ref p) ⟨fun a => M.S a ∨ a = p, upd M.H p (.frz o (.tup vs))⟩ (ext_updF dm hp) (New.tupX dm hp hc hd r)
theorem fzs_maps : ∀ ds : List D, fzs (ds.map .fz) = some ds
  | [] => rfl
  | d :: ds => by simp only [List.map, fzs, fzs_maps ds, Option.map_some]
theorem own_tup {o : O} {ds : List D} {a : Addr} {vs : List V} {F : List Addr} (h : Own G M o (.ref a) F) (e : (items o).bind fzs = some ds) (q : Rd M.H a (.tup vs)) (hl : isList o = false) : (∃ x, o = .fz (.tup x ds)) ∨ ∃ os, o = .t os := by
  cases o with
  | fz d =>
    cases d with
    | tup x es =>
      simp only [items, Option.bind_some, fzs_maps, Option.some.injEq] at e
      exact .inl ⟨x, by rw [e]⟩
    | lst es => simp [isList] at hl
    | _ => simp [items] at e
  | t os => exact .inr ⟨os, rfl⟩
  | l os => simp [isList] at hl
  | _ => simp [items] at e
theorem bi_tuple : CallR X (.type "tuple") (rBi G .tuple) := by
  intro pins s σ H xs us Q I r ⟨M, os, o, eH, d, hk, e, k⟩
  subst eH
  unfold biO at e
  split at e <;> first | contradiction | skip
  · obtain ⟨v, F, rfl, h⟩ := lk1 hk
    cases e
    have h' := h
    simp only [Own, Rep] at h
    obtain ⟨rfl, a, vs, rfl, sa, q, t⟩ := h
    refine call_tuple_ofX pins s σ _ _ us Q I r ⟨a, vs, rfl, .inr ⟨.inl q.rd, ?_⟩⟩
    exact k.fz d (by simp only [Rep]; exact ⟨a, vs, rfl, sa, q, t⟩)
  · rename_i hne hnf _
    obtain ⟨v, F, rfl, h⟩ := lk1 hk
    obtain ⟨ds, e1, rfl⟩ := Option.map_eq_some_iff.mp e
    obtain ⟨a, vs, rfl, q, t⟩ := fitems_of h e1
    refine call_tuple_ofX pins s σ _ _ us Q I r ⟨a, vs, rfl, ?_⟩
    rcases q with ⟨q, _⟩ | ⟨q, hl⟩
    · exact .inl ⟨SqL.of q, k.tupX d t⟩
    · rcases own_tup h e1 q hl with ⟨x, rfl⟩ | ⟨ps, rfl⟩
      · exact absurd rfl (hnf x ds)
      · exact absurd rfl (hne ps)
theorem bi_sum (hc : X.calm = true) : CallR X (.builtin "sum") (rBi G .sum) := by
  intro pins s σ H xs us Q I r ⟨M, os, o, eH, d, hk, e, k⟩
  subst eH
  unfold biO at e
  split at e <;> first | contradiction | skip
  obtain ⟨v, F, rfl, h⟩ := lk1 hk
  split at e
  · rename_i ns h1 h2
    cases e
    obtain ⟨a, rfl, q⟩ := intsL_of h h1 h2
    exact cr_sum hc pins s σ _ _ us Q I r ⟨a, ns, rfl, SqL.of q, k.fz d (by simp only [Rep])⟩
  · cases e
theorem bi_all (hc : X.calm = true) : CallR X (.builtin "all") (rBi G .all) := by
  intro pins s σ H xs us Q I r ⟨M, os, o, eH, d, hk, e, k⟩
  subst eH
  unfold biO at e
  split at e <;> first | contradiction | skip
  obtain ⟨v, F, rfl, h⟩ := lk1 hk
  split at e
  · rename_i ns h1 h2
    cases e
    obtain ⟨a, rfl, q⟩ := blsL_of h h1 h2
    exact cr_all hc pins s σ _ _ us Q I r ⟨a, ns, rfl, SqL.of q, k.fz d (by simp only [Rep])⟩
  · cases e
theorem bi_any (hc : X.calm = true) : CallR X (.builtin "any") (rBi G .any) := by
  intro pins s σ H xs us Q I r ⟨M, os, o, eH, d, hk, e, k⟩
  subst eH
  unfold biO at e
  split at e <;> first | contradiction | skip
  obtain ⟨v, F, rfl, h⟩ := lk1 hk
  split at e
  · rename_i ns h1 h2
    cases e
    obtain ⟨a, rfl, q⟩ := blsL_of h h1 h2
    exact cr_any hc pins s σ _ _ us Q I r ⟨a, ns, rfl, SqL.of q, k.fz d (by simp only [Rep])⟩
  · cases e
theorem bi_max (hc : X.calm = true) : CallR X (.builtin "max") (rBi G .max) := by
  intro pins s σ H xs us Q I r ⟨M, os, o, eH, d, hk, e, k⟩
  subst eH
  unfold biO at e
  split at e <;> first | contradiction | skip
  obtain ⟨v, F, rfl, h⟩ := lk1 hk
  split at e
  · rename_i n ns h1 h2
    cases e
    obtain ⟨a, rfl, q⟩ := intsL_of h h1 h2
    exact cr_max hc pins s σ _ _ us Q I r ⟨a, _, rfl, SqL.of q, by simp, fun m h1 h2 => k.fz d (by simp only [Rep]; rw [maxL_is h1 h2])⟩
  · cases e
theorem bi_min (hc : X.calm = true) : CallR X (.builtin "min") (rBi G .min) := by
  intro pins s σ H xs us Q I r ⟨M, os, o, eH, d, hk, e, k⟩
  subst eH
  unfold biO at e
  split at e <;> first | contradiction | skip
  obtain ⟨v, F, rfl, h⟩ := lk1 hk
  split at e
  · rename_i n ns h2
    cases e
    obtain ⟨a, rfl, q⟩ := intsX_of h h2
    rcases q with q | q
    · exact cr_min hc pins s σ _ _ us Q I r ⟨a, _, rfl, SqL.of q, by simp, fun m h1 h2 => k.fz d (by simp only [Rep]; rw [minL_is h1 h2])⟩
    · exact cr_minT hc pins s σ _ _ us Q I r ⟨a, _, rfl, .inl q, by simp, fun m h1 h2 => k.fz d (by simp only [Rep]; rw [minL_is h1 h2])⟩
  · cases e
theorem bi_gcd : CallR X (.builtin "math.gcd") (rBi G .gcd) := by
  intro pins s σ H xs us Q I r ⟨M, os, o, eH, d, hk, e, k⟩
  subst eH
  unfold biO at e
  split at e <;> first | contradiction | skip
  obtain ⟨v, u, F, F', rfl, h, h'⟩ := lk2 hk
  cases e
  simp only [Own, Rep] at h h'
  exact cr_gcd pins s σ _ _ us Q I r ⟨_, _, by rw [h.2, h'.2], k.fz d (by simp only [Rep])⟩
theorem bi_max2 (hc : X.calm = true) : CallR X (.builtin "max") (rBi G .max2) := by
  intro pins s σ H xs us Q I r ⟨M, os, o, eH, d, hk, e, k⟩
  subst eH
  unfold biO at e
  split at e <;> first | contradiction | skip
  obtain ⟨v, u, F, F', rfl, h, h'⟩ := lk2 hk
  cases e
  simp only [Own, Rep] at h h'
  exact call_max2 hc pins s σ _ _ us Q I r ⟨_, _, by rw [h.2, h'.2], k.fz d (by simp only [Rep])⟩
theorem bi_min2 (hc : X.calm = true) : CallR X (.builtin "min") (rBi G .min2) := by
  intro pins s σ H xs us Q I r ⟨M, os, o, eH, d, hk, e, k⟩
  subst eH
  unfold biO at e
  split at e <;> first | contradiction | skip
  obtain ⟨v, u, F, F', rfl, h, h'⟩ := lk2 hk
  cases e
  simp only [Own, Rep] at h h'
  exact call_min2 hc pins s σ _ _ us Q I r ⟨_, _, by rw [h.2, h'.2], k.fz d (by simp only [Rep])⟩
theorem bi_abs : CallR X (.builtin "abs") (rBi G .abs) := by
  intro pins s σ H xs us Q I r ⟨M, os, o, eH, d, hk, e, k⟩
  subst eH
  unfold biO at e
  split at e <;> first | contradiction | skip
  obtain ⟨v, F, rfl, h⟩ := lk1 hk
  cases e
  simp only [Own, Rep] at h
  exact call_abs pins s σ _ _ us Q I r ⟨_, by rw [h.2], k.fz d (by simp only [Rep])⟩
theorem bi_sorted : CallR X (.builtin "sorted") (rBi G .sorted) := by
  intro pins s σ H xs us Q I r ⟨M, os, o, eH, d, hk, e, k⟩
  subst eH
  unfold biO at e
  split at e <;> first | contradiction | skip
  obtain ⟨v, F, rfl, h⟩ := lk1 hk
  split at e
  · rename_i ns h1 h2
    cases e
    obtain ⟨a, rfl, q⟩ := intsL_of h h1 h2
    refine cr_sortedI pins s σ _ _ us Q I r ⟨a, ns, rfl, SqL.of q, fun ns' p pm pw hp => ?_⟩
    rw [isort_is pm pw]
    rw [fzint_map] at k
    exact k.lst d (ints_reps _) p hp
  · cases e
end Ev

/-! EvB5 -/
set_option Elab.async false
set_option linter.all false
set_option maxRecDepth 100000
set_option maxHeartbeats 2000000
/-! EvB5: the check of a clean body against the text; what is known of the module; argument lists. -/
namespace Ev
open PySem PySem.Spec PyProof.Rows L2
variable {G : Ctx} {Fm : Frm} {M M' M0 M1 M2 : Mem} {X : Cx} {env : Env} {σ : L2.St} {W : WX}

/-! ### the names of a text -/
structure Gm where
  fn : List (Str × List (List D))
  cl : List (Str × List Str)
  gs : List (Str × Str)
  bs : List (Str × String) := []
  io : List Nat := []
  md : Nat → List (List D) := fun _ => [[]]
  mkw : Nat → List (Nat × List Str) := fun _ => []
def bnames : List Str := ["len", "int", "list", "tuple", "sum", "all", "any", "max", "min", "abs", "sorted", "set", "isinstance", "bool", "str", "range", "zip", "enumerate", "reversed"]

/-! ### the check -/
def visB (sc : Scope) (x : Str) : Bool := match sc.names.lookup x with
  | some .local => true
  | some .cell => true
  | some .free => true
  | _ => false
theorem visB_ok {sc : Scope} {x : Str} (h : visB sc x = true) : Vis sc x := by
  unfold visB at h
  unfold Vis
  split at h <;> first | (rename_i q; rw [q]; simp; done) | cases h
def nmB (x : Str) : Bool := !(x == ("__debug__" : Str)) && !(x == ("__classdict__" : Str)) && !(x == ("__name__" : Str))
theorem nmB_ok {x : Str} (h : nmB x = true) : (x == ("__debug__" : Str)) = false ∧ (x == ("__classdict__" : Str)) = false ∧ x ≠ "__name__" := by
  unfold nmB at h
  simp only [Bool.and_eq_true, Bool.not_eq_true', beq_eq_false_iff_ne] at h ⊢
  exact ⟨h.1.1, h.1.2, h.2⟩
def glB (sc : Scope) (x : Str) : Bool := decide (sc.names.lookup x = some .globalImplicit) && nmB x
def starB : Expr → Bool
  | .Starred _ _ => true
  | _ => false
def noStar (es : List Expr) : Bool := es.all fun e => !starB e
theorem star_each {e : Expr} {es : List Expr} {env : PySem.Env} (h : starB e = false) : starEach (e :: es) env = (false, eval e env) :: starEach es env := by
  cases e <;> first | rfl | (simp [starB] at h; done)
theorem star_plain {pos : Pos} {env : PySem.Env} : ∀ {es : List Expr}, noStar es = true → (backTo pos (starEach es env)).any (·.1) = false
  | [], _ => rfl
  | e :: es, h => by
    simp only [noStar, List.all_cons, Bool.and_eq_true] at h
    have h1 : starB e = false := by simpa using h.1
    rw [star_each h1]
    have ih := star_plain (pos := pos) (env := env) (es := es) h.2
    unfold backTo at ih ⊢
    rw [List.map_cons, List.any_cons, ih]
    rfl
def baseB : Expr → Bool
  | .Name _ _ => true
  | .Attribute _ _ _ => true
  | .Subscript _ _ _ => true
  | .Constant _ _ _ => true
  | _ => false
theorem base_ok {o : Expr} {attr : Str} {env : PySem.Env} (h : baseB o = true) : attributeBase o attr env (eval o env) = eval o env := by
  cases o <;> first | rfl | (simp [baseB] at h; done)
def ixB : Expr → Bool
  | .Slice _ _ _ _ => false
  | _ => true
theorem ixB_ok {e : Expr} (h : ixB e = true) : PlainIx e := by
  cases e <;> first | exact fun _ _ => rfl | (simp [ixB] at h; done)
/-- the names of a comprehension's block, seen within -/
def rel (scope sc : Scope) : Scope := { scope with names := scope.names.map fun (n, k) => if (k == .free && sc.kind == .function && sc.names.lookup n == some .cell) then (n, .cell) else (n, k) }
def biName : Bi → Option Str
  | .len => some "len"
  | .int => some "int"
  | .list => some "list"
  | .tuple => some "tuple"
  | .sum => some "sum"
  | .all => some "all"
  | .any => some "any"
  | .max => some "max"
  | .min => some "min"
  | .max2 => some "max"
  | .min2 => some "min"
  | .abs => some "abs"
  | .sorted => some "sorted"
  | .lenset => none
  | .ascend => none
  | .maxd => none
  | .gcd => none
/-- built-in functions under a name of the module -/
def bgName : Bi → Option String
  | .gcd => some "math.gcd"
  | _ => none
def mtName : Mt → Option Str
  | .index => some "index"
  | _ => none
def tyName : Ty → Option Str
  | .int => some "int"
  | .bool => some "bool"
  | .str => some "str"
  | .list => some "list"
  | .tuple => some "tuple"
  | .cls _ => none
def sameF : D → D → Bool
  | .non, .non => true
  | .bl a, .bl b => a == b
  | .int a, .int b => decide (a = b)
  | .str a, .str b => decide (a = b)
  | _, _ => false
theorem sameF_ok {a b : D} (h : sameF a b = true) : a = b ∧ flat a = true := by
  cases a <;> cases b <;> simp [sameF] at h <;> first | exact ⟨rfl, rfl⟩ | (subst h; exact ⟨rfl, rfl⟩)
def sameFs : List D → List D → Bool
  | [], [] => true
  | a :: as, b :: bs => sameF a b && sameFs as bs
  | _, _ => false
theorem sameFs_ok : ∀ {a b : List D}, sameFs a b = true → a = b ∧ a.all flat = true
  | [], [], _ => ⟨rfl, rfl⟩
  | [], _ :: _, h => by simp [sameFs] at h
  | _ :: _, [], h => by simp [sameFs] at h
  | a :: as, b :: bs, h => by
    simp only [sameFs, Bool.and_eq_true] at h
    obtain ⟨e1, f1⟩ := sameF_ok h.1
    obtain ⟨e2, f2⟩ := sameFs_ok h.2
    subst e1 e2
    exact ⟨rfl, by simp [f1, f2]⟩
def vOf : D → V
  | .bl b => .bl b
  | .int i => .int i
  | .str x => .str x
  | _ => .non
theorem reps_flat : ∀ {ds : List D}, ds.all flat = true → Reps G M ds (ds.map vOf)
  | [], _ => by simp [Reps]
  | d :: ds, h => by
    simp only [List.all_cons, Bool.and_eq_true] at h
    simp only [List.map, Reps]
    refine ⟨_, _, rfl, ?_, reps_flat h.2⟩
    cases d <;> simp [flat] at h <;> simp [Rep, vOf]
def isSet : Expr → Bool
  | .Set _ _ _ => true
  | _ => false
def isComp : Expr → Bool
  | .ListComp _ _ _ _ => true
  | .SetComp _ _ _ _ => true
  | .DictComp _ _ _ _ _ => true
  | _ => false
/-- may the expression stand as a test -/
def tst : E → Bool
  | .ite _ _ _ => false
  | .not_ a => tst a
  | .and_ a b => tst a && tst b
  | .or_ a b => tst a && tst b
  | _ => true
mutual
def tgS : Tg → List Nat
  | .nm i => [i]
  | .tp ts => tgSs ts
def tgSs : Tgs → List Nat
  | .nil => []
  | .cons a r => tgS a ++ tgSs r
end
mutual
def trT (ce : Str → Bool) (io : List Nat) (N : List Str) (sc : Scope) : Tg → Expr → Bool
  | .nm i, .Name x _ => decide (N[i]? = some x) && (decide (sc.names.lookup x = some .local) || (ce x && decide (sc.names.lookup x = some .cell))) && !io.contains i
  | .tp ts, .Tuple es _ _ => trTs ce io N sc ts es
  | _, _ => false
def trTs (ce : Str → Bool) (io : List Nat) (N : List Str) (sc : Scope) : Tgs → List Expr → Bool
  | .nil, [] => true
  | .cons a r, e :: es => trT ce io N sc a e && !starB e && trTs ce io N sc r es
  | _, _ => false
end
mutual
def trE (Γ : Gm) (N : List Str) (sc : Scope) : E → Expr → Bool
  | .var i, .Name x _ => decide (N[i]? = some x) && visB sc x && nmB x
  | .int i, .Constant (.int j) _ _ => decide (i = j)
  | .bl b, .Constant (.bool c) _ _ => b == c
  | .non, .Constant .none _ _ => true
  | .str x, .Constant (.str y) _ _ => decide (x = y)
  | .gst n x, .Name y _ => decide (n = y) && glB sc y && decide (Γ.gs.lookup n = some x)
  | .bin op a b, .BinOp a' op' b' _ => decide (op' = pyOp op) && trE Γ N sc a a' && trE Γ N sc b b'
  | .neg a, .UnaryOp .USub a' _ => trE Γ N sc a a'
  | .cmp op a b, .Compare a' [op'] [b'] _ => decide (op' = pyCm op) && trE Γ N sc a a' && trE Γ N sc b b' && !behindInMarks op' b'
  | .chn op op2 a b c, .Compare a' [o1, o2] [b', c'] _ => decide (o1 = pyCm op) && decide (o2 = pyCm op2) && trE Γ N sc a a' && trE Γ N sc b b' && trE Γ N sc c c' && !lastMarks [o1, o2] [b', c']
  | .and_ a b, .BoolOp .And (x :: y :: rest) p => trE Γ N sc a x && trE Γ N sc b (match rest with
    | [] => y
    | z :: r => .BoolOp .And (y :: z :: r) p)
  | .or_ a b, .BoolOp .Or (x :: y :: rest) p => trE Γ N sc a x && trE Γ N sc b (match rest with
    | [] => y
    | z :: r => .BoolOp .Or (y :: z :: r) p)
  | .not_ a, .UnaryOp .Not a' _ => trE Γ N sc a a'
  | .ite c a b, .IfExp c' a' b' _ => trE Γ N sc c c' && tst c && trE Γ N sc a a' && trE Γ N sc b b'
  | .tup es, .Tuple es' _ _ => trEs Γ N sc es es'
  | .lst es, .List es' _ => trEs Γ N sc es es'
  | .idx a i, .Subscript a' i' _ => trE Γ N sc a a' && trE Γ N sc i i' && ixB i'
  | .slc a lo hi, .Subscript a' (.Slice l h none _) _ => trE Γ N sc a a' && trO Γ N sc lo l && trO Γ N sc hi h
  | .fld c f a, .Attribute a' nm _ => trE Γ N sc a a' && baseB a' && (match Γ.cl[c]? with
    | some q => decide (q.2[f]? = some nm)
    | none => false)
  | .bi f es, .Call (.Name x _) (a :: as) [] _ => (match bgName f with
    | some id => decide (Γ.bs.lookup x = some id)
    | none => decide (biName f = some x)) && glB sc x && trEs Γ N sc es (a :: as)
  | .mt m a (.cons e .nil), .Call (.Attribute a' nm apos) [e'] [] cpos => decide (mtName m = some nm) && trE Γ N sc a a' && baseB a' && trE Γ N sc e e' && !starB e' && (apos.endLine == cpos.line)
  | .isi a t, .Call (.Name x _) [a', .Name y _] [] _ => decide (x = "isinstance") && glB sc x && trE Γ N sc a a' && !starB a' && glB sc y && (match t with
    | .cls c => (match Γ.cl[c]? with
      | some q => decide (q.1 = y) && decide (q.2 ≠ [])
      | none => false)
    | t => decide (tyName t = some y))
  | .call f es ds, .Call (.Name x _) (a :: as) [] _ => glB sc x && trEs Γ N sc es (a :: as) && (match Γ.fn[f]? with
    | some q => decide (q.1 = x) && q.2.any fun l => sameFs ds l
    | none => false)
  | .callb f es ds, .Call (.Name x _) (a :: as) [] _ => glB sc x && trEs Γ N sc es (a :: as) && (match Γ.fn[f]? with
    | some q => decide (q.1 = x) && q.2.any fun l => sameFs ds l
    | none => false)
  | .nev, e' => !isComp e'
  | .mk c es ds, .Call (.Name x _) (a :: as) [] _ => glB sc x && trEs Γ N sc es (a :: as) && (match Γ.cl[c]? with
    | some q => decide (q.1 = x) && decide (q.2 ≠ [])
    | none => false) && (Γ.md c).any fun l => sameFs ds l
  | .mkk c es kes ks, .Call (.Name x _) (a :: as) kws _ => glB sc x && trEs Γ N sc es (a :: as) && trK Γ N sc kes ks kws && (match Γ.cl[c]? with
    | some q => decide (q.1 = x) && decide (q.2 ≠ [])
    | none => false) && decide (((a :: as).length, ks) ∈ Γ.mkw c)
  | .lc own tg it c e, .ListComp e' [⟨tg', it', ifs, 0⟩] scope _ =>
    (match own.mapM fun i => (N[i]?).map fun x => (x, i) with
    | some ow => blkC N sc scope ow
    | none => false) && own.all (fun i => !Γ.io.contains i) && (tgS tg).all (fun i => own.contains i) && trI Γ N sc it tg' it' && trT (fun x => decide (scope.names.lookup x = some .cell)) Γ.io N (rel scope sc) tg tg' && trC Γ N (rel scope sc) c ifs && trE Γ N (rel scope sc) e e'
  | _, _ => false
def trEs (Γ : Gm) (N : List Str) (sc : Scope) : Es → List Expr → Bool
  | .nil, [] => true
  | .cons e es, e' :: es' => trE Γ N sc e e' && !starB e' && trEs Γ N sc es es'
  | _, _ => false
def trK (Γ : Gm) (N : List Str) (sc : Scope) : Es → List Str → List Keyword → Bool
  | .nil, [], [] => true
  | .cons e es, x :: xs, ⟨some y, e', _⟩ :: kws => decide (x = y) && trE Γ N sc e e' && trK Γ N sc es xs kws
  | _, _, _ => false
def trO (Γ : Gm) (N : List Str) (sc : Scope) : OE → Option Expr → Bool
  | .no, none => true
  | .so e, some e' => trE Γ N sc e e'
  | _, _ => false
def trC (Γ : Gm) (N : List Str) (sc : Scope) : OE → List Expr → Bool
  | .no, [] => true
  | .so e, [e'] => trE Γ N sc e e' && tst e
  | _, _ => false
def trI (Γ : Gm) (N : List Str) (sc : Scope) : It → Expr → Expr → Bool
  | .ex e, _, e' => trE Γ N sc e e' && !isSet e'
  | .rg1 a, _, e' => match e' with
    | .Call (.Name x _) [a'] [] _ => decide (x = "range") && glB sc x && trE Γ N sc a a' && !starB a'
    | _ => false
  | .rg2 a b, _, e' => match e' with
    | .Call (.Name x _) [a', b'] [] _ => decide (x = "range") && glB sc x && trE Γ N sc a a' && !starB a' && trE Γ N sc b b' && !starB b'
    | _ => false
  | .zip a b, t', e' => match t', e' with
    | .Tuple _ _ _, .Call (.Name x _) [a', b'] [] _ => decide (x = "zip") && glB sc x && trE Γ N sc a a' && !starB a' && trE Γ N sc b b' && !starB b'
    | _, _ => false
  | .enu a, t', e' => match t', e' with
    | .Tuple _ _ _, .Call (.Name x _) [a'] [] _ => decide (x = "enumerate") && glB sc x && trE Γ N sc a a' && !starB a'
    | _, _ => false
  | .rev a, _, e' => match e' with
    | .Call (.Name x _) [a'] [] _ => decide (x = "reversed") && glB sc x && trE Γ N sc a a' && !starB a'
    | _ => false
end

/-! ### what a def promises -/
structure Aft (M : Mem) (F : List Addr) (M' : Mem) : Prop where
  s : ∀ a, M.S a → M'.S a
  h : ∀ b o, M.H b = some o → b ∉ F → M'.H b = some o
  n : ∀ a, M'.S a → M.S a ∨ M.H a = none
  d : ∀ a, M'.S a → M'.H a ≠ none
theorem Aft.ext (a : Aft M [] M') : Ext M M' := ⟨a.s, fun b o h => a.h b o h (by simp), a.n, a.d⟩
/-- the ends of a call: F what it may change, io the places of these arguments -/
def FOut (G : Ctx) (M : Mem) (F : List Addr) (vs : List V) (io : List Nat) (Q : VK) (E : XK) : CR → Prop
  | .ok o outs => ∀ v M' Fv Fo, Aft M F M' → Own G M' o v Fv → Owns G M' outs (io.map fun i => vs.getD i .non) Fo → (Fv ++ Fo).Nodup → (∀ a ∈ Fv ++ Fo, ¬ M'.S a ∧ (M.H a = none ∨ a ∈ F)) → Q v M'.H
  | .exc c => ∀ M', Aft M F M' → E (.ref (G.C c)) none M'.H
  | .bad => False
def spF (G : Ctx) (cf : Cf) (np : Nat → Nat) (io : Nat → List Nat) (f : Nat) : Sp := fun vs H Q E => ∃ M os F, M.H = H ∧ (∀ a, M.S a → M.H a ≠ none) ∧ os.length = np f ∧ Owns G M os vs F ∧ F.Nodup ∧ (∀ a ∈ F, ¬ M.S a) ∧ FOut G M F vs (io f) Q E (cf f os)

/-! ### what is known of the module -/
structure Facts (Γ : Gm) (G : Ctx) (cf : Cf) (ini : Nat → Nat) (np : Nat → Nat) (io : Nat → List Nat) (k : Nat) (P : Program) (w : World) (K : PySem.W.Frag) (mg : Str → Option Value) (base : Heap) : Prop where
  kk : K = G.K
  free : ∀ x ∈ bnames, mg x = none
  gs : ∀ n x, Γ.gs.lookup n = some x → ∃ t, mg n = some (.str x t)
  bs : ∀ n id, Γ.bs.lookup n = some id → mg n = some (.builtin id)
  cl : ∀ c q, Γ.cl[c]? = some q → G.fl c = q.2 ∧ q.2.Nodup ∧ (q.2 ≠ [] → Cls K (G.C c)) ∧ ∀ f ∈ q.2, NoAttr K (G.C c) f
  ci : ∀ c q, Γ.cl[c]? = some q → q.2 ≠ [] → C8.InsC K (G.C c)
  cn : ∀ c q, Γ.cl[c]? = some q → mg q.1 = some (.ref (G.C c))
  fn : ∀ f q ds, Γ.fn[f]? = some q → ds ∈ q.2 → ∃ a fd ps dV, mg q.1 = some (.ref a) ∧ PySem.W.keepIn K (.ref a) = true ∧ Binds K fd ps dV ∧ Vals (ds.map vOf) dV ∧ FnOk P w K mg base (L2.CX P w) k a fd ps (spF G cf np io f)
  mk_ : ∀ c q, Γ.cl[c]? = some q → q.2 ≠ [] → ∃ fa fd ps, Mk K (G.C c) fa ∧ io (ini c) = [0] ∧ FnOk P w K mg base (L2.CX P w) k fa fd ps (spF G cf np io (ini c)) ∧
    (∀ ds ∈ Γ.md c, ∃ dV, Binds K fd ps dV ∧ Vals (ds.map vOf) dV) ∧ ∀ n ks, (n, ks) ∈ Γ.mkw c → ∃ (g : List Value → List Value → List Value) (gV : List V → List V → List V), KBn K fd ps (n + 1) ks g gV ∧ ∀ vs zs, vs.length = n + 1 → zs.length = ks.length → gV vs zs = vs ++ zs
/-- where an expression stands -/
structure XOk (Γ : Gm) (G : Ctx) (cf : Cf) (ini : Nat → Nat) (np : Nat → Nat) (io : Nat → List Nat) (k : Nat) (N : List Str) (sc : Scope) (X : Cx) : Prop where
  hN : X.N = N
  nd : N.Nodup
  sc : X.env.scope = sc
  calm : X.calm = true
  room : Room (k + 1) X.A
  fc : Facts Γ G cf ini np io k X.prog X.w X.K X.mg X.base
section
variable {Γ : Gm} {cf : Cf} {ini np : Nat → Nat} {io : Nat → List Nat} {k : Nat} {N : List Str} {sc : Scope}
theorem XOk.gl (h : XOk Γ G cf ini np io k N sc X) {x : Str} (e : glB sc x = true) : Gl X x ∧ nmB x = true := by
  unfold glB at e
  obtain ⟨e1, e2⟩ := Bool.and_eq_true_iff.mp e
  refine ⟨?_, e2⟩
  show X.env.scope.names.lookup x = _
  rw [h.sc]
  exact of_decide_eq_true e1
end

/-! ### argument lists -/
def OutK (G : Ctx) (W : WX) (σ : L2.St) (M : Mem) {α : Type} (K : Mem → α → List V → Mem → Prop) (Q : List V → Hp → Prop) : R α → Prop
  | .ok a => ∀ vs M', Ext M M' → K M a vs M' → Q vs M'.H
  | .exc c => ∀ M', Ext M M' → W (.ref (G.C c)) none σ M'.H
  | .bad => False
theorem OutK.step {α : Type} {K : Mem → α → List V → Mem → Prop} {Q : List V → Hp → Prop} {Q' : VK} {r : R Val} {f : Val → R α} (h : OutK G W σ M K Q (r.bind f))
    (k : ∀ w v M1, Ext M M1 → VR G Fm M M1 w v → OutK G W σ M K Q (f w) → Q' v M1.H) : Out G Fm W σ M Q' r := by
  cases r with
  | ok w => exact fun v M1 e q => k w v M1 e q h
  | exc c => exact h
  | bad => exact h
/-- .. and the first outcome's wish, kept at the elder memory -/
theorem Out.step0 {Q Q' : VK} {r : R Val} {f : Val → R Val} (h : Out G Fm W σ M Q (r.bind f)) (k : ∀ w v M1, Ext M M1 → VR G Fm M M1 w v → Out G Fm W σ M Q (f w) → Q' v M1.H) : Out G Fm W σ M Q' r := by
  cases r with
  | ok w => exact fun v M1 e q => k w v M1 e q h
  | exc c => exact h
  | bad => exact h
/-- an expression's args, then the rest -/
theorem Out.stepK {α : Type} {K : Mem → α → List V → Mem → Prop} {Q : VK} {Q' : List V → Hp → Prop} {r : R α} {f : α → R Val} (h : Out G Fm W σ M Q (r.bind f))
    (k : ∀ a vs M1, Ext M M1 → K M a vs M1 → Out G Fm W σ M Q (f a) → Q' vs M1.H) : OutK G W σ M K Q' r := by
  cases r with
  | ok w => exact fun v M1 e q => k w v M1 e q h
  | exc c => exact h
  | bad => exact h
/-- the frozen argument -/
theorem freeze {w : Val} {v : V} {d : D} (h : VR G Fm M M1 w v) (e : frz w = .ok d) (x : Ext M M1) : ∃ M1', M1'.H = M1.H ∧ Ext M M1' ∧ Rep G M1' d v := by
  cases w with
  | al o => simp [frz] at e
  | tm o =>
    obtain ⟨F, h1, h2, h3, h4⟩ := h
    have e' : o.rd = some d := by
      simp only [frz] at e
      cases q : o.rd with
      | none => rw [q] at e; simp [R.of] at e
      | some d' => rw [q] at e; simp only [R.of] at e; cases e; rfl
    refine ⟨M1.add F, rfl, ⟨fun a s => .inl (x.s a s), x.h, fun a s => ?_, fun a s => ?_⟩, h1.frz e' fun _ h => h⟩
    · rcases s with s | s
      · exact x.n a s
      · exact .inr (h4 a s)
    · rcases s with s | s
      · exact x.d a s
      · exact h1.there a s
theorem frz_cases (w : Val) : (∃ d, frz w = .ok d) ∨ frz w = .bad := by
  cases w with
  | al o => exact .inr rfl
  | tm o =>
    simp only [frz]
    cases o.rd with
    | none => exact .inr rfl
    | some d => exact .inl ⟨d, rfl⟩
section
variable (G : Ctx) (Fm : Frm) (cf : Cf) (ini : Nat → Nat) (W : WX)
def KF : Mem → List D → List V → Mem → Prop := fun _ ds vs M' => Reps G M' ds vs
def KL : Mem → List O → List V → Mem → Prop := fun _ os vs M' => Lk G M' os vs
def KS : Mem → List O → List V → Mem → Prop := fun M os vs M' => ∃ F, Owns G M' os vs F ∧ F.Nodup ∧ ∀ a ∈ F, ¬ M'.S a ∧ M.H a = none
def tF (es : Es) : TA := fun σ H Q => ∃ S env, ER G Fm ⟨S, H⟩ env σ ∧ OutK G W σ ⟨S, H⟩ (KF G) Q (evf cf ini es env)
def tL (es : Es) : TA := fun σ H Q => ∃ S env, ER G Fm ⟨S, H⟩ env σ ∧ OutK G W σ ⟨S, H⟩ (KL G) Q (evl cf ini es env)
def tK (es : Es) : TA := fun σ H Q => ∃ S env, ER G Fm ⟨S, H⟩ env σ ∧ OutK G W σ ⟨S, H⟩ (KS G) Q (evs cf ini es env)
end
section
variable {cf : Cf} {ini : Nat → Nat}
theorem paF_nil : PA X [] (tF G Fm cf ini W .nil) := pa_nil.imp fun σ H Q ⟨S, env, er, h⟩ => h [] ⟨S, H⟩ (Ext.refl er.dom) (by simp [KF, Reps])
theorem paL_nil : PA X [] (tL G Fm cf ini W .nil) := pa_nil.imp fun σ H Q ⟨S, env, er, h⟩ => h [] ⟨S, H⟩ (Ext.refl er.dom) (by simp [KL, Lk])
theorem paK_nil : PA X [] (tK G Fm cf ini W .nil) := pa_nil.imp fun σ H Q ⟨S, env, er, h⟩ => h [] ⟨S, H⟩ (Ext.refl er.dom) ⟨[], by simp [Owns], List.nodup_nil, by simp⟩
theorem paF_cons {e : Expr} {es : List Expr} {ae : E} {aes : Es} (hs : starB e = false) (ha : PE X e (tE G Fm cf ini W ae)) (hr : PA X es (tF G Fm cf ini W aes)) : PA X (e :: es) (tF G Fm cf ini W (.cons ae aes)) := by
  refine (pa_cons ha hr (star_each hs)).imp fun σ H Q ⟨S, env, er, h⟩ => ⟨S, env, er, ?_⟩
  simp only [evf] at h
  refine OutK.step h fun w v M1 e1 q1 h1 => ?_
  rcases frz_cases w with ⟨d, hd⟩ | hd
  · obtain ⟨M1', eH, e1', rp⟩ := freeze q1 hd e1
    rw [← eH]
    refine ⟨M1'.S, env, er.ext e1', ?_⟩
    simp only [hd] at h1
    cases hq : evf cf ini aes env with
    | ok ds =>
      rw [hq] at h1
      exact fun vs M2 e2 r2 => h1 (v :: vs) M2 (e1'.trans e2) (by simp only [KF, Reps]; exact ⟨v, vs, rfl, rp.mono e2.keep, r2⟩)
    | exc c =>
      rw [hq] at h1
      exact fun M2 e2 => h1 M2 (e1'.trans e2)
    | bad =>
      rw [hq] at h1
      exact h1
  · simp only [hd] at h1
    exact h1.elim
theorem paL_cons {e : Expr} {es : List Expr} {ae : E} {aes : Es} (hs : starB e = false) (ha : PE X e (tE G Fm cf ini W ae)) (hr : PA X es (tL G Fm cf ini W aes)) : PA X (e :: es) (tL G Fm cf ini W (.cons ae aes)) := by
  refine (pa_cons ha hr (star_each hs)).imp fun σ H Q ⟨S, env, er, h⟩ => ⟨S, env, er, ?_⟩
  simp only [evl] at h
  refine OutK.step h fun w v M1 e1 q1 h1 => ?_
  refine ⟨M1.S, env, er.ext e1, ?_⟩
  obtain ⟨F, o1, _⟩ := q1
  cases hq : evl cf ini aes env with
  | ok ds =>
    rw [hq] at h1
    exact fun vs M2 e2 r2 => h1 (v :: vs) M2 (e1.trans e2) ⟨v, vs, F, rfl, o1.mono e2.keep (fun a _ u q => e2.h a u q), r2⟩
  | exc c =>
    rw [hq] at h1
    exact fun M2 e2 => h1 M2 (e1.trans e2)
  | bad =>
    rw [hq] at h1
    exact h1
theorem paK_cons {e : Expr} {es : List Expr} {ae : E} {aes : Es} (hs : starB e = false) (ha : PE X e (tE G Fm cf ini W ae)) (hr : PA X es (tK G Fm cf ini W aes)) : PA X (e :: es) (tK G Fm cf ini W (.cons ae aes)) := by
  refine (pa_cons ha hr (star_each hs)).imp fun σ H Q ⟨S, env, er, h⟩ => ⟨S, env, er, ?_⟩
  simp only [evs] at h
  refine OutK.step h fun w v M1 e1 q1 h1 => ?_
  cases w with
  | al o => simp only [keep] at h1; exact h1.elim
  | tm o =>
    simp only [keep] at h1
    refine ⟨M1.S, env, er.ext e1, ?_⟩
    obtain ⟨F, o1, n1, f1, g1⟩ := q1
    cases hq : evs cf ini aes env with
    | ok ds =>
      rw [hq] at h1
      refine fun vs M2 e2 ⟨F2, o2, n2, f2⟩ => h1 (v :: vs) M2 (e1.trans e2) ⟨F ++ F2, ?_, ?_, ?_⟩
      · simp only [Owns]
        exact ⟨v, vs, F, F2, rfl, rfl, o1.mono e2.keep (fun a _ u q => e2.h a u q), o2⟩
      · refine List.nodup_append.mpr ⟨n1, n2, fun a ha b hb e => ?_⟩
        subst e
        exact o1.there a ha (f2 a hb).2
      · intro a ha
        rcases List.mem_append.mp ha with ha | ha
        · exact ⟨Ext.frame e2 (fun b hb => ⟨(f1 b hb).1, o1.there b hb⟩) a ha, g1 a ha⟩
        · exact ⟨(f2 a ha).1, same_none e1.h (f2 a ha).2⟩
    | exc c =>
      rw [hq] at h1
      exact fun M2 e2 => h1 M2 (e1.trans e2)
    | bad =>
      rw [hq] at h1
      exact h1
end
end Ev

/-! EvT2 -/
set_option Elab.async false
set_option linter.all false
set_option maxRecDepth 100000
set_option maxHeartbeats 2000000
/-! EvT2: index in a tuple of flat things; the method's rule by values. -/
namespace Ev
open PySem PySem.Spec PyProof.Rows L2
section
variable {X : Cx}
theorem mt_tupF : MtR X "tuple.index" (fun x xs H Q => ∃ (a : Addr) (ys : List V) (y : V) (j : Nat) (z : V), x = V.ref a ∧ xs = [y] ∧ SqT X.K H a ys ∧ flatV y = true ∧ ys.all flatV = true ∧ ys[j]? = some z ∧ eqV z y = true ∧
  (∀ (m : Nat) (z' : V), m < j → ys[m]? = some z' → eqV z' y = false) ∧ Q (.int (j : Nat)) H) := by
  intro pins s σ H x xs v us Q I rx rs h
  obtain ⟨p, ys, y, j, z, rfl, rfl, hq, fy, fys, hz, hzj, hno, q⟩ := h
  cases rx
  obtain ⟨uy, rfl, ry⟩ := Vals.one rs
  obtain ⟨its, rv, pl, hlen⟩ := I.tuple hq
  obtain ⟨⟨cls, dd, dt, sl⟩, ho, hc, n, hd⟩ := pl
  simp only at hc hd
  subst hc hd
  obtain ⟨u, hu, ru⟩ := rv.get hz
  obtain ⟨hjl, hje⟩ := List.getElem?_eq_some_iff.mp hu
  have hvl := rv.length
  have hj : j < its.toArray.size := by simpa using hjl
  refine call_meets PySem.F.slot_tuple_index ⟨_, ho, rfl⟩ PySem.F.entry_tuple_index (PySem.F.args_tuple_index_2 _ _) (TI.tuple_indexAt p its.toArray n dd sl uy (eqU y) j hj ?_ ?_)
    ⟨ho, fun u' hu' => mem_eqAt ry fy rv fys u' (by simpa using hu'), ⟨.int (j : Nat), H, I.tok _, ⟨_, rfl⟩, q⟩⟩
  · have e1 : its.toArray[j] = u := by simpa using hje
    rw [e1, eqU_of ru (flat_at fys hz)]
    exact hzj
  · intro m hm hmj
    have hml : m < its.length := by simpa using hm
    have hmy : m < ys.length := by omega
    have hy' : ys[m]? = some ys[m] := List.getElem?_eq_getElem hmy
    obtain ⟨u2, hu2, ru2⟩ := rv.get hy'
    obtain ⟨_, hme⟩ := List.getElem?_eq_some_iff.mp hu2
    have e1 : its.toArray[m] = u2 := by simpa using hme
    rw [e1, eqU_of ru2 (flat_at fys hy')]
    exact hno m _ hmj hy'
end
end Ev

/-! EvB6 -/
set_option Elab.async false
set_option linter.all false
set_option maxRecDepth 100000
set_option maxHeartbeats 2000000
/-! EvB6: what is walked. -/
namespace Ev
open PySem PySem.Spec PyProof.Rows L2
variable {G : Ctx} {Fm : Frm} {M M' M0 M1 M2 : Mem} {X : Cx} {env : Env} {σ : L2.St} {W : WX}

/-- what stays through the turns: the frozen part; for a look at an owned list all that stood -/
def Stay (lk : Bool) (M0 M : Mem) : Prop := Keep M0 M ∧ (lk = true → Same M0.H M.H)
theorem Stay.refl {lk : Bool} : Stay lk M0 M0 := ⟨Keep.refl, fun _ => Same.refl _⟩
structure Yields (G : Ctx) (lk : Bool) (M0 : Mem) (J : L2.It) (ds : List D) : Prop where
  go : ∀ i M, Stay lk M0 M → i < ds.length → J.go i M.H
  stop : ∀ i M, Stay lk M0 M → ds.length ≤ i → J.stop i M.H
  yld : ∀ i M x H', i < ds.length → Stay lk M0 M → (∀ a, M.S a → M.H a ≠ none) → J.yld i M.H x H' → ∃ M' d, M'.H = H' ∧ Ext M M' ∧ ds[i]? = some d ∧ Rep G M' d x
/-- a sequence stands there through the turns -/
def Held (lk : Bool) (M0 : Mem) (a : Addr) : Prop := M0.S a ∨ lk = true
theorem Held.at_ {lk : Bool} {a : Addr} {o : HO} (h : Held lk M0 a) (s : Stay lk M0 M) (e : M0.H a = some o) : M.H a = some o := by
  rcases h with h | h
  · exact s.1.h a o h e
  · exact s.2 h a o e
theorem Held.rd_ {lk : Bool} {a : Addr} {o : HO} (h : Held lk M0 a) (s : Stay lk M0 M) (e : Rd M0.H a o) : Rd M.H a o := by
  rcases e with e | ⟨o', e⟩
  · exact .inl (h.at_ s e)
  · exact .inr ⟨o', h.at_ s e⟩
theorem rep_at {lk : Bool} {ds : List D} {vs : List V} (r : Reps G M0 ds vs) (s : Stay lk M0 M) {i : Nat} {x : V} (e : vs[i]? = some x) : ∃ d, ds[i]? = some d ∧ Rep G M d x := by
  have l := r.length
  have hi : i < ds.length := by rw [← l]; exact (List.getElem?_eq_some_iff.mp e).1
  obtain ⟨v, e1, e2⟩ := r.get (List.getElem?_eq_getElem hi)
  rw [e] at e1
  cases e1
  exact ⟨_, List.getElem?_eq_getElem hi, e2.mono s.1⟩
theorem get_of {α β : Type} {xs : List α} {ys : List β} (l : xs.length = ys.length) {i : Nat} (h : i < ys.length) : ∃ x, xs[i]? = some x := ⟨_, List.getElem?_eq_getElem (by omega)⟩
theorem yields_list {lk : Bool} {K : PySem.W.Frag} {a : Addr} {ds : List D} {vs : List V} (h : Held lk M0 a) (e : M0.H a = some (.lst vs)) (r : Reps G M0 ds vs) : Yields G lk M0 (Itl K a) ds where
  go := fun i M s hi => by
    obtain ⟨x, hx⟩ := get_of r.length hi
    exact ⟨vs, x, SqL.of (h.at_ s e), hx⟩
  stop := fun i M s hi => ⟨vs, SqL.of (h.at_ s e), by rw [r.length]; exact hi⟩
  yld := fun i M x H' hi s dm y => by
    obtain ⟨rfl, y⟩ := y
    obtain ⟨d, e1, e2⟩ := rep_at r s (y vs (SqL.of (h.at_ s e)))
    exact ⟨M, d, rfl, Ext.refl dm, e1, e2⟩
theorem yields_tup {lk : Bool} {K : PySem.W.Frag} {a : Addr} {ds : List D} {vs : List V} (h : Held lk M0 a) (e : Rd M0.H a (.tup vs)) (r : Reps G M0 ds vs) : Yields G lk M0 (Itt K a) ds where
  go := fun i M s hi => by
    obtain ⟨x, hx⟩ := get_of r.length hi
    exact ⟨vs, x, .inl (h.rd_ s e), hx⟩
  stop := fun i M s hi => ⟨vs, .inl (h.rd_ s e), by rw [r.length]; exact hi⟩
  yld := fun i M x H' hi s dm y => by
    obtain ⟨rfl, y⟩ := y
    obtain ⟨d, e1, e2⟩ := rep_at r s (y vs (.inl (h.rd_ s e)))
    exact ⟨M, d, rfl, Ext.refl dm, e1, e2⟩
theorem yields_str {lk : Bool} {z : Str} : Yields G lk M0 (Its z) (z.cps.toList.map fun c => D.str ⟨#[c]⟩) where
  go := fun i M s hi => by
    show i < z.cps.size
    simpa using hi
  stop := fun i M s hi => by
    show z.cps.size ≤ i
    simpa using hi
  yld := fun i M x H' hi s dm y => by
    obtain ⟨rfl, c, e, rfl⟩ := y
    exact ⟨M, .str ⟨#[c]⟩, rfl, Ext.refl dm, by simp [e], by simp only [Rep]⟩
theorem yields_rng {lk : Bool} {lo hi : Int} : Yields G lk M0 (Itr lo (hi - lo).toNat) (rangeD lo hi) where
  go := fun i M s h => by
    show i < (hi - lo).toNat
    simpa [rangeD] using h
  stop := fun i M s h => by
    show (hi - lo).toNat ≤ i
    simpa [rangeD] using h
  yld := fun i M x H' h s dm y => by
    obtain ⟨rfl, rfl⟩ := y
    refine ⟨M, .int (lo + i), rfl, Ext.refl dm, ?_, by simp only [Rep]⟩
    have h' : i < (hi - lo).toNat := by simpa [rangeD] using h
    unfold rangeD
    rw [List.getElem?_map, List.getElem?_range h']
    rfl
theorem yields_zipL {lk : Bool} {K : PySem.W.Frag} {a b : Addr} {ds es : List D} {vs us : List V} (ha : Held lk M0 a) (hb : Held lk M0 b) (ea : M0.H a = some (.lst vs)) (eb : M0.H b = some (.lst us)) (ra : Reps G M0 ds vs) (rb : Reps G M0 es us) :
    Yields G lk M0 (Itz K a b) ((ds.zip es).map fun p => D.tup false [p.1, p.2]) where
  go := fun i M s hi => by
    simp only [List.length_map, List.length_zip] at hi
    obtain ⟨x, hx⟩ := get_of ra.length (show i < ds.length by omega)
    obtain ⟨y, hy⟩ := get_of rb.length (show i < es.length by omega)
    exact ⟨vs, us, x, y, SqL.of (ha.at_ s ea), SqL.of (hb.at_ s eb), hx, hy⟩
  stop := fun i M s hi => by
    simp only [List.length_map, List.length_zip] at hi
    refine ⟨vs, us, SqL.of (ha.at_ s ea), SqL.of (hb.at_ s eb), ?_⟩
    rw [ra.length, rb.length]
    omega
  yld := fun i M v H' hi s dm y => by
    obtain ⟨T, x, y, rfl, hT, rfl, h1, h2⟩ := y
    obtain ⟨d, e1, e2⟩ := rep_at ra s (h1 vs (SqL.of (ha.at_ s ea)))
    obtain ⟨e, e3, e4⟩ := rep_at rb s (h2 us (SqL.of (hb.at_ s eb)))
    have x1 := ext_updF (M := M) (p := T) (o := .tup [x, y]) dm hT
    refine ⟨_, .tup false [d, e], rfl, x1, ?_, ?_⟩
    · rw [List.getElem?_map, show (ds.zip es)[i]? = some (d, e) from List.getElem?_zip_eq_some.mpr ⟨e1, e3⟩]
      rfl
    · simp only [Rep]
      exact ⟨T, _, rfl, .inr rfl, upd_same, by simp only [Reps]; exact ⟨_, _, rfl, e2.mono x1.keep, _, _, rfl, e4.mono x1.keep, rfl⟩⟩
theorem yields_zipT {lk : Bool} {K : PySem.W.Frag} {a b : Addr} {ds es : List D} {vs us : List V} (ha : Held lk M0 a) (hb : Held lk M0 b) (ea : Rd M0.H a (.tup vs)) (eb : Rd M0.H b (.tup us)) (ra : Reps G M0 ds vs) (rb : Reps G M0 es us) :
    Yields G lk M0 (RZ.ItzT K a b) ((ds.zip es).map fun p => D.tup false [p.1, p.2]) where
  go := fun i M s hi => by
    simp only [List.length_map, List.length_zip] at hi
    obtain ⟨x, hx⟩ := get_of ra.length (show i < ds.length by omega)
    obtain ⟨y, hy⟩ := get_of rb.length (show i < es.length by omega)
    exact ⟨vs, us, x, y, .inl (ha.rd_ s ea), .inl (hb.rd_ s eb), hx, hy⟩
  stop := fun i M s hi => by
    simp only [List.length_map, List.length_zip] at hi
    refine ⟨vs, us, .inl (ha.rd_ s ea), .inl (hb.rd_ s eb), ?_⟩
    rw [ra.length, rb.length]
    omega
  yld := fun i M v H' hi s dm y => by
    obtain ⟨T, x, y, rfl, hT, rfl, h1, h2⟩ := y
    obtain ⟨d, e1, e2⟩ := rep_at ra s (h1 vs (.inl (ha.rd_ s ea)))
    obtain ⟨e, e3, e4⟩ := rep_at rb s (h2 us (.inl (hb.rd_ s eb)))
    have x1 := ext_updF (M := M) (p := T) (o := .tup [x, y]) dm hT
    refine ⟨_, .tup false [d, e], rfl, x1, ?_, ?_⟩
    · rw [List.getElem?_map, show (ds.zip es)[i]? = some (d, e) from List.getElem?_zip_eq_some.mpr ⟨e1, e3⟩]
      rfl
    · simp only [Rep]
      exact ⟨T, _, rfl, .inr rfl, upd_same, by simp only [Reps]; exact ⟨_, _, rfl, e2.mono x1.keep, _, _, rfl, e4.mono x1.keep, rfl⟩⟩
theorem yields_enum {lk : Bool} {K : PySem.W.Frag} {a : Addr} {ds : List D} {vs : List V} (h : Held lk M0 a) (e : M0.H a = some (.lst vs)) (r : Reps G M0 ds vs) : Yields G lk M0 (Ite K a) (ds.zipIdx.map fun p => D.tup false [D.int p.2, p.1]) where
  go := fun i M s hi => by
    obtain ⟨x, hx⟩ := get_of r.length (show i < ds.length by simpa using hi)
    exact ⟨vs, x, SqL.of (h.at_ s e), hx⟩
  stop := fun i M s hi => ⟨vs, SqL.of (h.at_ s e), by rw [r.length]; simpa using hi⟩
  yld := fun i M v H' hi s dm y => by
    obtain ⟨T, x, rfl, hT, rfl, h1⟩ := y
    obtain ⟨d, e1, e2⟩ := rep_at r s (h1 vs (SqL.of (h.at_ s e)))
    have x1 := ext_updF (M := M) (p := T) (o := .tup [.int (i : Nat), x]) dm hT
    refine ⟨_, .tup false [.int (i : Nat), d], rfl, x1, ?_, ?_⟩
    · simp [e1]
    · simp only [Rep]
      exact ⟨T, _, rfl, .inr rfl, upd_same, by simp only [Reps, Rep]; exact ⟨_, _, rfl, rfl, _, _, rfl, e2.mono x1.keep, rfl⟩⟩
theorem yields_revL {lk : Bool} {K : PySem.W.Frag} {a : Addr} {ds : List D} {vs : List V} (h : Held lk M0 a) (e : M0.H a = some (.lst vs)) (r : Reps G M0 ds vs) : Yields G lk M0 (Itv K a vs.length) ds.reverse where
  go := fun i M s hi => by
    have l := r.length
    have hi' : i < ds.length := by simpa using hi
    exact ⟨by omega, vs, _, SqL.of (h.at_ s e), List.getElem?_eq_getElem (by omega)⟩
  stop := fun i M s hi => by
    have l := r.length
    have hi' : ds.length ≤ i := by simpa using hi
    show vs.length ≤ i
    omega
  yld := fun i M x H' hi s dm y => by
    obtain ⟨rfl, y⟩ := y
    obtain ⟨d, e1, e2⟩ := rep_at r s (y vs (SqL.of (h.at_ s e)))
    refine ⟨M, d, rfl, Ext.refl dm, ?_, e2⟩
    have hi' : i < ds.length := by simpa using hi
    rw [List.getElem?_reverse hi', ← e1, r.length]
theorem yields_revT {lk : Bool} {K : PySem.W.Frag} {a : Addr} {ds : List D} {vs : List V} (h : Held lk M0 a) (e : Rd M0.H a (.tup vs)) (r : Reps G M0 ds vs) : Yields G lk M0 (RT.ItvT K a vs.length) ds.reverse where
  go := fun i M s hi => by
    have l := r.length
    have hi' : i < ds.length := by simpa using hi
    exact ⟨by omega, vs, _, .inl (h.rd_ s e), List.getElem?_eq_getElem (by omega)⟩
  stop := fun i M s hi => by
    have l := r.length
    have hi' : ds.length ≤ i := by simpa using hi
    show vs.length ≤ i
    omega
  yld := fun i M x H' hi s dm y => by
    obtain ⟨rfl, y⟩ := y
    obtain ⟨d, e1, e2⟩ := rep_at r s (y vs (.inl (h.rd_ s e)))
    refine ⟨M, d, rfl, Ext.refl dm, ?_, e2⟩
    have hi' : i < ds.length := by simpa using hi
    rw [List.getElem?_reverse hi', ← e1, r.length]
end Ev

/-! EvB7 -/
set_option Elab.async false
set_option linter.all false
set_option maxRecDepth 100000
set_option maxHeartbeats 2000000
/-! EvB7: slots set, targets. -/
namespace Ev
open PySem PySem.Spec PyProof.Rows L2
variable {G : Ctx} {Fm : Frm} {M M' M0 M1 M2 : Mem} {X : Cx} {env : Env} {σ : L2.St} {W : WX}

/-- a slot takes a value that is nobody's -/
theorem ER.put (e : ER G Fm M env σ) {i : Nat} {o : O} {v : V} {F : List Addr} (hi : i < env.length) (hp : ∀ p ∈ Fm.pin, p.1 ≠ i) (h : Own G M o v F) (n : F.Nodup)
    (f : ∀ a ∈ F, ¬ M.S a ∧ (Fm.H0 a = none ∨ (a ∈ Fm.I ∧ i ∈ Fm.pin.map (·.1)))) (d : ∀ FS, Slots G Fm M env σ FS → ∀ j, j ≠ i → ∀ a ∈ F, a ∉ FS j) : ER G Fm M (env.set i o) (σ.set i (some v)) := by
  obtain ⟨FS, s⟩ := e.slots
  have dj := d FS s
  refine ⟨by simp [e.len], e.dom, e.fr, e.io, e.new, e.old, fun p hq => ?_, fun j => if j = i then F else FS j, ?_, fun j => ?_, fun j l a h1 h2 => ?_, fun j a ha => ?_⟩
  · rw [List.getElem?_set_ne (Ne.symm (hp p hq))]
    exact e.pin p hq
  · intro j o' hj
    by_cases hji : j = i
    · subst hji
      rw [List.getElem?_set_self hi] at hj
      cases hj
      rw [List.getElem?_set_self (by rw [e.len]; exact hi), if_pos rfl]
      exact ⟨_, rfl, .inr ⟨v, rfl, h⟩⟩
    · rw [List.getElem?_set_ne (Ne.symm hji)] at hj ⊢
      rw [if_neg hji]
      exact s.at_ j o' hj
  · by_cases hji : j = i
    · simp only [if_pos hji]; exact n
    · simp only [if_neg hji]; exact s.nod j
  · by_cases hji : j = i
    · by_cases hli : l = i
      · rw [hji, hli]
      · simp only [if_pos hji, if_neg hli] at h1 h2
        exact absurd h2 (dj l hli a h1)
    · by_cases hli : l = i
      · simp only [if_neg hji, if_pos hli] at h1 h2
        exact absurd h1 (dj j hji a h2)
      · simp only [if_neg hji, if_neg hli] at h1 h2
        exact s.dis j l a h1 h2
  · by_cases hji : j = i
    · simp only [if_pos hji] at ha
      subst hji
      exact ⟨(f a ha).1, h.there a ha, (f a ha).2⟩
    · simp only [if_neg hji] at ha
      exact s.own j a ha
theorem ER.put_fz (e : ER G Fm M env σ) {i : Nat} {d : D} {v : V} (hi : i < env.length) (hp : ∀ p ∈ Fm.pin, p.1 ≠ i) (h : Rep G M d v) : ER G Fm M (env.set i (.fz d)) (σ.set i (some v)) :=
  e.put (F := []) hi hp (by simp only [Own]; exact ⟨trivial, h⟩) List.nodup_nil (by simp) (by simp)
/-- what stands new is no slot's -/
theorem Slots.new {FS : Nat → List Addr} (s : Slots G Fm M env σ FS) {a : Addr} (h : M.H a = none) (j : Nat) : a ∉ FS j := fun q => (s.own j a q).2.1 h
/-- .. of a value that came behind M0 -/
theorem ER.put_new (e0 : ER G Fm M0 env σ) (x : Ext M0 M) {i : Nat} {o : O} {v : V} (hi : i < env.length) (hp : ∀ p ∈ Fm.pin, p.1 ≠ i) (h : VR G Fm M0 M (.tm o) v) : ER G Fm M (env.set i o) (σ.set i (some v)) := by
  obtain ⟨F, h1, h2, h3, h4⟩ := h
  obtain ⟨FS, s⟩ := e0.slots
  have e := e0.ext x
  obtain ⟨_, s'⟩ := e.slots
  refine ⟨by simp [e.len], e.dom, e.fr, e.io, e.new, e.old, fun p hq => ?_, fun j => if j = i then F else FS j, ?_, fun j => ?_, fun j l a h1 h2 => ?_, fun j a ha => ?_⟩
  · rw [List.getElem?_set_ne (Ne.symm (hp p hq))]
    exact e.pin p hq
  · intro j o' hj
    by_cases hji : j = i
    · subst hji
      rw [List.getElem?_set_self hi] at hj
      cases hj
      rw [List.getElem?_set_self (by rw [e.len]; exact hi), if_pos rfl]
      exact ⟨_, rfl, .inr ⟨v, rfl, h1⟩⟩
    · rw [List.getElem?_set_ne (Ne.symm hji)] at hj ⊢
      rw [if_neg hji]
      obtain ⟨y, q1, q2⟩ := s.at_ j o' hj
      exact ⟨y, q1, SR.mono x.keep (fun a _ u q => x.h a u q) q2⟩
  · by_cases hji : j = i
    · simp only [if_pos hji]; exact h2
    · simp only [if_neg hji]; exact s.nod j
  · by_cases hji : j = i
    · by_cases hli : l = i
      · rw [hji, hli]
      · simp only [if_pos hji, if_neg hli] at h1 h2
        exact absurd (h4 a h1) (s.own l a h2).2.1
    · by_cases hli : l = i
      · simp only [if_neg hji, if_pos hli] at h1 h2
        exact absurd (h4 a h2) (s.own j a h1).2.1
      · simp only [if_neg hji, if_neg hli] at h1 h2
        exact s.dis j l a h1 h2
  · by_cases hji : j = i
    · simp only [if_pos hji] at ha
      exact ⟨(h3 a ha).1, h1.there a ha, .inl (e0.h0 (h4 a ha))⟩
    · simp only [if_neg hji] at ha
      obtain ⟨q1, q2, q3⟩ := s.own j a ha
      exact ⟨fun z => (x.n a z).elim q1 q2, fun z => q2 (same_none x.h z), q3⟩
/-- a slot is forgotten -/
theorem ER.gone (e : ER G Fm M env σ) {i : Nat} (hp : ∀ p ∈ Fm.pin, p.1 ≠ i) : ER G Fm M (env.set i .dead) (σ.set i none) := by
  obtain ⟨FS, s⟩ := e.slots
  refine ⟨by simp [e.len], e.dom, e.fr, e.io, e.new, e.old, fun p hq => ?_, fun j => if j = i then [] else FS j, ?_, fun j => ?_, fun j l a h1 h2 => ?_, fun j a ha => ?_⟩
  · rw [List.getElem?_set_ne (Ne.symm (hp p hq))]
    exact e.pin p hq
  · intro j o' hj
    by_cases hji : j = i
    · subst hji
      have hi : j < env.length := by
        have := (List.getElem?_eq_some_iff.mp hj).1
        simpa using this
      rw [List.getElem?_set_self hi] at hj
      cases hj
      rw [List.getElem?_set_self (by rw [e.len]; exact hi), if_pos rfl]
      exact ⟨_, rfl, .inl ⟨rfl, rfl⟩⟩
    · rw [List.getElem?_set_ne (Ne.symm hji)] at hj ⊢
      rw [if_neg hji]
      exact s.at_ j o' hj
  · by_cases hji : j = i
    · simp only [if_pos hji]; exact List.nodup_nil
    · simp only [if_neg hji]; exact s.nod j
  · by_cases hji : j = i
    · simp only [if_pos hji] at h1; cases h1
    · by_cases hli : l = i
      · simp only [if_pos hli] at h2; cases h2
      · simp only [if_neg hji, if_neg hli] at h1 h2
        exact s.dis j l a h1 h2
  · by_cases hji : j = i
    · simp only [if_pos hji] at ha; cases ha
    · simp only [if_neg hji] at ha
      exact s.own j a ha
theorem wipe_len (env : Env) : ∀ own : List Nat, (Ev.wipe env own).length = env.length
  | [] => rfl
  | i :: r => by simp [Ev.wipe, wipe_len env r]
theorem ER.wipe (e : ER G Fm M env σ) : ∀ {own : List Nat}, (∀ i ∈ own, ∀ p ∈ Fm.pin, p.1 ≠ i) → ER G Fm M (Ev.wipe env own) (L2.wipe σ own)
  | [], _ => e
  | i :: r, h => (ER.wipe e (own := r) fun j hj => h j (List.mem_cons_of_mem _ hj)).gone (h i List.mem_cons_self)
/-- slots forgotten, by place -/
theorem wipe_get (σ : L2.St) (j : Nat) : ∀ own : List Nat, (L2.wipe σ own)[j]? = if j ∈ own then (if j < σ.length then some none else none) else σ[j]?
  | [] => by simp [L2.wipe]
  | i :: r => by
    have ih := wipe_get σ j r
    unfold L2.wipe
    by_cases h : i = j
    · subst h
      rw [List.getElem?_set]
      simp [L2.wipe_length]
    · rw [List.getElem?_set_ne h, ih]
      have : (j ∈ i :: r) ↔ j ∈ r := by simp [Ne.symm h]
      simp only [this]
theorem wipe_set {σ : L2.St} {own : List Nat} {i : Nat} {x : Option V} (h : i ∈ own) : L2.wipe (σ.set i x) own = L2.wipe σ own := by
  apply List.ext_getElem?
  intro j
  rw [wipe_get, wipe_get]
  by_cases hj : j ∈ own
  · simp [hj]
  · have : i ≠ j := fun e => hj (e ▸ h)
    simp [hj, List.getElem?_set_ne this]
theorem wipe_wipe {σ : L2.St} {own : List Nat} : L2.wipe (L2.wipe σ own) own = L2.wipe σ own := by
  apply List.ext_getElem?
  intro j
  rw [wipe_get, wipe_get, L2.wipe_length]
  by_cases hj : j ∈ own
  · simp [hj]
  · simp [hj]

/-! ### targets -/
/-- the slots outside of these are as they were -/
def Same1 (is : List Nat) (σ σ' : L2.St) : Prop := ∀ own : List Nat, (∀ i ∈ is, i ∈ own) → L2.wipe σ' own = L2.wipe σ own
def tG (G : Ctx) (Fm : Frm) (tg : Tg) : TG := fun v σ H Q => ∃ S env d env', ER G Fm ⟨S, H⟩ env σ ∧ Rep G ⟨S, H⟩ d v ∧ setTg tg d env = some env' ∧ ∀ σ', ER G Fm ⟨S, H⟩ env' σ' → Same1 (tgS tg) σ σ' → Q σ' H
def tGs (G : Ctx) (Fm : Frm) (ts : Tgs) : TGs := fun vs σ H Q => ∃ S env ds env', ER G Fm ⟨S, H⟩ env σ ∧ Reps G ⟨S, H⟩ ds vs ∧ setTgs ts ds env = some env' ∧ ∀ σ', ER G Fm ⟨S, H⟩ env' σ' → Same1 (tgSs ts) σ σ' → Q σ' H
theorem Same1.trans {a b : List Nat} {σ σ1 σ2 : L2.St} (h1 : Same1 a σ σ1) (h2 : Same1 b σ1 σ2) : Same1 (a ++ b) σ σ2 := fun own h =>
  (h2 own fun i hi => h i (List.mem_append_right _ hi)).trans (h1 own fun i hi => h i (List.mem_append_left _ hi))
/-- the block where a target stands -/
structure TOk (ce : Str → Bool) (io : List Nat) (N : List Str) (sc : Scope) (Fm : Frm) (X : Cx) : Prop where
  hN : X.N = N
  nd : N.Nodup
  sc : X.env.scope = sc
  calm : X.calm = true
  fn : ∀ x, ce x = true → X.fn x = true
  pin : ∀ p ∈ Fm.pin, p.1 ∈ io
section
variable {ce : Str → Bool} {io : List Nat} {N : List Str} {sc : Scope}
theorem assign_each {e : Expr} {es : List Expr} {env : PySem.Env} (h : starB e = false) : (assignEach (e :: es) env).map (·.2) = assign e env :: (assignEach es env).map (·.2) := by
  cases e <;> first | rfl | (simp [starB] at h; done)
theorem trTs_len : ∀ (ts : Tgs) (es : List Expr), trTs ce io N sc ts es = true → (assignEach es X.env).length = es.length ∧ (assignEach es X.env).findIdx? (·.1) = none
  | .nil, [], _ => ⟨rfl, rfl⟩
  | .nil, _ :: _, h => by simp [trTs] at h
  | .cons _ _, [], h => by simp [trTs] at h
  | .cons a r, e :: es, h => by
    simp only [trTs, Bool.and_eq_true, Bool.not_eq_true'] at h
    obtain ⟨h1, h2⟩ := trTs_len r es h.2
    have q : assignEach (e :: es) X.env = (false, assign e X.env) :: assignEach es X.env := by
      cases e <;> first | rfl | (simp [starB] at h; done)
    rw [q]
    refine ⟨by simp [h1], ?_⟩
    rw [List.findIdx?_cons]
    simp [h2]
theorem setTgs_len : ∀ (ts : Tgs) (es : List Expr) (ds : List D) (env env' : Env), trTs ce io N sc ts es = true → setTgs ts ds env = some env' → ds.length = es.length
  | .nil, [], [], _, _, _, _ => rfl
  | .nil, [], _ :: _, _, _, _, e => by simp [setTgs] at e
  | .nil, _ :: _, _, _, _, h, _ => by simp [trTs] at h
  | .cons _ _, [], _, _, _, h, _ => by simp [trTs] at h
  | .cons a r, e :: es, [], _, _, _, e' => by simp [setTgs] at e'
  | .cons a r, e :: es, d :: ds, env, env', h, e' => by
    simp only [trTs, Bool.and_eq_true] at h
    simp only [setTgs] at e'
    obtain ⟨env1, e1, e2⟩ := Option.bind_eq_some_iff.mp e'
    simp [setTgs_len r es ds env1 env' h.2 e2]
mutual
theorem pg_ok (T : TOk ce io N sc Fm X) : ∀ (tg : Tg) (e : Expr), trT ce io N sc tg e = true → PG X e (tG G Fm tg)
  | .nm i, e, h => by
    cases e with
    | Name x p =>
      simp only [trT, Bool.and_eq_true, Bool.or_eq_true, decide_eq_true_eq, Bool.not_eq_true'] at h
      obtain ⟨⟨h1, h2⟩, h3⟩ := h
      have hl : Loc X.env.scope x := by
        rw [T.sc]
        rcases h2 with h2 | ⟨_, h2⟩
        · exact .inl h2
        · exact .inr h2
      refine (pg_name (i := i) (by rw [T.hN]; exact T.nd) (by rw [T.hN]; exact h1) hl ?_).imp fun v σ H Q ⟨S, env, d, env', er, r, e, k⟩ => ?_
      · rcases h2 with h2 | ⟨h2, _⟩
        · exact .inr (by rw [T.sc]; exact h2)
        · exact .inl (T.fn x h2)
      · simp only [setTg, Option.some.injEq] at e
        subst e
        by_cases hi : i < env.length
        · refine k _ (er.put_fz hi (fun p hp q => ?_) r) fun own h => wipe_set (h i (by simp [tgS]))
          have := T.pin p hp
          rw [q] at this
          simp at h3
          exact h3 this
        · have e1 : env.set i (.fz d) = env := List.set_eq_of_length_le (by omega)
          have e2 : σ.set i (some v) = σ := List.set_eq_of_length_le (by rw [er.len]; omega)
          rw [e1] at k
          show Q (σ.set i (some v)) H
          rw [e2]
          exact k σ er fun _ _ => rfl
    | _ => simp [trT] at h
  | .tp ts, e, h => by
    cases e with
    | Tuple es kk p =>
      simp only [trT] at h
      refine (pg_tup (n := es.length) T.calm (pgs_ok T ts es h) (trTs_len ts es h).1 (trTs_len ts es h).2).imp fun v σ H Q ⟨S, env, d, env', er, r, e, k⟩ => ?_
      cases d with
      | tup _ ds =>
        simp only [setTg] at e
        simp only [Rep] at r
        obtain ⟨a, vs, rfl, _, q, t⟩ := r
        exact ⟨a, vs, rfl, .inl q.rd, (by rw [t.length]; exact setTgs_len ts es ds env env' h e), S, env, ds, env', er, t, e, k⟩
      | _ => simp [setTg] at e
    | _ => simp [trT] at h
theorem pgs_ok (T : TOk ce io N sc Fm X) : ∀ (ts : Tgs) (es : List Expr), trTs ce io N sc ts es = true → PGs X es (tGs G Fm ts)
  | .nil, [], _ => pgs_nil.imp fun vs σ H Q ⟨S, env, ds, env', er, r, e, k⟩ => by
    cases ds with
    | nil =>
      simp only [setTgs, Option.some.injEq] at e
      simp only [Reps] at r
      subst e r
      exact ⟨rfl, k σ er fun _ _ => rfl⟩
    | cons d ds => simp [setTgs] at e
  | .nil, _ :: _, h => by simp [trTs] at h
  | .cons _ _, [], h => by simp [trTs] at h
  | .cons a r, e :: es, h => by
    simp only [trTs, Bool.and_eq_true, Bool.not_eq_true'] at h
    refine (pgs_cons (pg_ok T a e h.1.1) (pgs_ok T r es h.2) (assign_each h.1.2)).imp fun vs σ H Q ⟨S, env, ds, env', er, rp, e, k⟩ => ?_
    cases ds with
    | nil => simp [setTgs] at e
    | cons d ds =>
      simp only [setTgs] at e
      obtain ⟨env1, e1, e2⟩ := Option.bind_eq_some_iff.mp e
      simp only [Reps] at rp
      obtain ⟨v, rr, rfl, r1, r2⟩ := rp
      refine ⟨v, rr, rfl, S, env, d, env1, er, r1, e1, fun σ1 er1 s1 => ⟨S, env1, ds, env', er1, r2, e2, fun σ2 er2 s2 => k σ2 er2 ?_⟩⟩
      exact Same1.trans s1 s2
end
end
end Ev

/-! EvB8 -/
set_option Elab.async false
set_option linter.all false
set_option maxRecDepth 100000
set_option maxHeartbeats 4000000
/-! EvB8: expressions are sound. -/
namespace Ev
open PySem PySem.Spec PyProof.Rows L2
variable {G : Ctx} {Fm : Frm} {M M' M0 M1 M2 : Mem} {X : Cx} {env : Env} {σ : L2.St} {W : WX}

theorem look_fz {o : O} : (∃ d, o = .fz d ∧ look o = .tm (.fz d)) ∨ look o = .al o := by
  cases o with
  | fz d => exact .inl ⟨d, rfl, rfl⟩
  | _ => exact .inr rfl
theorem vr_look {o : O} {v : V} {F : List Addr} (h : Own G M o v F) (n : F.Nodup) (f : ∀ a ∈ F, ¬ M.S a ∧ (Fm.H0 a = none ∨ a ∈ Fm.I)) : VR G Fm M0 M (look o) v := by
  rcases look_fz (o := o) with ⟨d, rfl, e⟩ | e
  · rw [e]
    simp only [Own] at h
    exact VR.fz h.2
  · rw [e]
    exact ⟨F, h, n, f, trivial⟩
theorem var_ok (er : ER G Fm M env σ) {i : Nat} {o : O} (e : env[i]? = some o) (hd : o ≠ .dead) : ∃ v, σ[i]? = some (some v) ∧ VR G Fm M M (look o) v := by
  obtain ⟨FS, s⟩ := er.slots
  obtain ⟨x, e1, e2⟩ := s.at_ i o e
  rcases e2 with ⟨e2, _⟩ | ⟨v, rfl, h⟩
  · exact absurd e2 hd
  · exact ⟨v, e1, vr_look h (s.nod i) fun a ha => ⟨(s.own i a ha).1, (s.own i a ha).2.2.imp id And.left⟩⟩
theorem VR.own {w : Val} {v : V} (h : VR G Fm M0 M w v) : ∃ F, Own G M w.o v F := let ⟨F, h, _⟩ := h; ⟨F, h⟩
theorem Out.new {o : O} {v : V} {Q : VK} (er : ER G Fm M env σ) (h : Out G Fm W σ M Q (.ok (.tm o))) (x : Ext M M1) (q : New G M M1 o v) : Q v M1.H := h v M1 x (q.vr fun a ha => er.h0 ha)
theorem Out.gives {o : O} {Q : VK} (er : ER G Fm M env σ) (h : Out G Fm W σ M Q (.ok (.tm o))) : Gives G M o Q := fun v M' x q => Out.new er h x q
theorem Out.fz {d : D} {v : V} {Q : VK} (er : ER G Fm M env σ) (h : Out G Fm W σ M Q (.ok (.tm (.fz d)))) (r : Rep G M d v) : Q v M.H := h v M (Ext.refl er.dom) (VR.fz r)

section
variable (Γ : Gm) (G : Ctx) (cf : Cf) (ini np : Nat → Nat) (io : Nat → List Nat) (k : Nat) (N : List Str)
def SE (sc : Scope) (e : Expr) (ae : E) : Prop := ∀ (X : Cx) (Fm : Frm) (W : WX), XOk Γ G cf ini np io k N sc X → (∀ p ∈ Fm.pin, p.1 ∈ Γ.io) → Takes X W →
  PE X e (tE G Fm cf ini W ae) ∧ (tst ae = true → PT X e (tB (tE G Fm cf ini W ae))) ∧ (tst ae = true → ∀ op vs p, e = .BoolOp op vs p → PW X e (tB (tE G Fm cf ini W ae)))
def SEs (sc : Scope) (es : List Expr) (aes : Es) : Prop := ∀ (X : Cx) (Fm : Frm) (W : WX), XOk Γ G cf ini np io k N sc X → (∀ p ∈ Fm.pin, p.1 ∈ Γ.io) → Takes X W →
  PA X es (tF G Fm cf ini W aes) ∧ PA X es (tL G Fm cf ini W aes) ∧ PA X es (tK G Fm cf ini W aes)
def tO (Fm : Frm) (W : WX) (ao : OE) : TO := fun σ H Q => ∃ S env, ER G Fm ⟨S, H⟩ env σ ∧ (match evo cf ini ao env with
  | .ok l => ∀ M', Ext ⟨S, H⟩ M' → Q l M'.H
  | .exc c => ∀ M', Ext ⟨S, H⟩ M' → W (.ref (G.C c)) none σ M'.H
  | .bad => False)
def SO (sc : Scope) (o : Option Expr) (ao : OE) : Prop := ∀ (X : Cx) (Fm : Frm) (W : WX), XOk Γ G cf ini np io k N sc X → (∀ p ∈ Fm.pin, p.1 ∈ Γ.io) → Takes X W → PO X o (tO G cf ini Fm W ao)
def tC' (Fm : Frm) (W : WX) (ac : OE) : TT := fun σ H Q => ∃ S env, ER G Fm ⟨S, H⟩ env σ ∧ (match evc cf ini ac env with
  | .ok b => ∀ M', Ext ⟨S, H⟩ M' → Q b M'.H
  | .exc c => ∀ M', Ext ⟨S, H⟩ M' → W (.ref (G.C c)) none σ M'.H
  | .bad => False)
def SC (sc : Scope) (ifs : List Expr) (ac : OE) : Prop := ∀ (X : Cx) (Fm : Frm) (W : WX), XOk Γ G cf ini np io k N sc X → (∀ p ∈ Fm.pin, p.1 ∈ Γ.io) → Takes X W → PTs X ifs (tC' G cf ini Fm W ac)
def tI (lk : Bool) (Fm : Frm) (W : WX) (ai : It) : TI := fun σ H R => ∃ S env, ER G Fm ⟨S, H⟩ env σ ∧ (match evi cf ini lk ai env with
  | .ok ds => ∀ J M', Ext ⟨S, H⟩ M' → Yields G lk M' J ds → R J M'.H
  | .exc c => ∀ M', Ext ⟨S, H⟩ M' → W (.ref (G.C c)) none σ M'.H
  | .bad => False)
def SI (sc : Scope) (tg it : Expr) (ai : It) : Prop := ∀ (lk : Bool) (X : Cx) (Fm : Frm) (W : WX), XOk Γ G cf ini np io k N sc X → (∀ p ∈ Fm.pin, p.1 ∈ Γ.io) → Takes X W → PI X tg it (tI G cf ini lk Fm W ai)
end
section
variable {Γ : Gm} {cf : Cf} {ini np : Nat → Nat} {io : Nat → List Nat} {k : Nat} {N : List Str} {sc : Scope}
theorem SE.of {e : Expr} {ae : E} (h : ∀ (X : Cx) (Fm : Frm) (W : WX), XOk Γ G cf ini np io k N sc X → (∀ p ∈ Fm.pin, p.1 ∈ Γ.io) → Takes X W → PE X e (tE G Fm cf ini W ae))
    (hp : ∀ (env : PySem.Env) whole, isTrue e env whole = (do let v ← whole; standAt e.pos; holding [v] (truthy v))) (hn : ∀ op vs p, e ≠ .BoolOp op vs p) : SE Γ G cf ini np io k N sc e ae :=
  fun X Fm W x p t => ⟨h X Fm W x p t, fun _ => pt_val (h X Fm W x p t) (hp _), fun _ op vs q e => absurd e (hn op vs q)⟩
theorem se_var {i : Nat} {x : Str} {p : Pos} (h1 : N[i]? = some x) (h2 : visB sc x = true) (h3 : nmB x = true) : SE Γ G cf ini np io k N sc (.Name x p) (.var i) := by
  refine SE.of (fun X Fm W xo pn tk => ?_) (fun _ _ => rfl) (fun _ _ _ => nofun)
  refine (pe_var (i := i) (by rw [xo.hN]; exact h1) (by rw [xo.sc]; exact visB_ok h2) (nmB_ok h3).1 (nmB_ok h3).2.1).imp fun σ H Q ⟨S, env, er, h⟩ => ?_
  simp only [ev] at h
  split at h
  · exact h.elim
  · exact h.elim
  · rename_i o hd e
    obtain ⟨v, e1, q⟩ := var_ok er e (fun z => hd z)
    exact ⟨v, e1, h v ⟨S, H⟩ (Ext.refl er.dom) q⟩
theorem se_const {d : D} {ae : E} {c : Const} {j : Nat} {p : Pos} {v : V} (hev : ∀ env, ev cf ini ae env = .ok (.tm (.fz d))) (hr : ∀ M, Rep G M d v) (hpe : ∀ X, PE X (.Constant c j p) (tC v)) : SE Γ G cf ini np io k N sc (.Constant c j p) ae := by
  refine SE.of (fun X Fm W xo pn tk => ?_) (fun _ _ => rfl) (fun _ _ _ => nofun)
  refine (hpe X).imp fun σ H Q ⟨S, env, er, h⟩ => ?_
  rw [hev] at h
  exact Out.fz er h (hr _)
theorem se_gst {n x : Str} {p : Pos} (h1 : glB sc n = true) (h2 : Γ.gs.lookup n = some x) : SE Γ G cf ini np io k N sc (.Name n p) (.gst n x) := by
  refine SE.of (fun X Fm W xo pn tk => ?_) (fun _ _ => rfl) (fun _ _ _ => nofun)
  obtain ⟨t, e⟩ := xo.fc.gs n x h2
  obtain ⟨g, nb⟩ := xo.gl h1
  refine (pe_glob (v := .str x) g e ⟨t, rfl⟩ (nmB_ok nb).1).imp fun σ H Q ⟨S, env, er, h⟩ => ?_
  simp only [ev] at h
  exact Out.fz er h (by simp only [Rep])
theorem se_bin {op : Op} {a b : E} {a' b' : Expr} {p : Pos} (ha : SE Γ G cf ini np io k N sc a' a) (hb : SE Γ G cf ini np io k N sc b' b) : SE Γ G cf ini np io k N sc (.BinOp a' (pyOp op) b' p) (.bin op a b) := by
  refine SE.of (fun X Fm W xo pn tk => ?_) (fun _ _ => rfl) (fun _ _ _ => nofun)
  refine (pe_op (bin_ok (G := G) op) (ha X Fm W xo pn tk).1 (hb X Fm W xo pn tk).1).imp fun σ H Q ⟨S, env, er, h⟩ => ⟨S, env, er, ?_⟩
  simp only [ev] at h
  refine h.step fun wa va M1 e1 q1 h1 => ⟨M1.S, env, er.ext e1, h1.step fun wb vb M2 e2 q2 h2 => ?_⟩
  obtain ⟨o, e3, h3⟩ := h2.of
  obtain ⟨Fa, oa⟩ := (q1.ext e2).own
  obtain ⟨Fb, ob⟩ := q2.own
  exact ⟨M2, wa.o, wb.o, o, Fa, Fb, rfl, e2.d, oa, ob, e3, Out.gives ((er.ext e1).ext e2) h3⟩
theorem se_neg {a : E} {a' : Expr} {p : Pos} (ha : SE Γ G cf ini np io k N sc a' a) : SE Γ G cf ini np io k N sc (.UnaryOp .USub a' p) (.neg a) := by
  refine SE.of (fun X Fm W xo pn tk => ?_) (fun _ _ => rfl) (fun _ _ _ => nofun)
  refine (pe_un un_neg (ha X Fm W xo pn tk).1).imp fun σ H Q ⟨S, env, er, h⟩ => ⟨S, env, er, ?_⟩
  simp only [ev] at h
  refine h.step fun wa va M1 e1 q1 h1 => ?_
  obtain ⟨i, e3, h3⟩ := h1.of
  obtain ⟨Fa, oa⟩ := q1.own
  exact ⟨i, asInt_of oa e3, Out.fz (er.ext e1) h3 (by simp only [Rep])⟩
theorem se_cmp {op : Cm} {a b : E} {a' b' : Expr} {p : Pos} (hm : behindInMarks (pyCm op) b' = false) (ha : SE Γ G cf ini np io k N sc a' a) (hb : SE Γ G cf ini np io k N sc b' b) : SE Γ G cf ini np io k N sc (.Compare a' [pyCm op] [b'] p) (.cmp op a b) := by
  intro X Fm W xo pn tk
  have key : ∀ σ H Q, tE G Fm cf ini W (.cmp op a b) σ H Q → tOp (rCm G op) (tE G Fm cf ini W a) (tE G Fm cf ini W b) σ H Q := by
    rintro σ H Q ⟨S, env, er, h⟩
    refine ⟨S, env, er, ?_⟩
    simp only [ev] at h
    refine h.step fun wa va M1 e1 q1 h1 => ⟨M1.S, env, er.ext e1, h1.step fun wb vb M2 e2 q2 h2 => ?_⟩
    obtain ⟨r, e3, h3⟩ := h2.of
    obtain ⟨Fa, oa⟩ := (q1.ext e2).own
    obtain ⟨Fb, ob⟩ := q2.own
    exact ⟨M2, wa.o, wb.o, r, Fa, Fb, rfl, oa, ob, e3, Out.fz ((er.ext e1).ext e2) h3 (by simp only [Rep])⟩
  have hu : X.A.units + 64 < cLine := xo.room.units
  refine ⟨(pe_cmpR (cm_ok hu op) (ha X Fm W xo pn tk).1 (hb X Fm W xo pn tk).1 hm).imp key, fun _ => (pt_cmpR (cm_ok hu op) (ha X Fm W xo pn tk).1 (hb X Fm W xo pn tk).1 hm).imp fun σ H Q q => key σ H _ q, fun _ _ _ _ e => nomatch e⟩
theorem se_chn {op op2 : Cm} {a b c : E} {a' b' c' : Expr} {p : Pos} (hm : lastMarks [pyCm op, pyCm op2] [b', c'] = false) (ha : SE Γ G cf ini np io k N sc a' a) (hb : SE Γ G cf ini np io k N sc b' b) (hc : SE Γ G cf ini np io k N sc c' c) :
    SE Γ G cf ini np io k N sc (.Compare a' [pyCm op, pyCm op2] [b', c'] p) (.chn op op2 a b c) := by
  intro X Fm W xo pn tk
  have key : ∀ σ H Q, tE G Fm cf ini W (.chn op op2 a b c) σ H Q → tChain (rCm G op) (rCm G op2) (tE G Fm cf ini W a) (tE G Fm cf ini W b) (tE G Fm cf ini W c) σ H Q := by
    rintro σ H Q ⟨S, env, er, h⟩
    refine ⟨S, env, er, ?_⟩
    simp only [ev] at h
    refine h.step fun wa va M1 e1 q1 h1 => ⟨M1.S, env, er.ext e1, h1.step fun wb vb M2 e2 q2 h2 => ?_⟩
    obtain ⟨r, e3, h3⟩ := h2.of
    obtain ⟨Fa, oa⟩ := (q1.ext e2).own
    obtain ⟨Fb, ob⟩ := q2.own
    refine ⟨M2, wa.o, wb.o, r, Fa, Fb, rfl, oa, ob, e3, r, rfl, ?_⟩
    have er2 := (er.ext e1).ext e2
    cases r with
    | false =>
      rw [if_neg Bool.false_ne_true]
      exact Out.fz er2 h3 (by simp only [Rep])
    | true =>
      rw [if_pos rfl]
      refine ⟨M2.S, env, er2, Out.step h3 fun wc vc M3 e4 q4 h4 => ?_⟩
      obtain ⟨r', e5, h5⟩ := h4.of
      obtain ⟨Fb', ob'⟩ := (q2.ext e4).own
      obtain ⟨Fc, oc⟩ := q4.own
      exact ⟨M3, wb.o, wc.o, r', Fb', Fc, rfl, ob', oc, e5, Out.fz (er2.ext e4) h5 (by simp only [Rep])⟩
  have hu : X.A.units + 64 < cLine := xo.room.units
  refine ⟨(pe_chain (cm_ok hu op) (cm_ok hu op2) (ha X Fm W xo pn tk).1 (hb X Fm W xo pn tk).1 (hc X Fm W xo pn tk).1 hm).imp key, fun _ => (pt_chain (cm_ok hu op) (cm_ok hu op2) (ha X Fm W xo pn tk).1 (hb X Fm W xo pn tk).1 (hc X Fm W xo pn tk).1 hm).imp fun σ H Q q => key σ H _ q, fun _ _ _ _ e => nomatch e⟩
/-- the rest of a BoolOp's values -/
def restB (op : BoolOp) (y : Expr) (rest : List Expr) (p : Pos) : Expr := match rest with
  | [] => y
  | z :: r => .BoolOp op (y :: z :: r) p
theorem and_key {a b : E} {Fm : Frm} {W : WX} {σ : L2.St} {H : Hp} {Q : VK} (h : tE G Fm cf ini W (.and_ a b) σ H Q) :
    tE G Fm cf ini W a σ H (fun x H1 => ∃ c, x = .bl c ∧ if c = true then tE G Fm cf ini W b σ H1 (fun y H2 => (∃ c, y = .bl c) ∧ Q y H2) else Q (.bl false) H1) := by
  obtain ⟨S, env, er, h⟩ := h
  refine ⟨S, env, er, ?_⟩
  simp only [ev] at h
  refine h.step fun wa va M1 e1 q1 h1 => ?_
  obtain ⟨r, e3, h3⟩ := h1.of
  obtain ⟨Fa, oa⟩ := q1.own
  refine ⟨r, asBl_of oa e3, ?_⟩
  cases r with
  | false =>
    rw [if_neg Bool.false_ne_true]
    exact Out.fz (er.ext e1) h3 (by simp only [Rep])
  | true =>
    rw [if_pos rfl]
    refine ⟨M1.S, env, er.ext e1, Out.step h3 fun wb vb M2 e2 q2 h2 => ?_⟩
    obtain ⟨r', e5, h5⟩ := h2.of
    obtain ⟨Fb, ob⟩ := q2.own
    have := asBl_of ob e5
    subst this
    exact ⟨⟨r', rfl⟩, Out.fz ((er.ext e1).ext e2) h5 (by simp only [Rep])⟩
theorem or_key {a b : E} {Fm : Frm} {W : WX} {σ : L2.St} {H : Hp} {Q : VK} (h : tE G Fm cf ini W (.or_ a b) σ H Q) :
    tE G Fm cf ini W a σ H (fun x H1 => ∃ c, x = .bl c ∧ if c = true then Q (.bl true) H1 else tE G Fm cf ini W b σ H1 (fun y H2 => (∃ c, y = .bl c) ∧ Q y H2)) := by
  obtain ⟨S, env, er, h⟩ := h
  refine ⟨S, env, er, ?_⟩
  simp only [ev] at h
  refine h.step fun wa va M1 e1 q1 h1 => ?_
  obtain ⟨r, e3, h3⟩ := h1.of
  obtain ⟨Fa, oa⟩ := q1.own
  refine ⟨r, asBl_of oa e3, ?_⟩
  cases r with
  | true =>
    rw [if_pos rfl]
    exact Out.fz (er.ext e1) h3 (by simp only [Rep])
  | false =>
    rw [if_neg Bool.false_ne_true]
    refine ⟨M1.S, env, er.ext e1, Out.step h3 fun wb vb M2 e2 q2 h2 => ?_⟩
    obtain ⟨r', e5, h5⟩ := h2.of
    obtain ⟨Fb, ob⟩ := q2.own
    have := asBl_of ob e5
    subst this
    exact ⟨⟨r', rfl⟩, Out.fz ((er.ext e1).ext e2) h5 (by simp only [Rep])⟩
theorem tE_mono {ae : E} {σ : L2.St} {H : Hp} {Q Q' : VK} (h : tE G Fm cf ini W ae σ H Q) (m : ∀ v H, Q v H → Q' v H) : tE G Fm cf ini W ae σ H Q' := by
  obtain ⟨S, env, er, h⟩ := h
  refine ⟨S, env, er, ?_⟩
  cases q : ev cf ini ae env with
  | ok w => rw [q] at h; exact fun v M' x y => m _ _ (h v M' x y)
  | exc c => rw [q] at h; exact h
  | bad => rw [q] at h; exact h
theorem se_and {a b : E} {x y : Expr} {rest : List Expr} {p : Pos} (ha : SE Γ G cf ini np io k N sc x a) (hb : SE Γ G cf ini np io k N sc (restB .And y rest p) b) : SE Γ G cf ini np io k N sc (.BoolOp .And (x :: y :: rest) p) (.and_ a b) := by
  intro X Fm W xo pn tk
  have pw : tst (.and_ a b) = true → PW X (.BoolOp .And (x :: y :: rest) p) (tB (tE G Fm cf ini W (.and_ a b))) := by
    intro ht
    simp only [tst, Bool.and_eq_true] at ht
    have hb' : PW X (.BoolOp .And (y :: rest) p) (tB (tE G Fm cf ini W b)) := by
      cases rest with
      | nil => exact pw_and1 ((hb X Fm W xo pn tk).2.1 ht.2)
      | cons z r => exact (hb X Fm W xo pn tk).2.2 ht.2 _ _ _ rfl
    refine (pw_and ((ha X Fm W xo pn tk).2.1 ht.1) hb').imp fun σ H Q h => ?_
    refine tE_mono (and_key h) fun v H ⟨c, e, q⟩ => ⟨c, e, ?_⟩
    cases c with
    | true =>
      rw [if_pos rfl] at q ⊢
      exact tE_mono q fun v H ⟨_, q⟩ => q
    | false =>
      rw [if_neg Bool.false_ne_true] at q ⊢
      obtain ⟨c, e, q⟩ := q
      cases e
      exact q
  refine ⟨?_, fun ht => (pw ht).pt, fun ht op vs q e => ?_⟩
  · have hb' : PE X (.BoolOp .And (y :: rest) p) (tE G Fm cf ini W b) := by
      cases rest with
      | nil => exact pe_one (hb X Fm W xo pn tk).1
      | cons z r => exact (hb X Fm W xo pn tk).1
    refine (pe_and (ha X Fm W xo pn tk).1 hb').imp fun σ H Q h => ?_
    refine tE_mono (and_key h) fun v H ⟨c, e, q⟩ => ⟨c, e, ?_⟩
    cases c with
    | true =>
      rw [if_pos rfl] at q ⊢
      exact tE_mono q fun v H ⟨_, q⟩ => q
    | false => exact q
  · exact pw ht
theorem se_or {a b : E} {x y : Expr} {rest : List Expr} {p : Pos} (ha : SE Γ G cf ini np io k N sc x a) (hb : SE Γ G cf ini np io k N sc (restB .Or y rest p) b) : SE Γ G cf ini np io k N sc (.BoolOp .Or (x :: y :: rest) p) (.or_ a b) := by
  intro X Fm W xo pn tk
  have pw : tst (.or_ a b) = true → PW X (.BoolOp .Or (x :: y :: rest) p) (tB (tE G Fm cf ini W (.or_ a b))) := by
    intro ht
    simp only [tst, Bool.and_eq_true] at ht
    have hb' : PW X (.BoolOp .Or (y :: rest) p) (tB (tE G Fm cf ini W b)) := by
      cases rest with
      | nil => exact pw_or1 ((hb X Fm W xo pn tk).2.1 ht.2)
      | cons z r => exact (hb X Fm W xo pn tk).2.2 ht.2 _ _ _ rfl
    refine (pw_or ((ha X Fm W xo pn tk).2.1 ht.1) hb').imp fun σ H Q h => ?_
    refine tE_mono (or_key h) fun v H ⟨c, e, q⟩ => ⟨c, e, ?_⟩
    cases c with
    | true =>
      rw [if_pos rfl] at q ⊢
      obtain ⟨c, e, q⟩ := q
      cases e
      exact q
    | false =>
      rw [if_neg Bool.false_ne_true] at q ⊢
      exact tE_mono q fun v H ⟨_, q⟩ => q
  refine ⟨?_, fun ht => (pw ht).pt, fun ht op vs q e => ?_⟩
  · have hb' : PE X (.BoolOp .Or (y :: rest) p) (tE G Fm cf ini W b) := by
      cases rest with
      | nil => exact pe_one (hb X Fm W xo pn tk).1
      | cons z r => exact (hb X Fm W xo pn tk).1
    refine (pe_or (ha X Fm W xo pn tk).1 hb').imp fun σ H Q h => ?_
    refine tE_mono (or_key h) fun v H ⟨c, e, q⟩ => ⟨c, e, ?_⟩
    cases c with
    | true => exact q
    | false =>
      rw [if_neg Bool.false_ne_true] at q ⊢
      exact tE_mono q fun v H ⟨_, q⟩ => q
  · exact pw ht
theorem se_not {a : E} {a' : Expr} {p : Pos} (ha : SE Γ G cf ini np io k N sc a' a) : SE Γ G cf ini np io k N sc (.UnaryOp .Not a' p) (.not_ a) := by
  intro X Fm W xo pn tk
  have key : ∀ (σ : L2.St) (H : Hp) (Q : VK), tE G Fm cf ini W (.not_ a) σ H Q → tE G Fm cf ini W a σ H fun x H1 => ∃ c, x = .bl c ∧ Q (.bl (!c)) H1 := by
    rintro σ H Q ⟨S, env, er, h⟩
    refine ⟨S, env, er, ?_⟩
    simp only [ev] at h
    refine h.step fun wa va M1 e1 q1 h1 => ?_
    obtain ⟨r, e3, h3⟩ := h1.of
    obtain ⟨Fa, oa⟩ := q1.own
    exact ⟨r, asBl_of oa e3, Out.fz (er.ext e1) h3 (by simp only [Rep])⟩
  refine ⟨(pe_not (ha X Fm W xo pn tk).1).imp fun σ H Q h => key σ H Q h, fun ht => ?_, fun _ _ _ _ e => nomatch e⟩
  refine (pt_not ((ha X Fm W xo pn tk).2.1 (by simpa [tst] using ht))).imp fun σ H Q h => ?_
  refine tE_mono (key σ H _ h) fun v H ⟨c, e, c', e', q⟩ => ⟨c, e, ?_⟩
  cases e'
  exact q
theorem se_ite {c a b : E} {c' a' b' : Expr} {p : Pos} (ht : tst c = true) (hc : SE Γ G cf ini np io k N sc c' c) (ha : SE Γ G cf ini np io k N sc a' a) (hb : SE Γ G cf ini np io k N sc b' b) : SE Γ G cf ini np io k N sc (.IfExp c' a' b' p) (.ite c a b) := by
  intro X Fm W xo pn tk
  refine ⟨(pe_ifExp ((hc X Fm W xo pn tk).2.1 ht) (ha X Fm W xo pn tk).1 (hb X Fm W xo pn tk).1).imp fun σ H Q ⟨S, env, er, h⟩ => ⟨S, env, er, ?_⟩, fun h => by simp [tst] at h, fun _ _ _ _ e => nomatch e⟩
  simp only [ev] at h
  refine h.step fun wa va M1 e1 q1 h1 => ?_
  obtain ⟨r, e3, h3⟩ := h1.of
  obtain ⟨Fa, oa⟩ := q1.own
  refine ⟨r, asBl_of oa e3, ?_⟩
  cases r with
  | true => exact ⟨M1.S, env, er.ext e1, h3⟩
  | false => exact ⟨M1.S, env, er.ext e1, h3⟩
theorem se_idx {a i : E} {a' i' : Expr} {p : Pos} (hi : ixB i' = true) (ha : SE Γ G cf ini np io k N sc a' a) (hb : SE Γ G cf ini np io k N sc i' i) : SE Γ G cf ini np io k N sc (.Subscript a' i' p) (.idx a i) := by
  refine SE.of (fun X Fm W xo pn tk => ?_) (fun _ _ => rfl) (fun _ _ _ => nofun)
  refine (pe_ix (ix_ok (G := G) xo.fc.kk) (ha X Fm W xo pn tk).1 (hb X Fm W xo pn tk).1 (ixB_ok hi)).imp fun σ H Q ⟨S, env, er, h⟩ => ⟨S, env, er, ?_⟩
  simp only [ev] at h
  refine h.step fun wa va M1 e1 q1 h1 => ⟨M1.S, env, er.ext e1, h1.step fun wb vb M2 e2 q2 h2 => ?_⟩
  obtain ⟨j, e3, h3⟩ := h2.of
  obtain ⟨o, e4, h4⟩ := h3.of
  obtain ⟨Fa, oa, na, fa, _⟩ := q1.ext e2
  obtain ⟨Fb, ob⟩ := q2.own
  refine ⟨M2, wa.o, j, o, Fa, rfl, oa, asInt_of ob e3, e4, fun v F' o' s' => ?_⟩
  exact h4 v M2 (Ext.refl e2.d) (vr_look o' (na.sublist s') fun a h => fa a (s'.subset h))
theorem se_slc {a : E} {lo hi : OE} {a' : Expr} {l h : Option Expr} {p p2 : Pos} (ha : SE Γ G cf ini np io k N sc a' a) (hl : SO Γ G cf ini np io k N sc l lo) (hh : SO Γ G cf ini np io k N sc h hi) :
    SE Γ G cf ini np io k N sc (.Subscript a' (.Slice l h none p2) p) (.slc a lo hi) := by
  refine SE.of (fun X Fm W xo pn tk => ?_) (fun _ _ => rfl) (fun _ _ _ => nofun)
  refine (pe_slice (slc_ok (G := G)) (ha X Fm W xo pn tk).1 (hl X Fm W xo pn tk) (hh X Fm W xo pn tk)).imp fun σ H Q ⟨S, env, er, h⟩ => ⟨S, env, er, ?_⟩
  simp only [ev] at h
  refine h.step0 fun wa va M1 e1 q1 h1 => ⟨M1.S, env, er.ext e1, ?_⟩
  cases ql : evo cf ini lo env with
  | bad => rw [ql] at h1; exact h1.elim
  | exc c => rw [ql] at h1; exact fun M2 e2 => h1 M2 (e1.trans e2)
  | ok l' =>
    rw [ql] at h1
    refine fun M2 e2 => ⟨M2.S, env, (er.ext e1).ext e2, ?_⟩
    cases qh : evo cf ini hi env with
    | bad => simp only [qh] at h1; exact h1.elim
    | exc c => simp only [qh] at h1; exact fun M3 e3 => h1 M3 ((e1.trans e2).trans e3)
    | ok h' =>
      simp only [qh] at h1
      refine fun M3 e3 => ?_
      obtain ⟨o, e4, h4⟩ := Out.of h1
      obtain ⟨Fa, oa⟩ := ((q1.ext e2).ext e3).own
      have x := (e1.trans e2).trans e3
      exact ⟨M3, wa.o, o, Fa, rfl, e3.d, oa, e4, Out.gives (er.ext x) (Out.ext x h4)⟩
theorem se_fld {c f : Nat} {a : E} {a' : Expr} {nm : Str} {p : Pos} {q : Str × List Str} (hb : baseB a' = true) (hq : Γ.cl[c]? = some q) (hn : q.2[f]? = some nm) (ha : SE Γ G cf ini np io k N sc a' a) : SE Γ G cf ini np io k N sc (.Attribute a' nm p) (.fld c f a) := by
  refine SE.of (fun X Fm W xo pn tk => ?_) (fun _ _ => rfl) (fun _ _ _ => nofun)
  refine (pe_fld (f := nm) (ha X Fm W xo pn tk).1 (base_ok hb)).imp fun σ H Q ⟨S, env, er, h⟩ => ⟨S, env, er, ?_⟩
  simp only [ev] at h
  refine h.step fun wa va M1 e1 q1 h1 => ?_
  obtain ⟨o, e4, h4⟩ := h1.of
  obtain ⟨Fa, oa, na, fa, _⟩ := q1
  obtain ⟨g1, g2, g3, g4⟩ := xo.fc.cl c q hq
  have hne : q.2 ≠ [] := fun z => by rw [z] at hn; simp at hn
  obtain ⟨b, dx, fs, v, F', e5, e6, e7, o', s'⟩ := fld_of oa e4 (by rw [g1]; exact g2) (by rw [g1]; exact hn)
  exact ⟨b, G.C c, dx, fs, v, e5, e6, g3 hne, g4 nm (List.mem_of_getElem? hn), e7, h4 v M1 (Ext.refl e1.d) (vr_look o' (na.sublist s') fun a h => fa a (s'.subset h))⟩
end
end Ev

/-! EvB9 -/
set_option Elab.async false
set_option linter.all false
set_option maxRecDepth 100000
set_option maxHeartbeats 4000000
/-! EvB9: calls, displays, isinstance are sound. -/
namespace Ev
open PySem PySem.Spec PyProof.Rows L2
variable {G : Ctx} {Fm : Frm} {M M' M0 M1 M2 : Mem} {X : Cx} {env : Env} {σ : L2.St} {W : WX}
section
variable {Γ : Gm} {cf : Cf} {ini np : Nat → Nat} {io : Nat → List Nat} {k : Nat} {N : List Str} {sc : Scope}
theorem Out.stepL {α : Type} {KK : Mem → α → List V → Mem → Prop} {Q : VK} {Q' : List V → Hp → Prop} {r : R α} {f : α → R Val} (h : Out G Fm W σ M Q (r.bind f))
    (k : ∀ a vs M1, Ext M M1 → KK M a vs M1 → Out G Fm W σ M Q (f a) → Q' vs M1.H) : OutK G W σ M KK Q' r := by
  cases r with
  | ok w => exact fun v M1 e q => k w v M1 e q h
  | exc c => exact h
  | bad => exact h
/-- a built-in function, a built-in class, by its arguments -/
theorem bi_call {f : Bi} {x : Str} {es : Es} {a : Expr} {as : List Expr} {p p2 : Pos} {id : String} (hx : x ∈ bnames) (hc : ∀ X : Cx, X.calm = true → X.K = G.K → CallR X (.builtin id) (rBi G f)) (hv : bootBuiltins x = some (.builtin id)) (hg : glB sc x = true)
    (hs : noStar (a :: as) = true) (ha : SEs Γ G cf ini np io k N sc (a :: as) es) : SE Γ G cf ini np io k N sc (.Call (.Name x p) (a :: as) [] p2) (.bi f es) := by
  refine SE.of (fun X Fm W xo pn tk => ?_) (fun _ _ => rfl) (fun _ _ _ => nofun)
  obtain ⟨g, nb⟩ := xo.gl hg
  have h1 : starB a = false := by
    simp only [noStar, List.all_cons, Bool.and_eq_true] at hs
    simpa using hs.1
  have h2 : noStar as = true := by
    simp only [noStar, List.all_cons, Bool.and_eq_true] at hs ⊢
    exact hs.2
  refine (pe_callB (hc X xo.calm xo.fc.kk) g (xo.fc.free x hx) hv (ha X Fm W xo pn tk).2.1 (nmB_ok nb).2.2 (nmB_ok nb).1 (star_each h1) (star_plain h2)).imp fun σ H Q ⟨S, env, er, h⟩ => ⟨S, env, er, ?_⟩
  simp only [ev] at h
  refine h.stepL fun os vs M1 e1 q1 h1 => ?_
  obtain ⟨o, e4, h4⟩ := h1.of
  exact ⟨M1, os, o, rfl, e1.d, q1, e4, Out.gives (er.ext e1) (Out.ext e1 h4)⟩
theorem ty_call {f : Bi} {x : Str} {es : Es} {a : Expr} {as : List Expr} {p p2 : Pos} {T : String} (hx : x ∈ bnames) (hc : ∀ X : Cx, X.calm = true → CallR X (.type T) (rBi G f)) (hv : bootBuiltins x = some (.type T)) (hg : glB sc x = true)
    (hs : noStar (a :: as) = true) (ha : SEs Γ G cf ini np io k N sc (a :: as) es) : SE Γ G cf ini np io k N sc (.Call (.Name x p) (a :: as) [] p2) (.bi f es) := by
  refine SE.of (fun X Fm W xo pn tk => ?_) (fun _ _ => rfl) (fun _ _ _ => nofun)
  obtain ⟨g, nb⟩ := xo.gl hg
  have h1 : starB a = false := by
    simp only [noStar, List.all_cons, Bool.and_eq_true] at hs
    simpa using hs.1
  have h2 : noStar as = true := by
    simp only [noStar, List.all_cons, Bool.and_eq_true] at hs ⊢
    exact hs.2
  refine (pe_callTy (hc X xo.calm) g (xo.fc.free x hx) hv (ha X Fm W xo pn tk).2.1 (nmB_ok nb).2.2 (nmB_ok nb).1 (star_each h1) (star_plain h2)).imp fun σ H Q ⟨S, env, er, h⟩ => ⟨S, env, er, ?_⟩
  simp only [ev] at h
  refine h.stepL fun os vs M1 e1 q1 h1 => ?_
  obtain ⟨o, e4, h4⟩ := h1.of
  exact ⟨M1, os, o, rfl, e1.d, q1, e4, Out.gives (er.ext e1) (Out.ext e1 h4)⟩
theorem se_bi {f : Bi} {x : Str} {es : Es} {a : Expr} {as : List Expr} {p p2 : Pos} (hn : biName f = some x) (hg : glB sc x = true) (hs : noStar (a :: as) = true) (ha : SEs Γ G cf ini np io k N sc (a :: as) es) :
    SE Γ G cf ini np io k N sc (.Call (.Name x p) (a :: as) [] p2) (.bi f es) := by
  cases f <;> simp only [biName, Option.some.injEq, reduceCtorEq] at hn <;> subst hn
  · exact bi_call (by decide +kernel) (fun X hc hK => bi_len hc hK) (by decide +kernel) hg hs ha
  · exact ty_call (by decide +kernel) (fun X hc => bi_int) (by decide +kernel) hg hs ha
  · exact ty_call (by decide +kernel) (fun X hc => bi_list) (by decide +kernel) hg hs ha
  · exact ty_call (by decide +kernel) (fun X hc => bi_tuple) (by decide +kernel) hg hs ha
  · exact bi_call (by decide +kernel) (fun X hc _ => bi_sum hc) (by decide +kernel) hg hs ha
  · exact bi_call (by decide +kernel) (fun X hc _ => bi_all hc) (by decide +kernel) hg hs ha
  · exact bi_call (by decide +kernel) (fun X hc _ => bi_any hc) (by decide +kernel) hg hs ha
  · exact bi_call (by decide +kernel) (fun X hc _ => bi_max hc) (by decide +kernel) hg hs ha
  · exact bi_call (by decide +kernel) (fun X hc _ => bi_min hc) (by decide +kernel) hg hs ha
  · exact bi_call (by decide +kernel) (fun X hc _ => bi_max2 hc) (by decide +kernel) hg hs ha
  · exact bi_call (by decide +kernel) (fun X hc _ => bi_min2 hc) (by decide +kernel) hg hs ha
  · exact bi_call (by decide +kernel) (fun X hc _ => bi_abs) (by decide +kernel) hg hs ha
  · exact bi_call (by decide +kernel) (fun X hc _ => bi_sorted) (by decide +kernel) hg hs ha
/-- .. under a name of the module -/
theorem se_bg {f : Bi} {x : Str} {es : Es} {a : Expr} {as : List Expr} {p p2 : Pos} {id : String} (hn : bgName f = some id) (hb : Γ.bs.lookup x = some id) (hg : glB sc x = true) (hs : noStar (a :: as) = true) (ha : SEs Γ G cf ini np io k N sc (a :: as) es) :
    SE Γ G cf ini np io k N sc (.Call (.Name x p) (a :: as) [] p2) (.bi f es) := by
  refine SE.of (fun X Fm W xo pn tk => ?_) (fun _ _ => rfl) (fun _ _ _ => nofun)
  obtain ⟨g, nb⟩ := xo.gl hg
  have h1 : starB a = false := by
    simp only [noStar, List.all_cons, Bool.and_eq_true] at hs
    simpa using hs.1
  have h2 : noStar as = true := by
    simp only [noStar, List.all_cons, Bool.and_eq_true] at hs ⊢
    exact hs.2
  have hc : CallR X (.builtin id) (rBi G f) := by
    cases f <;> simp only [bgName, Option.some.injEq, reduceCtorEq] at hn
    subst hn
    exact bi_gcd
  refine (pe_callBfun hc g (xo.fc.bs x id hb) (ha X Fm W xo pn tk).2.1 (nmB_ok nb).1 (star_each h1) (star_plain h2)).imp fun σ H Q ⟨S, env, er, h⟩ => ⟨S, env, er, ?_⟩
  simp only [ev] at h
  refine h.stepL fun os vs M1 e1 q1 h1 => ?_
  obtain ⟨o, e4, h4⟩ := h1.of
  exact ⟨M1, os, o, rfl, e1.d, q1, e4, Out.gives (er.ext e1) (Out.ext e1 h4)⟩
/-! ### isinstance -/
def kdN : Kd → String
  | .int => "int"
  | .bool => "bool"
  | .non => "NoneType"
  | .str => "str"
  | .list => "list"
  | .tuple => "tuple"
def tyN : Ty → String
  | .int => "int"
  | .bool => "bool"
  | .str => "str"
  | .list => "list"
  | .tuple => "tuple"
  | .cls _ => ""
theorem kit_is (K : PySem.W.Frag) (a : Kd) (t : Ty) (h : ∀ c, t ≠ .cls c) : PySem.W.kitOne K (.type (kdN a)) (.type (tyN t)) = some (isK a t) := by
  cases t with
  | cls c => exact absurd rfl (h c)
  | _ => cases a <;> rfl
theorem kd_ty {K : PySem.W.Frag} {o : O} {v : V} {F : List Addr} {a : Kd} (h : Own G M o v F) (e : kd o = some a) : TyX K M.H v (.type (kdN a)) := by
  cases o with
  | fz d =>
    simp only [Own] at h
    cases d <;> simp only [kd, Option.some.injEq, reduceCtorEq] at e <;> subst e <;> simp only [Rep] at h
    · rw [h.2]; exact .base .non
    · rw [h.2]; exact .base (.bl _)
    · rw [h.2]; exact .base (.int _)
    · rw [h.2]; exact .base (.str _)
    · obtain ⟨_, a, vs, rfl, _, q, _⟩ := h
      exact .base (.lst q)
    · rename_i x ds
      obtain ⟨_, a, vs, rfl, _, q, _⟩ := h
      cases x with
      | true => obtain ⟨o, q, _⟩ := q; exact .fTuple q
      | false => exact .base (.tup q)
  | l os =>
    simp only [kd, Option.some.injEq] at e
    subst e
    simp only [Own] at h
    obtain ⟨a, vs, r, rfl, _, q, _⟩ := h
    exact .base (.lst q)
  | t os =>
    simp only [kd, Option.some.injEq] at e
    subst e
    simp only [Own] at h
    obtain ⟨a, vs, r, rfl, _, q, _⟩ := h
    exact .base (.tup q)
  | _ => simp [kd] at e
theorem tuple2 {a b : Expr} {ta tb : TE} (ha : PE X a ta) (hb : PE X b tb) (h1 : starB a = false) (h2 : starB b = false) : PA X [a, b] (tCons ta (tCons tb tNil)) := pa_cons ha (pa_cons hb pa_nil (star_each h2)) (star_each h1)
theorem ty_boot (t : Ty) {y : Str} (h : tyName t = some y) : bootBuiltins y = some (.type (tyN t)) ∧ y ∈ bnames := by
  cases t <;> simp only [tyName, Option.some.injEq, reduceCtorEq] at h <;> subst h <;> exact ⟨by decide +kernel, by decide +kernel⟩
theorem se_isi {a : E} {t : Ty} {a' : Expr} {y : Str} {p p2 p3 : Pos} (hs : starB a' = false) (hg : glB sc "isinstance" = true) (hy : glB sc y = true) (ht : tyName t = some y) (ha : SE Γ G cf ini np io k N sc a' a) :
    SE Γ G cf ini np io k N sc (.Call (.Name "isinstance" p) [a', .Name y p2] [] p3) (.isi a t) := by
  refine SE.of (fun X Fm W xo pn tk => ?_) (fun _ _ => rfl) (fun _ _ _ => nofun)
  obtain ⟨g, nb⟩ := xo.gl hg
  obtain ⟨gy, nby⟩ := xo.gl hy
  obtain ⟨bt, my⟩ := ty_boot t ht
  have py : PE X (.Name y p2) (tC (.ty (tyN t))) := pe_bltn gy (xo.fc.free y my) bt rfl (nmB_ok nby).2.2 (nmB_ok nby).1
  refine (pe_callB call_isi g (xo.fc.free _ (by decide +kernel)) (by decide +kernel) (tuple2 (ha X Fm W xo pn tk).1 py hs rfl) (nmB_ok nb).2.2 (nmB_ok nb).1 (star_each hs) (star_plain rfl)).imp fun σ H Q ⟨S, env, er, h⟩ => ⟨S, env, er, ?_⟩
  simp only [ev] at h
  refine h.step fun wa va M1 e1 q1 h1 => ?_
  obtain ⟨r, e3, h3⟩ := h1.of
  obtain ⟨Fa, oa⟩ := q1.own
  have hne : ∀ c, t ≠ .cls c := fun c e => by rw [e] at ht; simp [tyName] at ht
  have e3' : (kd wa.o).map (fun k => isK k t) = some r := by
    cases t with
    | cls c => exact absurd rfl (hne c)
    | _ => exact e3
  obtain ⟨kk, e4, rfl⟩ := Option.map_eq_some_iff.mp e3'
  exact ⟨va, .ty (tyN t), _, _, _, rfl, .ty _, kd_ty oa e4, kit_is _ kk t hne, Out.fz (er.ext e1) h3 (by simp only [Rep])⟩
theorem se_isc {a : E} {c : Nat} {a' : Expr} {q : Str × List Str} {p p2 p3 : Pos} (hs : starB a' = false) (hg : glB sc "isinstance" = true) (hy : glB sc q.1 = true) (hq : Γ.cl[c]? = some q) (hne : q.2 ≠ []) (ha : SE Γ G cf ini np io k N sc a' a) :
    SE Γ G cf ini np io k N sc (.Call (.Name "isinstance" p) [a', .Name q.1 p2] [] p3) (.isi a (.cls c)) := by
  refine SE.of (fun X Fm W xo pn tk => ?_) (fun _ _ => rfl) (fun _ _ _ => nofun)
  obtain ⟨g, nb⟩ := xo.gl hg
  obtain ⟨gy, nby⟩ := xo.gl hy
  have py : PE X (.Name q.1 p2) (tC (.ref (G.C c))) := pe_glob gy (xo.fc.cn c q hq) rfl (nmB_ok nby).1
  refine (pe_callB (C8.call_isC (xo.fc.ci c q hq hne)) g (xo.fc.free _ (by decide +kernel)) (by decide +kernel) (tuple2 (ha X Fm W xo pn tk).1 py hs rfl) (nmB_ok nb).2.2 (nmB_ok nb).1 (star_each hs) (star_plain rfl)).imp fun σ H Q ⟨S, env, er, h⟩ => ⟨S, env, er, ?_⟩
  simp only [ev] at h
  refine h.step fun wa va M1 e1 q1 h1 => ?_
  obtain ⟨r, e3, h3⟩ := h1.of
  obtain ⟨Fa, oa⟩ := q1.own
  have key : ∃ a dx fs, va = .ref a ∧ M1.H a = some (.ins (G.C c) dx fs) ∧ r = true := by
    simp only [isiO] at e3
    split at e3
    · rename_i c' ds he
      split at e3
      · rename_i hc
        subst hc
        cases e3
        rw [he] at oa
        simp only [Own, Rep] at oa
        obtain ⟨_, a, dx, fs, rfl, _, q, _⟩ := oa
        exact ⟨a, dx, fs, rfl, q, rfl⟩
      · cases e3
    · rename_i c' os he
      split at e3
      · rename_i hc
        subst hc
        cases e3
        rw [he] at oa
        simp only [Own] at oa
        obtain ⟨a, dx, fs, r, rfl, _, q, _⟩ := oa
        exact ⟨a, dx, fs, rfl, q, rfl⟩
      · cases e3
    · cases e3
  obtain ⟨b, dx, fs, rfl, hb, rfl⟩ := key
  exact ⟨b, dx, fs, rfl, hb, Out.fz (er.ext e1) h3 (by simp only [Rep])⟩
/-! ### methods -/
theorem isL_of {o : O} {v : V} {F : List Addr} (hl : isList o = true) (h : Own G M o v F) : ∃ a vs, v = .ref a ∧ M.H a = some (.lst vs) := by
  cases o with
  | l os =>
    simp only [Own] at h
    obtain ⟨a, vs, r, rfl, _, q, _⟩ := h
    exact ⟨a, vs, rfl, q⟩
  | fz d =>
    cases d <;> simp [isList] at hl
    simp only [Own, Rep] at h
    obtain ⟨_, a, vs, rfl, _, q, _⟩ := h
    exact ⟨a, vs, rfl, q⟩
  | _ => simp [isList] at hl
theorem isX_of {o : O} {v : V} {F : List Addr} (hl : isXtp o = true) (h : Own G M o v F) : ∃ (a : Addr) (vs : List V) (ob : Obj), v = .ref a ∧ M.H a = some (.frz ob (.tup vs)) ∧ ob.cls = .type "tuple" ∧ ob.dict = none := by
  cases o with
  | fz d =>
    cases d with
    | tup x ds =>
      cases x with
      | true =>
        simp only [Own, Rep] at h
        obtain ⟨_, a, vs, rfl, _, ⟨ob, q, c, dd⟩, _⟩ := h
        exact ⟨a, vs, ob, rfl, q, c, dd⟩
      | false => simp [isXtp] at hl
    | _ => simp [isXtp] at hl
  | _ => simp [isXtp] at hl
/-- an exact tuple -/
def tyT (x : V) (H : Hp) : Prop := ∃ (p : Addr) (o : Obj) (vs : List V), x = .ref p ∧ H p = some (.frz o (.tup vs)) ∧ o.cls = .type "tuple" ∧ o.dict = none
theorem tyT_is {X : Cx} {pins : List (Addr × Obj)} {σ : L2.St} {H : Hp} {s : Shared} {x : V} {v : Value} (I : L2.Inv X pins σ H s) (r : L2.RelV x v) (ty : tyT x H) :
    s.TypeIs v "tuple" ∧ ∀ a, v = .ref a → ∃ ob, s.heap.get? a = some ob ∧ ob.dict = none := by
  obtain ⟨p, o, vs, rfl, h, hc, hd⟩ := ty
  cases r
  have e : s.heap.get? p = some o := (I.hok p _ h).1
  refine ⟨⟨o, e, hc⟩, fun a z => ?_⟩
  cases z
  exact ⟨o, e, hd⟩
def tBMX (r : V → List V → Hp → VK → Prop) (to : TE) (t : TA) : TE := fun σ H Q => to σ H fun x H1 => tyT x H1 ∧ t σ H1 fun xs H2 => r x xs H2 Q
theorem pe_bmX {X : Cx} {o e : Expr} {es : List Expr} {to : TE} {t : TA} {name : Str} {apos cpos : Pos} {id : String} {r : V → List V → Hp → VK → Prop} (pa : PlainAttrs "tuple") (slot : Slot "tuple" name id) (hty : typeOf (.builtin id) = pure (.type "method_descriptor")) (hm : MtR X id r) (ho : PE X o to) (ha : PA X (e :: es) t)
    (hbase : attributeBase o name X.env (eval o X.env) = eval o X.env)
    (hfew : ((backTo cpos (starEach (e :: es) X.env)).all (fun x => !x.1) && (backToKw cpos (keywordEach [] X.env)).all (fun x => x.1.isSome)
      && decide ((e :: es).length + ([] : List Keyword).length + (if ([] : List Keyword).isEmpty then 0 else 1) < 30)) = true)
    (hline : (apos.endLine == cpos.line) = true) (hs : starEach (e :: es) X.env = (false, eval e X.env) :: starEach es X.env) (hplain : (backTo cpos (starEach es X.env)).any (·.1) = false) :
    PE X (.Call (.Attribute o name apos) (e :: es) [] cpos) (tBMX r to t) := by
  refine ⟨fun pins s σ H Q I h => ?_⟩
  refine wpAny_Call_method_late hbase hfew hline rfl (L2.thn (ho.run pins s σ H _ I h) fun v s1 ⟨x, H1, I1, r1, ty, q1⟩ => ?_)
  obtain ⟨h1, h2⟩ := tyT_is I1 r1 ty
  refine ⟨"tuple", id, pa, slot, hty, h1, h2, ?_⟩
  have hA := ha.run cpos pins s1 σ H1 _ I1 q1
  rw [hs] at hA ⊢
  refine Calls.callWith_builtin (by show (false || (backTo cpos (starEach es X.env)).any (·.1)) = false; rw [hplain] <;> rfl) (Calls.evalArgs_plain ?_)
  exact L2.thn hA fun us s2 ⟨vs, H2, I2, r2, q2⟩ => hm pins s2 σ H2 x vs v us Q I2 r1 r2 q2
theorem index_of {o : O} {d : D} {v y : V} {F : List Addr} {r : O} (h : Own G M o v F) (hd : Rep G M d y) (e : mtO .index o [.fz d] = some r) : ∃ a vs j z, v = .ref a ∧ (M.H a = some (.lst vs) ∨ Rd M.H a (.tup vs)) ∧ flatV y = true ∧ vs.all flatV = true ∧ vs[j]? = some z ∧ eqV z y = true ∧
    (∀ (m : Nat) (z' : V), m < j → vs[m]? = some z' → eqV z' y = false) ∧ r = .fz (.int (j : Nat)) := by
  simp only [mtO] at e
  cases hi : (items o).bind fzs with
  | none => rw [hi] at e; cases e
  | some ds =>
    rw [hi] at e
    simp only at e
    split at e
    · rename_i hf
      simp only [Bool.and_eq_true] at hf
      obtain ⟨j, hj, rfl⟩ := Option.map_eq_some_iff.mp e
      obtain ⟨a, vs, rfl, q, t⟩ := fitems_of h hi
      obtain ⟨hlt, hj1, hj2⟩ := List.findIdx?_eq_some_iff_getElem.mp hj
      have hall : ∀ d ∈ ds, flat d = true := List.all_eq_true.mp hf.2
      obtain ⟨z, hz1, hz2⟩ := t.get (List.getElem?_eq_getElem hlt)
      refine ⟨a, vs, j, z, rfl, q.imp And.left And.left, flat_of hd hf.1, flats_of t hf.2, hz1, ?_, fun m z' hm hz' => ?_, rfl⟩
      · rw [eqF_of hz2 hd (hall _ (List.getElem_mem hlt)) hf.1]
        exact hj1
      · have hm' : m < ds.length := by omega
        obtain ⟨z2, hz3, hz4⟩ := t.get (List.getElem?_eq_getElem hm')
        rw [hz'] at hz3
        cases hz3
        rw [eqF_of hz4 hd (hall _ (List.getElem_mem hm')) hf.1]
        simpa using hj2 m hm
    · cases e
theorem se_index {a e : E} {a' e' : Expr} {apos cpos : Pos} (hb : baseB a' = true) (hs : starB e' = false) (hl : (apos.endLine == cpos.line) = true) (ha : SE Γ G cf ini np io k N sc a' a) (he : SE Γ G cf ini np io k N sc e' e) :
    SE Γ G cf ini np io k N sc (.Call (.Attribute a' "index" apos) [e'] [] cpos) (.mt .index a (.cons e .nil)) := by
  refine SE.of (fun X Fm W xo pn tk => ⟨fun pins s σ H Q I hh => ?_⟩) (fun _ _ => rfl) (fun _ _ _ => nofun)
  have pl := pe_bm PySem.F.plainAttrs_list PySem.F.slot_list_index PySem.F.type_list_index mt_index (ha X Fm W xo pn tk).1 (pa_cons (he X Fm W xo pn tk).1 pa_nil (star_each hs)) (base_ok hb) (by rw [star_each hs]; rfl) hl (star_each hs) rfl
  obtain ⟨S, env, er, h⟩ := hh
  simp only [ev] at h
  -- behind the receiver
  have rest : ∀ (w : Val) (v : V) (M1 : Mem) (P : Addr → List V → Hp → Prop), (∀ M2 b vs, Ext M1 M2 → v = .ref b → (M2.H b = some (.lst vs) ∨ Rd M2.H b (.tup vs)) → P b vs M2.H) → Ext ⟨S, H⟩ M1 → VR G Fm ⟨S, H⟩ M1 w v →
      Out G Fm W σ ⟨S, H⟩ Q ((evl cf ini (.cons e .nil) env).bind fun vs => (R.of (mtO .index w.o vs)).bind fun o => .ok (.tm o)) →
      tCons (tE G Fm cf ini W e) tNil σ M1.H (fun xs H2 => ∃ (a : Addr) (vs : List V) (y : V) (j : Nat) (z : V), v = V.ref a ∧ xs = [y] ∧ P a vs H2 ∧ flatV y = true ∧ vs.all flatV = true ∧ vs[j]? = some z ∧ eqV z y = true ∧
        (∀ (m : Nat) (z' : V), m < j → vs[m]? = some z' → eqV z' y = false) ∧ Q (.int (j : Nat)) H2) := by
    intro w v M1 P hP e1 q1 h
    simp only [evl] at h
    refine ⟨M1.S, env, er.ext e1, ?_⟩
    cases hq : ev cf ini e env with
    | bad => rw [hq] at h; exact h.elim
    | exc c => rw [hq] at h; exact fun M2 e2 => h M2 (e1.trans e2)
    | ok w2 =>
      rw [hq] at h
      simp only [R.bind] at h
      intro y M2 e2 q2
      cases hm : mtO .index w.o [w2.o] with
      | none => rw [hm] at h; exact h.elim
      | some r =>
        rw [hm] at h
        simp only [R.of] at h
        have hfz : ∃ d, w2.o = .fz d := by
          cases hw : w2.o with
          | fz d => exact ⟨d, rfl⟩
          | _ => rw [hw] at hm; simp [mtO] at hm
        obtain ⟨d, hd⟩ := hfz
        rw [hd] at hm
        obtain ⟨F1, o1⟩ := (q1.ext e2).own
        obtain ⟨F2, o2⟩ := q2.own
        rw [hd] at o2
        simp only [Own] at o2
        obtain ⟨b, vs, j, z, hv, p1, p2, p3, p4, p5, p6, rfl⟩ := index_of o1 o2.2 hm
        exact ⟨b, vs, y, j, z, hv, rfl, hP M2 b vs e2 hv p1, p2, p3, p4, p5, p6, h _ M2 (e1.trans e2) (VR.fz (by simp only [Rep]))⟩
  cases hq : ev cf ini a env with
  | bad => rw [hq] at h; exact h.elim
  | exc c =>
    rw [hq] at h
    refine pl.run pins s σ H Q I ⟨S, env, er, ?_⟩
    rw [hq]
    exact h
  | ok w =>
    rw [hq] at h
    simp only [R.bind] at h
    by_cases hr : mtRecv .index w.o = true
    · simp only [if_pos hr] at h
      have hr2 : isList w.o = true ∨ isXtp w.o = true := Bool.or_eq_true_iff.mp hr
      rcases hr2 with hL | hX
      · refine pl.run pins s σ H Q I ⟨S, env, er, ?_⟩
        rw [hq]
        intro v M1 e1 q1
        obtain ⟨F1, o1⟩ := q1.own
        obtain ⟨b, vs, rfl, q⟩ := isL_of hL o1
        refine ⟨.inl ⟨rfl, vs, SqL.of q⟩, rest w (.ref b) M1 (fun a vs H => SqL X.K H a vs) (fun M2 b' vs' x e hh => ?_) e1 q1 h⟩
        cases e
        rcases hh with hh | hh
        · exact SqL.of hh
        · rcases hh with hh | ⟨_, hh⟩ <;> · rw [x.h _ _ q] at hh; cases hh
      · have pt := pe_bmX PySem.F.plainAttrs_tuple PySem.F.slot_tuple_index PySem.F.type_tuple_index mt_tupF (ha X Fm W xo pn tk).1 (pa_cons (he X Fm W xo pn tk).1 pa_nil (star_each hs)) (base_ok hb) (by rw [star_each hs]; rfl) hl (star_each hs) rfl
        refine pt.run pins s σ H Q I ⟨S, env, er, ?_⟩
        rw [hq]
        intro v M1 e1 q1
        obtain ⟨F1, o1⟩ := q1.own
        obtain ⟨b, vs, ob, rfl, q, qc, qd⟩ := isX_of hX o1
        refine ⟨⟨b, ob, vs, rfl, q, qc, qd⟩, rest w (.ref b) M1 (fun a vs H => SqT X.K H a vs) (fun M2 b' vs' x e hh => ?_) e1 q1 h⟩
        cases e
        rcases hh with hh | hh
        · rw [x.h _ _ q] at hh; cases hh
        · exact .inl hh
    · simp only [if_neg hr] at h
      exact h.elim
/-! ### displays -/
theorem fzs_new {os : List O} {ds : List D} {vs : List V} {F : List Addr} (h : Owns G M os vs F) (e : Ev.fzs os = some ds) : Reps G M ds vs := (Owns.fzs h e).2.2
theorem se_tup {es : Es} {es' : List Expr} {j : Nat} {p : Pos} (ha : SEs Γ G cf ini np io k N sc es' es) : SE Γ G cf ini np io k N sc (.Tuple es' j p) (.tup es) := by
  refine SE.of (fun X Fm W xo pn tk => ?_) (fun _ _ => rfl) (fun _ _ _ => nofun)
  refine (pe_tup (ha X Fm W xo pn tk).2.2).imp fun σ H Q ⟨S, env, er, h⟩ => ⟨S, env, er, ?_⟩
  simp only [ev] at h
  refine h.stepL fun os vs M1 e1 q1 h1 => ?_
  obtain ⟨F, o1, n1, f1⟩ := q1
  by_cases hz : os.length ≤ sizeMax
  · simp only [if_pos hz] at h1
    refine ⟨by rw [o1.length, ← line]; exact hz, fun q hq => ?_⟩
    split at h1
    · rename_i ds e
      exact Out.gives (er.ext e1) (Out.ext e1 h1) |>.tup e1.d (fzs_new o1 e) q hq
    · have x1 := ext_upd (M := M1) (p := q) (o := .tup vs) e1.d hq
      refine Out.new er h1 (e1.trans x1) ⟨q :: F, ?_, ?_, ?_⟩
      · simp only [Own]
        exact ⟨q, vs, F, rfl, rfl, upd_same, o1.mono x1.keep (fun a _ u z => x1.h a u z)⟩
      · exact List.nodup_cons.mpr ⟨fun z => o1.there q z hq, n1⟩
      · intro a ha
        rcases List.mem_cons.mp ha with rfl | ha
        · exact ⟨fun z => e1.d a z hq, same_none e1.h hq⟩
        · exact f1 a ha
  · simp only [if_neg hz] at h1
    exact h1.elim
theorem se_lst {es : Es} {es' : List Expr} {p : Pos} (ha : SEs Γ G cf ini np io k N sc es' es) : SE Γ G cf ini np io k N sc (.List es' p) (.lst es) := by
  refine SE.of (fun X Fm W xo pn tk => ?_) (fun _ _ => rfl) (fun _ _ _ => nofun)
  refine (pe_lst (ha X Fm W xo pn tk).2.2).imp fun σ H Q ⟨S, env, er, h⟩ => ⟨S, env, er, ?_⟩
  simp only [ev] at h
  refine h.stepL fun os vs M1 e1 q1 h1 => ?_
  obtain ⟨F, o1, n1, f1⟩ := q1
  by_cases hz : os.length ≤ sizeMax
  · simp only [if_pos hz] at h1
    refine ⟨by rw [o1.length, ← line]; exact hz, fun q hq => ?_⟩
    have x1 := ext_upd (M := M1) (p := q) (o := .lst vs) e1.d hq
    refine Out.new er h1 (e1.trans x1) ⟨q :: F, ?_, ?_, ?_⟩
    · simp only [Own]
      exact ⟨q, vs, F, rfl, rfl, upd_same, o1.mono x1.keep (fun a _ u z => x1.h a u z)⟩
    · exact List.nodup_cons.mpr ⟨fun z => o1.there q z hq, n1⟩
    · intro a ha
      rcases List.mem_cons.mp ha with rfl | ha
      · exact ⟨fun z => e1.d a z hq, same_none e1.h hq⟩
      · exact f1 a ha
  · simp only [if_neg hz] at h1
    exact h1.elim
/-! ### calls -/
theorem reps_owns {ds : List D} {vs : List V} (h : Reps G M ds vs) : Owns G M (ds.map .fz) vs [] := h.owns
theorem cr_val {r : CR} {Q : VK} (h : Out G Fm W σ M Q r.val) : (∃ o, r = .ok o [] ∧ Out G Fm W σ M Q (.ok (.tm o))) ∨ (∃ c, r = .exc c ∧ Out G Fm W σ M Q (.exc c)) := by
  cases r with
  | ok o outs =>
    cases outs with
    | nil => exact .inl ⟨o, rfl, h⟩
    | cons a l => exact h.elim
  | exc c => exact .inr ⟨c, rfl, h⟩
  | bad => exact h.elim
theorem se_call {f : Nat} {es : Es} {ds : List D} {x : Str} {a : Expr} {as : List Expr} {p p2 : Pos} {q : Str × List (List D)} (hnp : ∀ os, cf f os ≠ .bad → os.length = np f) (hio : ∀ os o, cf f os = .ok o [] → io f = []) (hq : Γ.fn[f]? = some q) (hx : q.1 = x) (hd : ds ∈ q.2) (hfl : ds.all flat = true)
    (hg : glB sc x = true) (hs : noStar (a :: as) = true) (ha : SEs Γ G cf ini np io k N sc (a :: as) es) : SE Γ G cf ini np io k N sc (.Call (.Name x p) (a :: as) [] p2) (.call f es ds) := by
  refine SE.of (fun X Fm W xo pn tk => ?_) (fun _ _ => rfl) (fun _ _ _ => nofun)
  obtain ⟨g, nb⟩ := xo.gl hg
  have h1 : starB a = false := by
    simp only [noStar, List.all_cons, Bool.and_eq_true] at hs
    simpa using hs.1
  have h2 : noStar as = true := by
    simp only [noStar, List.all_cons, Bool.and_eq_true] at hs ⊢
    exact hs.2
  obtain ⟨fa, fd, ps, dV, m1, kp, bd, vd, fo⟩ := xo.fc.fn f q ds hq hd
  rw [hx] at m1
  refine (pe_callSD (E := WE W) fo (xo.room.mono (Nat.le_succ _)) g m1 kp bd vd (fun σ => passAt tk σ) (ha X Fm W xo pn tk).1 (nmB_ok nb).1 (star_each h1) (star_plain h2)).imp fun σ H Q ⟨S, env, er, h⟩ => ⟨S, env, er, ?_⟩
  simp only [ev] at h
  refine h.stepL fun dd vs M1 e1 q1 h1 => ?_
  have rp : Reps G M1 (dd ++ ds) (vs ++ ds.map vOf) := Reps.append q1 (reps_flat hfl)
  refine ⟨M1, (dd ++ ds).map .fz, [], rfl, e1.d, ?_, reps_owns rp, List.nodup_nil, by simp, ?_⟩
  · refine hnp _ fun z => ?_
    rw [z] at h1
    exact h1.elim
  · rcases cr_val h1 with ⟨o, e, h⟩ | ⟨c, e, h⟩
    · rw [e, hio _ _ e]
      intro v M' Fv Fo af o1 o2 n1 f1
      simp only [List.map, Owns] at o2
      obtain ⟨_, rfl⟩ := o2
      rw [List.append_nil] at n1 f1
      have x := af.ext
      refine Out.new er h (e1.trans x) ⟨Fv, o1, n1, fun b hb => ⟨(f1 b hb).1, ?_⟩⟩
      rcases (f1 b hb).2 with z | z
      · exact same_none e1.h z
      · cases z
    · rw [e]
      exact fun M' af => h M' (e1.trans af.ext)
/-- nothing runs -/
theorem se_nev {e' : Expr} : SE Γ G cf ini np io k N sc e' .nev := fun X Fm W xo pn tk =>
  have no : ∀ σ H Q, tE G Fm cf ini W .nev σ H Q → False := fun σ H Q ⟨S, env, er, h⟩ => by simp only [ev] at h; exact h
  ⟨⟨fun pins s σ H Q I h => (no σ H Q h).elim⟩, fun _ => ⟨fun pins s σ H Q I h => (no σ H _ h).elim⟩, fun _ _ _ _ _ => ⟨fun wh pins s σ H Q I h => (no σ H _ h).elim⟩⟩
/-- what is looked at, frozen for a while -/
theorem Lk.all : ∀ {os : List O} {vs : List V} {ds : List D}, Lk G M os vs → rds os = some ds → ∃ Fs : List Addr, (∀ a ∈ Fs, M.H a ≠ none) ∧ ∀ F' : List Addr, (∀ a ∈ Fs, a ∈ F') → Reps G (M.add F') ds vs
  | [], _, _, h, e => by
    simp only [rds, Option.some.injEq] at e
    subst e
    exact ⟨[], by simp, fun F' _ => by simp only [Reps]; exact h⟩
  | o :: os, _, ds, ⟨v, r, F, rfl, h2, h3⟩, e => by
    simp only [rds] at e
    split at e
    · rename_i d ds' e1 e2
      simp only [Option.some.injEq] at e
      subst e
      obtain ⟨Fs, a1, a2⟩ := Lk.all h3 e2
      refine ⟨F ++ Fs, fun a ha => ?_, fun F' hF => ?_⟩
      · rcases List.mem_append.mp ha with ha | ha
        · exact h2.there a ha
        · exact a1 a ha
      · simp only [Reps]
        exact ⟨v, r, rfl, h2.frz e1 fun a ha => hF a (List.mem_append_left _ ha), a2 F' fun a ha => hF a (List.mem_append_right _ ha)⟩
    · cases e
theorem flatR_cases {r : CR} {Q : VK} (h : Out G Fm W σ M Q (flatR r.val)) : (∃ d, r = .ok (.fz d) [] ∧ flat d = true ∧ Out G Fm W σ M Q (.ok (.tm (.fz d)))) ∨ (∃ c, r = .exc c ∧ Out G Fm W σ M Q (.exc c)) := by
  cases r with
  | ok o outs =>
    cases outs with
    | nil =>
      cases o with
      | fz d =>
        simp only [CR.val, flatR] at h
        by_cases hd : flat d = true
        · rw [if_pos hd] at h
          exact .inl ⟨d, rfl, hd, h⟩
        · rw [if_neg hd] at h
          exact h.elim
      | _ => exact h.elim
    | cons a l => exact h.elim
  | exc c => exact .inr ⟨c, rfl, h⟩
  | bad => exact h.elim
theorem rep_flat {d : D} {v : V} (hd : flat d = true) (h : Rep G M d v) : Rep G M' d v := by
  cases d <;> simp [flat] at hd <;> simpa only [Rep] using h
theorem se_callb {f : Nat} {es : Es} {ds : List D} {x : Str} {a : Expr} {as : List Expr} {p p2 : Pos} {q : Str × List (List D)} (hnp : ∀ os, cf f os ≠ .bad → os.length = np f) (hio : ∀ os o, cf f os = .ok o [] → io f = []) (hq : Γ.fn[f]? = some q) (hx : q.1 = x) (hd : ds ∈ q.2) (hfl : ds.all flat = true)
    (hg : glB sc x = true) (hs : noStar (a :: as) = true) (ha : SEs Γ G cf ini np io k N sc (a :: as) es) : SE Γ G cf ini np io k N sc (.Call (.Name x p) (a :: as) [] p2) (.callb f es ds) := by
  refine SE.of (fun X Fm W xo pn tk => ?_) (fun _ _ => rfl) (fun _ _ _ => nofun)
  obtain ⟨g, nb⟩ := xo.gl hg
  have h1 : starB a = false := by
    simp only [noStar, List.all_cons, Bool.and_eq_true] at hs
    simpa using hs.1
  have h2 : noStar as = true := by
    simp only [noStar, List.all_cons, Bool.and_eq_true] at hs ⊢
    exact hs.2
  obtain ⟨fa, fd, ps, dV, m1, kp, bd, vd, fo⟩ := xo.fc.fn f q ds hq hd
  rw [hx] at m1
  refine (pe_callSD (E := WE W) fo (xo.room.mono (Nat.le_succ _)) g m1 kp bd vd (fun σ => passAt tk σ) (ha X Fm W xo pn tk).2.1 (nmB_ok nb).1 (star_each h1) (star_plain h2)).imp fun σ H Q ⟨S, env, er, h⟩ => ⟨S, env, er, ?_⟩
  simp only [ev] at h
  refine h.stepL fun os vs M1 e1 q1 h1 => ?_
  obtain ⟨dd, hr, h1⟩ := h1.of
  obtain ⟨Fs, b1, b2⟩ := Lk.all q1 hr
  have rp : Reps G (M1.add Fs) (dd ++ ds) (vs ++ ds.map vOf) := Reps.append (b2 Fs fun _ h => h) (reps_flat hfl)
  have back : ∀ M', Aft (M1.add Fs) [] M' → Ext M1 ⟨fun a => M'.S a ∧ (M1.S a ∨ a ∉ Fs), M'.H⟩ := fun M' af => ⟨fun a s => ⟨af.s a (.inl s), .inl s⟩, fun b u z => af.h b u z (by simp), fun a ⟨s, z⟩ => by
    rcases af.n a s with w | w
    · rcases w with w | w
      · exact .inl w
      · exact .inl (z.resolve_right fun y => y w)
    · exact .inr w, fun a ⟨s, _⟩ => af.d a s⟩
  refine ⟨M1.add Fs, (dd ++ ds).map .fz, [], rfl, fun a s => ?_, ?_, reps_owns rp, List.nodup_nil, by simp, ?_⟩
  · rcases s with s | s
    · exact e1.d a s
    · exact b1 a s
  · refine hnp _ fun z => ?_
    rw [z] at h1
    exact h1.elim
  · rcases flatR_cases h1 with ⟨d, e, hfd, h⟩ | ⟨c, e, h⟩
    · rw [e, hio _ _ e]
      intro v M' Fv Fo af o1 o2 n1 f1
      simp only [Own] at o1
      have x := e1.trans (back M' af)
      exact h v ⟨fun a => M'.S a ∧ (M1.S a ∨ a ∉ Fs), M'.H⟩ x (VR.fz (rep_flat hfd o1.2))
    · rw [e]
      intro M' af
      have x := e1.trans (back M' af)
      exact h ⟨fun a => M'.S a ∧ (M1.S a ∨ a ∉ Fs), M'.H⟩ x
end
end Ev

/-! EvB10 -/
set_option Elab.async false
set_option linter.all false
set_option maxRecDepth 100000
set_option maxHeartbeats 4000000
/-! EvB10: instances made. -/
namespace Ev
open PySem PySem.Spec PyProof.Rows L2
variable {G : Ctx} {Fm : Frm} {M M' M0 M1 M2 : Mem} {X : Cx} {env : Env} {σ : L2.St} {W : WX}
section
variable {Γ : Gm} {cf : Cf} {ini np : Nat → Nat} {io : Nat → List Nat} {k : Nat} {N : List Str} {sc : Scope}
theorem made_of {r : CR} {Q : VK} (h : Out G Fm W σ M Q r.made) : ∃ o, r = .ok (.fz .non) [o] ∧ Out G Fm W σ M Q (.ok (.tm o)) := by
  cases r with
  | ok o outs =>
    cases o with
    | fz d =>
      cases d with
      | non =>
        cases outs with
        | nil => exact h.elim
        | cons a l =>
          cases l with
          | nil => exact ⟨a, rfl, h⟩
          | cons b l => exact h.elim
      | _ => exact h.elim
    | _ => exact h.elim
  | exc c => exact h.elim
  | bad => exact h.elim
/-- the new instance's __init__ -/
theorem make_run {c : Nat} {ds : List D} {vs : List V} {Q : VK} (er : ER G Fm M env σ) (x1 : Ext M M1) (hio : io (ini c) = [0]) (hnp : ∀ os, cf (ini c) os ≠ .bad → os.length = np (ini c)) (rp : Reps G M1 ds vs)
    (h : Out G Fm W σ M Q (cf (ini c) (.i c [] :: ds.map .fz)).made) : ∀ x dx, M1.H x = none → M1.H dx = none → dx ≠ x →
      spF G cf np io (ini c) (.ref x :: vs) (upd (upd M1.H dx (.own x)) x (.ins (G.C c) dx [])) (fun v H2 => v = .non ∧ Q (.ref x) H2) E0 := by
  intro x dx hx hdx hne
  obtain ⟨o, e, h⟩ := made_of h
  have keep : ∀ b u, M1.H b = some u → upd (upd M1.H dx (.own x)) x (.ins (G.C c) dx []) b = some u := fun b u q => by
    rw [upd_ne (ne_of_none q hx), upd_ne (ne_of_none q hdx)]
    exact q
  have hs : ∀ a, M1.S a → M1.H a ≠ none := x1.d
  have x2 : Ext M1 ⟨M1.S, upd (upd M1.H dx (.own x)) x (.ins (G.C c) dx [])⟩ := ⟨fun _ s => s, keep, fun _ s => .inl s, fun a s q => by
    cases z : M1.H a with
    | none => exact hs a s z
    | some u => exact absurd ((keep a u z).symm.trans q) (by simp)⟩
  refine ⟨⟨M1.S, upd (upd M1.H dx (.own x)) x (.ins (G.C c) dx [])⟩, .i c [] :: ds.map .fz, [x], rfl, x2.d, hnp _ (by rw [e]; simp), ?_, by simp, ?_, ?_⟩
  · simp only [Owns, Own]
    exact ⟨.ref x, vs, [x], [], rfl, rfl, ⟨x, dx, [], [], rfl, rfl, upd_same, rfl, rfl, rfl⟩, reps_owns (rp.mono x2.keep)⟩
  · intro a ha s
    have e1 : a = x := by simpa using ha
    subst e1
    exact hs a s hx
  · rw [e, hio]
    intro v M' Fv Fo af o1 o2 n1 f1
    simp only [Own, Rep] at o1
    obtain ⟨rfl, rfl⟩ := o1
    refine ⟨rfl, ?_⟩
    simp only [List.map, Owns] at o2
    obtain ⟨v', r', F1, F2, ev, rfl, q1, rfl, rfl⟩ := o2
    injection ev with ev _
    have ev' : v' = .ref x := ev.symm
    subst ev'
    simp only [List.nil_append, List.append_nil] at n1 f1
    have x3 : Ext M1 M' := ⟨fun a s => af.s a s, fun b u q => af.h b u (keep b u q) (by
      intro hb
      have e1 : b = x := by simpa using hb
      subst e1
      rw [hx] at q; cases q), fun a s => ?_, af.d⟩
    · refine Out.new er h (x1.trans x3) ⟨F1, q1, n1, fun b hb => ⟨(f1 b hb).1, ?_⟩⟩
      rcases (f1 b hb).2 with z | z
      · exact same_none x1.h (same_none x2.h z)
      · have e1 : b = x := by simpa using z
        subst e1
        exact same_none x1.h hx
    · rcases af.n a s with z | z
      · exact .inl z
      · exact .inr (same_none x2.h z)
theorem passE0 {X : Cx} : Passes (L2.CX X.prog X.w) X E0 := passL
theorem se_mk {c : Nat} {es : Es} {ds : List D} {x : Str} {a : Expr} {as : List Expr} {p p2 : Pos} {q : Str × List Str} (hnp : ∀ os, cf (ini c) os ≠ .bad → os.length = np (ini c)) (hq : Γ.cl[c]? = some q) (hx : q.1 = x) (hne : q.2 ≠ []) (hd : ds ∈ Γ.md c) (hfl : ds.all flat = true)
    (hg : glB sc x = true) (hs : noStar (a :: as) = true) (ha : SEs Γ G cf ini np io k N sc (a :: as) es) : SE Γ G cf ini np io k N sc (.Call (.Name x p) (a :: as) [] p2) (.mk c es ds) := by
  refine SE.of (fun X Fm W xo pn tk => ?_) (fun _ _ => rfl) (fun _ _ _ => nofun)
  obtain ⟨g, nb⟩ := xo.gl hg
  have h1 : starB a = false := by
    simp only [noStar, List.all_cons, Bool.and_eq_true] at hs
    simpa using hs.1
  have h2 : noStar as = true := by
    simp only [noStar, List.all_cons, Bool.and_eq_true] at hs ⊢
    exact hs.2
  have m1 := xo.fc.cn c q hq
  rw [hx] at m1
  obtain ⟨fa, fd, ps, mk, hio, fo, hds, _⟩ := xo.fc.mk_ c q hq hne
  obtain ⟨dV, bd, vd⟩ := hds ds hd
  refine (pe_make mk fo xo.room g m1 bd vd passE0 (ha X Fm W xo pn tk).1 (nmB_ok nb).1 (star_each h1) (star_plain h2)).imp fun σ H Q ⟨S, env, er, h⟩ => ⟨S, env, er, ?_⟩
  simp only [ev] at h
  refine h.stepL fun dd vs M1 e1 q1 h1 => ?_
  exact make_run er e1 hio hnp (Reps.append q1 (reps_flat hfl)) h1
/-- keywords -/
def SK (Γ : Gm) (G : Ctx) (cf : Cf) (ini np : Nat → Nat) (io : Nat → List Nat) (k : Nat) (N : List Str) (sc : Scope) (kws : List Keyword) (aes : Es) : Prop := ∀ (X : Cx) (Fm : Frm) (W : WX), XOk Γ G cf ini np io k N sc X → (∀ p ∈ Fm.pin, p.1 ∈ Γ.io) → Takes X W → PK X kws (tF G Fm cf ini W aes)
theorem kw_names : ∀ {kws : List Keyword} {es : Es} {ks : List Str} {pos : Pos} {env : PySem.Env}, trK Γ N sc es ks kws = true →
    (backToKw pos (keywordEach kws env)).all (·.1.isSome) = true ∧ (backToKw pos (keywordEach kws env)).filterMap (·.1) = ks ∧ (backToKw pos (keywordEach kws env)).any (·.1.isNone) = false
  | [], .nil, [], _, _, _ => ⟨rfl, rfl, rfl⟩
  | [], .nil, _ :: _, _, _, h => by simp [trK] at h
  | [], .cons _ _, _, _, _, h => by simp [trK] at h
  | _ :: _, .nil, _, _, _, h => by simp [trK] at h
  | _ :: _, .cons _ _, [], _, _, h => by simp [trK] at h
  | ⟨none, _, _⟩ :: _, .cons _ _, _ :: _, _, _, h => by simp [trK] at h
  | ⟨some y, e', _⟩ :: kws, .cons e es, x :: ks, pos, env, h => by
    simp only [trK, Bool.and_eq_true, decide_eq_true_eq] at h
    obtain ⟨⟨rfl, _⟩, h⟩ := h
    obtain ⟨h1, h2, h3⟩ := kw_names (pos := pos) (env := env) h
    unfold backToKw at h1 h2 h3 ⊢
    simp only [keywordEach, List.map_cons, List.all_cons, List.any_cons, List.filterMap_cons, h1, h2, h3, Option.isSome_some, Option.isNone_some, Bool.and_self, Bool.or_false]
    exact ⟨trivial, trivial, trivial⟩
theorem evf_len : ∀ {es : Es} {env : Env} {ds : List D}, evf cf ini es env = .ok ds → ∀ {as : List Expr}, trEs Γ N sc es as = true → ds.length = as.length
  | .nil, _, _, e, [], _ => by simp only [evf, R.ok.injEq] at e; subst e; rfl
  | .nil, _, _, _, _ :: _, h => by simp [trEs] at h
  | .cons _ _, _, _, _, [], h => by simp [trEs] at h
  | .cons e es, env, ds, eq, a :: as, h => by
    simp only [trEs, Bool.and_eq_true] at h
    simp only [evf] at eq
    cases h1 : ev cf ini e env with
    | ok w =>
      rw [h1] at eq
      simp only [R.bind] at eq
      cases h2 : frz w with
      | ok d =>
        rw [h2] at eq
        simp only at eq
        cases h3 : evf cf ini es env with
        | ok r =>
          rw [h3] at eq
          simp only [R.ok.injEq] at eq
          subst eq
          simp [evf_len h3 h.2]
        | exc c => rw [h3] at eq; cases eq
        | bad => rw [h3] at eq; cases eq
      | exc c => rw [h2] at eq; cases eq
      | bad => rw [h2] at eq; cases eq
    | exc c => rw [h1] at eq; cases eq
    | bad => rw [h1] at eq; cases eq
theorem evf_lenK : ∀ {es : Es} {ks : List Str} {kws : List Keyword} {env : Env} {ds : List D}, evf cf ini es env = .ok ds → trK Γ N sc es ks kws = true → ds.length = ks.length
  | .nil, [], [], _, _, e, _ => by simp only [evf, R.ok.injEq] at e; subst e; rfl
  | .nil, [], _ :: _, _, _, _, h => by simp [trK] at h
  | .nil, _ :: _, _, _, _, _, h => by simp [trK] at h
  | .cons _ _, [], _, _, _, _, h => by simp [trK] at h
  | .cons _ _, _ :: _, [], _, _, _, h => by simp [trK] at h
  | .cons _ _, _ :: _, ⟨none, _, _⟩ :: _, _, _, _, h => by simp [trK] at h
  | .cons e es, x :: ks, ⟨some y, e', _⟩ :: kws, env, ds, eq, h => by
    simp only [trK, Bool.and_eq_true] at h
    simp only [evf] at eq
    cases h1 : ev cf ini e env with
    | ok w =>
      rw [h1] at eq
      simp only [R.bind] at eq
      cases h2 : frz w with
      | ok d =>
        rw [h2] at eq
        simp only at eq
        cases h3 : evf cf ini es env with
        | ok r =>
          rw [h3] at eq
          simp only [R.ok.injEq] at eq
          subst eq
          simp [evf_lenK h3 h.2]
        | exc c => rw [h3] at eq; cases eq
        | bad => rw [h3] at eq; cases eq
      | exc c => rw [h2] at eq; cases eq
      | bad => rw [h2] at eq; cases eq
    | exc c => rw [h1] at eq; cases eq
    | bad => rw [h1] at eq; cases eq
theorem se_mkk {c : Nat} {es kes : Es} {ks : List Str} {kws : List Keyword} {x : Str} {a : Expr} {as : List Expr} {p p2 : Pos} {q : Str × List Str} (hnp : ∀ os, cf (ini c) os ≠ .bad → os.length = np (ini c)) (hq : Γ.cl[c]? = some q) (hx : q.1 = x) (hne : q.2 ≠ []) (hd : ((a :: as).length, ks) ∈ Γ.mkw c)
    (hg : glB sc x = true) (hs : noStar (a :: as) = true) (ht : trEs Γ N sc es (a :: as) = true) (hk : trK Γ N sc kes ks kws = true) (ha : SEs Γ G cf ini np io k N sc (a :: as) es) (hkw : SK Γ G cf ini np io k N sc kws kes) : SE Γ G cf ini np io k N sc (.Call (.Name x p) (a :: as) kws p2) (.mkk c es kes ks) := by
  refine SE.of (fun X Fm W xo pn tk => ?_) (fun _ _ => rfl) (fun _ _ _ => nofun)
  obtain ⟨g, nb⟩ := xo.gl hg
  have h1 : starB a = false := by
    simp only [noStar, List.all_cons, Bool.and_eq_true] at hs
    simpa using hs.1
  have m1 := xo.fc.cn c q hq
  rw [hx] at m1
  obtain ⟨fa, fd, ps, mk, hio, fo, _, hks⟩ := xo.fc.mk_ c q hq hne
  obtain ⟨gg, gV, bd, hgV⟩ := hks _ _ hd
  obtain ⟨k1, k2, k3⟩ := kw_names (Γ := Γ) (N := N) (sc := sc) (pos := p2) (env := X.env) hk
  refine (pe_makeN mk fo xo.room g m1 bd passE0 (ha X Fm W xo pn tk).1 (hkw X Fm W xo pn tk) k1 k2 (nmB_ok nb).1 (star_each h1) (by rw [star_plain hs, k3]; rfl)).imp fun σ H Q ⟨S, env, er, h⟩ => ⟨S, env, er, ?_⟩
  simp only [ev] at h
  cases hes : evf cf ini es env with
  | bad => rw [hes] at h; exact h
  | exc c => rw [hes] at h; exact h
  | ok dd =>
    rw [hes] at h
    simp only [R.bind] at h
    intro vs M1 e1 q1
    refine ⟨M1.S, env, er.ext e1, ?_⟩
    cases hke : evf cf ini kes env with
    | bad => rw [hke] at h; exact h
    | exc c => rw [hke] at h; exact fun M2 e2 => h M2 (e1.trans e2)
    | ok zz =>
      rw [hke] at h
      simp only at h
      intro zs M2 e2 q2
      have l1 : vs.length = (a :: as).length := by rw [Reps.length q1]; exact evf_len hes ht
      have l2 : zs.length = ks.length := by rw [Reps.length q2]; exact evf_lenK hke hk
      refine ⟨l1, l2, fun x dx hx hdx hne => ?_⟩
      rw [hgV _ _ (by simp [l1]) l2]
      exact make_run er (e1.trans e2) hio hnp (Reps.append (Reps.mono e2.keep q1) q2) h x dx hx hdx hne
end
end Ev

/-! EvB11 -/
set_option Elab.async false
set_option linter.all false
set_option maxRecDepth 100000
set_option maxHeartbeats 4000000
/-! EvB11: what is walked, list comprehensions: sound. -/
namespace Ev
open PySem PySem.Spec PyProof.Rows L2
variable {G : Ctx} {Fm : Frm} {M M' M0 M1 M2 : Mem} {X : Cx} {env : Env} {σ : L2.St} {W : WX}
section
variable {Γ : Gm} {cf : Cf} {ini np : Nat → Nat} {io : Nat → List Nat} {k : Nat} {N : List Str} {sc : Scope}
/-! ### what is walked -/
theorem sqL_ex {K : PySem.W.Frag} {H : Hp} {a : Addr} {vs : List V} (e : H a = some (.lst vs)) : ∃ xs, SqL K H a xs := ⟨vs, SqL.of e⟩
theorem sqT_ex {K : PySem.W.Frag} {H : Hp} {a : Addr} {vs : List V} (e : Rd H a (.tup vs)) : ∃ xs, SqT K H a xs := ⟨vs, .inl e⟩
theorem walk_cases {lk : Bool} {w : Val} {ds : List D} (h : walkO lk w = some ds) : (∃ z, w = .tm (.fz (.str z)) ∧ ds = z.cps.toList.map fun c => D.str ⟨#[c]⟩) ∨ w = .tm (.fz (.lst ds)) ∨ (∃ x, w = .tm (.fz (.tup x ds))) ∨
    (∃ os, w = .tm (.l os) ∧ rds os = some ds) ∨ ∃ os, w = .al (.l os) ∧ lk = true ∧ fzs os = some ds := by
  unfold walkO at h
  split at h
  · cases h; exact .inl ⟨_, rfl, rfl⟩
  · cases h; exact .inr (.inl rfl)
  · cases h; exact .inr (.inr (.inl ⟨_, rfl⟩))
  · exact .inr (.inr (.inr (.inl ⟨_, rfl, h⟩)))
  · split at h
    · rename_i hl
      exact .inr (.inr (.inr (.inr ⟨_, rfl, hl, h⟩)))
    · cases h
  · cases h
theorem si_ex {tg e' : Expr} {e : E} (ha : SE Γ G cf ini np io k N sc e' e) : SI Γ G cf ini np io k N sc tg e' (.ex e) := by
  refine fun lk X Fm W xo pn tk => ⟨fun pins s σ H R0 I ⟨S, env, er, h⟩ => ?_⟩
  have pe := (ha X Fm W xo pn tk).1
  simp only [evi] at h
  cases hq : ev cf ini e env with
  | bad => rw [hq] at h; exact h.elim
  | exc c =>
    rw [hq] at h
    refine (pi_str pe).run pins s σ H R0 I ⟨S, env, er, ?_⟩
    rw [hq]
    exact h
  | ok w =>
    rw [hq] at h
    simp only [R.bind] at h
    cases hw : walkO lk w with
    | none => rw [hw] at h; exact h.elim
    | some ds =>
      rw [hw] at h
      simp only [R.of] at h
      rcases walk_cases hw with ⟨z, rfl, rfl⟩ | rfl | ⟨xx, rfl⟩ | ⟨os, rfl, hr⟩ | ⟨os, rfl, hl, hr⟩
      · refine (pi_str pe).run pins s σ H R0 I ⟨S, env, er, ?_⟩
        rw [hq]
        rintro v M1 x ⟨F, o1, _⟩
        simp only [Val.o, Own, Rep] at o1
        exact ⟨z, o1.2, h _ _ x yields_str⟩
      · refine (pi_list pe).run pins s σ H R0 I ⟨S, env, er, ?_⟩
        rw [hq]
        rintro v M1 x ⟨F, o1, _⟩
        simp only [Val.o, Own, Rep] at o1
        obtain ⟨_, a, vs, rfl, sa, q, r⟩ := o1
        exact ⟨a, rfl, sqL_ex q, h _ _ x (yields_list (.inl sa) q r)⟩
      · refine (pi_tup pe).run pins s σ H R0 I ⟨S, env, er, ?_⟩
        rw [hq]
        rintro v M1 x ⟨F, o1, _⟩
        simp only [Val.o, Own, Rep] at o1
        obtain ⟨_, a, vs, rfl, sa, q, r⟩ := o1
        exact ⟨a, rfl, sqT_ex q.rd, h _ _ x (yields_tup (.inl sa) q.rd r)⟩
      · refine (pi_list pe).run pins s σ H R0 I ⟨S, env, er, ?_⟩
        rw [hq]
        rintro v M1 x q1
        obtain ⟨M2, eH, x2, rp⟩ := freeze (d := .lst ds) q1 (by simp only [frz, O.rd, hr, Option.map_some, R.of]) x
        simp only [Rep] at rp
        obtain ⟨a, vs, rfl, sa, q, r⟩ := rp
        rw [← eH]
        exact ⟨a, rfl, sqL_ex q, h _ _ x2 (yields_list (.inl sa) q r)⟩
      · refine (pi_list pe).run pins s σ H R0 I ⟨S, env, er, ?_⟩
        rw [hq]
        rintro v M1 x ⟨F, o1, _⟩
        simp only [Val.o, Own] at o1
        obtain ⟨a, vs, r, rfl, rfl, q, t⟩ := o1
        exact ⟨a, rfl, sqL_ex q, h _ _ x (yields_list (.inr hl) q (Owns.fzs t hr).2.2)⟩
theorem near_ok {i : Int} (h : near i = true) : -(2 ^ 62) ≤ i ∧ i < 2 ^ 62 := by
  unfold near at h
  simpa using h
def IK (G : Ctx) (W : WX) (σ : L2.St) (lk : Bool) (M : Mem) (R0 : L2.It → Hp → Prop) : R (List D) → Prop
  | .ok ds => ∀ J M', Ext M M' → Yields G lk M' J ds → R0 J M'.H
  | .exc c => ∀ M', Ext M M' → W (.ref (G.C c)) none σ M'.H
  | .bad => False
theorem IK.ext {lk : Bool} {R0 : L2.It → Hp → Prop} {r : R (List D)} (e : Ext M M1) (h : IK G W σ lk M R0 r) : IK G W σ lk M1 R0 r := by
  cases r with
  | ok ds => exact fun J M' x y => h J M' (e.trans x) y
  | exc c => exact fun M' x => h M' (e.trans x)
  | bad => exact h
theorem tI_ik {lk : Bool} {ai : It} {H : Hp} {R0 : L2.It → Hp → Prop} (h : tI G cf ini lk Fm W ai σ H R0) : ∃ S env, ER G Fm ⟨S, H⟩ env σ ∧ IK G W σ lk ⟨S, H⟩ R0 (evi cf ini lk ai env) := by
  obtain ⟨S, env, er, h⟩ := h
  refine ⟨S, env, er, ?_⟩
  cases q : evi cf ini lk ai env with
  | ok ds => rw [q] at h; exact h
  | exc c => rw [q] at h; exact h
  | bad => rw [q] at h; exact h
theorem Out.stepI {lk : Bool} {Q' : VK} {R0 : L2.It → Hp → Prop} {r : R Val} {f : Val → R (List D)} (h : IK G W σ lk M R0 (r.bind f))
    (k : ∀ w v M1, Ext M M1 → VR G Fm M M1 w v → IK G W σ lk M R0 (f w) → Q' v M1.H) : Out G Fm W σ M Q' r := by
  cases r with
  | ok w => exact fun v M1 e q => k w v M1 e q h
  | exc c => exact h
  | bad => exact h
theorem IK.of {lk : Bool} {R0 : L2.It → Hp → Prop} {α : Type} {r : Option α} {f : α → R (List D)} (h : IK G W σ lk M R0 ((R.of r).bind f)) : ∃ a, r = some a ∧ IK G W σ lk M R0 (f a) := by
  cases r with
  | some a => exact ⟨a, rfl, h⟩
  | none => exact h.elim
theorem IK.frz {lk : Bool} {R0 : L2.It → Hp → Prop} {w : Val} {f : D → R (List D)} (h : IK G W σ lk M R0 ((frz w).bind f)) : ∃ d, frz w = .ok d ∧ IK G W σ lk M R0 (f d) := by
  rcases frz_cases w with ⟨d, hd⟩ | hd
  · rw [hd] at h; exact ⟨d, hd, h⟩
  · rw [hd] at h; exact h.elim
theorem si_rg1 {tg a' : Expr} {a : E} {p p2 : Pos} (hg : glB sc "range" = true) (hs : starB a' = false) (ha : SE Γ G cf ini np io k N sc a' a) : SI Γ G cf ini np io k N sc tg (.Call (.Name "range" p) [a'] [] p2) (.rg1 a) := by
  intro lk X Fm W xo pn tk
  obtain ⟨g, nb⟩ := xo.gl hg
  refine (pi_range1 g (xo.fc.free _ (by decide +kernel)) (pa_cons (ha X Fm W xo pn tk).1 pa_nil (star_each hs)) (star_each hs)).imp fun σ H R0 h => ?_
  obtain ⟨S, env, er, h⟩ := tI_ik h
  refine ⟨S, env, er, ?_⟩
  simp only [evi] at h
  refine Out.stepI h fun w v M1 e1 q1 h1 => ?_
  obtain ⟨i, hi, h1⟩ := h1.of
  by_cases hn : near i = true
  · simp only [if_pos hn] at h1
    obtain ⟨F, o1⟩ := q1.own
    refine ⟨i, by rw [asInt_of o1 hi], (near_ok hn).1, (near_ok hn).2, h1 _ M1 e1 ?_⟩
    have y := yields_rng (G := G) (lk := lk) (M0 := M1) (lo := 0) (hi := i)
    rwa [Int.sub_zero] at y
  · simp only [if_neg hn] at h1
    exact h1.elim
theorem si_rg2 {tg a' b' : Expr} {a b : E} {p p2 : Pos} (hg : glB sc "range" = true) (hs : starB a' = false) (hs2 : starB b' = false) (ha : SE Γ G cf ini np io k N sc a' a) (hb : SE Γ G cf ini np io k N sc b' b) :
    SI Γ G cf ini np io k N sc tg (.Call (.Name "range" p) [a', b'] [] p2) (.rg2 a b) := by
  intro lk X Fm W xo pn tk
  obtain ⟨g, nb⟩ := xo.gl hg
  refine (pi_range2 g (xo.fc.free _ (by decide +kernel)) (tuple2 (ha X Fm W xo pn tk).1 (hb X Fm W xo pn tk).1 hs hs2) (by rw [star_each hs, star_each hs2]; rfl) (star_each hs2)).imp fun σ H R0 h => ?_
  obtain ⟨S, env, er, h⟩ := tI_ik h
  refine ⟨S, env, er, ?_⟩
  simp only [evi] at h
  refine Out.stepI h fun w v M1 e1 q1 h1 => ⟨M1.S, env, er.ext e1, Out.stepI (h1.ext e1) fun w2 v2 M2 e2 q2 h2 => ?_⟩
  obtain ⟨i, hi, h2⟩ := h2.of
  obtain ⟨j, hj, h2⟩ := h2.of
  by_cases hn : near i = true ∧ near j = true
  · simp only [if_pos hn] at h2
    obtain ⟨F, o1⟩ := (q1.ext e2).own
    obtain ⟨F2, o2⟩ := q2.own
    exact ⟨i, j, by rw [asInt_of o1 hi, asInt_of o2 hj], ⟨(near_ok hn.1).1, (near_ok hn.1).2, (near_ok hn.2).1, (near_ok hn.2).2⟩, h2 _ M2 e2 yields_rng⟩
  · simp only [if_neg hn] at h2
    exact h2.elim
theorem si_enu {a' : Expr} {a : E} {el : List Expr} {kk : Nat} {p p2 p3 : Pos} (hg : glB sc "enumerate" = true) (hs : starB a' = false) (ha : SE Γ G cf ini np io k N sc a' a) : SI Γ G cf ini np io k N sc (.Tuple el kk p3) (.Call (.Name "enumerate" p) [a'] [] p2) (.enu a) := by
  intro lk X Fm W xo pn tk
  obtain ⟨g, nb⟩ := xo.gl hg
  refine (pi_enum g (xo.fc.free _ (by decide +kernel)) (pa_cons (ha X Fm W xo pn tk).1 pa_nil (star_each hs)) (star_each hs)).imp fun σ H R0 h => ?_
  obtain ⟨S, env, er, h⟩ := tI_ik h
  refine ⟨S, env, er, ?_⟩
  simp only [evi] at h
  refine Out.stepI h fun w v M1 e1 q1 h1 => ?_
  obtain ⟨d, hd, h1⟩ := h1.frz
  obtain ⟨M2, eH, e2, rp⟩ := freeze q1 hd e1
  cases d with
  | lst ds =>
    simp only [Rep] at rp
    obtain ⟨b, vs, rfl, sa, q, r⟩ := rp
    rw [← eH]
    exact ⟨b, vs, rfl, SqL.of q, h1 _ M2 e2 (yields_enum (.inl sa) q r)⟩
  | _ => exact h1.elim
theorem si_rev {tg a' : Expr} {a : E} {p p2 : Pos} (hg : glB sc "reversed" = true) (hs : starB a' = false) (ha : SE Γ G cf ini np io k N sc a' a) : SI Γ G cf ini np io k N sc tg (.Call (.Name "reversed" p) [a'] [] p2) (.rev a) := by
  intro lk X Fm W xo pn tk
  obtain ⟨g, nb⟩ := xo.gl hg
  refine (RT.pi_revA g (xo.fc.free _ (by decide +kernel)) (ha X Fm W xo pn tk).1 (star_each hs)).imp fun σ H R0 h => ?_
  obtain ⟨S, env, er, h⟩ := tI_ik h
  refine ⟨S, env, er, ?_⟩
  simp only [evi] at h
  refine Out.stepI h fun w v M1 e1 q1 h1 => ?_
  obtain ⟨d, hd, h1⟩ := h1.frz
  obtain ⟨M2, eH, e2, rp⟩ := freeze q1 hd e1
  cases d with
  | lst ds =>
    simp only [Rep] at rp
    obtain ⟨b, vs, rfl, sa, q, r⟩ := rp
    rw [← eH]
    exact ⟨b, vs, rfl, .inl ⟨SqL.of q, h1 _ M2 e2 (yields_revL (.inl sa) q r)⟩⟩
  | tup _ ds =>
    simp only [Rep] at rp
    obtain ⟨b, vs, rfl, sa, q, r⟩ := rp
    rw [← eH]
    exact ⟨b, vs, rfl, .inr ⟨.inl q.rd, h1 _ M2 e2 (yields_revT (.inl sa) q.rd r)⟩⟩
  | _ => exact h1.elim
theorem si_zip {a' b' : Expr} {a b : E} {el : List Expr} {kk : Nat} {p p2 p3 : Pos} (hg : glB sc "zip" = true) (hs : starB a' = false) (hs2 : starB b' = false) (ha : SE Γ G cf ini np io k N sc a' a) (hb : SE Γ G cf ini np io k N sc b' b) :
    SI Γ G cf ini np io k N sc (.Tuple el kk p3) (.Call (.Name "zip" p) [a', b'] [] p2) (.zip a b) := by
  intro lk X Fm W xo pn tk
  obtain ⟨g, nb⟩ := xo.gl hg
  refine (RZ.pi_zipA g (xo.fc.free _ (by decide +kernel)) (tuple2 (ha X Fm W xo pn tk).1 (hb X Fm W xo pn tk).1 hs hs2) (star_each hs) (star_plain (by simp [noStar, hs2]))).imp fun σ H R0 h => ?_
  obtain ⟨S, env, er, h⟩ := tI_ik h
  refine ⟨S, env, er, ?_⟩
  simp only [evi] at h
  refine Out.stepI h fun w v M1 e1 q1 h1 => ?_
  obtain ⟨d, hd, h1⟩ := h1.frz
  obtain ⟨M1', eH, e1', rp⟩ := freeze q1 hd e1
  rw [← eH]
  refine ⟨M1'.S, env, er.ext e1', Out.stepI (h1.ext e1') fun w2 v2 M2 e2 q2 h2 => ?_⟩
  obtain ⟨d', hd', h2⟩ := h2.frz
  obtain ⟨M2', eH2, e2', rp2⟩ := freeze q2 hd' e2
  have rp1 := rp.mono e2'.keep
  rw [← eH2]
  cases d with
  | lst ds =>
    cases d' with
    | lst ds' =>
      simp only [Rep] at rp1 rp2
      obtain ⟨b1, vs, rfl, sa, q, r⟩ := rp1
      obtain ⟨b2, us, rfl, sb, q', r'⟩ := rp2
      exact ⟨b1, b2, vs, us, rfl, .inl ⟨SqL.of q, SqL.of q', h2 _ M2' e2' (yields_zipL (.inl sa) (.inl sb) q q' r r')⟩⟩
    | _ => exact h2.elim
  | tup _ ds =>
    cases d' with
    | tup _ ds' =>
      simp only [Rep] at rp1 rp2
      obtain ⟨b1, vs, rfl, sa, q, r⟩ := rp1
      obtain ⟨b2, us, rfl, sb, q', r'⟩ := rp2
      exact ⟨b1, b2, vs, us, rfl, .inr ⟨.inl q.rd, .inl q'.rd, h2 _ M2' e2' (yields_zipT (.inl sa) (.inl sb) q.rd q'.rd r r')⟩⟩
    | _ => exact h2.elim
  | _ => exact h2.elim
/-! ### conditions -/
theorem sc_no : SC Γ G cf ini np io k N sc [] .no := fun X Fm W xo pn tk => ⟨fun pins s σ H Q I ⟨S, env, er, h⟩ => pts_nil.run pins s σ H Q I (h ⟨S, H⟩ (Ext.refl er.dom))⟩
theorem sc_so {e' : Expr} {e : E} (ht : tst e = true) (ha : SE Γ G cf ini np io k N sc e' e) : SC Γ G cf ini np io k N sc [e'] (.so e) := fun X Fm W xo pn tk => ⟨fun pins s σ H Q I ⟨S, env, er, h⟩ => by
  refine (pts_one ((ha X Fm W xo pn tk).2.1 ht)).run pins s σ H Q I ⟨S, env, er, ?_⟩
  simp only [evc] at h
  cases hq : ev cf ini e env with
  | bad => rw [hq] at h; exact h.elim
  | exc c => rw [hq] at h; exact h
  | ok w =>
    rw [hq] at h
    simp only [R.bind] at h
    intro v M1 e1 q1
    cases hb : asBl w.o with
    | none => rw [hb] at h; exact h.elim
    | some c =>
      rw [hb] at h
      obtain ⟨F, o1⟩ := q1.own
      exact ⟨c, asBl_of o1 hb, h M1 e1⟩⟩
theorem so_no : SO Γ G cf ini np io k N sc none .no := fun X Fm W xo pn tk => ⟨fun pins s σ H Q I ⟨S, env, er, h⟩ => po_none.run pins s σ H Q I (h ⟨S, H⟩ (Ext.refl er.dom))⟩
theorem so_so {e' : Expr} {e : E} (ha : SE Γ G cf ini np io k N sc e' e) : SO Γ G cf ini np io k N sc (some e') (.so e) := fun X Fm W xo pn tk => ⟨fun pins s σ H Q I ⟨S, env, er, h⟩ => by
  refine (po_some (ha X Fm W xo pn tk).1).run pins s σ H Q I ⟨S, env, er, ?_⟩
  simp only [evo] at h
  cases hq : ev cf ini e env with
  | bad => rw [hq] at h; exact h.elim
  | exc c => rw [hq] at h; exact h
  | ok w =>
    rw [hq] at h
    simp only [R.bind] at h
    intro v M1 e1 q1
    cases hb : asInt w.o with
    | none => rw [hb] at h; exact h.elim
    | some c =>
      rw [hb] at h
      obtain ⟨F, o1⟩ := q1.own
      exact ⟨c, asInt_of o1 hb, h M1 e1⟩⟩
end
end Ev

/-! EvB12 -/
set_option Elab.async false
set_option linter.all false
set_option maxRecDepth 100000
set_option maxHeartbeats 4000000
/-! EvB12: list comprehensions; all expressions. -/
namespace Ev
open PySem PySem.Spec PyProof.Rows L2
variable {G : Ctx} {Fm : Frm} {M M' M0 M1 M2 : Mem} {X : Cx} {env : Env} {σ : L2.St} {W : WX}
section
variable {Γ : Gm} {cf : Cf} {ini np : Nat → Nat} {io : Nat → List Nat} {k : Nat} {N : List Str} {sc : Scope}
/-- the list that a comprehension has made so far -/
structure Acc (G : Ctx) (M1 : Mem) (D : Addr) (done : List O) (vs : List V) (M : Mem) : Prop where
  x : Ext M1 M
  ns : ¬ M.S D
  at_ : M.H D = some (.lst vs)
  own : ∃ F, Owns G M done vs F ∧ F.Nodup ∧ D ∉ F ∧ ∀ a ∈ F, ¬ M.S a ∧ M1.H a = none
theorem Acc.ns' {D : Addr} {done : List O} {vs : List V} (h : Acc G M1 D done vs M) (e : Ext M M') : ¬ M'.S D := fun s => (e.n D s).elim h.ns fun z => by rw [h.at_] at z; cases z
theorem Acc.ext {D : Addr} {done : List O} {vs : List V} (h : Acc G M1 D done vs M) (e : Ext M M') : Acc G M1 D done vs M' := by
  obtain ⟨F, o1, n1, d1, f1⟩ := h.own
  exact ⟨h.x.trans e, h.ns' e, e.h D _ h.at_, F, o1.mono e.keep (fun a _ u q => e.h a u q), n1, d1, fun a ha => ⟨Ext.frame e (fun b hb => ⟨(f1 b hb).1, o1.there b hb⟩) a ha, (f1 a ha).2⟩⟩
theorem Acc.push {D : Addr} {done : List O} {vs : List V} {o : O} {v : V} (h : Acc G M1 D done vs M) (hD : M1.H D = none) (e : Ext M M') (q : VR G Fm M M' (.tm o) v) : Acc G M1 D (done ++ [o]) (vs ++ [v]) ⟨M'.S, upd M'.H D (.lst (vs ++ [v]))⟩ := by
  have x2 := h.x.trans e
  have ns2 := h.ns' e
  obtain ⟨F, o1, n1, d1, f1⟩ := h.own
  obtain ⟨F2, o2, n2, f2, g2⟩ := q
  have o1' : Owns G M' done vs F := o1.mono e.keep (fun a _ u q => e.h a u q)
  have keep : ∀ a u, a ≠ D → M'.H a = some u → upd M'.H D (.lst (vs ++ [v])) a = some u := fun a u hn z => (upd_ne hn).trans z
  have kp : Keep M' ⟨M'.S, upd M'.H D (.lst (vs ++ [v]))⟩ := ⟨fun _ s => s, fun a u s z => keep a u (fun e => by subst e; exact ns2 s) z⟩
  have dF2 : D ∉ F2 := fun z => by have := g2 D z; rw [h.at_] at this; cases this
  refine ⟨⟨x2.s, fun b u z => keep b u (ne_of_none z hD) (x2.h b u z), x2.n, fun a s z => ?_⟩, ns2, upd_same, F ++ F2,
    Owns.append (o1'.mono kp fun a ha u z => keep a u (fun e => by subst e; exact d1 ha) z) (Owns.one (o2.mono kp fun a ha u z => keep a u (fun e => by subst e; exact dF2 ha) z)), ?_, ?_, ?_⟩
  · have hn : a ≠ D := fun e => by subst e; exact ns2 s
    exact e.d a s ((upd_ne hn).symm.trans z)
  · refine List.nodup_append.mpr ⟨n1, n2, fun a ha b hb e => ?_⟩
    subst e
    exact o1.there a ha (g2 a hb)
  · intro z
    rcases List.mem_append.mp z with z | z
    · exact d1 z
    · exact dF2 z
  · intro a ha
    rcases List.mem_append.mp ha with ha | ha
    · exact ⟨Ext.frame e (fun b hb => ⟨(f1 b hb).1, o1.there b hb⟩) a ha, (f1 a ha).2⟩
    · exact ⟨(f2 a ha).1, same_none h.x.h (g2 a ha)⟩
theorem turns_cons {f : D → R (Option O)} {d : D} {ds : List D} {os : List O} (h : turns f (d :: ds) = .ok os) : ∃ r rest, f d = .ok r ∧ turns f ds = .ok rest ∧ os = (match r with
    | some o => o :: rest
    | none => rest) := by
  simp only [turns] at h
  cases h1 : f d with
  | ok r =>
    rw [h1] at h
    simp only [R.bind] at h
    cases h2 : turns f ds with
    | ok rest =>
      rw [h2] at h
      simp only [R.ok.injEq] at h
      exact ⟨r, rest, rfl, rfl, h.symm⟩
    | exc c => rw [h2] at h; cases h
    | bad => rw [h2] at h; cases h
  | exc c => rw [h1] at h; cases h
  | bad => rw [h1] at h; cases h
theorem turns_calm {f : D → R (Option O)} (hf : ∀ d c, f d ≠ .exc c) : ∀ {ds : List D} {c : Nat}, turns f ds ≠ .exc c
  | [], c => by simp [turns]
  | d :: ds, c => by
    simp only [turns]
    cases h1 : f d with
    | ok r =>
      simp only [R.bind]
      cases h2 : turns f ds with
      | ok rest => simp
      | exc c' => exact absurd h2 (turns_calm hf)
      | bad => simp
    | exc c' => exact absurd h1 (hf d c')
    | bad => simp [R.bind]
theorem calm_ok {α : Type} {r : R α} {a : α} (h : calmR r = .ok a) : r = .ok a := by
  cases r <;> simp [calmR] at h
  rw [h]
/-- one turn of a comprehension, from its end -/
def turnF (cf : Cf) (ini : Nat → Nat) (tg : Tg) (own : List Nat) (c : OE) (e : E) (env : Env) (d : D) : R (Option O) := match setTg tg d (Ev.wipe env own) with
  | none => .bad
  | some env' => calmR ((evc cf ini c env').bind fun b => match b with
    | true => (ev cf ini e env').bind fun x => (keep x).bind fun o => .ok (some o)
    | false => .ok none)
theorem turn_cases {tg : Tg} {own : List Nat} {c : OE} {e : E} {env : Env} {d : D} {r : Option O} (h : turnF cf ini tg own c e env d = .ok r) : ∃ env', setTg tg d (Ev.wipe env own) = some env' ∧
    ((evc cf ini c env' = .ok false ∧ r = none) ∨ ∃ o, evc cf ini c env' = .ok true ∧ ev cf ini e env' = .ok (.tm o) ∧ r = some o) := by
  unfold turnF at h
  split at h
  · cases h
  · rename_i env' he
    refine ⟨env', he, ?_⟩
    have h' := calm_ok h
    cases h1 : evc cf ini c env' with
    | ok b =>
      rw [h1] at h'
      cases b with
      | false =>
        simp only [R.bind, R.ok.injEq] at h'
        exact .inl ⟨rfl, h'.symm⟩
      | true =>
        simp only [R.bind] at h'
        cases h2 : ev cf ini e env' with
        | ok w =>
          rw [h2] at h'
          cases w with
          | tm o =>
            simp only [keep, R.ok.injEq] at h'
            exact .inr ⟨o, rfl, rfl, h'.symm⟩
          | al o => simp only [keep] at h'; cases h'
        | exc c => rw [h2] at h'; cases h'
        | bad => rw [h2] at h'; cases h'
    | exc c => rw [h1] at h'; cases h'
    | bad => rw [h1] at h'; cases h'
theorem blkX {k' : Nat} {scope : Scope} {s : Shared} {H : Hp} {C : Addr} {cl : List (Str × Addr)} {fp : List Addr} (xo : XOk Γ G cf ini np io k' N sc X) : XOk Γ G cf ini np io k' N (rel scope sc) (X.blk s H scope (compEnvC scope cl C X.env) fp) where
  hN := xo.hN
  nd := xo.nd
  sc := by rw [← xo.sc]; rfl
  calm := xo.calm
  room := xo.room
  fc := xo.fc
theorem lc_read {tg : Tg} {it : It} {c : OE} {e : E} {own : List Nat} {σ : L2.St} {H : Hp} {Q : VK} (hown : ∀ i ∈ own, ∀ p ∈ Fm.pin, p.1 ≠ i) (htg : ∀ i ∈ tgS tg, i ∈ own) (h : tE G Fm cf ini W (.lc own tg it c e) σ H Q) :
    tLc (tI G cf ini true Fm W it) (tG G Fm tg) (tC' G cf ini Fm (fun _ _ _ _ => False) c) (tE G Fm cf ini (fun _ _ _ _ => False) e) own σ H Q := by
  obtain ⟨S, env, er, h⟩ := h
  refine ⟨S, env, er, ?_⟩
  simp only [ev] at h
  cases hq : evi cf ini true it env with
  | bad => rw [hq] at h; exact h.elim
  | exc c => rw [hq] at h; exact h
  | ok ds =>
    rw [hq] at h
    simp only [R.bind] at h
    by_cases hz : ds.length ≤ sizeMax
    · simp only [if_pos hz] at h
      intro J M1 x1 yl D hD
      obtain ⟨f, hf, h⟩ : ∃ f, (∀ d, f d = turnF cf ini tg own c e env d) ∧ Out G Fm W σ ⟨S, H⟩ Q ((turns f ds).bind fun os => .ok (.tm (.l os))) := by
        refine ⟨_, fun d => ?_, h⟩
        unfold turnF
        cases setTg tg d (Ev.wipe env own) with
        | none => rfl
        | some env' =>
          simp only
          all_goals
            cases evc cf ini c env' with
            | ok b =>
              cases b with
              | false => rfl
              | true => rfl
            | exc c => rfl
            | bad => rfl
      obtain rfl : f = turnF cf ini tg own c e env := funext hf
      cases ht : turns (turnF cf ini tg own c e env) ds with
      | bad => rw [ht] at h; exact h.elim
      | exc c =>
        refine absurd ht (turns_calm fun d c' z => ?_)
        unfold turnF at z
        split at z
        · cases z
        · revert z
          generalize (Ev.R.bind _ _) = rr
          intro z
          cases rr <;> simp [calmR] at z
      | ok os =>
        rw [ht] at h
        have er1 := er.ext x1
        let WI : Nat → Hp → Prop := fun i H => ∃ M done rest vs, M.H = H ∧ Acc G M1 D done vs M ∧ done.length ≤ i ∧ turns (turnF cf ini tg own c e env) (ds.drop i) = .ok rest ∧ os = done ++ rest
        refine ⟨fun i m H => m = ds.length - i ∧ i ≤ ds.length ∧ WI i H, ⟨ds.length, rfl, Nat.zero_le _, ⟨M1.S, upd M1.H D (.lst [])⟩, [], os, [], rfl, ?_, Nat.le_refl _, ht, rfl⟩, ?_⟩
        · have x2 := ext_upd (M := M1) (p := D) (o := .lst []) x1.d hD
          exact ⟨x2, fun s => x1.d D s hD, upd_same, [], by simp only [Owns]; exact ⟨trivial, trivial⟩, List.nodup_nil, by simp, by simp⟩
        · rintro i m H2 ⟨rfl, hi, M, done, rest, vs, rfl, ac, hl, hr, ho⟩
          have stay : Stay true M1 M := ⟨ac.x.keep, fun _ => ac.x.h⟩
          by_cases hlt : i < ds.length
          · refine .inr ⟨yl.go i M stay hlt, fun H => ds.length - (i + 1) = ds.length - (i + 1) ∧ i + 1 ≤ ds.length ∧ WI (i + 1) H, fun H' q => ⟨ds.length - (i + 1), by omega, q⟩, fun x H' y => ?_⟩
            obtain ⟨M2, d, eH, e2, hd, rp⟩ := yl.yld i M x H' hlt stay ac.x.d y
            subst eH
            rw [List.drop_eq_getElem_cons hlt] at hr
            have hde : ds[i] = d := by
              rw [List.getElem?_eq_getElem hlt] at hd
              exact Option.some.inj hd
            rw [hde] at hr
            obtain ⟨r, rest', h1, h2, h3⟩ := turns_cons hr
            obtain ⟨env', he, hcase⟩ := turn_cases h1
            have er2 : ER G Fm M2 (Ev.wipe env own) (L2.wipe σ own) := ((er1.ext ac.x).ext e2).wipe hown
            refine ⟨M2.S, Ev.wipe env own, d, env', er2, rp, he, fun σ2 er3 s2 => ⟨(s2 own htg).trans wipe_wipe, M2.S, env', er3, ?_⟩⟩
            have ac2 := ac.ext e2
            rcases hcase with ⟨hc, rfl⟩ | ⟨o, hc, heo, rfl⟩
            · rw [hc]
              intro M3 e3
              rw [if_neg Bool.false_ne_true]
              refine ⟨rfl, hlt, M3, done, rest', vs, rfl, ac2.ext e3, Nat.le_succ_of_le hl, h2, ?_⟩
              rw [ho, h3]
            · rw [hc]
              intro M3 e3
              rw [if_pos rfl]
              refine ⟨M3.S, env', er3.ext e3, ?_⟩
              rw [heo]
              intro v M4 e4 q4
              have ac3 := ac2.ext e3
              have ac4 := ac3.ext e4
              refine ⟨vs, ac4.at_, ?_, rfl, hlt, _, done ++ [o], rest', vs ++ [v], rfl, ac3.push hD e4 q4, by simp; omega, h2, ?_⟩
              · obtain ⟨F, o1, _⟩ := ac4.own
                rw [o1.length, ← line]
                omega
              · rw [ho, h3]
                simp
          · have hie : ds.length ≤ i := Nat.le_of_not_lt hlt
            refine .inl ⟨yl.stop i M stay hie, ?_⟩
            rw [List.drop_eq_nil_of_le hie] at hr
            simp only [turns, R.ok.injEq] at hr
            subst hr
            rw [List.append_nil] at ho
            subst ho
            obtain ⟨F, o1, n1, d1, f1⟩ := ac.own
            refine h _ M (x1.trans ac.x) ⟨D :: F, ?_, List.nodup_cons.mpr ⟨d1, n1⟩, ?_, ?_⟩
            · simp only [Val.o, Own]
              exact ⟨D, vs, F, rfl, rfl, ac.at_, o1⟩
            · intro a ha
              rcases List.mem_cons.mp ha with rfl | ha
              · exact ⟨ac.ns, .inl (er1.h0 hD)⟩
              · exact ⟨(f1 a ha).1, .inl (er1.h0 (f1 a ha).2)⟩
            · intro a ha
              rcases List.mem_cons.mp ha with rfl | ha
              · exact same_none x1.h hD
              · exact same_none x1.h (f1 a ha).2
    · simp only [if_neg hz] at h
      exact h.elim
/-- X's own pins do not matter -/
theorem se_lc {own : List Nat} {ow : List (Str × Nat)} {tg : Tg} {it : It} {c : OE} {e : E} {e' tg' it' : Expr} {ifs : List Expr} {scope : Scope} {p : Pos} (how : ow.map (·.2) = own) (hb : blkC N sc scope ow = true) (hio : ∀ i ∈ own, i ∉ Γ.io) (htg : ∀ i ∈ tgS tg, i ∈ own)
    (hset : ∀ env x, foldedSetIterable it' env x = pure x) (ht : trT (fun x => decide (scope.names.lookup x = some .cell)) Γ.io N (rel scope sc) tg tg' = true) (hi : SI Γ G cf ini np io k N sc tg' it' it) (hc : SC Γ G cf ini np io k N (rel scope sc) ifs c) (he : SE Γ G cf ini np io k N (rel scope sc) e' e) :
    SE Γ G cf ini np io k N sc (.ListComp e' [⟨tg', it', ifs, 0⟩] scope p) (.lc own tg it c e) := by
  refine SE.of (fun X Fm W xo pn tk => ?_) (fun _ _ => rfl) (fun _ _ _ => nofun)
  have ok : BlkOk X.N X.env.scope scope ow := by rw [xo.hN, xo.sc]; exact blkOk_by hb
  refine (pe_lc (g := tG G Fm tg) xo.calm (by rw [xo.hN]; exact xo.nd) (hi true X Fm W xo pn tk) ok (fun s H C cl fp => ?_) (fun s H C cl fp => hc _ Fm _ (blkX xo) pn takes0) (fun s H C cl fp => (he _ Fm _ (blkX xo) pn takes0).1) (hset _)).imp fun σ H Q h => ?_
  · have xb := blkX (scope := scope) (s := s) (H := H) (C := C) (cl := cl) (fp := fp) xo
    refine pg_ok (X := X.blk s H scope (compEnvC scope cl C X.env) fp) (ce := fun x => decide (scope.names.lookup x = some .cell)) (io := Γ.io) (N := N) (sc := rel scope sc) ⟨xb.hN, xb.nd, xb.sc, xb.calm, fun x hx => ?_, pn⟩ tg tg' ht
    show (scope.names.lookup x == some .cell) = true
    simpa using hx
  · rw [how]
    exact lc_read (fun i hi p hp e => hio i hi (e ▸ pn p hp)) htg h
end
end Ev

/-! EvB13 -/
set_option Elab.async false
set_option linter.all false
set_option maxRecDepth 100000
set_option maxHeartbeats 8000000
/-! EvB13: every checked expression is sound. -/
namespace Ev
open PySem PySem.Spec PyProof.Rows L2
variable {G : Ctx} {Fm : Frm} {M M' M0 M1 M2 : Mem} {X : Cx} {env : Env} {σ : L2.St} {W : WX}
/-- what the callees' evaluator keeps -/
structure CfOk (cf : Cf) (np : Nat → Nat) (io : Nat → List Nat) : Prop where
  np : ∀ f os, cf f os ≠ .bad → os.length = np f
  io : ∀ f os o outs, cf f os = .ok o outs → outs.length = (io f).length
section
variable {Γ : Gm} {cf : Cf} {ini np : Nat → Nat} {io : Nat → List Nat} {k : Nat} {N : List Str}
theorem ses_star {sc : Scope} : ∀ {es : Es} {es' : List Expr}, trEs Γ N sc es es' = true → noStar es' = true
  | .nil, [], _ => rfl
  | .nil, _ :: _, h => by simp [trEs] at h
  | .cons _ _, [], h => by simp [trEs] at h
  | .cons e es, a :: as, h => by
    simp only [trEs, Bool.and_eq_true, Bool.not_eq_true'] at h
    simp only [noStar, List.all_cons, Bool.and_eq_true, Bool.not_eq_true']
    exact ⟨h.1.2, ses_star h.2⟩
theorem mapM_own {own : List Nat} {ow : List (Str × Nat)} (h : (own.mapM fun i => (N[i]?).map fun x => (x, i)) = some ow) : ow.map (·.2) = own := by
  induction own generalizing ow with
  | nil => simp at h; subst h; rfl
  | cons a r ih =>
    simp only [List.mapM_cons, Option.bind_eq_bind, Option.bind_eq_some_iff, Option.map_eq_some_iff, Option.pure_def, Option.some.injEq] at h
    obtain ⟨p, ⟨x, _, rfl⟩, q, h2, rfl⟩ := h
    simp [ih h2]
theorem fold_set {e' : Expr} (h : isSet e' = false) (env : PySem.Env) (x : Value) : foldedSetIterable e' env x = pure x := by
  cases e' <;> first | rfl | (simp [isSet] at h; done)
theorem sndI_set {sc : Scope} (it : It) (tg' it' : Expr) (h : trI Γ N sc it tg' it' = true) : isSet it' = false := by
  cases it <;> simp only [trI] at h
  · simp only [Bool.and_eq_true, Bool.not_eq_true'] at h
    exact h.2
  all_goals
    split at h
    · rfl
    · cases h
variable (co : CfOk cf np io)
include co
theorem hio0 (f : Nat) (os : List O) (o : O) (h : cf f os = .ok o []) : io f = [] := by
  have := co.io f os o [] h
  simpa using this.symm
mutual
theorem sndE : ∀ (e : E) (sc : Scope) (e' : Expr), trE Γ N sc e e' = true → SE Γ G cf ini np io k N sc e' e
  | .var i, sc, e', h => by
    cases e' with
    | Name x p =>
      simp only [trE, Bool.and_eq_true, decide_eq_true_eq] at h
      exact se_var h.1.1 h.1.2 h.2
    | _ => simp [trE] at h
  | .int i, sc, e', h => by
    cases e' with
    | Constant c j p =>
      cases c with
      | int j =>
        simp only [trE, decide_eq_true_eq] at h
        subst h
        exact se_const (d := .int i) (v := .int i) (fun _ => by simp only [ev]) (fun _ => by simp only [Rep]) (fun X => pe_int)
      | _ => simp [trE] at h
    | _ => simp [trE] at h
  | .bl i, sc, e', h => by
    cases e' with
    | Constant c j p =>
      cases c with
      | bool j =>
        simp only [trE, beq_iff_eq] at h
        subst h
        exact se_const (d := .bl i) (v := .bl i) (fun _ => by simp only [ev]) (fun _ => by simp only [Rep]) (fun X => pe_bl)
      | _ => simp [trE] at h
    | _ => simp [trE] at h
  | .non, sc, e', h => by
    cases e' with
    | Constant c j p =>
      cases c with
      | none => exact se_const (d := .non) (v := .non) (fun _ => by simp only [ev]) (fun _ => by simp only [Rep]) (fun X => pe_non)
      | _ => simp [trE] at h
    | _ => simp [trE] at h
  | .str x, sc, e', h => by
    cases e' with
    | Constant c j p =>
      cases c with
      | str y =>
        simp only [trE, decide_eq_true_eq] at h
        subst h
        exact se_const (d := .str x) (v := .str x) (fun _ => by simp only [ev]) (fun _ => by simp only [Rep]) (fun X => pe_str)
      | _ => simp [trE] at h
    | _ => simp [trE] at h
  | .gst n x, sc, e', h => by
    cases e' with
    | Name y p =>
      simp only [trE, Bool.and_eq_true, decide_eq_true_eq] at h
      obtain ⟨⟨rfl, h1⟩, h2⟩ := h
      exact se_gst h1 h2
    | _ => simp [trE] at h
  | .bin op a b, sc, e', h => by
    cases e' with
    | BinOp a' op' b' p =>
      simp only [trE, Bool.and_eq_true, decide_eq_true_eq] at h
      obtain ⟨⟨rfl, h1⟩, h2⟩ := h
      exact se_bin (sndE a sc a' h1) (sndE b sc b' h2)
    | _ => simp [trE] at h
  | .neg a, sc, e', h => by
    cases e' with
    | UnaryOp op a' p =>
      cases op with
      | USub =>
        simp only [trE] at h
        exact se_neg (sndE a sc a' h)
      | _ => simp [trE] at h
    | _ => simp [trE] at h
  | .cmp op a b, sc, e', h => by
    cases e' with
    | Compare a' ops bs p =>
      match ops, bs, h with
      | [op'], [b'], h =>
        simp only [trE, Bool.and_eq_true, decide_eq_true_eq, Bool.not_eq_true'] at h
        obtain ⟨⟨⟨rfl, h1⟩, h2⟩, h3⟩ := h
        exact se_cmp h3 (sndE a sc a' h1) (sndE b sc b' h2)
      | [], _, h => simp [trE] at h
      | [_], [], h => simp [trE] at h
      | [_], _ :: _ :: _, h => simp [trE] at h
      | _ :: _ :: _, _, h => simp [trE] at h
    | _ => simp [trE] at h
  | .chn op op2 a b c, sc, e', h => by
    cases e' with
    | Compare a' ops bs p =>
      match ops, bs, h with
      | [o1, o2], [b', c'], h =>
        simp only [trE, Bool.and_eq_true, decide_eq_true_eq, Bool.not_eq_true'] at h
        obtain ⟨⟨⟨⟨⟨rfl, rfl⟩, h1⟩, h2⟩, h3⟩, h4⟩ := h
        exact se_chn h4 (sndE a sc a' h1) (sndE b sc b' h2) (sndE c sc c' h3)
      | [], _, h => simp [trE] at h
      | [_], _, h => simp [trE] at h
      | [_, _], [], h => simp [trE] at h
      | [_, _], [_], h => simp [trE] at h
      | [_, _], _ :: _ :: _ :: _, h => simp [trE] at h
      | _ :: _ :: _ :: _, _, h => simp [trE] at h
    | _ => simp [trE] at h
  | .and_ a b, sc, e', h => by
    cases e' with
    | BoolOp op vs p =>
      match op, vs, h with
      | .And, x :: y :: rest, h =>
        simp only [trE, Bool.and_eq_true] at h
        exact se_and (sndE a sc x h.1) (sndE b sc _ h.2)
      | .And, [], h => simp [trE] at h
      | .And, [_], h => simp [trE] at h
      | .Or, _, h => simp [trE] at h
    | _ => simp [trE] at h
  | .or_ a b, sc, e', h => by
    cases e' with
    | BoolOp op vs p =>
      match op, vs, h with
      | .Or, x :: y :: rest, h =>
        simp only [trE, Bool.and_eq_true] at h
        exact se_or (sndE a sc x h.1) (sndE b sc _ h.2)
      | .Or, [], h => simp [trE] at h
      | .Or, [_], h => simp [trE] at h
      | .And, _, h => simp [trE] at h
    | _ => simp [trE] at h
  | .not_ a, sc, e', h => by
    cases e' with
    | UnaryOp op a' p =>
      cases op with
      | Not =>
        simp only [trE] at h
        exact se_not (sndE a sc a' h)
      | _ => simp [trE] at h
    | _ => simp [trE] at h
  | .ite c a b, sc, e', h => by
    cases e' with
    | IfExp c' a' b' p =>
      simp only [trE, Bool.and_eq_true] at h
      exact se_ite h.1.1.2 (sndE c sc c' h.1.1.1) (sndE a sc a' h.1.2) (sndE b sc b' h.2)
    | _ => simp [trE] at h
  | .tup es, sc, e', h => by
    cases e' with
    | Tuple es' j p =>
      simp only [trE] at h
      exact se_tup (sndEs es sc es' h)
    | _ => simp [trE] at h
  | .lst es, sc, e', h => by
    cases e' with
    | List es' p =>
      simp only [trE] at h
      exact se_lst (sndEs es sc es' h)
    | _ => simp [trE] at h
  | .idx a i, sc, e', h => by
    cases e' with
    | Subscript a' i' p =>
      simp only [trE, Bool.and_eq_true] at h
      exact se_idx h.2 (sndE a sc a' h.1.1) (sndE i sc i' h.1.2)
    | _ => simp [trE] at h
  | .slc a lo hi, sc, e', h => by
    cases e' with
    | Subscript a' i' p =>
      cases i' with
      | Slice l u st p2 =>
        cases st with
        | none =>
          simp only [trE, Bool.and_eq_true] at h
          exact se_slc (sndE a sc a' h.1.1) (sndO lo sc l h.1.2) (sndO hi sc u h.2)
        | some _ => simp [trE] at h
      | _ => simp [trE] at h
    | _ => simp [trE] at h
  | .fld c f a, sc, e', h => by
    cases e' with
    | Attribute a' nm p =>
      simp only [trE, Bool.and_eq_true] at h
      obtain ⟨⟨h1, h2⟩, h3⟩ := h
      split at h3
      · rename_i q hq
        exact se_fld h2 hq (of_decide_eq_true h3) (sndE a sc a' h1)
      · cases h3
    | _ => simp [trE] at h
  | .bi f es, sc, e', h => by
    cases e' with
    | Call fn as kws p =>
      match as, kws, h with
      | a :: as, [], h =>
        cases fn with
        | Name x p2 =>
          simp only [trE, Bool.and_eq_true] at h
          obtain ⟨⟨h1, h2⟩, h3⟩ := h
          split at h1
          · rename_i id hid
            exact se_bg hid (of_decide_eq_true h1) h2 (ses_star h3) (sndEs es sc (a :: as) h3)
          · exact se_bi (of_decide_eq_true h1) h2 (ses_star h3) (sndEs es sc (a :: as) h3)
        | _ => simp [trE] at h
      | _, _ :: _, h => simp [trE] at h
      | [], [], h => simp [trE] at h
    | _ => simp [trE] at h
  | .mt m a aes, sc, e', h => by
    cases aes with
    | nil => simp [trE] at h
    | cons e r =>
      cases r with
      | cons _ _ => simp [trE] at h
      | nil =>
        cases e' with
        | Call fn as kws cpos =>
          match as, kws, h with
          | [e''], [], h =>
            cases fn with
            | Attribute a' nm apos =>
              simp only [trE, Bool.and_eq_true, Bool.not_eq_true', decide_eq_true_eq] at h
              obtain ⟨⟨⟨⟨⟨h1, h2⟩, h3⟩, h4⟩, h5⟩, h6⟩ := h
              cases m <;> simp only [mtName, Option.some.injEq, reduceCtorEq] at h1
              subst h1
              exact se_index h3 h5 h6 (sndE a sc a' h2) (sndE e sc e'' h4)
            | _ => simp [trE] at h
          | _, _ :: _, h => simp [trE] at h
          | [], [], h => simp [trE] at h
          | _ :: _ :: _, [], h => simp [trE] at h
        | _ => simp [trE] at h
  | .isi a t, sc, e', h => by
    cases e' with
    | Call fn as kws p =>
      match as, kws, h with
      | [a', b'], [], h =>
        cases fn with
        | Name x p2 =>
          cases b' with
          | Name y p3 =>
            simp only [trE, Bool.and_eq_true, decide_eq_true_eq, Bool.not_eq_true'] at h
            obtain ⟨⟨⟨⟨⟨rfl, h1⟩, h2⟩, h3⟩, h4⟩, h5⟩ := h
            cases t with
            | cls c =>
              simp only at h5
              split at h5
              · rename_i q hq
                simp only [Bool.and_eq_true, decide_eq_true_eq] at h5
                obtain ⟨rfl, h6⟩ := h5
                exact se_isc h3 h1 h4 hq h6 (sndE a sc a' h2)
              · cases h5
            | int => exact se_isi h3 h1 h4 (by simpa using h5) (sndE a sc a' h2)
            | bool => exact se_isi h3 h1 h4 (by simpa using h5) (sndE a sc a' h2)
            | str => exact se_isi h3 h1 h4 (by simpa using h5) (sndE a sc a' h2)
            | list => exact se_isi h3 h1 h4 (by simpa using h5) (sndE a sc a' h2)
            | tuple => exact se_isi h3 h1 h4 (by simpa using h5) (sndE a sc a' h2)
          | _ => simp [trE] at h
        | _ => simp [trE] at h
      | _, _ :: _, h => simp [trE] at h
      | [], [], h => simp [trE] at h
      | [_], [], h => simp [trE] at h
      | _ :: _ :: _ :: _, [], h => simp [trE] at h
    | _ => simp [trE] at h
  | .call f es ds, sc, e', h => by
    cases e' with
    | Call fn as kws p =>
      match as, kws, h with
      | a :: as, [], h =>
        cases fn with
        | Name x p2 =>
          simp only [trE, Bool.and_eq_true] at h
          obtain ⟨⟨h1, h2⟩, h3⟩ := h
          split at h3
          · rename_i q hq
            simp only [Bool.and_eq_true, decide_eq_true_eq, List.any_eq_true] at h3
            obtain ⟨h3, l, h4, h5⟩ := h3
            obtain ⟨rfl, h6⟩ := sameFs_ok h5
            exact se_call (co.np f) (hio0 co f) hq h3 h4 h6 h1 (ses_star h2) (sndEs es sc (a :: as) h2)
          · cases h3
        | _ => simp [trE] at h
      | _, _ :: _, h => simp [trE] at h
      | [], [], h => simp [trE] at h
    | _ => simp [trE] at h
  | .nev, sc, e', h => se_nev
  | .callb f es ds, sc, e', h => by
    cases e' with
    | Call fn as kws p =>
      match as, kws, h with
      | a :: as, [], h =>
        cases fn with
        | Name x p2 =>
          simp only [trE, Bool.and_eq_true] at h
          obtain ⟨⟨h1, h2⟩, h3⟩ := h
          split at h3
          · rename_i q hq
            simp only [Bool.and_eq_true, decide_eq_true_eq, List.any_eq_true] at h3
            obtain ⟨h3, l, h4, h5⟩ := h3
            obtain ⟨rfl, h6⟩ := sameFs_ok h5
            exact se_callb (co.np f) (hio0 co f) hq h3 h4 h6 h1 (ses_star h2) (sndEs es sc (a :: as) h2)
          · cases h3
        | _ => simp [trE] at h
      | _, _ :: _, h => simp [trE] at h
      | [], [], h => simp [trE] at h
    | _ => simp [trE] at h
  | .mk c es ds, sc, e', h => by
    cases e' with
    | Call fn as kws p =>
      match as, kws, h with
      | a :: as, [], h =>
        cases fn with
        | Name x p2 =>
          simp only [trE, Bool.and_eq_true, List.any_eq_true] at h
          obtain ⟨⟨⟨h1, h2⟩, h3⟩, l, h4, h5⟩ := h
          split at h3
          · rename_i q hq
            simp only [Bool.and_eq_true, decide_eq_true_eq] at h3
            obtain ⟨rfl, h6⟩ := sameFs_ok h5
            exact se_mk (co.np _) hq h3.1 h3.2 h4 h6 h1 (ses_star h2) (sndEs es sc (a :: as) h2)
          · cases h3
        | _ => simp [trE] at h
      | _, _ :: _, h => simp [trE] at h
      | [], [], h => simp [trE] at h
    | _ => simp [trE] at h
  | .mkk c es kes ks, sc, e', h => by
    cases e' with
    | Call fn as kws p =>
      match as, h with
      | a :: as, h =>
        cases fn with
        | Name x p2 =>
          simp only [trE, Bool.and_eq_true, decide_eq_true_eq] at h
          obtain ⟨⟨⟨⟨h1, h2⟩, h3⟩, h4⟩, h5⟩ := h
          split at h4
          · rename_i q hq
            simp only [Bool.and_eq_true, decide_eq_true_eq] at h4
            exact se_mkk (co.np _) hq h4.1 h4.2 h5 h1 (ses_star h2) h2 h3 (sndEs es sc (a :: as) h2) (sndK kes ks sc kws h3)
          · cases h4
        | _ => simp [trE] at h
      | [], h => simp [trE] at h
    | _ => simp [trE] at h
  | .lc own tg it c e, sc, e', h => by
    cases e' with
    | ListComp el gens scope p =>
      rcases gens with _ | ⟨⟨tg', it', ifs, ia⟩, _ | ⟨_, _⟩⟩
      · simp [trE] at h
      · by_cases hia : ia = 0
        rotate_left
        · rw [trE] at h
          · cases h
          all_goals simp [hia]
        subst hia
        simp only [trE, Bool.and_eq_true, List.all_eq_true, Bool.not_eq_true'] at h
        obtain ⟨⟨⟨⟨⟨⟨h1, h2⟩, h3⟩, h4⟩, h5⟩, h6⟩, h7⟩ := h
        split at h1
        · rename_i ow how
          refine se_lc (mapM_own how) h1 (fun i hi q => ?_) (fun i hi => by simpa using h3 i hi) (fold_set (sndI_set it tg' it' h4)) h5 (sndI it sc tg' it' h4) (sndC c _ ifs h6) (sndE e _ el h7)
          have := h2 i hi
          simp [q] at this
        · cases h1
      · simp [trE] at h
    | _ => simp [trE] at h
theorem sndEs : ∀ (es : Es) (sc : Scope) (es' : List Expr), trEs Γ N sc es es' = true → SEs Γ G cf ini np io k N sc es' es
  | .nil, sc, es', h => by
    cases es' with
    | nil => exact fun X Fm W xo pn tk => ⟨paF_nil, paL_nil, paK_nil⟩
    | cons _ _ => simp [trEs] at h
  | .cons e es, sc, es', h => by
    cases es' with
    | nil => simp [trEs] at h
    | cons a as =>
      simp only [trEs, Bool.and_eq_true, Bool.not_eq_true'] at h
      have h1 := sndE e sc a h.1.1
      have h2 := sndEs es sc as h.2
      exact fun X Fm W xo pn tk => ⟨paF_cons h.1.2 (h1 X Fm W xo pn tk).1 (h2 X Fm W xo pn tk).1, paL_cons h.1.2 (h1 X Fm W xo pn tk).1 (h2 X Fm W xo pn tk).2.1, paK_cons h.1.2 (h1 X Fm W xo pn tk).1 (h2 X Fm W xo pn tk).2.2⟩
theorem sndK : ∀ (es : Es) (ks : List Str) (sc : Scope) (kws : List Keyword), trK Γ N sc es ks kws = true → SK Γ G cf ini np io k N sc kws es
  | .nil, ks, sc, kws, h => by
    match ks, kws, h with
    | [], [], h => exact fun X Fm W xo pn tk => ⟨fun pos pins s σ H Q I hh => by
        refine pk_nil.run pos pins s σ H Q I ?_
        obtain ⟨S, env, er, hh⟩ := hh
        exact hh [] ⟨S, H⟩ (Ext.refl er.dom) (by simp [KF, Reps])⟩
    | [], _ :: _, h => simp [trK] at h
    | _ :: _, _, h => simp [trK] at h
  | .cons e es, ks, sc, kws, h => by
    match ks, kws, h with
    | x :: xs, ⟨some y, e', kp⟩ :: kws, h =>
      simp only [trK, Bool.and_eq_true] at h
      have h1 := sndE e sc e' h.1.2
      have h2 := sndK es xs sc kws h.2
      refine fun X Fm W xo pn tk => ⟨fun pos pins s σ H Q I hh => ?_⟩
      refine (pk_cons (h1 X Fm W xo pn tk).1 (h2 X Fm W xo pn tk)).run pos pins s σ H Q I ?_
      obtain ⟨S, env, er, h⟩ := hh
      refine ⟨S, env, er, ?_⟩
      simp only [evf] at h
      refine OutK.step h fun w v M1 e1 q1 h1 => ?_
      rcases frz_cases w with ⟨d, hd⟩ | hd
      · obtain ⟨M1', eH, e1', rp⟩ := freeze q1 hd e1
        rw [← eH]
        refine ⟨M1'.S, env, er.ext e1', ?_⟩
        simp only [hd] at h1
        cases hq : evf cf ini es env with
        | ok ds =>
          rw [hq] at h1
          exact fun vs M2 e2 r2 => h1 (v :: vs) M2 (e1'.trans e2) (by simp only [KF, Reps]; exact ⟨v, vs, rfl, rp.mono e2.keep, r2⟩)
        | exc c =>
          rw [hq] at h1
          exact fun M2 e2 => h1 M2 (e1'.trans e2)
        | bad =>
          rw [hq] at h1
          exact h1
      · simp only [hd] at h1
        exact h1.elim
    | [], _, h => simp [trK] at h
    | _ :: _, [], h => simp [trK] at h
    | _ :: _, ⟨none, _, _⟩ :: _, h => simp [trK] at h
theorem sndO : ∀ (o : OE) (sc : Scope) (o' : Option Expr), trO Γ N sc o o' = true → SO Γ G cf ini np io k N sc o' o
  | .no, sc, o', h => by
    cases o' with
    | none => exact so_no
    | some _ => simp [trO] at h
  | .so e, sc, o', h => by
    cases o' with
    | none => simp [trO] at h
    | some a =>
      simp only [trO] at h
      exact so_so (sndE e sc a h)
theorem sndC : ∀ (o : OE) (sc : Scope) (o' : List Expr), trC Γ N sc o o' = true → SC Γ G cf ini np io k N sc o' o
  | .no, sc, o', h => by
    cases o' with
    | nil => exact sc_no
    | cons _ _ => simp [trC] at h
  | .so e, sc, o', h => by
    match o', h with
    | [], h => simp [trC] at h
    | [a], h =>
      simp only [trC, Bool.and_eq_true] at h
      exact sc_so h.2 (sndE e sc a h.1)
    | _ :: _ :: _, h => simp [trC] at h
theorem sndI : ∀ (it : It) (sc : Scope) (tg' it' : Expr), trI Γ N sc it tg' it' = true → SI Γ G cf ini np io k N sc tg' it' it
  | .ex e, sc, tg', it', h => by
    simp only [trI, Bool.and_eq_true] at h
    exact si_ex (sndE e sc it' h.1)
  | .rg1 a, sc, tg', it', h => by
    simp only [trI] at h
    split at h
    · simp only [Bool.and_eq_true, decide_eq_true_eq, Bool.not_eq_true'] at h
      obtain ⟨⟨⟨rfl, h1⟩, h2⟩, h3⟩ := h
      exact si_rg1 h1 h3 (sndE a sc _ h2)
    · cases h
  | .rg2 a b, sc, tg', it', h => by
    simp only [trI] at h
    split at h
    · simp only [Bool.and_eq_true, decide_eq_true_eq, Bool.not_eq_true'] at h
      obtain ⟨⟨⟨⟨⟨rfl, h1⟩, h2⟩, h3⟩, h4⟩, h5⟩ := h
      exact si_rg2 h1 h3 h5 (sndE a sc _ h2) (sndE b sc _ h4)
    · cases h
  | .zip a b, sc, tg', it', h => by
    simp only [trI] at h
    split at h
    · simp only [Bool.and_eq_true, decide_eq_true_eq, Bool.not_eq_true'] at h
      obtain ⟨⟨⟨⟨⟨rfl, h1⟩, h2⟩, h3⟩, h4⟩, h5⟩ := h
      exact si_zip h1 h3 h5 (sndE a sc _ h2) (sndE b sc _ h4)
    · cases h
  | .enu a, sc, tg', it', h => by
    simp only [trI] at h
    split at h
    · simp only [Bool.and_eq_true, decide_eq_true_eq, Bool.not_eq_true'] at h
      obtain ⟨⟨⟨rfl, h1⟩, h2⟩, h3⟩ := h
      exact si_enu h1 h3 (sndE a sc _ h2)
    · cases h
  | .rev a, sc, tg', it', h => by
    simp only [trI] at h
    split at h
    · simp only [Bool.and_eq_true, decide_eq_true_eq, Bool.not_eq_true'] at h
      obtain ⟨⟨⟨rfl, h1⟩, h2⟩, h3⟩ := h
      exact si_rev h1 h3 (sndE a sc _ h2)
    · cases h
end
end
end Ev

/-! EvB14 -/
set_option Elab.async false
set_option linter.all false
set_option maxRecDepth 100000
set_option maxHeartbeats 4000000
/-! EvB14: statements: readings, what a slot's change keeps. -/
namespace Ev
open PySem PySem.Spec PyProof.Rows L2
variable {G : Ctx} {Fm : Frm} {M M' M0 M1 M2 : Mem} {X : Cx} {env : Env} {σ : L2.St} {W : WX}

/-- an owned object is changed in place -/
theorem ER.upd (e : ER G Fm M env σ) {FS : Nat → List Addr} (s : Slots G Fm M env σ FS) {i : Nat} {a : Addr} {v : V} {ho : HO} {o' : O} {F' : List Addr} (hi : i < env.length) (hs : σ[i]? = some (some v)) (ha : a ∈ FS i)
    (h : Own G ⟨M.S, L2.upd M.H a ho⟩ o' v F') (n : F'.Nodup) (f : ∀ b ∈ F', b ∈ FS i ∨ (¬ M.S b ∧ M.H b ≠ none ∧ Fm.H0 b = none ∧ ∀ j, b ∉ FS j)) : ER G Fm ⟨M.S, L2.upd M.H a ho⟩ (env.set i o') σ := by
  obtain ⟨a1, a2, a3⟩ := s.own i a ha
  have keep : ∀ b u, b ≠ a → M.H b = some u → L2.upd M.H a ho b = some u := fun b u hn z => (upd_ne hn).trans z
  have there : ∀ b, M.H b ≠ none → L2.upd M.H a ho b ≠ none := fun b z => by
    by_cases hb : b = a
    · subst hb; rw [upd_same]; simp
    · rw [upd_ne hb]; exact z
  have kp : Keep M ⟨M.S, L2.upd M.H a ho⟩ := ⟨fun _ s => s, fun b u sb z => keep b u (fun q => by subst q; exact a1 sb) z⟩
  refine ⟨by simp [e.len], fun b sb => there b (e.dom b sb), fun b u z hb => ?_, fun b hb => there b (e.io b hb), e.new, e.old, e.pin, fun j => if j = i then F' else FS j, ?_, fun j => ?_, fun j l b h1 h2 => ?_, fun j b hb => ?_⟩
  · refine keep b u (fun q => ?_) (e.fr b u z hb)
    subst q
    rcases a3 with a3 | a3
    · rw [a3] at z; cases z
    · exact hb a3.1
  · intro j o hj
    by_cases hji : j = i
    · subst hji
      rw [List.getElem?_set_self hi] at hj
      cases hj
      rw [if_pos rfl]
      exact ⟨_, hs, .inr ⟨_, rfl, h⟩⟩
    · rw [List.getElem?_set_ne (Ne.symm hji)] at hj
      rw [if_neg hji]
      obtain ⟨x, q1, q2⟩ := s.at_ j o hj
      refine ⟨x, q1, SR.mono kp (fun b hb u z => keep b u (fun q => ?_) z) q2⟩
      subst q
      exact hji (s.dis j i b hb ha)
  · by_cases hji : j = i
    · simp only [if_pos hji]; exact n
    · simp only [if_neg hji]; exact s.nod j
  · by_cases hji : j = i
    · by_cases hli : l = i
      · rw [hji, hli]
      · simp only [if_pos hji, if_neg hli] at h1 h2
        rcases f b h1 with q | ⟨_, _, _, q⟩
        · rw [hji]; exact s.dis i l b q h2
        · exact absurd h2 (q l)
    · by_cases hli : l = i
      · simp only [if_neg hji, if_pos hli] at h1 h2
        rcases f b h2 with q | ⟨_, _, _, q⟩
        · rw [hli]; exact s.dis j i b h1 q
        · exact absurd h1 (q j)
      · simp only [if_neg hji, if_neg hli] at h1 h2
        exact s.dis j l b h1 h2
  · by_cases hji : j = i
    · simp only [if_pos hji] at hb
      subst hji
      rcases f b hb with q | ⟨q1, q2, q3, _⟩
      · obtain ⟨q1, q2, q3⟩ := s.own j b q
        exact ⟨q1, there b q2, q3⟩
      · exact ⟨q1, there b q2, .inl q3⟩
    · simp only [if_neg hji] at hb
      obtain ⟨q1, q2, q3⟩ := s.own j b hb
      exact ⟨q1, there b q2, q3⟩
theorem ER.upd_keep (e : ER G Fm M env σ) {FS : Nat → List Addr} (s : Slots G Fm M env σ FS) {i : Nat} {a : Addr} {ho : HO} (ha : a ∈ FS i) : Keep M ⟨M.S, L2.upd M.H a ho⟩ :=
  ⟨fun _ s => s, fun b u sb z => (upd_ne (fun q => by subst q; exact (s.own i b ha).1 sb)).trans z⟩
/-- a slot is frozen -/
theorem ER.freeze (e : ER G Fm M env σ) {i : Nat} {o : O} {d : D} (he : env[i]? = some o) (hd : o.rd = some d) (hp : ∀ p ∈ Fm.pin, p.1 ≠ i) : ∃ M', M'.H = M.H ∧ Keep M M' ∧ ER G Fm M' (env.set i (.fz d)) σ := by
  obtain ⟨FS, s⟩ := e.slots
  obtain ⟨x, h1, h2⟩ := s.at_ i o he
  have hi : i < env.length := (List.getElem?_eq_some_iff.mp he).1
  rcases h2 with ⟨rfl, _⟩ | ⟨v, rfl, h2⟩
  · simp [O.rd] at hd
  have rp := h2.frz hd (F' := FS i) fun _ h => h
  have h0 : ∀ a ∈ FS i, Fm.H0 a = none := fun a ha => by
    rcases (s.own i a ha).2.2 with q | ⟨_, q⟩
    · exact q
    · obtain ⟨p, hp1, hp2⟩ := List.mem_map.mp q
      exact absurd hp2 (hp p hp1)
  refine ⟨M.add (FS i), rfl, keep_add, by simp [e.len], fun a sa => ?_, e.fr, e.io, fun a sa => ?_, fun a sa => .inl (e.old a sa), e.pin, fun j => if j = i then [] else FS j, ?_, fun j => ?_, fun j l a q1 q2 => ?_, fun j a ha => ?_⟩
  · rcases sa with sa | sa
    · exact e.dom a sa
    · exact (s.own i a sa).2.1
  · rcases sa with sa | sa
    · exact e.new a sa
    · exact .inr (h0 a sa)
  · intro j o' hj
    by_cases hji : j = i
    · subst hji
      rw [List.getElem?_set_self hi] at hj
      cases hj
      rw [if_pos rfl]
      exact ⟨_, h1, .inr ⟨v, rfl, by simp only [Own]; exact ⟨trivial, rp⟩⟩⟩
    · rw [List.getElem?_set_ne (Ne.symm hji)] at hj
      rw [if_neg hji]
      obtain ⟨y, q1, q2⟩ := s.at_ j o' hj
      exact ⟨y, q1, SR.mono keep_add (fun _ _ _ z => z) q2⟩
  · by_cases hji : j = i
    · simp only [if_pos hji]; exact List.nodup_nil
    · simp only [if_neg hji]; exact s.nod j
  · by_cases hji : j = i
    · simp only [if_pos hji] at q1; cases q1
    · by_cases hli : l = i
      · simp only [if_pos hli] at q2; cases q2
      · simp only [if_neg hji, if_neg hli] at q1 q2
        exact s.dis j l a q1 q2
  · by_cases hji : j = i
    · simp only [if_pos hji] at ha; cases ha
    · simp only [if_neg hji] at ha
      obtain ⟨q1, q2, q3⟩ := s.own j a ha
      exact ⟨fun z => z.elim q1 fun z => hji (s.dis j i a ha z), q2, q3⟩

/-! ### ends -/
/-- what is handed back -/
def RetK (G : Ctx) (Fm : Frm) (io : List Nat) (M : Mem) (env : Env) (σ : L2.St) (o : O) (v : V) : Prop := ∃ FS F, Slots G Fm M env σ FS ∧ Own G M o v F ∧ F.Nodup ∧ (∀ a ∈ F, ¬ M.S a ∧ (Fm.H0 a = none ∨ a ∈ Fm.I)) ∧ (io ≠ [] → ∀ a ∈ F, Fm.H0 a = none ∧ ∀ j, a ∉ FS j)
def OutS (G : Ctx) (Fm : Frm) (W : WX) (io : List Nat) (D : Ends) (M : Mem) : RS → Prop
  | .nx env => ∀ σ M', Keep M M' → ER G Fm M' env σ → D.nx σ M'.H
  | .bk env => ∀ σ M', Keep M M' → ER G Fm M' env σ → D.bk σ M'.H
  | .ct env => ∀ σ M', Keep M M' → ER G Fm M' env σ → D.ct σ M'.H
  | .rt o env => ∀ v σ M', Keep M M' → ER G Fm M' env σ → RetK G Fm io M' env σ o v → D.rt v M'.H
  | .exc c env => ∀ σ M', Keep M M' → ER G Fm M' env σ → W (.ref (G.C c)) none σ M'.H
  | .bad => False
theorem OutS.keep {io : List Nat} {D : Ends} {r : RS} (k : Keep M M1) (h : OutS G Fm W io D M r) : OutS G Fm W io D M1 r := by
  cases r with
  | nx env => exact fun σ M' q => h σ M' (k.trans q)
  | bk env => exact fun σ M' q => h σ M' (k.trans q)
  | ct env => exact fun σ M' q => h σ M' (k.trans q)
  | rt o env => exact fun v σ M' q => h v σ M' (k.trans q)
  | exc c env => exact fun σ M' q => h σ M' (k.trans q)
  | bad => exact h
theorem OutS.exc {io : List Nat} {D : Ends} {c : Nat} (er : ER G Fm M env σ) (h : OutS G Fm W io D M (.exc c env)) : ∀ M', Ext M M' → W (.ref (G.C c)) none σ M'.H := fun M' x => h σ M' x.keep (er.ext x)
/-- an expression, then the rest -/
theorem OutS.step {io : List Nat} {D : Ends} {Q' : VK} {r : R Val} {f : Val → RS} (er : ER G Fm M env σ) (h : OutS G Fm W io D M (lift env r f)) (k : ∀ w v M1, Ext M M1 → VR G Fm M M1 w v → OutS G Fm W io D M (f w) → Q' v M1.H) : Out G Fm W σ M Q' r := by
  cases r with
  | ok w => exact fun v M1 e q => k w v M1 e q h
  | exc c => exact OutS.exc er h
  | bad => exact h
theorem OutS.of {io : List Nat} {D : Ends} {α : Type} {r : Option α} {f : α → RS} (h : OutS G Fm W io D M (lift env (R.of r) f)) : ∃ a, r = some a ∧ OutS G Fm W io D M (f a) := by
  cases r with
  | some a => exact ⟨a, rfl, h⟩
  | none => exact h.elim
theorem OutS.frz {io : List Nat} {D : Ends} {w : Val} {f : Ev.D → RS} (h : OutS G Fm W io D M (lift env (Ev.frz w) f)) : ∃ d, Ev.frz w = .ok d ∧ OutS G Fm W io D M (f d) := by
  rcases frz_cases w with ⟨d, hd⟩ | hd
  · rw [hd] at h; exact ⟨d, hd, h⟩
  · rw [hd] at h; exact h.elim
theorem OutS.kept {io : List Nat} {D : Ends} {w : Val} {f : O → RS} (h : OutS G Fm W io D M (lift env (Ev.keep w) f)) : ∃ o, w = .tm o ∧ OutS G Fm W io D M (f o) := by
  cases w with
  | tm o => exact ⟨o, rfl, h⟩
  | al o => exact h.elim
theorem OutS.ite {io : List Nat} {D : Ends} {b : Bool} {r : RS} (h : OutS G Fm W io D M (if b = true then .bad else r)) : b = false ∧ OutS G Fm W io D M r := by
  cases b with
  | true => exact h.elim
  | false => exact ⟨rfl, h⟩

section
variable (Γ : Gm) (G : Ctx) (cf : Cf) (ini np : Nat → Nat) (io : Nat → List Nat) (sb : Nat → Nat → Bool) (k : Nat) (N : List Str)
/-- where a statement stands -/
structure XSt (X : Cx) : Prop where
  fn : ∀ x, X.fn x = true
  st : X.stack = X.env :: X.outer
  fr : X.env.frame = some X.env.locals
def tS (Fm : Frm) (W : WX) (as : S) : TS := fun D σ H => ∃ S env, ER G Fm ⟨S, H⟩ env σ ∧ OutS G Fm W Γ.io D ⟨S, H⟩ (ex cf ini sb Γ.io as env)
def tSs (Fm : Frm) (W : WX) (as : Ss) : TS := fun D σ H => ∃ S env, ER G Fm ⟨S, H⟩ env σ ∧ OutS G Fm W Γ.io D ⟨S, H⟩ (exs cf ini sb Γ.io as env)
def SSt (sc : Scope) (st : Stmt) (as : S) : Prop := ∀ (X : Cx) (Fm : Frm) (W : WX), XOk Γ G cf ini np io k N sc X → XSt X → (∀ p ∈ Fm.pin, p.1 ∈ Γ.io) → Takes X W → PassesOwn (model X.prog X.w) X.A X.env X.xe → PS X st (tS Γ G cf ini sb Fm W as)
def SSs (sc : Scope) (st : List Stmt) (as : Ss) : Prop := ∀ (X : Cx) (Fm : Frm) (W : WX), XOk Γ G cf ini np io k N sc X → XSt X → (∀ p ∈ Fm.pin, p.1 ∈ Γ.io) → Takes X W → PassesOwn (model X.prog X.w) X.A X.env X.xe → PSs X st (tSs Γ G cf ini sb Fm W as)
end
end Ev

/-! EvB15 -/
set_option Elab.async false
set_option linter.all false
set_option maxRecDepth 100000
set_option maxHeartbeats 4000000
/-! EvB15: places within what a variable owns. -/
namespace Ev
open PySem PySem.Spec PyProof.Rows L2
variable {G : Ctx} {Fm : Frm} {M M' M0 M1 M2 : Mem} {X : Cx} {env : Env} {σ : L2.St} {W : WX}

/-- the part q, u stands at js within o, v -/
def Node (G : Ctx) (M : Mem) : List Nat → O → V → O → V → Prop
  | [], o, v, q, u => q = o ∧ u = v
  | j :: js, .l os, v, q, u => ∃ a vs o' v', v = .ref a ∧ M.H a = some (.lst vs) ∧ os[j]? = some o' ∧ vs[j]? = some v' ∧ Node G M js o' v' q u
  | j :: js, .i c os, v, q, u => ∃ a dx fs o' v', v = .ref a ∧ M.H a = some (.ins (G.C c) dx fs) ∧ os[j]? = some o' ∧ (fs.map (·.2))[j]? = some v' ∧ Node G M js o' v' q u
  | _ :: _, _, _, _, _ => False
theorem Node.mono (x : Same M.H M'.H) : ∀ {js : List Nat} {o q : O} {v u : V}, Node G M js o v q u → Node G M' js o v q u
  | [], _, _, _, _, h => h
  | j :: js, .l os, _, _, _, h => by
    simp only [Node] at h ⊢
    obtain ⟨a, vs, o', v', e1, e2, e3, e4, e5⟩ := h
    exact ⟨a, vs, o', v', e1, x _ _ e2, e3, e4, Node.mono x e5⟩
  | j :: js, .i c os, _, _, _, h => by
    simp only [Node] at h ⊢
    obtain ⟨a, dx, fs, o', v', e1, e2, e3, e4, e5⟩ := h
    exact ⟨a, dx, fs, o', v', e1, x _ _ e2, e3, e4, Node.mono x e5⟩
  | _ :: _, .dead, _, _, _, h => by simp [Node] at h
  | _ :: _, .fz _, _, _, _, h => by simp [Node] at h
  | _ :: _, .t _, _, _, _, h => by simp [Node] at h
theorem Node.snocL {b : Addr} {os : List O} {vs : List V} {j : Nat} {o' : O} {v' : V} (hb : M.H b = some (.lst vs)) (h1 : os[j]? = some o') (h2 : vs[j]? = some v') : ∀ {js : List Nat} {o : O} {v : V}, Node G M js o v (.l os) (.ref b) → Node G M (js ++ [j]) o v o' v'
  | [], _, _, h => by
    simp only [Node] at h
    obtain ⟨rfl, rfl⟩ := h
    simp only [List.nil_append, Node]
    exact ⟨b, vs, o', v', rfl, hb, h1, h2, rfl, rfl⟩
  | i :: js, .l os, _, h => by
    simp only [List.cons_append, Node] at h ⊢
    obtain ⟨a, vs, o', v', e1, e2, e3, e4, e5⟩ := h
    exact ⟨a, vs, o', v', e1, e2, e3, e4, Node.snocL hb h1 h2 e5⟩
  | i :: js, .i c os, _, h => by
    simp only [List.cons_append, Node] at h ⊢
    obtain ⟨a, dx, fs, o', v', e1, e2, e3, e4, e5⟩ := h
    exact ⟨a, dx, fs, o', v', e1, e2, e3, e4, Node.snocL hb h1 h2 e5⟩
  | _ :: _, .dead, _, h => by simp [Node] at h
  | _ :: _, .fz _, _, h => by simp [Node] at h
  | _ :: _, .t _, _, h => by simp [Node] at h
theorem Node.snocI {b dx : Addr} {c : Nat} {os : List O} {fs : List (Str × V)} {j : Nat} {o' : O} {v' : V} (hb : M.H b = some (.ins (G.C c) dx fs)) (h1 : os[j]? = some o') (h2 : (fs.map (·.2))[j]? = some v') : ∀ {js : List Nat} {o : O} {v : V}, Node G M js o v (.i c os) (.ref b) → Node G M (js ++ [j]) o v o' v'
  | [], _, _, h => by
    simp only [Node] at h
    obtain ⟨rfl, rfl⟩ := h
    simp only [List.nil_append, Node]
    exact ⟨b, dx, fs, o', v', rfl, hb, h1, h2, rfl, rfl⟩
  | i :: js, .l os, _, h => by
    simp only [List.cons_append, Node] at h ⊢
    obtain ⟨a, vs, o', v', e1, e2, e3, e4, e5⟩ := h
    exact ⟨a, vs, o', v', e1, e2, e3, e4, Node.snocI hb h1 h2 e5⟩
  | i :: js, .i c os, _, h => by
    simp only [List.cons_append, Node] at h ⊢
    obtain ⟨a, dx, fs, o', v', e1, e2, e3, e4, e5⟩ := h
    exact ⟨a, dx, fs, o', v', e1, e2, e3, e4, Node.snocI hb h1 h2 e5⟩
  | _ :: _, .dead, _, h => by simp [Node] at h
  | _ :: _, .fz _, _, h => by simp [Node] at h
  | _ :: _, .t _, _, h => by simp [Node] at h
/-- an item among the items: what is left and right of it -/
theorem Owns.at_ {os : List O} {vs : List V} {r : List Addr} {j : Nat} {oj : O} {vj : V} (h : Owns G M os vs r) (h1 : os[j]? = some oj) (h2 : vs[j]? = some vj) : ∃ F1 Fj F2, r = F1 ++ (Fj ++ F2) ∧ Own G M oj vj Fj ∧
    ∀ M2 o'' F'', Keep M M2 → (∀ a, a ∈ F1 ∨ a ∈ F2 → ∀ w, M.H a = some w → M2.H a = some w) → Own G M2 o'' vj F'' → Owns G M2 (os.set j o'') vs (F1 ++ (F'' ++ F2)) := by
  obtain ⟨F1, F2', rfl, t1, t2⟩ := Owns.cut j h
  have l1 := h.length
  obtain ⟨hj, e1⟩ := List.getElem?_eq_some_iff.mp h1
  obtain ⟨hj2, e2⟩ := List.getElem?_eq_some_iff.mp h2
  rw [List.drop_eq_getElem_cons hj, List.drop_eq_getElem_cons hj2, e1, e2] at t2
  simp only [Owns] at t2
  obtain ⟨v0, r0, Fj, F2, e3, rfl, q0, t0⟩ := t2
  injection e3 with e3 e4
  subst e3 e4
  refine ⟨F1, Fj, F2, rfl, q0, fun M2 o'' F'' kp keep q => ?_⟩
  have ev : vs = vs.take j ++ (vj :: vs.drop (j + 1)) := by
    rw [← e2, ← List.drop_eq_getElem_cons hj2, List.take_append_drop]
  rw [List.set_eq_take_append_cons_drop, if_pos hj]
  have A := Owns.append (t1.mono kp fun a ha w z => keep a (.inl ha) w z) (show Owns G M2 (o'' :: os.drop (j + 1)) (vj :: vs.drop (j + 1)) (F'' ++ F2) by
    simp only [Owns]
    exact ⟨vj, _, F'', F2, rfl, rfl, q, t0.mono kp fun a ha w z => keep a (.inr ha) w z⟩)
  rw [← ev] at A
  exact A
/-- a part is changed -/
theorem Own.putP : ∀ {js : List Nat} {o q : O} {v u : V} {F : List Addr}, Own G M o v F → F.Nodup → Node G M js o v q u → ∃ Fq, Own G M q u Fq ∧ (∀ a ∈ Fq, a ∈ F) ∧ Fq.Nodup ∧
    ∀ M2 q' Fq', Keep M M2 → (∀ a ∈ F, a ∉ Fq → ∀ w, M.H a = some w → M2.H a = some w) → Own G M2 q' u Fq' → Fq'.Nodup → (∀ a ∈ Fq', a ∈ Fq ∨ a ∉ F) →
      ∃ o' F', Ev.putP o js q' = some o' ∧ Own G M2 o' v F' ∧ F'.Nodup ∧ ∀ a ∈ F', a ∈ F ∨ a ∈ Fq'
  | [], o, _, _, _, F, h, n, nd => by
    simp only [Node] at nd
    obtain ⟨rfl, rfl⟩ := nd
    exact ⟨F, h, fun _ h => h, n, fun M2 q' Fq' _ _ q1 q2 _ => ⟨q', Fq', by simp only [Ev.putP], q1, q2, fun a ha => .inr ha⟩⟩
  | j :: js, .l os, q, _, u, _, h, n, nd => by
    simp only [Node] at nd
    obtain ⟨a, vs, oj, vj, rfl, hv, h1, h2, nd⟩ := nd
    simp only [Own] at h
    obtain ⟨a', vs', r, e, rfl, hv', t⟩ := h
    cases e
    rw [hv] at hv'
    cases hv'
    obtain ⟨na, nr⟩ := List.nodup_cons.mp n
    obtain ⟨F1, Fj, F2, rfl, oj1, mk⟩ := t.at_ h1 h2
    obtain ⟨n1, n2', d1⟩ := List.nodup_append.mp nr
    obtain ⟨nj, n2, d2⟩ := List.nodup_append.mp n2'
    obtain ⟨Fq, b1, b2, b3, b4⟩ := Own.putP oj1 nj nd
    have inF : ∀ x ∈ Fq, x ∈ F1 ++ (Fj ++ F2) := fun x hx => by simp [b2 x hx]
    refine ⟨Fq, b1, fun x hx => List.mem_cons_of_mem _ (inF x hx), b3, fun M2 q' Fq' kp keep q1 q2 q3 => ?_⟩
    obtain ⟨o', F', c1, c2, c3, c4⟩ := b4 M2 q' Fq' kp (fun x hx => keep x (by simp [hx])) q1 q2 (fun x hx => (q3 x hx).imp id fun z z2 => z (by simp [z2]))
    have c5 : ∀ x ∈ F', x ∈ Fj ∨ x ∉ a :: (F1 ++ (Fj ++ F2)) := fun x hx => by
      rcases c4 x hx with z | z
      · exact .inl z
      · exact (q3 x z).imp (b2 x) id
    have A := mk M2 o' F' kp (fun x hx => keep x (by rcases hx with hx | hx <;> simp [hx]) (fun z => by
      rcases hx with hx | hx
      · exact d1 x hx x (by simp [b2 x z]) rfl
      · exact d2 x (b2 x z) x hx rfl)) c2
    refine ⟨.l (os.set j o'), a :: (F1 ++ (F' ++ F2)), by simp [Ev.putP, h1, c1], ?_, ?_, ?_⟩
    · simp only [Own]
      exact ⟨a, vs, _, rfl, rfl, keep a List.mem_cons_self (fun z => na (inF a z)) _ hv, A⟩
    · refine List.nodup_cons.mpr ⟨fun z => ?_, List.nodup_append.mpr ⟨n1, List.nodup_append.mpr ⟨c3, n2, fun x hx y hy e => ?_⟩, fun x hx y hy e => ?_⟩⟩
      · simp only [List.mem_append] at z
        rcases z with z | z | z
        · exact na (by simp [z])
        · rcases c5 a z with z | z
          · exact na (by simp [z])
          · exact z List.mem_cons_self
        · exact na (by simp [z])
      · subst e
        rcases c5 x hx with z | z
        · exact d2 x z x hy rfl
        · exact z (by simp [hy])
      · subst e
        simp only [List.mem_append] at hy
        rcases hy with hy | hy
        · rcases c5 x hy with z | z
          · exact d1 x hx x (by simp [z]) rfl
          · exact z (by simp [hx])
        · exact d1 x hx x (by simp [hy]) rfl
    · intro x hx
      simp only [List.mem_cons, List.mem_append] at hx ⊢
      rcases hx with hx | hx | hx | hx
      · exact .inl (.inl hx)
      · exact .inl (.inr (.inl hx))
      · rcases c4 x hx with z | z
        · exact .inl (.inr (.inr (.inl z)))
        · exact .inr z
      · exact .inl (.inr (.inr (.inr hx)))
  | j :: js, .i c os, q, _, u, _, h, n, nd => by
    simp only [Node] at nd
    obtain ⟨a, dx, fs, oj, vj, rfl, hv, h1, h2, nd⟩ := nd
    simp only [Own] at h
    obtain ⟨a', dx', fs', r, e, rfl, hv', hm, t⟩ := h
    cases e
    rw [hv] at hv'
    cases hv'
    obtain ⟨na, nr⟩ := List.nodup_cons.mp n
    obtain ⟨F1, Fj, F2, rfl, oj1, mk⟩ := t.at_ h1 h2
    obtain ⟨n1, n2', d1⟩ := List.nodup_append.mp nr
    obtain ⟨nj, n2, d2⟩ := List.nodup_append.mp n2'
    obtain ⟨Fq, b1, b2, b3, b4⟩ := Own.putP oj1 nj nd
    have inF : ∀ x ∈ Fq, x ∈ F1 ++ (Fj ++ F2) := fun x hx => by simp [b2 x hx]
    refine ⟨Fq, b1, fun x hx => List.mem_cons_of_mem _ (inF x hx), b3, fun M2 q' Fq' kp keep q1 q2 q3 => ?_⟩
    obtain ⟨o', F', c1, c2, c3, c4⟩ := b4 M2 q' Fq' kp (fun x hx => keep x (by simp [hx])) q1 q2 (fun x hx => (q3 x hx).imp id fun z z2 => z (by simp [z2]))
    have c5 : ∀ x ∈ F', x ∈ Fj ∨ x ∉ a :: (F1 ++ (Fj ++ F2)) := fun x hx => by
      rcases c4 x hx with z | z
      · exact .inl z
      · exact (q3 x z).imp (b2 x) id
    have A := mk M2 o' F' kp (fun x hx => keep x (by rcases hx with hx | hx <;> simp [hx]) (fun z => by
      rcases hx with hx | hx
      · exact d1 x hx x (by simp [b2 x z]) rfl
      · exact d2 x (b2 x z) x hx rfl)) c2
    refine ⟨.i c (os.set j o'), a :: (F1 ++ (F' ++ F2)), by simp [Ev.putP, h1, c1], ?_, ?_, ?_⟩
    · simp only [Own]
      exact ⟨a, dx, fs, _, rfl, rfl, keep a List.mem_cons_self (fun z => na (inF a z)) _ hv, hm, A⟩
    · refine List.nodup_cons.mpr ⟨fun z => ?_, List.nodup_append.mpr ⟨n1, List.nodup_append.mpr ⟨c3, n2, fun x hx y hy e => ?_⟩, fun x hx y hy e => ?_⟩⟩
      · simp only [List.mem_append] at z
        rcases z with z | z | z
        · exact na (by simp [z])
        · rcases c5 a z with z | z
          · exact na (by simp [z])
          · exact z List.mem_cons_self
        · exact na (by simp [z])
      · subst e
        rcases c5 x hx with z | z
        · exact d2 x z x hy rfl
        · exact z (by simp [hy])
      · subst e
        simp only [List.mem_append] at hy
        rcases hy with hy | hy
        · rcases c5 x hy with z | z
          · exact d1 x hx x (by simp [z]) rfl
          · exact z (by simp [hx])
        · exact d1 x hx x (by simp [hy]) rfl
    · intro x hx
      simp only [List.mem_cons, List.mem_append] at hx ⊢
      rcases hx with hx | hx | hx | hx
      · exact .inl (.inl hx)
      · exact .inl (.inr (.inl hx))
      · rcases c4 x hx with z | z
        · exact .inl (.inr (.inr (.inl z)))
        · exact .inr z
      · exact .inl (.inr (.inr (.inr hx)))
  | _ :: _, .dead, _, _, _, _, _, _, h => by simp [Node] at h
  | _ :: _, .fz _, _, _, _, _, _, _, h => by simp [Node] at h
  | _ :: _, .t _, _, _, _, _, _, _, h => by simp [Node] at h
/-- .. in a slot -/
theorem ER.putP (e : ER G Fm M env σ) {FS : Nat → List Addr} (s : Slots G Fm M env σ FS) {i : Nat} {o q : O} {v : V} {b : Addr} {js : List Nat} (he : env[i]? = some o) (hv : σ[i]? = some (some v)) (nd : Node G M js o v q (.ref b)) (hq : ∃ os, q = .l os ∨ ∃ c, q = .i c os) :
    ∃ Fq, Own G M q (.ref b) Fq ∧ Fq.Nodup ∧ b ∈ Fq ∧ (∀ a ∈ Fq, a ∈ FS i) ∧ ∀ ho q' Fq', Own G ⟨M.S, L2.upd M.H b ho⟩ q' (.ref b) Fq' → Fq'.Nodup → (∀ a ∈ Fq', a ∈ Fq ∨ (¬ M.S a ∧ M.H a ≠ none ∧ Fm.H0 a = none ∧ ∀ j, a ∉ FS j)) →
      ∃ o', Ev.putP o js q' = some o' ∧ ER G Fm ⟨M.S, L2.upd M.H b ho⟩ (env.set i o') σ ∧ Keep M ⟨M.S, L2.upd M.H b ho⟩ := by
  obtain ⟨x, e1, e2⟩ := s.at_ i o he
  have hi : i < env.length := (List.getElem?_eq_some_iff.mp he).1
  have hnd : o ≠ .dead := fun z => by
    subst z
    obtain ⟨os, hq⟩ := hq
    cases js with
    | nil =>
      simp only [Node] at nd
      rcases hq with hq | ⟨c, hq⟩ <;> (rw [hq] at nd; cases nd.1)
    | cons j js => simp [Node] at nd
  rcases e2 with ⟨z, _⟩ | ⟨v', rfl, h⟩
  · exact absurd z hnd
  rw [e1] at hv
  cases hv
  obtain ⟨Fq, b1, b2, b3, b4⟩ := Own.putP h (s.nod i) nd
  have hb : b ∈ Fq := by
    obtain ⟨os, hq⟩ := hq
    rcases hq with rfl | ⟨c, rfl⟩
    · simp only [Own] at b1
      obtain ⟨a, vs, r, e, rfl, _⟩ := b1
      cases e
      exact List.mem_cons_self
    · simp only [Own] at b1
      obtain ⟨a, dx, fs, r, e, rfl, _⟩ := b1
      cases e
      exact List.mem_cons_self
  refine ⟨Fq, b1, b3, hb, b2, fun ho q' Fq' q1 q2 q3 => ?_⟩
  have kp := e.upd_keep s (ho := ho) (b2 b hb)
  obtain ⟨o', F', c1, c2, c3, c4⟩ := b4 _ q' Fq' kp (fun a ha hna w z => (upd_ne (fun q => by subst q; exact hna hb)).trans z) q1 q2 (fun a ha => (q3 a ha).imp id fun z z2 => z.2.2.2 i z2)
  refine ⟨o', c1, e.upd s hi e1 (b2 b hb) c2 c3 fun a ha => ?_, kp⟩
  rcases c4 a ha with z | z
  · exact .inl z
  · rcases q3 a z with z | z
    · exact .inl (b2 a z)
    · exact .inr ⟨z.1, z.2.1, z.2.2.1, z.2.2.2⟩
end Ev

/-! EvB16 -/
set_option Elab.async false
set_option linter.all false
set_option maxRecDepth 100000
set_option maxHeartbeats 4000000
/-! EvB16: places read; the statements' check. -/
namespace Ev
open PySem PySem.Spec PyProof.Rows L2
variable {G : Ctx} {Fm : Frm} {M M' M0 M1 M2 : Mem} {X : Cx} {env : Env} {σ : L2.St} {W : WX}

def trP (Γ : Gm) (N : List Str) (sc : Scope) (i : Nat) : Pt → Expr → Bool
  | .nil, .Name x _ => decide (N[i]? = some x) && visB sc x && nmB x
  | .sub p e, .Subscript a e' _ => trP Γ N sc i p a && trE Γ N sc e e' && ixB e'
  | .fld p c f, .Attribute a nm _ => trP Γ N sc i p a && baseB a && (match Γ.cl[c]? with
    | some q => decide (q.2[f]? = some nm)
    | none => false)
  | _, _ => false
def OutP (G : Ctx) (W : WX) (σ : L2.St) (M : Mem) (i : Nat) (o : O) (Q : VK) : R (List Nat × O) → Prop
  | .ok q => ∀ v u M', σ[i]? = some (some v) → Ext M M' → Node G M' q.1 o v q.2 u → Q u M'.H
  | .exc c => ∀ M', Ext M M' → W (.ref (G.C c)) none σ M'.H
  | .bad => False
section
variable (G : Ctx) (Fm : Frm) (cf : Cf) (ini : Nat → Nat) (W : WX)
def tP (i : Nat) (p : Pt) : TE := fun σ H Q => ∃ S env o, ER G Fm ⟨S, H⟩ env σ ∧ env[i]? = some o ∧ OutP G W σ ⟨S, H⟩ i o Q (evp cf ini p o env)
end
theorem OutP.ext {i : Nat} {o : O} {Q : VK} {r : R (List Nat × O)} (e : Ext M M1) (h : OutP G W σ M i o Q r) : OutP G W σ M1 i o Q r := by
  cases r with
  | ok q => exact fun v u M' hv x nd => h v u M' hv (e.trans x) nd
  | exc c => exact fun M' x => h M' (e.trans x)
  | bad => exact h
theorem OutP.step {i : Nat} {o : O} {Q Q' : VK} {r : R (List Nat × O)} {f : List Nat × O → R (List Nat × O)} (h : OutP G W σ M i o Q (r.bind f))
    (k : ∀ q v u M1, σ[i]? = some (some v) → Ext M M1 → Node G M1 q.1 o v q.2 u → OutP G W σ M i o Q (f q) → Q' u M1.H) : OutP G W σ M i o Q' r := by
  cases r with
  | ok q => exact fun v u M1 hv e nd => k q v u M1 hv e nd h
  | exc c => exact h
  | bad => exact h
theorem OutP.stepE {i : Nat} {o : O} {Q Q' : VK} {r : R Val} {f : Val → R (List Nat × O)} (h : OutP G W σ M i o Q (r.bind f))
    (k : ∀ w v M1, Ext M M1 → VR G Fm M M1 w v → OutP G W σ M i o Q (f w) → Q' v M1.H) : Out G Fm W σ M Q' r := by
  cases r with
  | ok w => exact fun v M1 e q => k w v M1 e q h
  | exc c => exact h
  | bad => exact h
theorem OutP.of {i : Nat} {o : O} {Q : VK} {α : Type} {r : Option α} {f : α → R (List Nat × O)} (h : OutP G W σ M i o Q ((R.of r).bind f)) : ∃ a, r = some a ∧ OutP G W σ M i o Q (f a) := by
  cases r with
  | some a => exact ⟨a, rfl, h⟩
  | none => exact h.elim
section
variable {Γ : Gm} {cf : Cf} {ini np : Nat → Nat} {io : Nat → List Nat} {k : Nat} {N : List Str} {sc : Scope}
/-- what a node's value is, by the slots -/
theorem ER.node (er : ER G Fm M env σ) {i : Nat} {o q : O} {v u : V} {js : List Nat} (he : env[i]? = some o) (hd : o ≠ .dead) (hv : σ[i]? = some (some v)) (nd : Node G M js o v q u) : ∃ Fq, Own G M q u Fq := by
  obtain ⟨FS, s⟩ := er.slots
  obtain ⟨x, e1, e2⟩ := s.at_ i o he
  rcases e2 with ⟨z, _⟩ | ⟨v', rfl, h⟩
  · exact absurd z hd
  rw [e1] at hv
  cases hv
  obtain ⟨Fq, b1, _⟩ := Own.putP h (s.nod i) nd
  exact ⟨Fq, b1⟩
theorem evp_live {p : Pt} {o : O} {env : Env} {q : List Nat × O} (h : evp cf ini p o env = .ok q) : o ≠ .dead := by
  rintro rfl
  have key : ∀ p : Pt, ∀ q, evp cf ini p .dead env ≠ .ok q := by
    intro p
    induction p with
    | nil => intro q; simp [evp]
    | sub p e ih =>
      intro q z
      simp only [evp] at z
      cases hp : evp cf ini p .dead env with
      | ok q' => exact ih q' hp
      | exc c => rw [hp] at z; cases z
      | bad => rw [hp] at z; cases z
    | fld p c f ih =>
      intro q z
      simp only [evp] at z
      cases hp : evp cf ini p .dead env with
      | ok q' => exact ih q' hp
      | exc c => rw [hp] at z; cases z
      | bad => rw [hp] at z; cases z
  exact key p q h
variable (co : CfOk cf np io)
include co
theorem pp_ok (xo : XOk Γ G cf ini np io k N sc X) (pn : ∀ p ∈ Fm.pin, p.1 ∈ Γ.io) (tk : Takes X W) {i : Nat} : ∀ (p : Pt) (e' : Expr), trP Γ N sc i p e' = true → PE X e' (tP G Fm cf ini W i p)
  | .nil, e', h => by
    cases e' with
    | Name x ps =>
      simp only [trP, Bool.and_eq_true, decide_eq_true_eq] at h
      obtain ⟨⟨h1, h2⟩, h3⟩ := h
      refine (pe_var (i := i) (by rw [xo.hN]; exact h1) (by rw [xo.sc]; exact visB_ok h2) (nmB_ok h3).1 (nmB_ok h3).2.1).imp fun σ H Q ⟨S, env, o, er, he, h⟩ => ?_
      have hd : o ≠ .dead := fun z => by
        subst z
        simp only [evp] at h
        exact h
      have hp : evp cf ini .nil o env = .ok ([], o) := by
        cases o with
        | dead => exact absurd rfl hd
        | _ => simp only [evp]
      rw [hp] at h
      obtain ⟨v, e1, q⟩ := var_ok er he hd
      exact ⟨v, e1, h v v ⟨S, H⟩ e1 (Ext.refl er.dom) (by simp [Node])⟩
    | _ => simp [trP] at h
  | .sub p e, e', h => by
    cases e' with
    | Subscript a ix ps =>
      simp only [trP, Bool.and_eq_true] at h
      obtain ⟨⟨h1, h2⟩, h3⟩ := h
      refine (pe_ix ix_list (pp_ok xo pn tk p a h1) (sndE co e sc ix h2 X Fm W xo pn tk).1 (ixB_ok h3)).imp fun σ H Q ⟨S, env, o, er, he, h⟩ => ⟨S, env, o, er, he, ?_⟩
      simp only [evp] at h
      cases hp : evp cf ini p o env with
      | bad => rw [hp] at h; exact h.elim
      | exc c => rw [hp] at h; exact h
      | ok q =>
        rw [hp] at h
        simp only [R.bind] at h
        intro v u M1 hv e1 nd
        have hd := evp_live hp
        obtain ⟨js, q⟩ := q
        cases q with
        | l os =>
          simp only at h nd
          refine ⟨M1.S, env, er.ext e1, OutP.stepE (h.ext e1) fun w y M2 e2 q2 h2 => ?_⟩
          obtain ⟨kk, hk, h2⟩ := h2.of
          obtain ⟨j, hj, h2⟩ := h2.of
          obtain ⟨o', ho, h2⟩ := h2.of
          obtain ⟨Fy, oy⟩ := q2.own
          have nd2 := nd.mono e2.h
          obtain ⟨Fq, oq⟩ := ((er.ext e1).ext e2).node he hd hv nd2
          simp only [Own] at oq
          obtain ⟨b, vs, r, rfl, rfl, hb, t⟩ := oq
          obtain ⟨v', F', hv', _, _⟩ := t.get ho
          exact ⟨b, vs, kk, v', rfl, asInt_of oy hk, SqL.of hb, atI_mk t.length hj hv', h2 v v' M2 hv e2 (nd2.snocL hb ho hv')⟩
        | _ => exact h.elim
    | _ => simp [trP] at h
  | .fld p c f, e', h => by
    cases e' with
    | Attribute a nm ps =>
      simp only [trP, Bool.and_eq_true] at h
      obtain ⟨⟨h1, h2⟩, h3⟩ := h
      split at h3
      rotate_left
      · cases h3
      rename_i qq hqq
      have hn := of_decide_eq_true h3
      refine (pe_fld (f := nm) (pp_ok xo pn tk p a h1) (base_ok h2)).imp fun σ H Q ⟨S, env, o, er, he, h⟩ => ⟨S, env, o, er, he, ?_⟩
      simp only [evp] at h
      cases hp : evp cf ini p o env with
      | bad => rw [hp] at h; exact h.elim
      | exc c => rw [hp] at h; exact h
      | ok q =>
        rw [hp] at h
        simp only [R.bind] at h
        intro v u M1 hv e1 nd
        have hd := evp_live hp
        obtain ⟨js, q⟩ := q
        cases q with
        | i c' os =>
          simp only at h nd
          by_cases hc : c' = c
          · subst hc
            simp only [if_pos rfl] at h
            obtain ⟨o', ho, h⟩ := OutP.of h
            obtain ⟨g1, g2, g3, g4⟩ := xo.fc.cl c' qq hqq
            have hne : qq.2 ≠ [] := fun z => by rw [z] at hn; simp at hn
            obtain ⟨Fq, oq⟩ := (er.ext e1).node he hd hv nd
            obtain ⟨b, dx, fs, v', F', e5, e6, e7, o2, s2⟩ := fld_of (c := c') (f := f) (nm := nm) oq (by simp only [fldO, if_pos]; exact ho) (by rw [g1]; exact g2) (by rw [g1]; exact hn)
            subst e5
            simp only [Own] at oq
            obtain ⟨b', dx', fs', r, e, rfl, hb, hm, t⟩ := oq
            cases e
            rw [e6] at hb
            cases hb
            obtain ⟨v2, F2, hv2, _, _⟩ := t.get ho
            have : fs.lookup nm = some v2 := by
              refine take_lookup (i := f) hm ?_ ?_ hv2
              · rw [g1]; exact g2.sublist (List.take_sublist _ _)
              · rw [g1, List.getElem?_take_of_lt]
                · exact hn
                · have := (List.getElem?_eq_some_iff.mp hv2).1
                  simpa using this
            rw [e7] at this
            cases this
            exact ⟨b, G.C c', dx, fs, v', rfl, e6, g3 hne, g4 nm (List.mem_of_getElem? hn), e7, h v v' M1 hv e1 (nd.snocI e6 ho hv2)⟩
          · simp only [if_neg hc] at h
            exact h.elim
        | _ => exact h.elim
    | _ => simp [trP] at h
end
end Ev

/-! EvB17 -/
set_option Elab.async false
set_option linter.all false
set_option maxRecDepth 100000
set_option maxHeartbeats 4000000
/-! EvB17: statements are sound, one by one. -/
namespace Ev
open PySem PySem.Spec PyProof.Rows L2
variable {G : Ctx} {Fm : Frm} {M M' M0 M1 M2 : Mem} {X : Cx} {env : Env} {σ : L2.St} {W : WX}

def locB (sc : Scope) (x : Str) : Bool := decide (sc.names.lookup x = some .local) || decide (sc.names.lookup x = some .cell)
theorem locB_ok {sc : Scope} {x : Str} (h : locB sc x = true) : L2.Loc sc x := by
  unfold locB at h
  simpa [L2.Loc] using h
theorem swap_no {e : Expr} {t : Option Expr} {n : Nat} {env : PySem.Env} (h : isComp e = false) : swapsWith e t n env = pure false := by
  cases e <;> first | rfl | (simp [isComp] at h; done)
/-- any index beyond the slots: nothing is stored -/
theorem ER.put_any {i : Nat} {o : O} {v : V} (e0 : ER G Fm M0 env σ) (x : Ext M0 M) (hp : ∀ p ∈ Fm.pin, p.1 ≠ i) (h : VR G Fm M0 M (.tm o) v) : ER G Fm M (env.set i o) (σ.set i (some v)) := by
  by_cases hi : i < env.length
  · exact e0.put_new x hi hp h
  · rw [List.set_eq_of_length_le (by omega), List.set_eq_of_length_le (by rw [e0.len]; omega)]
    exact e0.ext x
theorem ER.put_anyF {i : Nat} {d : D} {v : V} (e : ER G Fm M env σ) (hp : ∀ p ∈ Fm.pin, p.1 ≠ i) (h : Rep G M d v) : ER G Fm M (env.set i (.fz d)) (σ.set i (some v)) := by
  by_cases hi : i < env.length
  · exact e.put_fz hi hp h
  · rw [List.set_eq_of_length_le (by omega), List.set_eq_of_length_le (by rw [e.len]; omega)]
    exact e
section
variable {Γ : Gm} {cf : Cf} {ini np : Nat → Nat} {io : Nat → List Nat} {sb : Nat → Nat → Bool} {k : Nat} {N : List Str} {sc : Scope}
theorem pin_ne (pn : ∀ p ∈ Fm.pin, p.1 ∈ Γ.io) {i : Nat} (h : Γ.io.contains i = false) : ∀ p ∈ Fm.pin, p.1 ≠ i := fun p hp e => by
  have := pn p hp
  rw [e] at this
  simp at h
  exact h this
theorem inOk (xo : XOk Γ G cf ini np io k N sc X) {pins : List (Addr × Obj)} {σ : L2.St} {H : Hp} {s : Shared} (I : Inv X pins σ H s) : X.env.blockKind = .function := by
  unfold Env.blockKind
  rw [I.ok.kind]
  rfl
/-! ### name = e -/
theorem swap_lc {el : Expr} {gens : List Comprehension} {scope : Scope} {p py : Pos} {y : Str} {n : Nat} (xo : XOk Γ G cf ini np io k N sc X) {pins : List (Addr × Obj)} {σ : L2.St} {H : Hp} {s : Shared} (I : Inv X pins σ H s) :
    ∃ b, swapsWith (.ListComp el gens scope p) (some (.Name y py)) n X.env = pure b ∧ (b = true → sc.names.lookup y = some .local) := by
  refine ⟨_, rfl, fun h => ?_⟩
  simp only [Bool.and_eq_true] at h
  obtain ⟨⟨⟨_, h⟩, _⟩, _⟩ := h
  rw [← xo.sc]
  exact eq_of_beq h
/-! ### a, b = e -/
def unpB : Expr → Bool
  | .Tuple vs _ _ => vs.all (foldedForSure 8)
  | _ => true
theorem swapped_no {ts : List Expr} {kk : Nat} {p : Pos} {e : Expr} {env : PySem.Env} (h : unpB e = true) : swappedStores [.Tuple ts kk p] e env = pure none := by
  cases e <;> try rfl
  rename_i vs k2 p2
  simp only [unpB] at h
  unfold swappedStores
  simp only [h, if_true]
  split
  · rfl
  · split
    · rfl
    · split <;> rfl
theorem swapped_yes {x y : Str} {px py kp2 kp3 : Pos} {kt k2 : Nat} {a b : Expr} {env : PySem.Env} (hb : env.blockKind = .function) (hx : env.scope.names.lookup x = some .local) (hy : env.scope.names.lookup y = some .local) (hl : py.line = px.line) (hne : x ≠ y)
    (h1 : starB a = false) (h2 : starB b = false) (h3 : [a, b].all (foldedForSure 8) = false) (h4 : [a, b].all (constantsAlone 8) = false) :
    swappedStores [.Tuple [.Name x px, .Name y py] kt kp2] (.Tuple [a, b] k2 kp3) env = pure (some [x, y]) := by
  have hyx : (y == x) = false := by simpa using Ne.symm hne
  unfold swappedStores
  simp only [hb, h3, h4]
  rw [if_neg (show ¬ (false = true) from Bool.false_ne_true)]
  simp [Env.kindOf, hx, hy, hl, Expr.pos, List.eraseDups, List.eraseDupsBy, List.eraseDupsBy.loop, hyx]
  rintro (h | h)
  · cases a <;> first | (simp at h; done) | (simp [starB] at h1; done)
  · cases b <;> first | (simp at h; done) | (simp [starB] at h2; done)
variable (co : CfOk cf np io)
include co
theorem ps_name (xo : XOk Γ G cf ini np io k N sc X) (xs : XSt X) (pn : ∀ p ∈ Fm.pin, p.1 ∈ Γ.io) (tk : Takes X W) {e : E} {e' : Expr} {x : Str} {i : Nat} {px pos : Pos} (h : trE Γ N sc e e' = true) (hi : N[i]? = some x) (hl : locB sc x = true) :
    PS X (.Assign [.Name x px] e' pos) (tAsg (tE G Fm cf ini W e) (gName i)) := by
  have plain : swapsWith e' (some (.Name x px)) pos.line X.env = pure false → PS X (.Assign [.Name x px] e' pos) (tAsg (tE G Fm cf ini W e) (gName i)) := fun hs =>
    ps_set (by rw [xo.hN]; exact xo.nd) (by rw [xo.hN]; exact hi) (by rw [xo.sc]; exact locB_ok hl) (sndE co e sc e' h X Fm W xo pn tk).1 hs (.inl (xs.fn x))
  by_cases hc : isComp e' = true
  · cases e' with
    | ListComp el gens scope p =>
      cases e with
      | lc own tg it c e =>
        refine ⟨fun pins s σ H D I hh => ?_⟩
        obtain ⟨b, hb, hbl⟩ := swap_lc (el := el) (gens := gens) (scope := scope) (p := p) (py := px) (y := x) (n := pos.line) xo I
        cases b with
        | false => exact (plain hb).run pins s σ H D I hh
        | true =>
          rcases gens with _ | ⟨⟨tg', it', ifs, ia⟩, _ | ⟨_, _⟩⟩
          · simp [trE] at h
          · by_cases hia : ia = 0
            rotate_left
            · rw [trE] at h
              · cases h
              all_goals simp [hia]
            subst hia
            simp only [trE, Bool.and_eq_true, List.all_eq_true, Bool.not_eq_true'] at h
            obtain ⟨⟨⟨⟨⟨⟨h1, h2⟩, h3⟩, h4⟩, h5⟩, h6⟩, h7⟩ := h
            split at h1
            · rename_i ow how
              have how' := mapM_own how
              have htg : ∀ i ∈ tgS tg, i ∈ own := fun i hi => by simpa using h3 i hi
              have hio : ∀ i ∈ own, i ∉ Γ.io := fun i hi q => by
                have := h2 i hi
                simp [q] at this
              have ok : BlkOk X.N X.env.scope scope ow := by rw [xo.hN, xo.sc]; exact blkOk_by h1
              refine (ps_setLc (i := i) (g := tG G Fm tg) xo.calm (by rw [xo.hN]; exact xo.nd) (by rw [xo.hN]; exact hi) (by rw [xo.sc]; exact hbl rfl) hb (sndI co it sc tg' it' h4 true X Fm W xo pn tk) ok (fun s H C cl fp => ?_)
                (fun s H C cl fp => sndC co c _ ifs h6 _ Fm _ (blkX xo) pn takes0) (fun s H C cl fp => (sndE co e _ el h7 _ Fm _ (blkX xo) pn takes0).1) (fold_set (sndI_set it tg' it' h4) _)).run pins s σ H D I ?_
              · have xb := blkX (scope := scope) (s := s) (H := H) (C := C) (cl := cl) (fp := fp) xo
                refine pg_ok (X := X.blk s H scope (compEnvC scope cl C X.env) fp) (ce := fun x => decide (scope.names.lookup x = some .cell)) (io := Γ.io) (N := N) (sc := rel scope sc) ⟨xb.hN, xb.nd, xb.sc, xb.calm, fun x hx => ?_, pn⟩ tg tg' h5
                show (scope.names.lookup x == some .cell) = true
                simpa using hx
              · rw [how']
                exact lc_read (fun i hi p hp e => hio i hi (e ▸ pn p hp)) htg hh
            · cases h1
          · simp [trE] at h
      | nev => simp [trE, isComp] at h
      | _ => simp [trE] at h
    | SetComp _ _ _ _ => cases e <;> simp [trE, isComp] at h
    | DictComp _ _ _ _ _ => cases e <;> simp [trE, isComp] at h
    | _ => simp [isComp] at hc
  · exact plain (swap_no (by simpa using hc))
theorem ss_set {own : Bool} {e : E} {e' : Expr} {x : Str} {i : Nat} {px pos : Pos} (h : trE Γ N sc e e' = true) (hi : N[i]? = some x) (hl : locB sc x = true) :
    SSt Γ G cf ini np io sb k N sc (.Assign [.Name x px] e' pos) (.set own i e) := by
  intro X Fm W xo xs pn tk hp
  refine (ps_name co xo xs pn tk h hi hl).imp fun D σ H ⟨S, env, er, h⟩ => ⟨S, env, er, ?_⟩
  simp only [ex] at h
  obtain ⟨hio, h⟩ := OutS.ite h
  refine OutS.step er h fun w v M1 e1 q1 h1 => ?_
  cases own with
  | true =>
    obtain ⟨o, rfl, h1⟩ := OutS.kept h1
    exact h1 _ M1 e1.keep (er.put_any e1 (pin_ne pn hio) q1)
  | false =>
    obtain ⟨d, hd, h1⟩ := OutS.frz h1
    obtain ⟨M1', eH, e1', rp⟩ := freeze q1 hd e1
    show D.nx _ M1.H
    rw [← eH]
    exact h1 _ M1' e1'.keep ((er.ext e1').put_anyF (pin_ne pn hio) rp)
theorem ss_unp {tg : Tg} {e : E} {e' : Expr} {es : List Expr} {kk : Nat} {p pos : Pos} (h : trE Γ N sc e e' = true) (ht : trT (fun _ => true) Γ.io N sc tg (.Tuple es kk p) = true) (hu : unpB e' = true) :
    SSt Γ G cf ini np io sb k N sc (.Assign [.Tuple es kk p] e' pos) (.unp tg e) := by
  intro X Fm W xo xs pn tk hp
  have pg := pg_ok (X := X) (Fm := Fm) (G := G) (ce := fun _ => true) (io := Γ.io) (N := N) (sc := sc) ⟨xo.hN, xo.nd, xo.sc, xo.calm, fun x _ => xs.fn x, pn⟩ tg (.Tuple es kk p) ht
  refine (ps_asg (sndE co e sc e' h X Fm W xo pn tk).1 pg (by cases e' <;> rfl) (swapped_no hu) rfl).imp fun D σ H ⟨S, env, er, h⟩ => ⟨S, env, er, ?_⟩
  simp only [ex] at h
  refine OutS.step er h fun w v M1 e1 q1 h1 => ?_
  obtain ⟨d, hd, h1⟩ := OutS.frz h1
  obtain ⟨M1', eH, e1', rp⟩ := freeze q1 hd e1
  show tG G Fm tg v σ M1.H D.nx
  rw [← eH]
  cases hs : setTg tg d env with
  | none => rw [hs] at h1; exact h1.elim
  | some env' =>
    rw [hs] at h1
    exact ⟨M1'.S, env, d, env', er.ext e1', rp, hs, fun σ' er' _ => h1 σ' _ e1'.keep er'⟩
/-! ### a, b = x, y -/
theorem ss_par {i j : Nat} {a b : E} {a' b' : Expr} {x y : Str} {px py pt pt2 pos : Pos} {kt k2 : Nat} (ha : trE Γ N sc a a' = true) (hb : trE Γ N sc b b' = true) (hi : N[i]? = some x) (hj : N[j]? = some y) (hx : sc.names.lookup x = some .local) (hy : sc.names.lookup y = some .local)
    (hl : py.line = px.line) (hne : x ≠ y) (h1 : starB a' = false) (h2 : starB b' = false) (h3 : [a', b'].all (foldedForSure 8) = false) (h4 : [a', b'].all (constantsAlone 8) = false) :
    SSt Γ G cf ini np io sb k N sc (.Assign [.Tuple [.Name x px, .Name y py] kt pt] (.Tuple [a', b'] k2 pt2) pos) (.par i j a b) := by
  intro X Fm W xo xs pn tk hp
  have hij : i ≠ j := fun e => by
    subst e
    rw [hi] at hj
    exact hne (Option.some.inj hj)
  refine ⟨fun pins s σ H D I hh => (ps_par (i := i) (j := j) xo.calm (by rw [xo.hN]; exact xo.nd) (by rw [xo.hN]; exact hi) (by rw [xo.hN]; exact hj) hij (by rw [xo.sc]; exact hx) (by rw [xo.sc]; exact hy)
    (tuple2 (sndE co a sc a' ha X Fm W xo pn tk).1 (sndE co b sc b' hb X Fm W xo pn tk).1 h1 h2) (swapped_yes (inOk xo I) (by rw [xo.sc]; exact hx) (by rw [xo.sc]; exact hy) hl hne h1 h2 h3 h4)).run pins s σ H D I ?_⟩
  obtain ⟨S, env, er, h⟩ := hh
  refine ⟨S, env, er, ?_⟩
  simp only [ex] at h
  obtain ⟨hio, h⟩ := OutS.ite h
  simp only [Bool.or_eq_false_iff] at hio
  refine OutS.step er h fun w v M1 e1 q1 h1 => ?_
  obtain ⟨d, hd, h1⟩ := OutS.frz h1
  obtain ⟨M1', eH, e1', rp⟩ := freeze q1 hd e1
  rw [← eH]
  refine ⟨M1'.S, env, er.ext e1', OutS.step (er.ext e1') (h1.keep e1'.keep) fun w2 v2 M2 e2 q2 h2 => ?_⟩
  obtain ⟨d2, hd2, h2⟩ := OutS.frz h2
  obtain ⟨M2', eH2, e2', rp2⟩ := freeze q2 hd2 e2
  refine ⟨v, v2, rfl, ?_⟩
  rw [← eH2]
  exact h2 _ M2' e2'.keep ((((er.ext e1').ext e2').put_anyF (pin_ne pn hio.1.1) (rp.mono e2'.keep)).put_anyF (pin_ne pn hio.1.2) rp2)
end
end Ev

/-! EvB18 -/
set_option Elab.async false
set_option linter.all false
set_option maxRecDepth 100000
set_option maxHeartbeats 4000000
/-! EvB18: lists and instances changed in place. -/
namespace Ev
open PySem PySem.Spec PyProof.Rows L2
variable {G : Ctx} {Fm : Frm} {M M' M0 M1 M2 : Mem} {X : Cx} {env : Env} {σ : L2.St} {W : WX}

theorem OutS.stepP {io : List Nat} {D : Ends} {i : Nat} {o : O} {Q' : VK} {r : R (List Nat × O)} {f : List Nat × O → RS} (er : ER G Fm M env σ) (h : OutS G Fm W io D M (lift env r f))
    (k : ∀ q v u M1, σ[i]? = some (some v) → Ext M M1 → Node G M1 q.1 o v q.2 u → OutS G Fm W io D M (f q) → Q' u M1.H) : OutP G W σ M i o Q' r := by
  cases r with
  | ok q => exact fun v u M1 hv e nd => k q v u M1 hv e nd h
  | exc c => exact OutS.exc er h
  | bad => exact h
theorem OutS.put {io : List Nat} {D : Ends} {i : Nat} {o n : O} {js : List Nat} (h : OutS G Fm W io D M (put1 env i o js n)) {o' : O} (e : Ev.putP o js n = some o') : OutS G Fm W io D M (.nx (env.set i o')) := by
  unfold put1 at h
  rw [e] at h
  exact h
/-- a list's items are changed: the new ones are made of the old ones' and of one new value's -/
theorem ER.putL (er : ER G Fm M env σ) (x : Ext M M1) {i b : Nat} {o n : O} {v w : V} {js : List Nat} {os os' : List O} {vs vs' : List V} (he : env[i]? = some o) (hv : σ[i]? = some (some v)) (nd : Node G M1 js o v (.l os) (.ref b)) (hb : M1.H b = some (.lst vs))
    (q : VR G Fm M M1 (.tm n) w)
    (mk : ∀ r F2, Owns G M1 os vs r → Own G M1 n w F2 → r.Nodup → F2.Nodup → (∀ a ∈ F2, a ∉ r) → ∃ F3, Owns G M1 os' vs' F3 ∧ F3.Nodup ∧ ∀ a ∈ F3, a ∈ r ∨ a ∈ F2) :
    ∃ o', Ev.putP o js (.l os') = some o' ∧ ER G Fm ⟨M1.S, L2.upd M1.H b (.lst vs')⟩ (env.set i o') σ ∧ Keep M1 ⟨M1.S, L2.upd M1.H b (.lst vs')⟩ := by
  obtain ⟨FS, s⟩ := er.slots
  have er1 := er.ext x
  obtain ⟨Fq, oq, nq, bq, sq, go⟩ := er1.putP (s.ext x) he hv nd ⟨os, .inl rfl⟩
  simp only [Own] at oq
  obtain ⟨b', vs0, r, e, rfl, hb', t⟩ := oq
  cases e
  rw [hb] at hb'
  cases hb'
  obtain ⟨nb, nr⟩ := List.nodup_cons.mp nq
  -- b and r stood ahead of the new value
  have old : ∀ a ∈ b :: r, M.H a ≠ none := fun a ha => (s.own i a (sq a ha)).2.1
  obtain ⟨F2, o2, n2, f2, g2⟩ := q
  obtain ⟨F3, t3, n3, f3⟩ := mk r F2 t o2 nr n2 fun a ha z => old a (List.mem_cons_of_mem _ z) (g2 a ha)
  have b3 : b ∉ F3 := fun z => by
    rcases f3 b z with z | z
    · exact nb z
    · exact old b List.mem_cons_self (g2 b z)
  have kp : Keep M1 ⟨M1.S, L2.upd M1.H b (.lst vs')⟩ := er1.upd_keep (s.ext x) (sq b List.mem_cons_self)
  obtain ⟨o', c1, c2, c3⟩ := go (.lst vs') (.l os') (b :: F3) (by
    simp only [Own]
    exact ⟨b, vs', F3, rfl, rfl, upd_same, t3.mono kp fun a ha u z => (upd_ne (fun q => by subst q; exact b3 ha)).trans z⟩) (List.nodup_cons.mpr ⟨b3, n3⟩) (fun a ha => by
      rcases List.mem_cons.mp ha with rfl | ha
      · exact .inl List.mem_cons_self
      · rcases f3 a ha with z | z
        · exact .inl (List.mem_cons_of_mem _ z)
        · exact .inr ⟨(f2 a z).1, o2.there a z, er.h0 (g2 a z), fun j hj => (s.own j a hj).2.1 (g2 a z)⟩)
  exact ⟨o', c1, c2, c3⟩
theorem nodup_app {α : Type} {a b : List α} (n1 : a.Nodup) (n2 : b.Nodup) (h : ∀ x ∈ b, x ∉ a) : (a ++ b).Nodup := List.nodup_append.mpr ⟨n1, n2, fun x hx y hy e => h y hy (e ▸ hx)⟩
theorem mk_app {os : List O} {vs : List V} {n : O} {w : V} (r F2 : List Addr) (t : Owns G M os vs r) (o2 : Own G M n w F2) (n1 : r.Nodup) (n2 : F2.Nodup) (d : ∀ a ∈ F2, a ∉ r) : ∃ F3, Owns G M (os ++ [n]) (vs ++ [w]) F3 ∧ F3.Nodup ∧ ∀ a ∈ F3, a ∈ r ∨ a ∈ F2 :=
  ⟨r ++ F2, Owns.append t (Owns.one o2), nodup_app n1 n2 d, fun a ha => List.mem_append.mp ha⟩
theorem mk_ins {os : List O} {vs : List V} {n : O} {w : V} (j : Nat) (r F2 : List Addr) (t : Owns G M os vs r) (o2 : Own G M n w F2) (n1 : r.Nodup) (n2 : F2.Nodup) (d : ∀ a ∈ F2, a ∉ r) :
    ∃ F3, Owns G M (os.take j ++ [n] ++ os.drop j) (vs.take j ++ [w] ++ vs.drop j) F3 ∧ F3.Nodup ∧ ∀ a ∈ F3, a ∈ r ∨ a ∈ F2 := by
  obtain ⟨Fa, Fb, rfl, ta, tb⟩ := Owns.cut j t
  obtain ⟨m1, m2, m3⟩ := List.nodup_append.mp n1
  refine ⟨Fa ++ F2 ++ Fb, Owns.append (Owns.append ta (Owns.one o2)) tb, nodup_app (nodup_app m1 n2 fun x hx z => d x hx (by simp [z])) m2 fun x hx z => ?_, fun a ha => ?_⟩
  · rcases List.mem_append.mp z with z | z
    · exact m3 x z x hx rfl
    · exact d x z (by simp [hx])
  · simp only [List.mem_append] at ha ⊢
    rcases ha with (ha | ha) | ha
    · exact .inl (.inl ha)
    · exact .inr ha
    · exact .inl (.inr ha)
theorem mk_set {os : List O} {vs : List V} {n : O} {w : V} {j : Nat} (hj : j < os.length) (r F2 : List Addr) (t : Owns G M os vs r) (o2 : Own G M n w F2) (n1 : r.Nodup) (n2 : F2.Nodup) (d : ∀ a ∈ F2, a ∉ r) :
    ∃ F3, Owns G M (os.set j n) (vs.set j w) F3 ∧ F3.Nodup ∧ ∀ a ∈ F3, a ∈ r ∨ a ∈ F2 := by
  obtain ⟨F3, h1, h2, h3⟩ := Owns.put t hj o2
  exact ⟨F3, h1, h3 n1 n2 d, h2⟩
/-- .. an instance's fields -/
theorem ER.putI (er : ER G Fm M env σ) (x : Ext M M1) {i b dx : Nat} {o n : O} {v w : V} {js : List Nat} {c : Nat} {os os' : List O} {fs fs' : List (Str × V)} (he : env[i]? = some o) (hv : σ[i]? = some (some v)) (nd : Node G M1 js o v (.i c os) (.ref b)) (hb : M1.H b = some (.ins (G.C c) dx fs))
    (q : VR G Fm M M1 (.tm n) w) (hfs : fs'.map (·.1) = (G.fl c).take fs'.length)
    (mk : ∀ r F2, Owns G M1 os (fs.map (·.2)) r → Own G M1 n w F2 → r.Nodup → F2.Nodup → (∀ a ∈ F2, a ∉ r) → ∃ F3, Owns G M1 os' (fs'.map (·.2)) F3 ∧ F3.Nodup ∧ ∀ a ∈ F3, a ∈ r ∨ a ∈ F2) :
    ∃ o', Ev.putP o js (.i c os') = some o' ∧ ER G Fm ⟨M1.S, L2.upd M1.H b (.ins (G.C c) dx fs')⟩ (env.set i o') σ ∧ Keep M1 ⟨M1.S, L2.upd M1.H b (.ins (G.C c) dx fs')⟩ := by
  obtain ⟨FS, s⟩ := er.slots
  have er1 := er.ext x
  obtain ⟨Fq, oq, nq, bq, sq, go⟩ := er1.putP (s.ext x) he hv nd ⟨os, .inr ⟨c, rfl⟩⟩
  simp only [Own] at oq
  obtain ⟨b', dx0, fs0, r, e, rfl, hb', hm, t⟩ := oq
  cases e
  rw [hb] at hb'
  cases hb'
  obtain ⟨nb, nr⟩ := List.nodup_cons.mp nq
  have old : ∀ a ∈ b :: r, M.H a ≠ none := fun a ha => (s.own i a (sq a ha)).2.1
  obtain ⟨F2, o2, n2, f2, g2⟩ := q
  obtain ⟨F3, t3, n3, f3⟩ := mk r F2 t o2 nr n2 fun a ha z => old a (List.mem_cons_of_mem _ z) (g2 a ha)
  have b3 : b ∉ F3 := fun z => by
    rcases f3 b z with z | z
    · exact nb z
    · exact old b List.mem_cons_self (g2 b z)
  have kp : Keep M1 ⟨M1.S, L2.upd M1.H b (.ins (G.C c) dx fs')⟩ := er1.upd_keep (s.ext x) (sq b List.mem_cons_self)
  obtain ⟨o', c1, c2, c3⟩ := go (.ins (G.C c) dx fs') (.i c os') (b :: F3) (by
    simp only [Own]
    exact ⟨b, dx, fs', F3, rfl, rfl, upd_same, hfs, t3.mono kp fun a ha u z => (upd_ne (fun q => by subst q; exact b3 ha)).trans z⟩) (List.nodup_cons.mpr ⟨b3, n3⟩) (fun a ha => by
      rcases List.mem_cons.mp ha with rfl | ha
      · exact .inl List.mem_cons_self
      · rcases f3 a ha with z | z
        · exact .inl (List.mem_cons_of_mem _ z)
        · exact .inr ⟨(f2 a z).1, o2.there a z, er.h0 (g2 a z), fun j hj => (s.own j a hj).2.1 (g2 a z)⟩)
  exact ⟨o', c1, c2, c3⟩
/-! ### fields stored -/
theorem putF_set {nm : Str} {y : V} : ∀ {fs : List (Str × V)} {f : Nat}, (fs.map (·.1)).Nodup → (fs.map (·.1))[f]? = some nm → (putF nm y fs).map (·.1) = fs.map (·.1) ∧ (putF nm y fs).map (·.2) = (fs.map (·.2)).set f y
  | [], f, _, h => by simp at h
  | (g, x) :: r, 0, _, h => by
    simp at h
    subst h
    simp [putF]
  | (g, x) :: r, f + 1, n, h => by
    have n' := List.nodup_cons.mp (show (g :: r.map (·.1)).Nodup from n)
    have h' : (r.map (·.1))[f]? = some nm := h
    have hg : ¬ g = nm := fun e => n'.1 (e ▸ List.mem_of_getElem? h')
    obtain ⟨h1, h2⟩ := putF_set (y := y) n'.2 h'
    simp only [putF, if_neg hg, List.map_cons, h1, h2, List.set_cons_succ]
    exact ⟨trivial, trivial⟩
theorem putF_new {nm : Str} {y : V} : ∀ {fs : List (Str × V)}, nm ∉ fs.map (·.1) → putF nm y fs = fs ++ [(nm, y)]
  | [], _ => rfl
  | (g, x) :: r, h => by
    simp only [List.map_cons, List.mem_cons, not_or] at h
    simp only [putF, if_neg (Ne.symm h.1), putF_new h.2, List.cons_append]
/-! ### o[i], by values -/
def rGetL : V → V → Hp → VK → Prop := fun o i H Q => ∃ p xs k j v, o = .ref p ∧ i = .int k ∧ H p = some (.lst xs) ∧ Ev.ixN xs.length k = some j ∧ xs[j]? = some v ∧ Q v H
theorem get_list : PGet X rGetL := by
  intro pins s σ H o i ov iv Q I ro ri h
  obtain ⟨p, xs, k, j, v, rfl, rfl, hp, hj, hx, q⟩ := h
  cases ro
  obtain ⟨t, rfl⟩ := ri
  obtain ⟨its, r, pl, hz⟩ := I.list (SqL.of hp)
  obtain ⟨w, ew, rw'⟩ := r.get hx
  have hl := r.length
  have hn := line63
  have fin : EP X pins σ Q w s := ⟨v, H, I, rw', q⟩
  unfold Ev.ixN at hj
  split at hj
  · rename_i h0
    split at hj
    · cases hj
      exact wpAny_getItem_list pl.isList h0 (by omega) (by simpa using ew) fin
    · cases hj
  · rename_i h0
    split at hj
    · cases hj
      refine wpAny_getItem_list_neg pl.isList (by omega) (by rw [List.size_toArray]; omega) (by omega) ?_ fin
      rw [List.size_toArray, ← hl]
      simpa using ew
    · cases hj
end Ev

/-! EvB19 -/
set_option Elab.async false
set_option linter.all false
set_option maxRecDepth 100000
set_option maxHeartbeats 4000000
/-! EvB19: statements are sound: what changes lists and fields. -/
namespace Ev
open PySem PySem.Spec PyProof.Rows L2
variable {G : Ctx} {Fm : Frm} {M M' M0 M1 M2 : Mem} {X : Cx} {env : Env} {σ : L2.St} {W : WX}
section
variable {Γ : Gm} {cf : Cf} {ini np : Nat → Nat} {io : Nat → List Nat} {sb : Nat → Nat → Bool} {k : Nat} {N : List Str} {sc : Scope}
/-- the list at a node -/
theorem ER.nodeL (er : ER G Fm M env σ) {i : Nat} {o : O} {v u : V} {js : List Nat} {os : List O} (he : env[i]? = some o) (hv : σ[i]? = some (some v)) (nd : Node G M js o v (.l os) u) : ∃ b vs, u = .ref b ∧ M.H b = some (.lst vs) ∧ vs.length = os.length ∧ ∃ r, Owns G M os vs r := by
  have hd : o ≠ .dead := fun z => by
    subst z
    cases js with
    | nil => simp [Node] at nd
    | cons j js => simp [Node] at nd
  obtain ⟨Fq, oq⟩ := er.node he hd hv nd
  simp only [Own] at oq
  obtain ⟨b, vs, r, rfl, rfl, hb, t⟩ := oq
  exact ⟨b, vs, rfl, hb, t.length, r, t⟩
theorem hasL {K : PySem.W.Frag} {H : Hp} {b : Addr} {vs : List V} (h : H b = some (.lst vs)) : tyV K "list" (.ref b) H := .inl ⟨rfl, vs, SqL.of h⟩
variable (co : CfOk cf np io)
include co
theorem ss_app {i : Nat} {p : Pt} {e : E} {o' e' : Expr} {apos cpos pos : Pos} (hp' : trP Γ N sc i p o' = true) (hb : baseB o' = true) (hs : starB e' = false) (h : trE Γ N sc e e' = true) (hl : (apos.endLine == cpos.line) = true) :
    SSt Γ G cf ini np io sb k N sc (.Expr (.Call (.Attribute o' "append" apos) [e'] [] cpos) pos) (.app i p e) := by
  intro X Fm W xo xs pn tk hp
  refine (ps_expr (pe_bm PySem.F.plainAttrs_list PySem.F.slot_list_append PySem.F.type_list_append mt_append (pp_ok co xo pn tk p o' hp') (pa_cons (sndE co e sc e' h X Fm W xo pn tk).1 pa_nil (star_each hs)) (base_ok hb)
    (by rw [star_each hs]; rfl) hl (star_each hs) rfl) rfl).imp fun D σ H ⟨S, env, er, h⟩ => ?_
  simp only [ex] at h
  cases he : env[i]? with
  | none => rw [he] at h; exact h.elim
  | some o =>
    rw [he] at h
    refine ⟨S, env, o, er, he, OutS.stepP er h fun q v u M1 hv e1 nd h1 => ?_⟩
    obtain ⟨js, q⟩ := q
    cases q with
    | l os =>
      simp only at h1 nd
      obtain ⟨b, vs, rfl, hbv, hlen, _⟩ := (er.ext e1).nodeL he hv nd
      refine ⟨hasL hbv, M1.S, env, er.ext e1, OutS.step (er.ext e1) (h1.keep e1.keep) fun w y M2 e2 q2 h2 => ?_⟩
      obtain ⟨n, rfl, h2⟩ := OutS.kept h2
      by_cases hz : os.length < sizeMax
      · simp only [if_pos hz] at h2
        have hbv2 := e2.h _ _ hbv
        obtain ⟨o2, c1, c2, c3⟩ := (er.ext e1).putL e2 he hv (nd.mono e2.h) hbv2 q2 mk_app
        exact ⟨b, vs, y, rfl, rfl, hbv2, by rw [hlen, ← line]; exact hz, (h2.put c1) _ _ (e2.keep.trans c3) c2⟩
      · simp only [if_neg hz] at h2
        exact h2.elim
    | _ => exact h1.elim
theorem ss_ins {i : Nat} {p : Pt} {a e : E} {o' a' e' : Expr} {apos cpos pos : Pos} (hp' : trP Γ N sc i p o' = true) (hb : baseB o' = true) (hs1 : starB a' = false) (hs : starB e' = false) (ha : trE Γ N sc a a' = true) (h : trE Γ N sc e e' = true) (hl : (apos.endLine == cpos.line) = true) :
    SSt Γ G cf ini np io sb k N sc (.Expr (.Call (.Attribute o' "insert" apos) [a', e'] [] cpos) pos) (.ins i p a e) := by
  intro X Fm W xo xs pn tk hp
  refine (ps_expr (pe_bm PySem.F.plainAttrs_list PySem.F.slot_list_insert PySem.F.type_list_insert mt_insert (pp_ok co xo pn tk p o' hp') (pa_cons (sndE co a sc a' ha X Fm W xo pn tk).1 (pa_cons (sndE co e sc e' h X Fm W xo pn tk).1 pa_nil (star_each hs)) (star_each hs1)) (base_ok hb)
    (by rw [star_each hs1, star_each hs]; rfl) hl (star_each hs1) (by rw [star_each hs]; rfl)) rfl).imp fun D σ H ⟨S, env, er, h⟩ => ?_
  simp only [ex] at h
  cases he : env[i]? with
  | none => rw [he] at h; exact h.elim
  | some o =>
    rw [he] at h
    refine ⟨S, env, o, er, he, OutS.stepP er h fun q v u M1 hv e1 nd h1 => ?_⟩
    obtain ⟨js, q⟩ := q
    cases q with
    | l os =>
      simp only at h1 nd
      obtain ⟨b, vs, rfl, hbv, hlen, _⟩ := (er.ext e1).nodeL he hv nd
      refine ⟨hasL hbv, M1.S, env, er.ext e1, OutS.step (er.ext e1) (h1.keep e1.keep) fun w y M2 e2 q2 h2 => ?_⟩
      obtain ⟨kk, hk, h2⟩ := OutS.of h2
      obtain ⟨Fy, oy⟩ := q2.own
      refine ⟨M2.S, env, (er.ext e1).ext e2, OutS.step ((er.ext e1).ext e2) (h2.keep e2.keep) fun w3 y3 M3 e3 q3 h3 => ?_⟩
      obtain ⟨n, rfl, h3⟩ := OutS.kept h3
      by_cases hz : os.length < sizeMax ∧ 0 ≤ kk ∧ kk < 2 ^ 63
      · simp only [if_pos hz] at h3
        have hbv2 := (e2.trans e3).h _ _ hbv
        obtain ⟨o2, c1, c2, c3⟩ := ((er.ext e1).ext e2).putL e3 he hv (nd.mono (e2.trans e3).h) hbv2 q3 (mk_ins kk.toNat)
        exact ⟨b, vs, kk, y3, rfl, by rw [asInt_of oy hk], hbv2, by rw [hlen, ← line]; exact hz.1, hz.2.1, hz.2.2, (h3.put c1) _ _ (e3.keep.trans c3) c2⟩
      · simp only [if_neg hz] at h3
        exact h3.elim
    | _ => exact h1.elim
theorem ixN_lt {n j : Nat} {i : Int} (h : Ev.ixN n i = some j) : j < n := by
  unfold Ev.ixN at h
  split at h
  · split at h
    · cases h; omega
    · cases h
  · split at h
    · cases h; omega
    · cases h
theorem ss_sto {i : Nat} {p : Pt} {a e : E} {o' a' e' : Expr} {p2 pos : Pos} (hp' : trP Γ N sc i p o' = true) (hx : ixB a' = true) (ha : trE Γ N sc a a' = true) (h : trE Γ N sc e e' = true) :
    SSt Γ G cf ini np io sb k N sc (.Assign [.Subscript o' a' p2] e' pos) (.sto i p a e) := by
  intro X Fm W xo xs pn tk hp
  have hasg : ∀ v, assign (.Subscript o' a' p2) X.env v = (do
      let ov ← holding [v] (eval o' X.env)
      let iv ← holding [v, ov] (eval a' X.env)
      standAt p2
      holding [v, ov, iv] (setItem ov iv v)
      release [v, ov, iv] []) := by
    intro v
    cases a' <;> first | rfl | (simp [ixB] at hx; done)
  refine (ps_asg (sndE co e sc e' h X Fm W xo pn tk).1 (pg_sub (pp_ok co xo pn tk p o' hp') (sndE co a sc a' ha X Fm W xo pn tk).1 set_list hasg) (by cases e' <;> rfl) (by cases e' <;> rfl) rfl).imp fun D σ H ⟨S, env, er, h⟩ => ⟨S, env, er, ?_⟩
  simp only [ex] at h
  refine OutS.step er h fun w y M1 e1 q1 h1 => ?_
  obtain ⟨n, rfl, h1⟩ := OutS.kept h1
  cases he : env[i]? with
  | none => rw [he] at h1; exact h1.elim
  | some o =>
    rw [he] at h1
    refine ⟨M1.S, env, o, er.ext e1, he, OutS.stepP (er.ext e1) (h1.keep e1.keep) fun q v u M2 hv e2 nd h2 => ?_⟩
    obtain ⟨js, q⟩ := q
    cases q with
    | l os =>
      simp only at h2 nd
      have x2 := e1.trans e2
      refine ⟨M2.S, env, er.ext x2, OutS.step (er.ext x2) (h2.keep e2.keep) fun w3 y3 M3 e3 q3 h3 => ?_⟩
      obtain ⟨kk, hk, h3⟩ := OutS.of h3
      obtain ⟨j, hj, h3⟩ := OutS.of h3
      obtain ⟨Fy, oy⟩ := q3.own
      have x3 := x2.trans e3
      have nd3 := nd.mono e3.h
      obtain ⟨b, vs, rfl, hbv, hlen, _⟩ := (er.ext x3).nodeL he hv nd3
      obtain ⟨o2, c1, c2, c3⟩ := er.putL x3 he hv nd3 hbv ((q1.ext e2).ext e3) (mk_set (ixN_lt co hj))
      exact ⟨b, vs, kk, j, rfl, asInt_of oy hk, hbv, by rw [hlen]; exact hj, (h3.put c1) _ _ (e3.keep.trans c3) c2⟩
    | _ => exact h2.elim
theorem ip_of {op : Op} : ∃ f, (∀ u w r, augI op u w = some r → r = f u w) ∧ ((∃ u w r, augI op u w = some r) → PIp X (pyOp op) (ipI f)) := by
  cases op with
  | add => exact ⟨fun i j => i + j, fun u w r h => by simp [augI] at h; exact h.symm, fun _ => ip_add⟩
  | sub => exact ⟨fun i j => i - j, fun u w r h => by simp [augI] at h; exact h.symm, fun _ => ip_sub⟩
  | _ => exact ⟨fun i j => 0, fun u w r h => by simp [augI] at h, fun ⟨_, _, _, h⟩ => by simp [augI] at h⟩
theorem ss_adto {op : Op} {i : Nat} {p : Pt} {a e : E} {o' a' e' : Expr} {p2 pos : Pos} (hop : op = .add ∨ op = .sub) (hp' : trP Γ N sc i p o' = true) (hx : ixB a' = true) (ha : trE Γ N sc a a' = true) (h : trE Γ N sc e e' = true) :
    SSt Γ G cf ini np io sb k N sc (.AugAssign (.Subscript o' a' p2) (pyOp op) e' pos) (.adto op i p a e) := by
  intro X Fm W xo xs pn tk hp
  obtain ⟨f, hf, hip⟩ := ip_of co (X := X) (op := op)
  have hip' := hip (by rcases hop with rfl | rfl <;> exact ⟨0, 0, _, rfl⟩)
  refine (ps_augS (pp_ok co xo pn tk p o' hp') (sndE co a sc a' ha X Fm W xo pn tk).1 get_list (sndE co e sc e' h X Fm W xo pn tk).1 hip' set_list (by
    intro ov iv new
    cases a' <;> first | rfl | (simp [ixB] at hx; done))).imp fun D σ H ⟨S, env, er, h⟩ => ?_
  simp only [ex] at h
  cases he : env[i]? with
  | none => rw [he] at h; exact h.elim
  | some o =>
    rw [he] at h
    refine ⟨S, env, o, er, he, OutS.stepP er h fun q v u M1 hv e1 nd h1 => ?_⟩
    obtain ⟨js, q⟩ := q
    cases q with
    | l os =>
      simp only at h1 nd
      refine ⟨M1.S, env, er.ext e1, OutS.step (er.ext e1) (h1.keep e1.keep) fun w y M2 e2 q2 h2 => ?_⟩
      obtain ⟨kk, hk, h2⟩ := OutS.of h2
      obtain ⟨j, hj, h2⟩ := OutS.of h2
      obtain ⟨Fy, oy⟩ := q2.own
      have x2 := e1.trans e2
      have nd2 := nd.mono e2.h
      obtain ⟨b, vs, rfl, hbv, hlen, r, t⟩ := (er.ext x2).nodeL he hv nd2
      cases ho : os[j]? with
      | none => rw [ho] at h2; exact h2.elim
      | some oj =>
        rw [ho] at h2
        cases oj with
        | fz dj =>
          cases dj with
          | int uu =>
            simp only at h2
            obtain ⟨vj, Fj, hvj, oj1, _⟩ := t.get ho
            simp only [Own, Rep] at oj1
            obtain ⟨_, rfl⟩ := oj1
            refine ⟨b, vs, kk, j, .int uu, rfl, asInt_of oy hk, hbv, by rw [hlen]; exact hj, hvj, M2.S, env, er.ext x2, OutS.step (er.ext x2) (h2.keep e2.keep) fun w3 y3 M3 e3 q3 h3 => ?_⟩
            obtain ⟨ww, hw, h3⟩ := OutS.of h3
            obtain ⟨rr, hr, h3⟩ := OutS.of h3
            obtain ⟨F3, o3⟩ := q3.own
            have hbv3 := e3.h _ _ hbv
            refine ⟨uu, ww, rfl, asInt_of o3 hw, b, vs, kk, j, rfl, asInt_of oy hk, hbv3, by rw [hlen]; exact hj, ?_⟩
            have hrf := hf _ _ _ hr
            obtain ⟨o2, c1, c2, c3⟩ := (er.ext x2).putL e3 (n := .fz (.int rr)) (w := .int rr) he hv (nd2.mono e3.h) hbv3 (VR.fz (by simp only [Rep])) (mk_set (j := j) (ixN_lt co hj))
            rw [← hrf]
            exact (h3.put c1) _ _ (e3.keep.trans c3) c2
          | _ => exact h2.elim
        | _ => exact h2.elim
    | _ => exact h1.elim
theorem ss_aug {op : Op} {i : Nat} {e : E} {e' : Expr} {x : Str} {p2 pos : Pos} (hop : op = .add ∨ op = .sub) (hi : N[i]? = some x) (hl : locB sc x = true) (h : trE Γ N sc e e' = true) :
    SSt Γ G cf ini np io sb k N sc (.AugAssign (.Name x p2) (pyOp op) e' pos) (.aug op i e) := by
  intro X Fm W xo xs pn tk hp
  obtain ⟨f, hf, hip⟩ := ip_of co (X := X) (op := op)
  have hip' := hip (by rcases hop with rfl | rfl <;> exact ⟨0, 0, _, rfl⟩)
  refine (ps_aug (i := i) (by rw [xo.hN]; exact xo.nd) (by rw [xo.hN]; exact hi) (by rw [xo.sc]; exact locB_ok hl) (sndE co e sc e' h X Fm W xo pn tk).1 hip' (.inl (xs.fn x))).imp fun D σ H ⟨S, env, er, h⟩ => ?_
  simp only [ex] at h
  obtain ⟨hio, h⟩ := OutS.ite h
  cases he : env[i]? with
  | none => rw [he] at h; exact h.elim
  | some o =>
    rw [he] at h
    cases o with
    | fz dj =>
      cases dj with
      | int uu =>
        simp only at h
        obtain ⟨v, e1, q⟩ := var_ok er he (by simp)
        obtain ⟨Fv, ov⟩ := q.own
        simp only [look, Val.o, Own, Rep] at ov
        obtain ⟨_, rfl⟩ := ov
        refine ⟨_, e1, S, env, er, OutS.step er h fun w y M1 e1 q1 h1 => ?_⟩
        obtain ⟨ww, hw, h1⟩ := OutS.of h1
        obtain ⟨rr, hr, h1⟩ := OutS.of h1
        obtain ⟨F3, o3⟩ := q1.own
        refine ⟨uu, ww, rfl, asInt_of o3 hw, ?_⟩
        rw [← hf _ _ _ hr]
        exact h1 _ M1 e1.keep ((er.ext e1).put_anyF (pin_ne pn hio) (by simp only [Rep]))
      | _ => exact h.elim
    | _ => exact h.elim
theorem ss_fst {i : Nat} {p : Pt} {c f : Nat} {e : E} {o' e' : Expr} {nm : Str} {q : Str × List Str} {p2 pos : Pos} (hp' : trP Γ N sc i p o' = true) (hq : Γ.cl[c]? = some q) (hn : q.2[f]? = some nm) (hz : q.2.length < 1000) (h : trE Γ N sc e e' = true) :
    SSt Γ G cf ini np io sb k N sc (.Assign [.Attribute o' nm p2] e' pos) (.fst i p c f e) := by
  intro X Fm W xo xs pn tk hp
  refine (ps_fld (f := nm) (pp_ok co xo pn tk p o' hp') (sndE co e sc e' h X Fm W xo pn tk).1 (by cases e' <;> rfl)).imp fun D σ H ⟨S, env, er, h⟩ => ⟨S, env, er, ?_⟩
  simp only [ex] at h
  refine OutS.step er h fun w y M1 e1 q1 h1 => ?_
  obtain ⟨n, rfl, h1⟩ := OutS.kept h1
  cases he : env[i]? with
  | none => rw [he] at h1; exact h1.elim
  | some o =>
    rw [he] at h1
    refine ⟨M1.S, env, o, er.ext e1, he, OutS.stepP (er.ext e1) (h1.keep e1.keep) fun q' v u M2 hv e2 nd h2 => ?_⟩
    obtain ⟨js, q'⟩ := q'
    cases q' with
    | i c' os =>
      simp only at h2 nd
      by_cases hc : c' ≠ c
      · simp only [if_pos hc] at h2
        exact h2.elim
      · simp only [if_neg hc] at h2
        have hc' : c' = c := Decidable.not_not.mp hc
        subst hc'
        have x2 := e1.trans e2
        obtain ⟨g1, g2, g3, g4⟩ := xo.fc.cl c' q hq
        have hne : q.2 ≠ [] := fun z => by rw [z] at hn; simp at hn
        have hd : o ≠ .dead := fun z => by
          subst z
          cases js with
          | nil => simp [Node] at nd
          | cons j js => simp [Node] at nd
        obtain ⟨Fq, oq⟩ := (er.ext x2).node he hd hv nd
        simp only [Own] at oq
        obtain ⟨b, dx, fs, r, rfl, rfl, hb, hm, t⟩ := oq
        have hl : fs.length = os.length := by
          have := t.length
          simpa using this
        have hf1000 : fs.length < 1000 := by
          have h1 : (fs.map (·.1)).length = ((G.fl c').take fs.length).length := by rw [hm]
          rw [List.length_map, List.length_take, g1] at h1
          omega
        have nds : (fs.map (·.1)).Nodup := by
          rw [hm, g1]
          exact g2.sublist (List.take_sublist _ _)
        refine ⟨b, G.C c', dx, fs, rfl, hb, g3 hne, g4 nm (List.mem_of_getElem? hn), hf1000, ?_⟩
        by_cases hlt : f < os.length
        · simp only [if_pos hlt] at h2
          have hk : (fs.map (·.1))[f]? = some nm := by
            rw [hm, g1, List.getElem?_take_of_lt (by omega)]
            exact hn
          obtain ⟨k1, k2⟩ := putF_set (y := y) nds hk
          have hlen : (putF nm y fs).length = fs.length := by
            have := congrArg List.length k1
            simpa using this
          obtain ⟨o2, c1, c2, c3⟩ := er.putI x2 (fs' := putF nm y fs) he hv nd hb (q1.ext e2) (by rw [k1, hm, hlen]) (by rw [k2]; exact mk_set hlt)
          exact (h2.put c1) _ _ (e2.keep.trans c3) c2
        · simp only [if_neg hlt] at h2
          by_cases heq : f = os.length
          · simp only [if_pos heq] at h2
            have hnew : nm ∉ fs.map (·.1) := fun z => by
              rw [hm, g1] at z
              obtain ⟨j, hj⟩ := List.getElem?_of_mem z
              have hj1 : j < fs.length := by
                have := (List.getElem?_eq_some_iff.mp hj).1
                rw [List.length_take] at this
                omega
              rw [List.getElem?_take_of_lt hj1] at hj
              have := (List.getElem?_inj (i := j) (j := f) (List.getElem?_eq_some_iff.mp hj).1 g2).mp (by rw [hj, hn])
              omega
            have k1 := putF_new (y := y) hnew
            obtain ⟨o2, c1, c2, c3⟩ := er.putI x2 (fs' := putF nm y fs) he hv nd hb (q1.ext e2) (by
              rw [k1, List.map_append, hm, List.length_append, g1]
              simp only [List.map_cons, List.map_nil, List.length_cons, List.length_nil, Nat.zero_add]
              have hlt2 : fs.length < q.2.length := by
                have := (List.getElem?_eq_some_iff.mp hn).1
                omega
              rw [List.take_succ_eq_append_getElem hlt2]
              congr 2
              have h5 := (List.getElem?_eq_some_iff.mp hn).2
              rw [← h5]
              congr 1
              omega) (by rw [k1, List.map_append]; exact mk_app)
            exact (h2.put c1) _ _ (e2.keep.trans c3) c2
          · simp only [if_neg heq] at h2
            exact h2.elim
    | _ => exact h2.elim
end
end Ev

/-! EvB20 -/
set_option Elab.async false
set_option linter.all false
set_option maxRecDepth 100000
set_option maxHeartbeats 4000000
/-! EvB20: control flow; every checked statement is sound. -/
namespace Ev
open PySem PySem.Spec PyProof.Rows L2
variable {G : Ctx} {Fm : Frm} {M M' M0 M1 M2 : Mem} {X : Cx} {env : Env} {σ : L2.St} {W : WX}

def loopR (r : RS) (next : Env → RS) : RS := match r with
  | .nx env => next env
  | .ct env => next env
  | .bk env => .nx env
  | r => r
theorem OutS.loop {io : List Nat} {D : Ends} {r : RS} {next : Env → RS} {Nx : L2.St → Hp → Prop} (k : Keep M M1) (h : OutS G Fm W io D M (loopR r next))
    (hn : ∀ env σ M', Keep M1 M' → ER G Fm M' env σ → OutS G Fm W io D M' (next env) → Nx σ M'.H) : OutS G Fm W io { D with nx := Nx, ct := Nx, bk := D.nx } M1 r := by
  cases r with
  | nx env => exact fun σ M' q er => hn env σ M' q er (OutS.keep (k.trans q) h)
  | ct env => exact fun σ M' q er => hn env σ M' q er (OutS.keep (k.trans q) h)
  | bk env => exact fun σ M' q er => h σ M' (k.trans q) er
  | rt o env => exact fun v σ M' q er => h v σ M' (k.trans q) er
  | exc c env => exact fun σ M' q er => h σ M' (k.trans q) er
  | bad => exact h
theorem forT_cons {f : D → Env → RS} {d : D} {ds : List D} {env : Env} : forT f (d :: ds) env = loopR (f d env) (forT f ds) := by
  simp only [forT]
  cases f d env <;> rfl
theorem whlT_succ {c : Env → R Bool} {b : Env → RS} {n : Nat} {env : Env} : whlT c b (n + 1) env = lift env (c env) fun t => match t with
    | false => .nx env
    | true => loopR (b env) (whlT c b n) := by
  simp only [whlT]
  congr 1
section
variable {Γ : Gm} {cf : Cf} {ini np : Nat → Nat} {io : Nat → List Nat} {sb : Nat → Nat → Bool} {k : Nat} {N : List Str} {sc : Scope}
theorem SSs.nil : SSs Γ G cf ini np io sb k N sc [] .nil := fun X Fm W xo xs pn tk hp => pss_nil.imp fun D σ H ⟨S, env, er, h⟩ => by
  simp only [exs] at h
  exact h σ ⟨S, H⟩ Keep.refl er
theorem SSs.cons {st : Stmt} {sts : List Stmt} {s : S} {ss : Ss} (h1 : SSt Γ G cf ini np io sb k N sc st s) (h2 : SSs Γ G cf ini np io sb k N sc sts ss) : SSs Γ G cf ini np io sb k N sc (st :: sts) (.cons s ss) := fun X Fm W xo xs pn tk hp =>
  (pss_cons (h1 X Fm W xo xs pn tk hp) (h2 X Fm W xo xs pn tk hp)).imp fun D σ H ⟨S, env, er, h⟩ => by
    refine ⟨S, env, er, ?_⟩
    simp only [exs] at h
    cases hq : ex cf ini sb Γ.io s env with
    | nx env' =>
      rw [hq] at h
      exact fun σ' M' kp er' => ⟨M'.S, env', er', h.keep kp⟩
    | rt o env' => rw [hq] at h; exact h
    | bk env' => rw [hq] at h; exact h
    | ct env' => rw [hq] at h; exact h
    | exc c env' => rw [hq] at h; exact h
    | bad => rw [hq] at h; exact h.elim
/-- a slot is frozen: no statement stands for it -/
theorem SSs.frz {sts : List Stmt} {i : Nat} {ss : Ss} (h2 : SSs Γ G cf ini np io sb k N sc sts ss) : SSs Γ G cf ini np io sb k N sc sts (.cons (.frz i) ss) := fun X Fm W xo xs pn tk hp =>
  (h2 X Fm W xo xs pn tk hp).imp fun D σ H ⟨S, env, er, h⟩ => by
    simp only [exs, ex] at h
    cases hio : Γ.io.contains i with
    | true => simp only [hio, if_true] at h; exact h.elim
    | false =>
      simp only [hio, if_neg Bool.false_ne_true] at h
      cases he : env[i]? with
      | none => rw [he] at h; exact h.elim
      | some o =>
        rw [he] at h
        cases hd : o.rd with
        | none => simp only [Option.bind_some, hd] at h; exact h.elim
        | some d =>
          simp only [Option.bind_some, hd, thn] at h
          obtain ⟨M', eH, kp, er'⟩ := er.freeze he hd (pin_ne pn hio)
          refine ⟨M'.S, env.set i (.fz d), ?_, ?_⟩
          · rw [show H = M'.H from eH.symm]; exact er'
          · rw [show H = M'.H from eH.symm]; exact h.keep kp
theorem ss_pass {p : Pos} : SSt Γ G cf ini np io sb k N sc (.Pass p) .pass := fun X Fm W xo xs pn tk hp => ps_pass.imp fun D σ H ⟨S, env, er, h⟩ => by
  simp only [ex] at h
  exact h σ ⟨S, H⟩ Keep.refl er
theorem ss_brk {p : Pos} : SSt Γ G cf ini np io sb k N sc (.Break p) .brk := fun X Fm W xo xs pn tk hp => ps_break.imp fun D σ H ⟨S, env, er, h⟩ => by
  simp only [ex] at h
  exact h σ ⟨S, H⟩ Keep.refl er
theorem ss_cont {p : Pos} : SSt Γ G cf ini np io sb k N sc (.Continue p) .cont := fun X Fm W xo xs pn tk hp => ps_continue.imp fun D σ H ⟨S, env, er, h⟩ => by
  simp only [ex] at h
  exact h σ ⟨S, H⟩ Keep.refl er
theorem ss_retN {p : Pos} : SSt Γ G cf ini np io sb k N sc (.Return none p) .retN := fun X Fm W xo xs pn tk hp => ps_retN.imp fun D σ H ⟨S, env, er, h⟩ => by
  simp only [ex] at h
  obtain ⟨FS, s⟩ := er.slots
  exact h .non σ ⟨S, H⟩ Keep.refl er ⟨FS, [], s, by simp [Own, Rep], List.nodup_nil, by simp, by simp⟩
variable (co : CfOk cf np io)
include co
theorem ss_expr {e : E} {e' : Expr} {p : Pos} (hc : isComp e' = false) (h : trE Γ N sc e e' = true) : SSt Γ G cf ini np io sb k N sc (.Expr e' p) (.expr e) := by
  intro X Fm W xo xs pn tk hp
  refine (ps_expr (sndE co e sc e' h X Fm W xo pn tk).1 (swap_no hc)).imp fun D σ H ⟨S, env, er, h⟩ => ⟨S, env, er, ?_⟩
  simp only [ex] at h
  exact OutS.step er h fun w v M1 e1 q1 h1 => h1 σ M1 e1.keep (er.ext e1)
theorem ss_ret {e : E} {e' : Expr} {p : Pos} (h : trE Γ N sc e e' = true) : SSt Γ G cf ini np io sb k N sc (.Return (some e') p) (.ret e) := by
  intro X Fm W xo xs pn tk hp
  refine (ps_ret (sndE co e sc e' h X Fm W xo pn tk).1).imp fun D σ H ⟨S, env, er, h⟩ => ⟨S, env, er, ?_⟩
  simp only [ex] at h
  refine OutS.step er h fun w v M1 e1 q1 h1 => ?_
  obtain ⟨FS, s⟩ := er.slots
  obtain ⟨F, o1, n1, f1, g1⟩ := q1
  cases hio : Γ.io with
  | nil =>
    rw [hio] at h1
    exact h1 v σ M1 e1.keep (er.ext e1) ⟨FS, F, s.ext e1, o1, n1, f1, fun z => absurd rfl z⟩
  | cons a l =>
    rw [hio] at h1
    obtain ⟨o, rfl, h1⟩ := OutS.kept h1
    exact h1 v σ M1 e1.keep (er.ext e1) ⟨FS, F, s.ext e1, o1, n1, f1, fun _ a ha => ⟨er.h0 (g1 a ha), fun j hj => (s.own j a hj).2.1 (g1 a ha)⟩⟩
theorem ss_if {c : E} {a b : Ss} {c' : Expr} {a' b' : List Stmt} {p : Pos} (ht : tst c = true) (h : trE Γ N sc c c' = true) (ha : SSs Γ G cf ini np io sb k N sc a' a) (hb : SSs Γ G cf ini np io sb k N sc b' b) : SSt Γ G cf ini np io sb k N sc (.If c' a' b' p) (.ifs c a b) := by
  intro X Fm W xo xs pn tk hp
  refine (ps_if ((sndE co c sc c' h X Fm W xo pn tk).2.1 ht) (ha X Fm W xo xs pn tk hp) (hb X Fm W xo xs pn tk hp)).imp fun D σ H ⟨S, env, er, h⟩ => ⟨S, env, er, ?_⟩
  simp only [ex] at h
  refine OutS.step er h fun w v M1 e1 q1 h1 => ?_
  obtain ⟨r, hr, h1⟩ := OutS.of h1
  obtain ⟨F, o1⟩ := q1.own
  refine ⟨r, asBl_of o1 hr, ?_⟩
  cases r with
  | true => exact ⟨M1.S, env, er.ext e1, h1.keep e1.keep⟩
  | false => exact ⟨M1.S, env, er.ext e1, h1.keep e1.keep⟩
theorem ss_whl {n : Nat} {c : E} {b : Ss} {c' : Expr} {b' : List Stmt} {p : Pos} (ht : tst c = true) (h : trE Γ N sc c c' = true) (hb : SSs Γ G cf ini np io sb k N sc b' b) : SSt Γ G cf ini np io sb k N sc (.While c' b' [] p) (.whl n c b) := by
  intro X Fm W xo xs pn tk hp
  refine (ps_while hp ((sndE co c sc c' h X Fm W xo pn tk).2.1 ht) (hb X Fm W xo xs pn tk hp)).imp fun D σ H ⟨S, env, er, h⟩ => ?_
  simp only [ex] at h
  refine ⟨fun m σ H => ∃ M env, M.H = H ∧ ER G Fm M env σ ∧ OutS G Fm W Γ.io D M (whlT (fun env => (ev cf ini c env).bind fun x => R.of (asBl x.o)) (fun env => exs cf ini sb Γ.io b env) m env), ⟨n, ⟨S, H⟩, env, rfl, er, h⟩, ?_⟩
  rintro m σ H ⟨M, env, rfl, er, h⟩
  refine ⟨M.S, env, er, ?_⟩
  cases m with
  | zero => exact h.elim
  | succ m =>
    rw [whlT_succ] at h
    have h' : OutS G Fm W Γ.io D M (lift env (ev cf ini c env) fun x => lift env (R.of (asBl x.o)) fun t => match t with
      | false => .nx env
      | true => loopR (exs cf ini sb Γ.io b env) (whlT (fun env => (ev cf ini c env).bind fun x => R.of (asBl x.o)) (fun env => exs cf ini sb Γ.io b env) m)) := by
      cases hq : ev cf ini c env with
      | ok w => rw [hq] at h; exact h
      | exc c => rw [hq] at h; exact h
      | bad => rw [hq] at h; exact h
    refine OutS.step er h' fun w v M1 e1 q1 h1 => ?_
    obtain ⟨r, hr, h1⟩ := OutS.of h1
    obtain ⟨F, o1⟩ := q1.own
    refine ⟨r, asBl_of o1 hr, ?_⟩
    cases r with
    | false =>
      rw [if_neg Bool.false_ne_true]
      exact h1 σ M1 e1.keep (er.ext e1)
    | true =>
      rw [if_pos rfl]
      refine ⟨fun σ' H' => ∃ M env, M.H = H' ∧ ER G Fm M env σ' ∧ OutS G Fm W Γ.io D M (whlT (fun env => (ev cf ini c env).bind fun x => R.of (asBl x.o)) (fun env => exs cf ini sb Γ.io b env) m env), fun σ' H' q => ⟨m, Nat.lt_succ_self m, q⟩, M1.S, env, er.ext e1, ?_⟩
      exact OutS.loop e1.keep h1 fun env' σ' M' kp er' h' => ⟨M', env', rfl, er', h'⟩
theorem ss_for {tg : Tg} {it : It} {b : Ss} {tg' it' : Expr} {b' : List Stmt} {p : Pos} (hi : trI Γ N sc it tg' it' = true) (ht : trT (fun _ => true) Γ.io N sc tg tg' = true) (hb : SSs Γ G cf ini np io sb k N sc b' b) : SSt Γ G cf ini np io sb k N sc (.For tg' it' b' [] p) (.for_ tg it b) := by
  intro X Fm W xo xs pn tk hp
  have pg := pg_ok (X := X) (Fm := Fm) (G := G) (ce := fun _ => true) (io := Γ.io) (N := N) (sc := sc) ⟨xo.hN, xo.nd, xo.sc, xo.calm, fun x _ => xs.fn x, pn⟩ tg tg' ht
  refine (ps_for hp xo.calm (sndI co it sc tg' it' hi false X Fm W xo pn tk) pg (hb X Fm W xo xs pn tk hp) (fold_set (sndI_set it tg' it' hi) _)).imp fun D σ H ⟨S, env, er, h⟩ => ⟨S, env, er, ?_⟩
  simp only [ex] at h
  cases hq : evi cf ini false it env with
  | bad => rw [hq] at h; exact h.elim
  | exc c => rw [hq] at h; exact OutS.exc er h
  | ok ds =>
    rw [hq] at h
    intro J M1 x1 yl
    let f : Ev.D → Env → RS := fun d env => match setTg tg d env with
      | some env' => exs cf ini sb Γ.io b env'
      | none => .bad
    change OutS G Fm W Γ.io D ⟨S, H⟩ (forT f ds env) at h
    let WI : Nat → L2.St → Hp → Prop := fun i σ H => ∃ M env, M.H = H ∧ Keep M1 M ∧ ER G Fm M env σ ∧ OutS G Fm W Γ.io D M (forT f (ds.drop i) env)
    refine ⟨fun i m σ H => m = ds.length - i ∧ i ≤ ds.length ∧ WI i σ H, ⟨ds.length, rfl, Nat.zero_le _, M1, env, rfl, Keep.refl, er.ext x1, h.keep x1.keep⟩, ?_⟩
    rintro i m σ H2 ⟨rfl, hi, M, env, rfl, kp, er, h⟩
    have stay : Stay false M1 M := ⟨kp, fun z => by cases z⟩
    by_cases hlt : i < ds.length
    · refine .inr ⟨yl.go i M stay hlt, fun σ' H' => ds.length - (i + 1) = ds.length - (i + 1) ∧ i + 1 ≤ ds.length ∧ WI (i + 1) σ' H', fun σ' H' q => ⟨ds.length - (i + 1), by omega, q⟩, fun x H' y => ?_⟩
      obtain ⟨M2, d, eH, e2, hd, rp⟩ := yl.yld i M x H' hlt stay er.dom y
      subst eH
      rw [List.drop_eq_getElem_cons hlt] at h
      have hde : ds[i] = d := by
        rw [List.getElem?_eq_getElem hlt] at hd
        exact Option.some.inj hd
      rw [hde, forT_cons] at h
      cases hs : setTg tg d env with
      | none =>
        have : f d env = .bad := by show (match setTg tg d env with | some env' => _ | none => RS.bad) = _; rw [hs]
        rw [this] at h
        exact h.elim
      | some env' =>
        have hf : f d env = exs cf ini sb Γ.io b env' := by show (match setTg tg d env with | some env' => _ | none => RS.bad) = _; rw [hs]
        rw [hf] at h
        refine ⟨M2.S, env, d, env', er.ext e2, rp, hs, fun σ2 er2 _ => ⟨M2.S, env', er2, ?_⟩⟩
        exact OutS.loop e2.keep h fun env3 σ3 M3 kp3 er3 h3 => ⟨rfl, hlt, M3, env3, rfl, (kp.trans e2.keep).trans kp3, er3, h3⟩
    · have hie : ds.length ≤ i := Nat.le_of_not_lt hlt
      rw [List.drop_eq_nil_of_le hie] at h
      exact .inl ⟨yl.stop i M stay hie, h σ M Keep.refl er⟩
end
end Ev

/-! EvH1 -/
set_option Elab.async false
set_option linter.all false
set_option maxRecDepth 100000
set_option maxHeartbeats 2000000
/-! EvH1: heaps: the two built-ins' trees. -/
namespace Ev
open PySem PySem.Spec PyProof.Rows L2
def hqCode (heap : Value) (down : Bool) (pos top : Nat) (result : Value) : Code := .builtin "_heapq.heapify.sift" ⟨[heap, .bool false, .bool down, rawInt pos, rawInt top, result, rawInt (-1)], []⟩
theorem entry_sift : entryFor table "_heapq.heapify.sift" = some Builtin.«_heapq.heapify.sift» := entryFor_of_tree (by kernel_rfl)
theorem entry_push : entryFor table "_heapq.heappush" = some Builtin.«_heapq.heappush» := entryFor_of_tree (by kernel_rfl)
theorem entry_pop : entryFor table "_heapq.heappop" = some Builtin.«_heapq.heappop» := entryFor_of_tree (by kernel_rfl)
theorem kind_push : builtinKind "_heapq.heappush" = none := by kernel_rfl
theorem kind_pop : builtinKind "_heapq.heappop" = none := by kernel_rfl
theorem plain_sift : plainId "_heapq.heapify.sift" = true := by decide +kernel
theorem plain_push : plainId "_heapq.heappush" = true := by decide +kernel
theorem plain_pop : plainId "_heapq.heappop" = true := by decide +kernel
theorem args_push (a b : Value) : argsOk "_heapq.heappush" ⟨[a, b], []⟩ := by unfold argsOk; kernel_rfl
theorem args_pop (a : Value) : argsOk "_heapq.heappop" ⟨[a], []⟩ := by unfold argsOk; kernel_rfl
def hqItems (a : Addr) : Sem (Array Value) := do
  let some xs ← seqItems? (.ref a) | unsupported "internal:_heapq"
  return xs
def hqAt (xs : Array Value) (i : Nat) : Sem Value := match xs[i]? with
  | some v => pure v
  | none => unsupported "internal:_heapq.index"
def hqSwap (a : Addr) (i j : Nat) : Sem Unit := do
  let xs ← hqItems a
  let x ← hqAt xs i
  let y ← hqAt xs j
  updateSeq a fun xs => (xs.setIfInBounds i y).setIfInBounds j x
/-- the list at a -/
def LAt (a : Addr) (its : List Value) (s : Shared) : Prop := ∃ n, s.heap.get? a = some { cls := .type "list", data := .seq its.toArray n }
/-- all but the list at a stays -/
def Upd (a : Addr) (s s' : Shared) : Prop := ∃ h', s' = { s with heap := h' } ∧ ∀ b o, b ≠ a → s.heap.get? b = some o → h'.get? b = some o
theorem Upd.refl {a : Addr} {s : Shared} : Upd a s s := ⟨s.heap, rfl, fun _ _ _ h => h⟩
theorem Upd.upd {a : Addr} {s s' : Shared} {f : Obj → Obj} (h : Upd a s s') : Upd a s { s' with heap := s'.heap.update a f } := by
  obtain ⟨h', rfl, k⟩ := h
  exact ⟨_, rfl, fun b o hb e => (Heap.get?_update_other _ _ (Ne.symm hb)).trans (k b o hb e)⟩
section
variable {prog : Program} {w : World} {A : Around} {E : Value → Shared → Prop} {s s0 : Shared} {a : Addr} {its : List Value} {P : Value → Prop} {lt : Value → Value → Bool}
/-- how the items compare -/
def CmpLt (prog : Program) (w : World) (a : Addr) (s0 : Shared) (P : Value → Prop) (lt : Value → Value → Bool) : Prop := ∀ (A : Around) (x y : Value) (s : Shared) (Q : Value → Shared → Prop) (E : Value → Shared → Prop), A.units < cLine → P x → P y → Upd a s0 s → Q (.bool (lt x y)) s →
  wpAny (model prog w) A (richCompare .Lt x y) Q E s
theorem swap_arr {its : List Value} {i j : Nat} (hi : i < its.length) (hj : j < its.length) : (its.toArray.setIfInBounds i its[j]).setIfInBounds j its[i] = (swapL its i j).toArray := by
  simp [swapL, hi, hj]
theorem swapL_mem {its : List Value} {i j : Nat} : ∀ x ∈ swapL its i j, x ∈ its := by
  intro x hx
  unfold swapL at hx
  split at hx
  · rename_i u v h1 h2
    rcases List.mem_or_eq_of_mem_set hx with hx | rfl
    · rcases List.mem_or_eq_of_mem_set hx with hx | rfl
      · exact hx
      · exact List.mem_of_getElem? h2
    · exact List.mem_of_getElem? h1
  · exact hx
theorem swapL_length {its : List Value} {i j : Nat} : (swapL its i j).length = its.length := by
  unfold swapL
  split <;> simp
theorem up_turn {pos : Nat} {result : Value} {Q : Fin → Shared → Prop} (cmp : CmpLt prog w a s0 P lt) (hu : A.units < cLine) (u : Upd a s0 s) (hl : LAt a its s) (hp : ∀ x ∈ its, P x) (hlt : pos < its.length) (hz : its.length ≤ sizeLine)
    (stop : (pos = 0 ∨ ltAt lt its pos ((pos - 1) / 2) = false) → Q (.done (.ret result)) s)
    (go : 0 < pos → ltAt lt its pos ((pos - 1) / 2) = true → ∀ s', Upd a s0 s' → LAt a (swapL its ((pos - 1) / 2) pos) s' → Q (.again (hqCode (.ref a) false ((pos - 1) / 2) 0 result)) s') :
    wpAny (model prog w) A (Builtin.«_heapq.heapify.sift» ⟨[.ref a, .bool false, .bool false, rawInt pos, rawInt 0, result, rawInt (-1)], []⟩) Q E s := by
  obtain ⟨n, hl⟩ := hl
  unfold Builtin.«_heapq.heapify.sift»
  simp only [rawInt]
  refine wpAny_bind (wpAny_bind (wpAny_seqItems hl rfl (wpAny_pure ?_)))
  rw [if_neg Bool.false_ne_true]
  simp only [Int.toNat_natCast, Int.toNat_zero]
  by_cases h0 : pos > 0
  · rw [if_pos h0]
    have hpar : (pos - 1) / 2 < its.length := by omega
    have e1 : its.toArray[pos]? = some its[pos] := by simp [hlt]
    have e2 : its.toArray[(pos - 1) / 2]? = some its[(pos - 1) / 2] := by simp [hpar]
    refine wpAny_bind ?_
    show wpAny _ _ (match its.toArray[pos]? with | some v => pure v | none => unsupported "internal:_heapq.index") _ _ _
    rw [e1]
    refine wpAny_pure ?_
    refine wpAny_bind ?_
    show wpAny _ _ (match its.toArray[(pos - 1) / 2]? with | some v => pure v | none => unsupported "internal:_heapq.index") _ _ _
    rw [e2]
    refine wpAny_pure ?_
    rw [if_neg Bool.false_ne_true]
    refine wpAny_bind (wpAny_bind (wpAny_holding (wpAny_bind ?_)))
    refine cmp A _ _ s _ _ hu (hp _ (List.getElem_mem hlt)) (hp _ (List.getElem_mem hpar)) u ?_
    have hlk : ltAt lt its pos ((pos - 1) / 2) = lt its[pos] its[(pos - 1) / 2] := by
      simp [ltAt, hlt, hpar]
    show wpAny _ _ (truthy (.bool _)) _ _ _
    refine wpAny_truthy_bool ?_
    refine wpAny_bind (wpAny_bind (wpAny_seqItems hl rfl (wpAny_pure ?_)))
    rw [if_neg (by simp)]
    refine wpAny_pure ?_
    by_cases hb : lt its[pos] its[(pos - 1) / 2] = true
    · rw [if_pos hb]
      refine wpAny_bind ?_
      refine wpAny_bind (wpAny_bind (wpAny_seqItems hl rfl (wpAny_pure ?_)))
      refine wpAny_bind ?_
      show wpAny _ _ (match its.toArray[(pos - 1) / 2]? with | some v => pure v | none => unsupported "internal:_heapq.index") _ _ _
      rw [e2]
      refine wpAny_pure ?_
      refine wpAny_bind ?_
      show wpAny _ _ (match its.toArray[pos]? with | some v => pure v | none => unsupported "internal:_heapq.index") _ _ _
      rw [e1]
      refine wpAny_pure ?_
      refine wpAny_updateSeq hl rfl ?_ (by simpa using hz) (by simp; omega)
      refine wpAny_pure ?_
      refine go h0 (by rw [hlk]; exact hb) _ u.upd ?_
      have q := PySem.IsL.update hl (fun xs => (xs.setIfInBounds ((pos - 1) / 2) its[pos]).setIfInBounds pos its[(pos - 1) / 2])
      rw [swap_arr hpar hlt] at q
      exact ⟨_, q⟩
    · rw [if_neg hb, if_pos (by decide)]
      refine wpAny_pure (stop (.inr ?_))
      rw [hlk]
      simpa using hb
  · rw [if_neg h0, if_pos (by decide)]
    exact wpAny_pure (stop (.inl (by omega)))
/-- the way up -/
theorem up_loop {result : Value} {R : Result → Shared → Prop} (cmp : CmpLt prog w a s0 P lt) (hu : A.units + 1 < cLine) : ∀ (n pos : Nat) (its : List Value) (s : Shared), pos < n → Upd a s0 s → LAt a its s → (∀ x ∈ its, P x) → pos < its.length → its.length ≤ sizeLine →
    (∀ s', Upd a s0 s' → LAt a (upH lt n its pos) s' → R (.ok (.ret result)) s') → codeAny (model prog w) A (hqCode (.ref a) false pos 0 result) R s
  | 0, _, _, _, h, _, _, _, _, _, _ => by omega
  | n + 1, pos, its, s, h, u, hl, hp, hlt, hz, fin => by
    refine codeAny_builtin entry_sift ?_
    rw [Around.under_plainId plain_sift _]
    refine up_turn cmp (by show A.in1.units < cLine; exact hu) u hl hp hlt hz (fun hs => ?_) fun h0 hb s' u' hl' => ?_
    · refine fin s u ?_
      simp only [upH]
      rcases hs with rfl | hs
      · rw [if_neg (by omega)]; exact hl
      · split
        · rw [if_neg (by rw [hs]; simp)]; exact hl
        · exact hl
    · refine ⟨plainId_quiet plain_sift _, up_loop cmp hu n _ _ s' (by omega) u' hl' (fun x hx => hp x (swapL_mem x hx)) (by rw [swapL_length]; omega) (by rw [swapL_length]; exact hz) fun s2 u2 hl2 => fin s2 u2 ?_⟩
      simp only [upH]
      rw [if_pos h0, if_pos hb]
      exact hl2
theorem down_turn {pos : Nat} {result : Value} {Q : Fin → Shared → Prop} (cmp : CmpLt prog w a s0 P lt) (hu : A.units < cLine) (u : Upd a s0 s) (hl : LAt a its s) (hp : ∀ x ∈ its, P x) (hz : its.length ≤ sizeLine)
    (up : ¬ pos < its.length / 2 → Q (.again (hqCode (.ref a) false pos 0 result)) s)
    (go : pos < its.length / 2 → ∀ s', Upd a s0 s' → LAt a (swapL its (childH lt its pos) pos) s' → Q (.again (hqCode (.ref a) true (childH lt its pos) 0 result)) s') :
    wpAny (model prog w) A (Builtin.«_heapq.heapify.sift» ⟨[.ref a, .bool false, .bool true, rawInt pos, rawInt 0, result, rawInt (-1)], []⟩) Q E s := by
  obtain ⟨n, hl⟩ := hl
  unfold Builtin.«_heapq.heapify.sift»
  simp only [rawInt]
  refine wpAny_bind (wpAny_bind (wpAny_seqItems hl rfl (wpAny_pure ?_)))
  rw [if_pos trivial]
  simp only [Int.toNat_natCast, Int.toNat_zero]
  have hsz : its.toArray.size = its.length := by simp
  rw [hsz]
  -- the swap and the next turn
  have fin : ∀ c, c < its.length → pos < its.length → c = childH lt its pos → pos < its.length / 2 → ∀ (k : Sem Fin), k = again (hqCode (.ref a) true c 0 result) →
      ∀ (sw : Sem Unit), sw = hqSwap a c pos → wpAny (model prog w) A (sw >>= fun _ => k) Q E s := by
    rintro c hc hpos hce hlt k rfl sw rfl
    have e1 : its.toArray[pos]? = some its[pos] := by simp [hpos]
    have e2 : its.toArray[c]? = some its[c] := by simp [hc]
    refine wpAny_bind ?_
    refine wpAny_bind (wpAny_bind (wpAny_seqItems hl rfl (wpAny_pure ?_)))
    refine wpAny_bind ?_
    unfold hqAt
    rw [e2]
    refine wpAny_pure ?_
    refine wpAny_bind ?_
    rw [e1]
    refine wpAny_pure ?_
    refine wpAny_updateSeq hl rfl ?_ (by simpa using hz) (by simp; omega)
    refine wpAny_pure ?_
    have g := go hlt
    rw [← hce] at g
    refine g _ u.upd ?_
    have q := PySem.IsL.update hl (fun xs => (xs.setIfInBounds c its[pos]).setIfInBounds pos its[c])
    rw [swap_arr hc hpos] at q
    exact ⟨_, q⟩
  by_cases h0 : pos < its.length / 2
  · rw [if_pos h0]
    have hpos : pos < its.length := by omega
    by_cases h1 : 2 * pos + 1 + 1 < its.length
    · rw [if_pos h1]
      have hl1 : 2 * pos + 1 < its.length := by omega
      have e1 : its.toArray[2 * pos + 1]? = some its[2 * pos + 1] := by simp [hl1]
      have e2 : its.toArray[2 * pos + 1 + 1]? = some its[2 * pos + 1 + 1] := by simp [h1]
      have hlk : ltAt lt its (2 * pos + 1) (2 * pos + 1 + 1) = lt its[2 * pos + 1] its[2 * pos + 1 + 1] := by
        simp [ltAt, hl1, h1]
      refine wpAny_bind ?_
      show wpAny _ _ (match its.toArray[2 * pos + 1]? with | some v => pure v | none => unsupported "internal:_heapq.index") _ _ _
      rw [e1]
      refine wpAny_pure ?_
      refine wpAny_bind ?_
      show wpAny _ _ (match its.toArray[2 * pos + 1 + 1]? with | some v => pure v | none => unsupported "internal:_heapq.index") _ _ _
      rw [e2]
      refine wpAny_pure ?_
      rw [if_neg Bool.false_ne_true]
      refine wpAny_bind (wpAny_bind (wpAny_holding (wpAny_bind ?_)))
      refine cmp A _ _ s _ _ hu (hp _ (List.getElem_mem hl1)) (hp _ (List.getElem_mem h1)) u ?_
      show wpAny _ _ (truthy (.bool _)) _ _ _
      refine wpAny_truthy_bool ?_
      refine wpAny_bind (wpAny_bind (wpAny_seqItems hl rfl (wpAny_pure ?_)))
      rw [if_neg (by simp)]
      refine wpAny_pure ?_
      cases hb : lt its[2 * pos + 1] its[2 * pos + 1 + 1] with
      | false =>
        rw [if_pos (show (!false) = true from rfl)]
        exact fin _ h1 hpos (by unfold childH; rw [if_pos ⟨h1, by rw [hlk]; exact hb⟩]) h0 _ rfl _ rfl
      | true =>
        rw [if_neg (by simp)]
        exact fin _ hl1 hpos (by unfold childH; rw [if_neg (by rw [hlk, hb]; simp)]) h0 _ rfl _ rfl
    · rw [if_neg h1]
      have hl1 : 2 * pos + 1 < its.length := by omega
      exact fin _ hl1 hpos (by unfold childH; rw [if_neg (fun z => h1 z.1)]) h0 _ rfl _ rfl
  · rw [if_neg h0]
    exact wpAny_pure (up h0)
theorem upH_length {n : Nat} {its : List Value} {pos : Nat} : (upH lt n its pos).length = its.length := by
  induction n generalizing its pos with
  | zero => rfl
  | succ n ih =>
    simp only [upH]
    split
    · split
      · rw [ih, swapL_length]
      · rfl
    · rfl
theorem childH_lt {its : List Value} {pos : Nat} (h : pos < its.length / 2) : childH lt its pos < its.length := by
  unfold childH
  split
  · rename_i h1; exact h1.1
  · omega
theorem childH_gt {its : List Value} {pos : Nat} : pos < childH lt its pos := by
  unfold childH
  split <;> omega
theorem down_loop {result : Value} {R : Result → Shared → Prop} (cmp : CmpLt prog w a s0 P lt) (hu : A.units + 1 < cLine) : ∀ (n pos : Nat) (its : List Value) (s : Shared), its.length < n + pos → Upd a s0 s → LAt a its s → (∀ x ∈ its, P x) → pos < its.length → its.length ≤ sizeLine →
    (∀ s', Upd a s0 s' → LAt a (downH lt n its pos) s' → R (.ok (.ret result)) s') → codeAny (model prog w) A (hqCode (.ref a) true pos 0 result) R s
  | 0, _, _, _, h, _, _, _, hlt, _, _ => by omega
  | n + 1, pos, its, s, h, u, hl, hp, hlt, hz, fin => by
    refine codeAny_builtin entry_sift ?_
    rw [Around.under_plainId plain_sift _]
    refine down_turn cmp (by show A.in1.units < cLine; exact hu) u hl hp hz (fun h0 => ?_) fun h0 s' u' hl' => ?_
    · refine ⟨plainId_quiet plain_sift _, up_loop cmp hu (its.length + 1) pos its s (by omega) u hl hp hlt hz fun s2 u2 hl2 => fin s2 u2 ?_⟩
      simp only [downH]
      rw [if_neg h0]
      exact hl2
    · have hc := childH_lt (lt := lt) h0
      have hg := childH_gt (lt := lt) (its := its) (pos := pos)
      refine ⟨plainId_quiet plain_sift _, down_loop cmp hu n _ _ s' (by rw [swapL_length]; omega) u' hl' (fun x hx => hp x (swapL_mem x hx)) (by rw [swapL_length]; exact hc) (by rw [swapL_length]; exact hz) fun s2 u2 hl2 => fin s2 u2 ?_⟩
      simp only [downH]
      rw [if_pos h0]
      exact hl2
theorem call_function_in {id : String} {B : Builtin} {args : List Value} {Q : Value → Shared → Prop} (kind : builtinKind id = none) (plain : plainId id = true) (entry : entryFor table id = some B) (ok : argsOk id ⟨args, []⟩)
    (h : wpAny (model prog w) A.in1 (B ⟨args, []⟩) (fun fin s' => match fin with | .done f => wants Q E (.ok f) s' | .again c' => c'.quiet = true ∧ codeAny (model prog w) A c' (wants Q E) s') (fun e s' => wants Q E (.error e) s') s) : wpAny (model prog w) A (call (.builtin id) args) Q E s := by
  refine wpAny_call (codeAny_call_builtin plain entry ?_)
  simp only [checkBuiltinCall, kind]
  cases hsig : Manifest.signature? id with
  | none => exact wpAny_pure h
  | some sig =>
    simp only [argsOk, hsig] at ok
    have h2 : Bind.checkArgs id sig ⟨args, []⟩ = pure () := ok
    show wpAny _ _ (Bind.checkArgs id sig ⟨args, []⟩) _ _ s
    rw [h2]
    exact wpAny_pure h
theorem isinst_list {Q : Bool → Shared → Prop} (ho : ∃ o, s.heap.get? a = some o ∧ o.cls = .type "list") (h : Q true s) : wpAny (model prog w) A (isInstance (.ref a) (.type "list")) Q E s :=
  wpAny_isInstance (b := true) ho (by rw [isSubtype_type]; first | rfl | kernel_rfl) h
theorem push_ok {v : Value} {Q : Value → Shared → Prop} (cmp : CmpLt prog w a s P lt) (hu : A.units + 2 < cLine) (hl : LAt a its s) (hp : ∀ x ∈ its ++ [v], P x) (hz : its.length < sizeLine)
    (fin : ∀ s', Upd a s s' → LAt a (pushH lt its v) s' → Q .none s') : wpAny (model prog w) A (call (.builtin "_heapq.heappush") [.ref a, v]) Q E s := by
  refine call_function_in kind_push plain_push entry_push (args_push _ _) ?_
  obtain ⟨n, hl⟩ := hl
  unfold Builtin.«_heapq.heappush»
  refine wpAny_bind (wpAny_bind (wpAny_pure (wpAny_bind (wpAny_pure (wpAny_bind (wpAny_bind (isinst_list ⟨_, hl, rfl⟩ (wpAny_pure (wpAny_pure ?_)))))))))
  refine wpAny_bind (wpAny_updateSeq hl rfl ?_ (by simp; omega) (by simp; omega))
  have q := PySem.IsL.update hl (fun xs => xs.push v)
  rw [show its.toArray.push v = (its ++ [v]).toArray by simp] at q
  refine wpAny_bind (wpAny_bind (wpAny_seqItems q rfl (wpAny_pure ?_)))
  refine wpAny_pure ⟨plainId_quiet plain_sift _, ?_⟩
  have e1 : (its ++ [v]).toArray.size - 1 = its.length := by simp
  rw [e1]
  exact up_loop (R := wants Q E) cmp (by omega) (its.length + 1) its.length (its ++ [v]) _ (by omega) Upd.refl.upd ⟨_, q⟩ hp (by simp) (by simp; omega) fun s' u' hl' => fin s' u' hl'
theorem pop_ok {x : Value} {rest : List Value} {Q : Value → Shared → Prop} (cmp : CmpLt prog w a s P lt) (hu : A.units + 2 < cLine) (hl : LAt a its s) (hp : ∀ x ∈ its, P x) (hz : its.length ≤ sizeLine) (he : popH lt its = some (x, rest))
    (fin : ∀ s', Upd a s s' → LAt a rest s' → Q x s') : wpAny (model prog w) A (call (.builtin "_heapq.heappop") [.ref a]) Q E s := by
  refine call_function_in kind_pop plain_pop entry_pop (args_pop _) ?_
  obtain ⟨n, hl⟩ := hl
  unfold Builtin.«_heapq.heappop»
  refine wpAny_bind (wpAny_bind (wpAny_of_eq (a := Value.ref a) rfl ?_))
  refine wpAny_bind (wpAny_bind (isinst_list ⟨_, hl, rfl⟩ (wpAny_pure (wpAny_pure ?_))))
  refine wpAny_bind (wpAny_bind (wpAny_seqItems hl rfl (wpAny_pure ?_)))
  cases its with
  | nil => simp [popH] at he
  | cons y r =>
    simp only [popH] at he
    cases hr : r.getLast? with
    | none =>
      rw [hr] at he
      simp only [Option.some.injEq, Prod.mk.injEq] at he
      obtain ⟨rfl, rfl⟩ := he
      have : r = [] := by simpa using hr
      subst this
      show wpAny _ _ (do updateSeq a (·.pop); if (([y] : List Value).toArray.size == 1) = true then ret y else _) _ _ _
      refine wpAny_bind (wpAny_updateSeq hl rfl ?_ (by simpa using hz) (by simp))
      rw [if_pos (by simp)]
      have q := PySem.IsL.update hl (fun xs => xs.pop)
      exact wpAny_pure (fin _ Upd.refl.upd ⟨_, q⟩)
    | some z =>
      rw [hr] at he
      simp only [Option.some.injEq, Prod.mk.injEq] at he
      obtain ⟨rfl, rfl⟩ := he
      have hne : r ≠ [] := fun e => by rw [e] at hr; cases hr
      have hb : (y :: r).toArray.back? = some z := by
        rw [List.back?_toArray, List.getLast?_cons, hr]
        rfl
      rw [hb]
      refine wpAny_bind (wpAny_updateSeq hl rfl ?_ (by simpa using hz) (by simp; simp at hz; omega))
      have hlen : 0 < r.length := List.length_pos_iff.mpr hne
      rw [if_neg (by simp; omega)]
      refine wpAny_bind ?_
      show wpAny _ _ (pure y) _ _ _
      refine wpAny_pure ?_
      have q := PySem.IsL.update hl (fun xs => xs.pop)
      have e1 : (y :: r).toArray.pop = (y :: r.dropLast).toArray := by
        rw [List.pop_toArray]
        cases r with
        | nil => exact absurd rfl hne
        | cons b l => rfl
      rw [e1] at q
      refine wpAny_bind (wpAny_updateSeq q rfl ?_ (by simp; simp at hz; omega) (by simp; simp at hz; omega))
      have q2 := PySem.IsL.update q (fun xs => xs.setIfInBounds 0 z)
      rw [show (y :: r.dropLast).toArray.setIfInBounds 0 z = (z :: r.dropLast).toArray by simp] at q2
      refine wpAny_pure ⟨plainId_quiet plain_sift _, ?_⟩
      have hmem : ∀ x ∈ z :: r.dropLast, P x := fun x hx => by
        rcases List.mem_cons.mp hx with rfl | hx
        · exact hp _ (List.mem_cons_of_mem _ (List.mem_of_getLast? hr))
        · exact hp _ (List.mem_cons_of_mem _ ((List.dropLast_sublist _).subset hx))
      refine down_loop (R := wants Q E) cmp (by omega) ((y :: r).length + 1) 0 (z :: r.dropLast) _ (by simp; omega) Upd.refl.upd.upd ⟨_, q2⟩ hmem (by simp) (by simp; simp at hz; omega) fun s' u' hl' => fin s' u' hl'
end
end Ev

/-! EvH2 -/
set_option Elab.async false
set_option linter.all false
set_option maxRecDepth 100000
set_option maxHeartbeats 2000000
/-! EvH2: heap steps under a map. -/
namespace Ev
section
variable {α β : Type} {lt : α → α → Bool} {lt' : β → β → Bool} {f : α → β}
theorem swapL_map {l : List α} {i j : Nat} : swapL (l.map f) i j = (swapL l i j).map f := by
  unfold swapL
  simp only [List.getElem?_map]
  cases l[i]? <;> cases l[j]? <;> simp [List.map_set]
theorem swapL_mem' {l : List α} {i j : Nat} : ∀ x ∈ swapL l i j, x ∈ l := by
  intro x hx
  unfold swapL at hx
  split at hx
  · rename_i u v h1 h2
    rcases List.mem_or_eq_of_mem_set hx with hx | rfl
    · rcases List.mem_or_eq_of_mem_set hx with hx | rfl
      · exact hx
      · exact List.mem_of_getElem? h2
    · exact List.mem_of_getElem? h1
  · exact hx
theorem swapL_len {l : List α} {i j : Nat} : (swapL l i j).length = l.length := by
  unfold swapL
  split <;> simp
theorem ltAt_map {l : List α} (h : ∀ x ∈ l, ∀ y ∈ l, lt' (f x) (f y) = lt x y) {i j : Nat} : ltAt lt' (l.map f) i j = ltAt lt l i j := by
  unfold ltAt
  simp only [List.getElem?_map]
  cases h1 : l[i]? with
  | none => rfl
  | some x =>
    cases h2 : l[j]? with
    | none => rfl
    | some y => exact h x (List.mem_of_getElem? h1) y (List.mem_of_getElem? h2)
theorem upH_map : ∀ (n : Nat) {l : List α} {pos : Nat}, (∀ x ∈ l, ∀ y ∈ l, lt' (f x) (f y) = lt x y) → upH lt' n (l.map f) pos = (upH lt n l pos).map f
  | 0, _, _, _ => rfl
  | n + 1, l, pos, h => by
    simp only [upH, ltAt_map h, swapL_map]
    split
    · split
      · exact upH_map n fun x hx y hy => h x (swapL_mem' x hx) y (swapL_mem' y hy)
      · rfl
    · rfl
theorem childH_map {l : List α} {pos : Nat} (h : ∀ x ∈ l, ∀ y ∈ l, lt' (f x) (f y) = lt x y) : childH lt' (l.map f) pos = childH lt l pos := by
  unfold childH
  rw [ltAt_map h, List.length_map]
theorem downH_map : ∀ (n : Nat) {l : List α} {pos : Nat}, (∀ x ∈ l, ∀ y ∈ l, lt' (f x) (f y) = lt x y) → downH lt' n (l.map f) pos = (downH lt n l pos).map f
  | 0, _, _, _ => rfl
  | n + 1, l, pos, h => by
    simp only [downH, childH_map h, swapL_map, List.length_map]
    split
    · exact downH_map n fun x hx y hy => h x (swapL_mem' x hx) y (swapL_mem' y hy)
    · exact upH_map _ h
theorem pushH_map {l : List α} {x : α} (h : ∀ a ∈ l ++ [x], ∀ b ∈ l ++ [x], lt' (f a) (f b) = lt a b) : pushH lt' (l.map f) (f x) = (pushH lt l x).map f := by
  unfold pushH
  rw [List.length_map, show l.map f ++ [f x] = (l ++ [x]).map f by simp]
  exact upH_map _ h
theorem popH_map {l : List α} (h : ∀ a ∈ l, ∀ b ∈ l, lt' (f a) (f b) = lt a b) : popH lt' (l.map f) = (popH lt l).map fun q => (f q.1, q.2.map f) := by
  cases l with
  | nil => rfl
  | cons x r =>
    simp only [popH, List.map_cons, List.getLast?_map]
    cases hr : r.getLast? with
    | none => rfl
    | some z =>
      simp only [Option.map_some]
      rw [show (f z :: (r.map f).dropLast) = (z :: r.dropLast).map f by simp [List.map_dropLast], show (f x :: r.map f).length = (x :: r).length by simp]
      rw [downH_map _ fun a ha b hb => h a (by
        rcases List.mem_cons.mp ha with rfl | ha
        · exact List.mem_cons_of_mem _ (List.mem_of_getLast? hr)
        · exact List.mem_cons_of_mem _ ((List.dropLast_sublist _).subset ha)) b (by
        rcases List.mem_cons.mp hb with rfl | hb
        · exact List.mem_cons_of_mem _ (List.mem_of_getLast? hr)
        · exact List.mem_cons_of_mem _ ((List.dropLast_sublist _).subset hb))]
end
end Ev

/-! EvH3 -/
set_option Elab.async false
set_option linter.all false
set_option maxRecDepth 100000
set_option maxHeartbeats 2000000
/-! EvH3: heappush, heappop by values. -/
namespace Ev
open PySem PySem.Spec PyProof.Rows L2
/-- the pair at t -/
def kA (H : Hp) (t : Addr) : Option (Int × Int) := match H t with
  | some (.tup [.int i, .int j]) => some (i, j)
  | _ => none
def ltA (H : Hp) (t u : Addr) : Bool := match kA H t, kA H u with
  | some a, some b => ltP a b
  | _, _ => false
def ltVal (H : Hp) : Value → Value → Bool
  | .ref t, .ref u => ltA H t u
  | _, _ => false
theorem kA_some {H : Hp} {t : Addr} {p : Int × Int} (h : kA H t = some p) : H t = some (.tup [.int p.1, .int p.2]) := by
  unfold kA at h
  split at h
  · rename_i i j e
    cases h
    exact e
  · cases h
theorem lex2 {a b c d : Int} : HT.lexLt [a, b] [c, d] = ltP (a, b) (c, d) := by
  unfold ltP
  rw [HT.lexLt_cons, HT.lexLt_cons, HT.lexLt_nil_nil]
  by_cases h2 : a = c
  · subst h2
    by_cases h4 : b = d
    · subst h4; simp
    · simp [h4]
  · simp [h2]
section
variable {X : Cx}
theorem vals_refs : ∀ {ts : List Addr} {us : List Value}, Vals (ts.map V.ref) us → us = ts.map Value.ref
  | [], _, .nil => rfl
  | t :: ts, _, .cons r h => by
    rw [vals_refs h]
    cases r
    rfl
theorem cmp_ok {pins : List (Addr × Obj)} {σ : L2.St} {H : Hp} {s : Shared} {a : Addr} {ts : List Addr} (I : Inv X pins σ H s) (hk : ∀ t ∈ ts, (kA H t).isSome = true) (ha : ∃ vs, H a = some (.lst vs)) : CmpLt X.prog X.w a s (fun x => ∃ t ∈ ts, x = .ref t) (ltVal H) := by
  rintro A x y s' Q E hu ⟨t, ht, rfl⟩ ⟨u, hu', rfl⟩ ⟨h', rfl, kp⟩ hq
  obtain ⟨p, hp⟩ := Option.isSome_iff_exists.mp (hk t ht)
  obtain ⟨q, hq'⟩ := Option.isSome_iff_exists.mp (hk u hu')
  have e1 := kA_some hp
  have e2 := kA_some hq'
  obtain ⟨_, its1, r1, p1⟩ := I.hok t _ e1
  obtain ⟨_, its2, r2, p2⟩ := I.hok u _ e2
  have ne : ∀ b, (∃ vs, H b = some (.tup vs)) → b ≠ a := fun b ⟨vs, z⟩ e => by
    subst e
    obtain ⟨ws, ha⟩ := ha
    rw [z] at ha; cases ha
  have tup : ∀ {b : Addr} {its : List Value}, b ≠ a → IsTup s.heap b its.toArray → IsTup h' b its.toArray := fun hb ⟨o, h1, h2⟩ => ⟨o, kp _ o hb h1, h2⟩
  have l : HT.lexLt [p.1, p.2] [q.1, q.2] = ltVal H (.ref t) (.ref u) := by
    rw [lex2]
    show _ = ltA H t u
    unfold ltA
    rw [hp, hq']
  refine HT.lt_tupInts (s := { s with heap := h' }) (tup (ne t ⟨_, e1⟩) p1) (tup (ne u ⟨_, e2⟩) p2) (ns := [p.1, p.2]) (ms := [q.1, q.2]) ?_ ?_ hu (by rw [l]; exact hq)
  · exact Vals.ints (ns := [p.1, p.2]) r1
  · exact Vals.ints (ns := [q.1, q.2]) r2
/-- the list at a is rewritten -/
theorem inv_upd {pins : List (Addr × Obj)} {σ : L2.St} {H : Hp} {s s' : Shared} {a : Addr} {xs ys : List V} {its' : List Value} (I : Inv X pins σ H s) (hH : H a = some (.lst xs)) (u : Upd a s s') (hl : LAt a its' s') (hv : Vals ys its') (hz : ys.length ≤ sizeLine) : Inv X pins σ (L2.upd H a (.lst ys)) s' := by
  obtain ⟨h', rfl, kp⟩ := u
  obtain ⟨n, hl⟩ := hl
  exact I.write (x := a) (e := a) (t' := s.toks) (by rw [hH]; exact trivial) (.inl rfl) (fun b u hb hu => kp b u hb hu) ⟨_, hl⟩ ⟨hz, its', n, hv, hl⟩
theorem ltVal_ref {H : Hp} {t u : Addr} : ltVal H (.ref t) (.ref u) = ltA H t u := rfl
theorem vals_of_refs : ∀ ts : List Addr, Vals (ts.map V.ref) (ts.map Value.ref)
  | [] => .nil
  | t :: ts => .cons rfl (vals_of_refs ts)
theorem upH_len {α : Type} {lt : α → α → Bool} : ∀ (n : Nat) (l : List α) (pos : Nat), (upH lt n l pos).length = l.length
  | 0, _, _ => rfl
  | n + 1, l, pos => by
    simp only [upH]
    split
    · split
      · rw [upH_len n, swapL_len]
      · rfl
    · rfl
theorem downH_len {α : Type} {lt : α → α → Bool} : ∀ (n : Nat) (l : List α) (pos : Nat), (downH lt n l pos).length = l.length
  | 0, _, _ => rfl
  | n + 1, l, pos => by
    simp only [downH]
    split
    · rw [downH_len n, swapL_len]
    · exact upH_len _ _ _
theorem cr_push (hu : X.A.units + 2 < cLine) : CallR X (.builtin "_heapq.heappush") (fun xs H Q => ∃ (a t : Addr) (ts : List Addr), xs = [.ref a, .ref t] ∧ H a = some (.lst (ts.map V.ref)) ∧ (∀ u ∈ ts ++ [t], (kA H u).isSome = true) ∧ ts.length < sizeLine ∧ Q .non (L2.upd H a (.lst ((pushH (ltA H) ts t).map V.ref)))) := by
  intro pins s σ H xs us Q I r h
  obtain ⟨a, t, ts, rfl, hH, hk, hz, q⟩ := h
  obtain ⟨u1, u2, rfl, r1, r2⟩ := Vals.two r
  cases r1
  cases r2
  obtain ⟨_, its, n, rv, hl, e⟩ := I.lstM hH
  have := vals_refs rv
  subst this
  have cmp := cmp_ok (a := a) (ts := ts ++ [t]) I hk ⟨_, hH⟩
  refine push_ok cmp hu ⟨n, e⟩ (fun x hx => ?_) (by simpa using hz) fun s' u' hl' => ?_
  · rcases List.mem_append.mp hx with hx | hx
    · obtain ⟨u, hu, rfl⟩ := List.mem_map.mp hx
      exact ⟨u, List.mem_append_left _ hu, rfl⟩
    · exact ⟨t, by simp, by simpa using hx⟩
  · rw [pushH_map (lt := ltA H) (lt' := ltVal H) (f := Value.ref) (fun _ _ _ _ => rfl)] at hl'
    exact ⟨.non, _, inv_upd I hH u' hl' (vals_of_refs _) (by rw [List.length_map]; unfold pushH; rw [upH_len]; simp; omega), rfl, q⟩
theorem popH_len {α : Type} {lt : α → α → Bool} {l : List α} {x : α} {r : List α} (h : popH lt l = some (x, r)) : r.length + 1 = l.length := by
  cases l with
  | nil => simp [popH] at h
  | cons y l =>
    simp only [popH] at h
    cases hr : l.getLast? with
    | none =>
      rw [hr] at h
      simp only [Option.some.injEq, Prod.mk.injEq] at h
      obtain ⟨rfl, rfl⟩ := h
      have : l = [] := by simpa using hr
      simp [this]
    | some z =>
      rw [hr] at h
      simp only [Option.some.injEq, Prod.mk.injEq] at h
      obtain ⟨rfl, rfl⟩ := h
      have hne : l ≠ [] := fun e => by rw [e] at hr; cases hr
      have := List.length_pos_iff.mpr hne
      rw [downH_len]
      simp
      omega
theorem cr_pop (hu : X.A.units + 2 < cLine) : CallR X (.builtin "_heapq.heappop") (fun xs H Q => ∃ (a t : Addr) (ts ts' : List Addr), xs = [.ref a] ∧ H a = some (.lst (ts.map V.ref)) ∧ (∀ u ∈ ts, (kA H u).isSome = true) ∧ popH (ltA H) ts = some (t, ts') ∧ Q (.ref t) (L2.upd H a (.lst (ts'.map V.ref)))) := by
  intro pins s σ H xs us Q I r h
  obtain ⟨a, t, ts, ts', rfl, hH, hk, hp, q⟩ := h
  rw [Vals.ref1 r]
  obtain ⟨hz, its, n, rv, hl, e⟩ := I.lstM hH
  have := vals_refs rv
  subst this
  have cmp := cmp_ok (a := a) (ts := ts) I hk ⟨_, hH⟩
  rw [List.length_map] at hz
  refine pop_ok (x := .ref t) (rest := ts'.map Value.ref) cmp hu ⟨n, e⟩ (fun x hx => ?_) (by simpa using hz) ?_ fun s' u' hl' => ?_
  · obtain ⟨u, hu, rfl⟩ := List.mem_map.mp hx
    exact ⟨u, hu, rfl⟩
  · rw [popH_map (lt := ltA H) (lt' := ltVal H) (f := Value.ref) (fun _ _ _ _ => rfl), hp]
    rfl
  · have := popH_len hp
    exact ⟨.ref t, _, inv_upd I hH u' hl' (vals_of_refs _) (by rw [List.length_map]; omega), rfl, q⟩
end
end Ev

/-! EvB25 -/
set_option Elab.async false
set_option linter.all false
set_option maxRecDepth 100000
set_option maxHeartbeats 4000000
/-! EvB25: heappush, heappop as statements. -/
namespace Ev
open PySem PySem.Spec PyProof.Rows L2
variable {G : Ctx} {Fm : Frm} {M M' M0 M1 M2 : Mem} {X : Cx} {env : Env} {σ : L2.St} {W : WX}
theorem key_of {o : O} {v : V} {F : List Addr} (h : Own G M o v F) (k : (keyO o).isSome = true) : ∃ t, v = .ref t ∧ keyO o = kA M.H t ∧ Own G M o (.ref t) [] ∧ F = [] := by
  unfold keyO at k ⊢
  split at k
  · rename_i a b
    have h0 := h
    simp only [Own, Rep, Reps] at h
    obtain ⟨rfl, t, vs, rfl, s, q, v1, r1, rfl, rfl, v2, r2, rfl, rfl, rfl⟩ := h
    refine ⟨t, rfl, ?_, h0, rfl⟩
    have q2 : M.H t = some (.tup [V.int a, V.int b]) := q
    simp only [kA, q2]
  · cases k
theorem keys_of : ∀ {os : List O} {vs : List V} {F : List Addr}, Owns G M os vs F → os.all (fun o => (keyO o).isSome) = true → ∃ zs : List (O × Addr), os = zs.map (·.1) ∧ vs = (zs.map (·.2)).map V.ref ∧ ∀ z ∈ zs, keyO z.1 = kA M.H z.2 ∧ (keyO z.1).isSome = true ∧ Own G M z.1 (.ref z.2) []
  | [], _, _, h, _ => by
    simp only [Owns] at h
    exact ⟨[], rfl, h.1, by simp⟩
  | o :: os, _, _, h, k => by
    simp only [Owns] at h
    obtain ⟨v, r, F1, F2, rfl, rfl, q, t⟩ := h
    simp only [List.all_cons, Bool.and_eq_true] at k
    obtain ⟨a, rfl, e1, e2, rfl⟩ := key_of q k.1
    obtain ⟨zs, rfl, rfl, hz⟩ := keys_of t k.2
    refine ⟨(o, a) :: zs, rfl, rfl, fun z hz' => ?_⟩
    rcases List.mem_cons.mp hz' with rfl | hz'
    · exact ⟨e1, k.1, e2⟩
    · exact hz z hz'
theorem owns_zs : ∀ {zs : List (O × Addr)}, (∀ z ∈ zs, Own G M z.1 (.ref z.2) []) → Owns G M (zs.map (·.1)) ((zs.map (·.2)).map V.ref) []
  | [], _ => by simp [Owns]
  | z :: zs, h => by
    simp only [List.map_cons, Owns]
    exact ⟨_, _, [], [], rfl, rfl, h z List.mem_cons_self, owns_zs fun y hy => h y (List.mem_cons_of_mem _ hy)⟩
theorem upH_mem {α : Type} {lt : α → α → Bool} : ∀ (n : Nat) (l : List α) (pos : Nat), ∀ x ∈ upH lt n l pos, x ∈ l
  | 0, _, _, x, h => h
  | n + 1, l, pos, x, h => by
    simp only [upH] at h
    split at h
    · split at h
      · exact swapL_mem' x (upH_mem n _ _ x h)
      · exact h
    · exact h
theorem downH_mem {α : Type} {lt : α → α → Bool} : ∀ (n : Nat) (l : List α) (pos : Nat), ∀ x ∈ downH lt n l pos, x ∈ l
  | 0, _, _, x, h => h
  | n + 1, l, pos, x, h => by
    simp only [downH] at h
    split at h
    · exact swapL_mem' x (downH_mem n _ _ x h)
    · exact upH_mem _ _ _ x h
theorem popH_mem {α : Type} {lt : α → α → Bool} {l : List α} {x : α} {r : List α} (h : popH lt l = some (x, r)) : x ∈ l ∧ ∀ y ∈ r, y ∈ l := by
  cases l with
  | nil => simp [popH] at h
  | cons a l =>
    simp only [popH] at h
    cases hr : l.getLast? with
    | none =>
      rw [hr] at h
      simp only [Option.some.injEq, Prod.mk.injEq] at h
      obtain ⟨rfl, rfl⟩ := h
      exact ⟨List.mem_cons_self, by simp⟩
    | some z =>
      rw [hr] at h
      simp only [Option.some.injEq, Prod.mk.injEq] at h
      obtain ⟨rfl, rfl⟩ := h
      refine ⟨List.mem_cons_self, fun y hy => ?_⟩
      rcases List.mem_cons.mp (downH_mem _ _ _ y hy) with rfl | hy
      · exact List.mem_cons_of_mem _ (List.mem_of_getLast? hr)
      · exact List.mem_cons_of_mem _ ((List.dropLast_sublist _).subset hy)
def ltZ (H : Hp) (x y : O × Addr) : Bool := ltA H x.2 y.2
theorem ltZ_o {H : Hp} {x y : O × Addr} (hx : keyO x.1 = kA H x.2) (hy : keyO y.1 = kA H y.2) : ltO x.1 y.1 = ltZ H x y := by
  unfold ltO ltZ ltA
  rw [hx, hy]
  all_goals (cases kA H x.2 <;> cases kA H y.2 <;> rfl)
section
variable {Γ : Gm} {cf : Cf} {ini np : Nat → Nat} {io : Nat → List Nat} {sb : Nat → Nat → Bool} {k : Nat} {N : List Str} {sc : Scope}
variable (co : CfOk cf np io)
include co
theorem ss_hpush {i : Nat} {p : Pt} {e : E} {o' e' : Expr} {x : Str} {p1 p2 pos : Pos} (hx : Γ.bs.lookup x = some "_heapq.heappush") (hg : glB sc x = true) (hp' : trP Γ N sc i p o' = true) (hs0 : starB o' = false) (hs : starB e' = false) (h : trE Γ N sc e e' = true) :
    SSt Γ G cf ini np io sb k N sc (.Expr (.Call (.Name x p1) [o', e'] [] p2) pos) (.hpush i p e) := by
  intro X Fm W xo xs pn tk hp
  obtain ⟨g, nb⟩ := xo.gl hg
  have hu : X.A.units + 2 < cLine := by have := xo.room.units; omega
  refine (ps_expr (pe_callBfun (cr_push hu) g (xo.fc.bs x _ hx) (pa_cons (pp_ok co xo pn tk p o' hp') (pa_cons (sndE co e sc e' h X Fm W xo pn tk).1 pa_nil (star_each hs)) (star_each hs0)) (nmB_ok nb).1 (star_each hs0) (by rw [star_each hs]; rfl)) rfl).imp fun D σ H ⟨S, env, er, h⟩ => ?_
  simp only [ex] at h
  cases he : env[i]? with
  | none => rw [he] at h; exact h.elim
  | some o =>
    rw [he] at h
    refine ⟨S, env, o, er, he, OutS.stepP er h fun q v u M1 hv e1 nd h1 => ?_⟩
    obtain ⟨js, q⟩ := q
    cases q with
    | l os =>
      simp only at h1 nd
      obtain ⟨b, vs, rfl, hbv, hlen, _⟩ := (er.ext e1).nodeL he hv nd
      refine ⟨M1.S, env, er.ext e1, OutS.step (er.ext e1) (h1.keep e1.keep) fun w y M2 e2 q2 h2 => ?_⟩
      obtain ⟨n, hw, h3⟩ := OutS.kept h2
      subst hw
      clear h2
      have h2 := h3
      by_cases hz : os.length < sizeMax ∧ (os ++ [n]).all (fun o => (keyO o).isSome) = true
      · rw [if_pos hz] at h2
        have nd2 := nd.mono e2.h
        obtain ⟨b', vs', e3, hbv2, hlen2, r, t⟩ := ((er.ext e1).ext e2).nodeL he hv nd2
        cases e3
        obtain ⟨Fn, on⟩ := q2.own
        simp only [List.all_append, List.all_cons, List.all_nil, Bool.and_true, Bool.and_eq_true] at hz
        obtain ⟨zs, rfl, rfl, hzs⟩ := keys_of t hz.2.1
        obtain ⟨tn, rfl, k1, k2, _⟩ := key_of on hz.2.2
        have hall : ∀ z ∈ zs ++ [(n, tn)], keyO z.1 = kA M2.H z.2 ∧ (keyO z.1).isSome = true ∧ Own G M2 z.1 (.ref z.2) [] := fun z hz' => by
          rcases List.mem_append.mp hz' with hz' | hz'
          · exact hzs z hz'
          · have : z = (n, tn) := by simpa using hz'
            subst this
            exact ⟨k1, hz.2.2, k2⟩
        have a1 : pushH ltO (zs.map (·.1)) n = (pushH (ltZ M2.H) zs (n, tn)).map (·.1) := pushH_map (f := fun z : O × Addr => z.1) (x := (n, tn)) fun x hx y hy => ltZ_o (hall x hx).1 (hall y hy).1
        have a2 : pushH (ltA M2.H) (zs.map (·.2)) tn = (pushH (ltZ M2.H) zs (n, tn)).map (·.2) := pushH_map (f := fun z : O × Addr => z.2) (x := (n, tn)) fun x hx y hy => rfl
        obtain ⟨o2, c1, c2, c3⟩ := (er.ext e1).putL e2 (os' := pushH ltO (zs.map (·.1)) n) (vs' := (pushH (ltA M2.H) (zs.map (·.2)) tn).map V.ref) he hv nd2 hbv2 q2 (fun _ _ _ _ _ _ _ => ⟨[], by
          rw [a1, a2]
          exact owns_zs fun z hz' => (hall z (upH_mem _ _ _ z hz')).2.2, List.nodup_nil, by simp⟩)
        refine ⟨b, tn, zs.map (·.2), rfl, hbv2, fun u hu => ?_, by simpa [← line] using hz.1, (h2.put c1) _ _ (e2.keep.trans c3) c2⟩
        have : ∃ z ∈ zs ++ [(n, tn)], z.2 = u := by
          rcases List.mem_append.mp hu with hu | hu
          · obtain ⟨z, hz1, hz2⟩ := List.mem_map.mp hu
            exact ⟨z, List.mem_append_left _ hz1, hz2⟩
          · exact ⟨(n, tn), by simp, (by simpa using hu : u = tn).symm⟩
        obtain ⟨z, hz1, rfl⟩ := this
        rw [← (hall z hz1).1]
        exact (hall z hz1).2.1
      · rw [if_neg hz] at h2
        exact h2.elim
    | _ => exact h1.elim
theorem ss_hpop {i : Nat} {p : Pt} {tg : Tg} {o' : Expr} {x : Str} {es : List Expr} {kk : Nat} {p1 p2 p3 pos : Pos} (hx : Γ.bs.lookup x = some "_heapq.heappop") (hg : glB sc x = true) (hp' : trP Γ N sc i p o' = true) (hs0 : starB o' = false) (ht : trT (fun _ => true) Γ.io N sc tg (.Tuple es kk p3) = true) :
    SSt Γ G cf ini np io sb k N sc (.Assign [.Tuple es kk p3] (.Call (.Name x p1) [o'] [] p2) pos) (.hpop tg i p) := by
  intro X Fm W xo xs pn tk hp
  obtain ⟨g, nb⟩ := xo.gl hg
  have hu : X.A.units + 2 < cLine := by have := xo.room.units; omega
  have pg := pg_ok (X := X) (Fm := Fm) (G := G) (ce := fun _ => true) (io := Γ.io) (N := N) (sc := sc) ⟨xo.hN, xo.nd, xo.sc, xo.calm, fun x _ => xs.fn x, pn⟩ tg (.Tuple es kk p3) ht
  refine (ps_asg (pe_callBfun (cr_pop hu) g (xo.fc.bs x _ hx) (pa_cons (pp_ok co xo pn tk p o' hp') pa_nil (star_each hs0)) (nmB_ok nb).1 (star_each hs0) rfl) pg rfl rfl rfl).imp fun D σ H ⟨S, env, er, h⟩ => ?_
  simp only [ex] at h
  cases he : env[i]? with
  | none => rw [he] at h; exact h.elim
  | some o =>
    rw [he] at h
    refine ⟨S, env, o, er, he, OutS.stepP er h fun q v u M1 hv e1 nd h1 => ?_⟩
    obtain ⟨js, q⟩ := q
    cases q with
    | l os =>
      simp only at h1 nd
      obtain ⟨b, vs, rfl, hbv, hlen, r, t⟩ := (er.ext e1).nodeL he hv nd
      cases hq : popH ltO os with
      | none => rw [hq] at h1; exact h1.elim
      | some pr =>
        obtain ⟨ox, os'⟩ := pr
        rw [hq] at h1
        cases ox with
        | fz d =>
          simp only at h1
          by_cases hz : os.all (fun o => (keyO o).isSome) = true
          · rw [if_pos hz] at h1
            obtain ⟨zs, rfl, rfl, hzs⟩ := keys_of t hz
            have a1 : popH ltO (zs.map (·.1)) = (popH (ltZ M1.H) zs).map fun q => (q.1.1, q.2.map (·.1)) := popH_map (f := fun z : O × Addr => z.1) fun x hx y hy => ltZ_o (hzs x hx).1 (hzs y hy).1
            have a2 : popH (ltA M1.H) (zs.map (·.2)) = (popH (ltZ M1.H) zs).map fun q => (q.1.2, q.2.map (·.2)) := popH_map (f := fun z : O × Addr => z.2) fun x hx y hy => rfl
            rw [hq] at a1
            cases hZ : popH (ltZ M1.H) zs with
            | none => rw [hZ] at a1; cases a1
            | some pz =>
              obtain ⟨z0, zs'⟩ := pz
              rw [hZ] at a1 a2
              simp only [Option.map_some, Option.some.injEq, Prod.mk.injEq] at a1
              obtain ⟨hz0, hzs'⟩ := a1
              obtain ⟨m0, m1⟩ := popH_mem hZ
              have er1 := er.ext e1
              obtain ⟨o2, c1, c2, c3⟩ := er1.putL (Ext.refl e1.d) (os' := os') (vs' := (zs'.map (·.2)).map V.ref) (n := .fz .non) (w := .non) he hv nd hbv (VR.fz (by simp only [Rep])) (fun _ _ _ _ _ _ _ => ⟨[], by
                rw [hzs']
                exact owns_zs fun z hz' => (hzs z (m1 z hz')).2.2, List.nodup_nil, by simp⟩)
              have hput : put1 env i o js (.l os') = .nx (env.set i o2) := by unfold put1; rw [c1]
              rw [hput] at h1
              simp only [thn] at h1
              have own0 := (hzs z0 m0).2.2
              rw [← hz0] at own0
              simp only [Own] at own0
              cases hs : setTg tg d (env.set i o2) with
              | none => rw [hs] at h1; exact h1.elim
              | some env'' =>
                rw [hs] at h1
                refine ⟨b, z0.2, zs.map (·.2), zs'.map (·.2), rfl, hbv, fun u hu => ?_, by rw [a2]; rfl, M1.S, env.set i o2, d, env'', c2, own0.2.mono c3, hs, fun σ' er' _ => h1 σ' _ (e1.keep.trans c3) er'⟩
                obtain ⟨z, hz1, rfl⟩ := List.mem_map.mp hu
                rw [← (hzs z hz1).1]
                exact (hzs z hz1).2.1
          · rw [if_neg hz] at h1
            exact h1.elim
        | _ => exact h1.elim
    | _ => exact h1.elim
end
end Ev

/-! EvB21 -/
set_option Elab.async false
set_option linter.all false
set_option maxRecDepth 100000
set_option maxHeartbeats 8000000
/-! EvB21: the check of statements. -/
namespace Ev
open PySem PySem.Spec PyProof.Rows L2
variable {G : Ctx} {Fm : Frm} {M M' M0 M1 M2 : Mem} {X : Cx} {env : Env} {σ : L2.St} {W : WX}
def opB : Op → Bool
  | .add => true
  | .sub => true
  | _ => false
theorem opB_ok {op : Op} (h : opB op = true) : op = .add ∨ op = .sub := by
  cases op <;> simp [opB] at h <;> simp
mutual
def trS (Γ : Gm) (N : List Str) (sc : Scope) : S → Stmt → Bool
  | .set _ i e, st => match st with
    | .Assign [.Name x _] e' _ => trE Γ N sc e e' && decide (N[i]? = some x) && locB sc x
    | _ => false
  | .unp tg e, st => match st with
    | .Assign [.Tuple es kk p] e' _ => trE Γ N sc e e' && trT (fun _ => true) Γ.io N sc tg (.Tuple es kk p) && unpB e'
    | _ => false
  | .par i j a b, st => match st with
    | .Assign [.Tuple [.Name x px, .Name y py] _ _] (.Tuple [a', b'] _ _) _ => trE Γ N sc a a' && trE Γ N sc b b' && decide (N[i]? = some x) && decide (N[j]? = some y) && decide (sc.names.lookup x = some .local) && decide (sc.names.lookup y = some .local) &&
      decide (py.line = px.line) && decide (x ≠ y) && !starB a' && !starB b' && !([a', b'].all (foldedForSure 8)) && !([a', b'].all (constantsAlone 8))
    | _ => false
  | .app i p e, st => match st with
    | .Expr (.Call (.Attribute o nm apos) [e'] [] cpos) _ => decide (nm = "append") && trP Γ N sc i p o && baseB o && !starB e' && trE Γ N sc e e' && (apos.endLine == cpos.line)
    | _ => false
  | .ins i p a e, st => match st with
    | .Expr (.Call (.Attribute o nm apos) [a', e'] [] cpos) _ => decide (nm = "insert") && trP Γ N sc i p o && baseB o && !starB a' && !starB e' && trE Γ N sc a a' && trE Γ N sc e e' && (apos.endLine == cpos.line)
    | _ => false
  | .sto i p a e, st => match st with
    | .Assign [.Subscript o a' _] e' _ => trP Γ N sc i p o && ixB a' && trE Γ N sc a a' && trE Γ N sc e e'
    | _ => false
  | .fst i p c f e, st => match st with
    | .Assign [.Attribute o nm _] e' _ => trP Γ N sc i p o && trE Γ N sc e e' && (match Γ.cl[c]? with
      | some q => decide (q.2[f]? = some nm) && decide (q.2.length < 1000)
      | none => false)
    | _ => false
  | .adto op i p a e, st => match st with
    | .AugAssign (.Subscript o a' _) op' e' _ => opB op && decide (op' = pyOp op) && trP Γ N sc i p o && ixB a' && trE Γ N sc a a' && trE Γ N sc e e'
    | _ => false
  | .aug op i e, st => match st with
    | .AugAssign (.Name x _) op' e' _ => opB op && decide (op' = pyOp op) && decide (N[i]? = some x) && locB sc x && trE Γ N sc e e'
    | _ => false
  | .expr e, st => match st with
    | .Expr e' _ => trE Γ N sc e e' && !isComp e'
    | _ => false
  | .frz _, _ => false
  | .ret e, st => match st with
    | .Return (some e') _ => trE Γ N sc e e'
    | _ => false
  | .retN, st => match st with
    | .Return none _ => true
    | _ => false
  | .ifs c a b, st => match st with
    | .If c' a' b' _ => trE Γ N sc c c' && tst c && trSs Γ N sc a a' && trSs Γ N sc b b'
    | _ => false
  | .for_ tg it b, st => match st with
    | .For tg' it' b' [] _ => trI Γ N sc it tg' it' && trT (fun _ => true) Γ.io N sc tg tg' && trSs Γ N sc b b'
    | _ => false
  | .whl _ c b, st => match st with
    | .While c' b' [] _ => trE Γ N sc c c' && tst c && trSs Γ N sc b b'
    | _ => false
  | .pass, st => match st with
    | .Pass _ => true
    | _ => false
  | .brk, st => match st with
    | .Break _ => true
    | _ => false
  | .cont, st => match st with
    | .Continue _ => true
    | _ => false
  | .nev, _ => true
  | .hpush i p e, st => match st with
    | .Expr (.Call (.Name x _) [o', e'] [] _) _ => decide (Γ.bs.lookup x = some "_heapq.heappush") && glB sc x && trP Γ N sc i p o' && !starB o' && !starB e' && trE Γ N sc e e'
    | _ => false
  | .hpop tg i p, st => match st with
    | .Assign [.Tuple es kk p3] (.Call (.Name x _) [o'] [] _) _ => decide (Γ.bs.lookup x = some "_heapq.heappop") && glB sc x && trP Γ N sc i p o' && !starB o' && trT (fun _ => true) Γ.io N sc tg (.Tuple es kk p3)
    | _ => false
  | .raise _, _ => false
  | .try_ _ _, _ => false
def trSs (Γ : Gm) (N : List Str) (sc : Scope) : Ss → List Stmt → Bool
  | .nil, sts => match sts with
    | [] => true
    | _ :: _ => false
  | .cons s ss, sts => match isFrz s with
    | true => trSs Γ N sc ss sts
    | false => match sts with
      | [] => false
      | st :: sts => trS Γ N sc s st && trSs Γ N sc ss sts
where isFrz : S → Bool
  | .frz _ => true
  | _ => false
end
section
variable {Γ : Gm} {cf : Cf} {ini np : Nat → Nat} {io : Nat → List Nat} {sb : Nat → Nat → Bool} {k : Nat} {N : List Str} {sc : Scope}
variable (co : CfOk cf np io)
include co
mutual
theorem sndS : ∀ (s : S) (st : Stmt), trS Γ N sc s st = true → SSt Γ G cf ini np io sb k N sc st s
  | .set own i e, st, h => by
    simp only [trS] at h
    split at h
    · simp only [Bool.and_eq_true, decide_eq_true_eq] at h
      exact ss_set co h.1.1 h.1.2 h.2
    · cases h
  | .unp tg e, st, h => by
    simp only [trS] at h
    split at h
    · simp only [Bool.and_eq_true, decide_eq_true_eq] at h
      exact ss_unp co h.1.1 h.1.2 h.2
    · cases h
  | .par i j a b, st, h => by
    simp only [trS] at h
    split at h
    · simp only [Bool.and_eq_true, decide_eq_true_eq, Bool.not_eq_true'] at h
      obtain ⟨⟨⟨⟨⟨⟨⟨⟨⟨⟨⟨h1, h2⟩, h3⟩, h4⟩, h5⟩, h6⟩, h7⟩, h8⟩, h9⟩, h10⟩, h11⟩, h12⟩ := h
      exact ss_par co h1 h2 h3 h4 h5 h6 h7 h8 h9 h10 h11 h12
    · cases h
  | .app i p e, st, h => by
    simp only [trS] at h
    split at h
    · simp only [Bool.and_eq_true, decide_eq_true_eq, Bool.not_eq_true'] at h
      obtain ⟨⟨⟨⟨⟨rfl, h2⟩, h3⟩, h4⟩, h5⟩, h6⟩ := h
      exact ss_app co h2 h3 h4 h5 h6
    · cases h
  | .ins i p a e, st, h => by
    simp only [trS] at h
    split at h
    · simp only [Bool.and_eq_true, decide_eq_true_eq, Bool.not_eq_true'] at h
      obtain ⟨⟨⟨⟨⟨⟨⟨rfl, h2⟩, h3⟩, h4⟩, h5⟩, h6⟩, h7⟩, h8⟩ := h
      exact ss_ins co h2 h3 h4 h5 h6 h7 h8
    · cases h
  | .sto i p a e, st, h => by
    simp only [trS] at h
    split at h
    · simp only [Bool.and_eq_true] at h
      exact ss_sto co h.1.1.1 h.1.1.2 h.1.2 h.2
    · cases h
  | .fst i p c f e, st, h => by
    simp only [trS] at h
    split at h
    · simp only [Bool.and_eq_true] at h
      obtain ⟨⟨h1, h2⟩, h3⟩ := h
      split at h3
      · rename_i q hq
        simp only [Bool.and_eq_true, decide_eq_true_eq] at h3
        exact ss_fst co h1 hq h3.1 h3.2 h2
      · cases h3
    · cases h
  | .adto op i p a e, st, h => by
    simp only [trS] at h
    split at h
    · simp only [Bool.and_eq_true, decide_eq_true_eq] at h
      obtain ⟨⟨⟨⟨⟨h0, rfl⟩, h2⟩, h3⟩, h4⟩, h5⟩ := h
      exact ss_adto co (opB_ok h0) h2 h3 h4 h5
    · cases h
  | .aug op i e, st, h => by
    simp only [trS] at h
    split at h
    · simp only [Bool.and_eq_true, decide_eq_true_eq] at h
      obtain ⟨⟨⟨⟨h0, rfl⟩, h2⟩, h3⟩, h4⟩ := h
      exact ss_aug co (opB_ok h0) h2 h3 h4
    · cases h
  | .expr e, st, h => by
    simp only [trS] at h
    split at h
    · simp only [Bool.and_eq_true, Bool.not_eq_true'] at h
      exact ss_expr co h.2 h.1
    · cases h
  | .frz i, st, h => by simp [trS] at h
  | .ret e, st, h => by
    simp only [trS] at h
    split at h
    · exact ss_ret co h
    · cases h
  | .retN, st, h => by
    simp only [trS] at h
    split at h
    · exact ss_retN
    · cases h
  | .ifs c a b, st, h => by
    simp only [trS] at h
    split at h
    · simp only [Bool.and_eq_true] at h
      exact ss_if co h.1.1.2 h.1.1.1 (sndSs a _ h.1.2) (sndSs b _ h.2)
    · cases h
  | .for_ tg it b, st, h => by
    simp only [trS] at h
    split at h
    · simp only [Bool.and_eq_true] at h
      exact ss_for co h.1.1 h.1.2 (sndSs b _ h.2)
    · cases h
  | .whl n c b, st, h => by
    simp only [trS] at h
    split at h
    · simp only [Bool.and_eq_true] at h
      exact ss_whl co h.1.2 h.1.1 (sndSs b _ h.2)
    · cases h
  | .pass, st, h => by
    simp only [trS] at h
    split at h
    · exact ss_pass
    · cases h
  | .brk, st, h => by
    simp only [trS] at h
    split at h
    · exact ss_brk
    · cases h
  | .cont, st, h => by
    simp only [trS] at h
    split at h
    · exact ss_cont
    · cases h
  | .nev, st, h => fun X Fm W xo xs pn tk hp => ⟨fun pins s σ H D I ⟨S, env, er, hh⟩ => by simp only [ex] at hh; exact hh.elim⟩
  | .hpush i p e, st, h => by
    simp only [trS] at h
    split at h
    · simp only [Bool.and_eq_true, decide_eq_true_eq, Bool.not_eq_true'] at h
      obtain ⟨⟨⟨⟨⟨h1, h2⟩, h3⟩, h4⟩, h5⟩, h6⟩ := h
      exact ss_hpush co h1 h2 h3 h4 h5 h6
    · cases h
  | .hpop tg i p, st, h => by
    simp only [trS] at h
    split at h
    · simp only [Bool.and_eq_true, decide_eq_true_eq, Bool.not_eq_true'] at h
      obtain ⟨⟨⟨⟨h1, h2⟩, h3⟩, h4⟩, h5⟩ := h
      exact ss_hpop co h1 h2 h3 h4 h5
    · cases h
  | .raise c, st, h => by simp [trS] at h
  | .try_ b hs, st, h => by simp [trS] at h
theorem sndSs : ∀ (ss : Ss) (sts : List Stmt), trSs Γ N sc ss sts = true → SSs Γ G cf ini np io sb k N sc sts ss
  | .nil, sts, h => by
    simp only [trSs] at h
    split at h
    · exact SSs.nil
    · cases h
  | .cons s ss, sts, h => by
    simp only [trSs] at h
    split at h
    · rename_i hf
      cases s <;> simp [trSs.isFrz] at hf
      exact SSs.frz (sndSs ss sts h)
    · split at h
      · cases h
      · simp only [Bool.and_eq_true] at h
        exact SSs.cons (sndS s _ h.1) (sndSs ss _ h.2)
end
end
end Ev

/-! EvB22 -/
set_option Elab.async false
set_option linter.all false
set_option maxRecDepth 100000
set_option maxHeartbeats 8000000
/-! EvB22: a def whose body is checked keeps its promise. -/
namespace Ev
open PySem PySem.Spec PyProof.Rows L2
variable {G : Ctx} {Fm : Frm} {M M' M0 M1 M2 : Mem} {X : Cx} {env : Env} {σ : L2.St} {W : WX}
theorem Owns.fam : ∀ {os : List O} {vs : List V} {F : List Addr}, Owns G M os vs F → F.Nodup → ∃ FS : Nat → List Addr, (∀ i o, os[i]? = some o → ∃ v, vs[i]? = some v ∧ Own G M o v (FS i)) ∧ (∀ i, (FS i).Nodup) ∧ (∀ i j a, a ∈ FS i → a ∈ FS j → i = j) ∧ ∀ i a, a ∈ FS i → a ∈ F ∧ i < os.length
  | [], _, _, h, n => ⟨fun _ => [], by simp, by simp, by simp, by simp⟩
  | o :: os, _, _, h, n => by
    simp only [Owns] at h
    obtain ⟨v, r, F1, F2, rfl, rfl, q, t⟩ := h
    obtain ⟨n1, n2, d⟩ := List.nodup_append.mp n
    obtain ⟨FS, h1, h2, h3, h4⟩ := Owns.fam t n2
    refine ⟨fun i => match i with | 0 => F1 | i + 1 => FS i, fun i o' hi => ?_, fun i => ?_, fun i j a hi hj => ?_, fun i a hi => ?_⟩
    · cases i with
      | zero =>
        simp at hi
        subst hi
        exact ⟨v, rfl, q⟩
      | succ i =>
        obtain ⟨w, e1, e2⟩ := h1 i o' (by simpa using hi)
        exact ⟨w, by simpa using e1, e2⟩
    · cases i with
      | zero => exact n1
      | succ i => exact h2 i
    · cases i with
      | zero =>
        cases j with
        | zero => rfl
        | succ j => exact absurd rfl (d a hi a (h4 j a hj).1)
      | succ i =>
        cases j with
        | zero => exact absurd rfl (d a hj a (h4 i a hi).1)
        | succ j => rw [h3 i j a hi hj]
    · cases i with
      | zero => exact ⟨List.mem_append_left _ hi, by simp⟩
      | succ i => exact ⟨List.mem_append_right _ (h4 i a hi).1, by simpa using (h4 i a hi).2⟩
theorem ioOk_at : ∀ {io : List Nat} {k : Nat} {os : List O}, ioOk io k os = true → ∀ i o, os[i]? = some o → isFz o = true ∨ (k + i) ∈ io
  | _, _, [], _, i, o, h => by simp at h
  | io, k, p :: os, h, i, o, hi => by
    simp only [ioOk, Bool.and_eq_true, Bool.or_eq_true] at h
    cases i with
    | zero =>
      simp at hi
      subst hi
      refine h.1.imp id fun z => ?_
      simpa using z
    | succ i =>
      have := ioOk_at h.2 i o (by simpa using hi)
      refine this.imp id fun z => ?_
      rw [show k + (i + 1) = k + 1 + i by omega]
      exact z
theorem fz_foot {o : O} {v : V} {F : List Addr} (h : isFz o = true) (q : Own G M o v F) : F = [] := by
  cases o <;> simp [isFz] at h
  simp only [Own] at q
  exact q.1
/-- a def's entry -/
theorem enter {io : List Nat} {os : List O} {vs : List V} {F : List Addr} {nl : Nat} (h : Owns G M os vs F) (n : F.Nodup) (hs : ∀ a ∈ F, ¬ M.S a) (dm : ∀ a, M.S a → M.H a ≠ none) (ok : ioOk io 0 os = true) (hio : ∀ i ∈ io, i < os.length) :
    ER G ⟨M.S, M.H, F, io.map fun i => (i, vs.getD i .non)⟩ M (os ++ List.replicate (nl - os.length) .dead) (vs.map some ++ List.replicate (nl - vs.length) none) := by
  obtain ⟨FS, h1, h2, h3, h4⟩ := h.fam n
  have hl := h.length
  refine ⟨by simp [hl], dm, fun b o q _ => q, fun b hb => h.there b hb, fun a s => .inl s, fun a s => s, fun p hp => ?_, FS, fun i o hi => ?_, h2, h3, fun i a ha => ?_⟩
  · obtain ⟨i, hi, rfl⟩ := List.mem_map.mp hp
    have hlt : i < vs.length := by rw [hl]; exact hio i hi
    simp only
    rw [List.getElem?_append_left (by simpa using hlt), List.getElem?_map, List.getD_eq_getElem?_getD, List.getElem?_eq_getElem hlt]
    rfl
  · by_cases hlt : i < os.length
    · rw [List.getElem?_append_left hlt] at hi
      obtain ⟨v, e1, e2⟩ := h1 i o hi
      refine ⟨some v, ?_, .inr ⟨v, rfl, e2⟩⟩
      rw [List.getElem?_append_left (by rw [List.length_map, hl]; exact hlt), List.getElem?_map, e1]
      rfl
    · have hfs : FS i = [] := by
        cases q : FS i with
        | nil => rfl
        | cons a l => exact absurd (h4 i a (by rw [q]; exact List.mem_cons_self)).2 hlt
      rw [List.getElem?_append_right (by omega)] at hi
      have hd : o = .dead := by
        have := List.mem_of_getElem? hi
        exact (List.mem_replicate.mp this).2
      have hi2 : i - os.length < nl - os.length := by
        have := (List.getElem?_eq_some_iff.mp hi).1
        simpa using this
      refine ⟨none, ?_, .inl ⟨hd, hfs⟩⟩
      rw [List.getElem?_append_right (by rw [List.length_map]; omega), List.length_map, hl, List.getElem?_replicate, if_pos hi2]
  · obtain ⟨a1, a2⟩ := h4 i a ha
    refine ⟨hs a a1, h.there a a1, .inr ⟨a1, ?_⟩⟩
    obtain ⟨o, ho⟩ : ∃ o, os[i]? = some o := ⟨_, List.getElem?_eq_getElem a2⟩
    obtain ⟨v, _, q⟩ := h1 i o ho
    rcases ioOk_at ok i o ho with z | z
    · rw [fz_foot z q] at ha; cases ha
    · rw [List.map_map]
      refine List.mem_map.mpr ⟨i, by simpa using z, rfl⟩
/-- what its arguments are behind it -/
theorem Slots.outs {FS : Nat → List Addr} (s : Slots G Fm M env σ FS) {ws : Nat → V} : ∀ {io : List Nat}, io.Nodup → (∀ i ∈ io, σ[i]? = some (some (ws i))) → ∃ Fo, Owns G M (Ev.outs io env) (io.map ws) Fo ∧ Fo.Nodup ∧ ∀ a ∈ Fo, ∃ i ∈ io, a ∈ FS i
  | [], _, _ => ⟨[], by simp [Ev.outs, Owns], List.nodup_nil, by simp⟩
  | i :: io, n, hp => by
    obtain ⟨n1, n2⟩ := List.nodup_cons.mp n
    obtain ⟨Fo, h1, h2, h3⟩ := Slots.outs s (ws := ws) n2 fun j hj => hp j (List.mem_cons_of_mem _ hj)
    have key : ∃ Fi, Own G M (env.getD i .dead) (ws i) Fi ∧ Fi.Nodup ∧ ∀ a ∈ Fi, a ∈ FS i := by
      rw [List.getD_eq_getElem?_getD]
      cases he : env[i]? with
      | none => exact ⟨[], by simp [Own], List.nodup_nil, by simp⟩
      | some o =>
        obtain ⟨x, e1, e2⟩ := s.at_ i o he
        rcases e2 with ⟨rfl, _⟩ | ⟨v, rfl, e2⟩
        · exact ⟨[], by simp [Own], List.nodup_nil, by simp⟩
        · rw [hp i List.mem_cons_self] at e1
          cases e1
          exact ⟨FS i, e2, s.nod i, fun a ha => ha⟩
    obtain ⟨Fi, k1, k2, k3⟩ := key
    refine ⟨Fi ++ Fo, ?_, ?_, fun a ha => ?_⟩
    · simp only [Ev.outs, List.map_cons, Owns]
      exact ⟨ws i, io.map ws, Fi, Fo, rfl, rfl, k1, h1⟩
    · refine List.nodup_append.mpr ⟨k2, h2, fun a ha b hb e => ?_⟩
      subst e
      obtain ⟨j, hj, hja⟩ := h3 a hb
      have := s.dis i j a (k3 a ha) hja
      exact n1 (this ▸ hj)
    · rcases List.mem_append.mp ha with ha | ha
      · exact ⟨i, List.mem_cons_self, k3 a ha⟩
      · obtain ⟨j, hj, hja⟩ := h3 a ha
        exact ⟨j, List.mem_cons_of_mem _ hj, hja⟩
/-- the body's end is the def's -/
theorem leave {io : List Nat} {vs : List V} {F : List Addr} {Q : VK} {E : XK} {rs : RS} (hn : io.Nodup) (hf : FOut G M F vs io Q E (fin io rs)) :
    OutS G ⟨M.S, M.H, F, io.map fun i => (i, vs.getD i .non)⟩ (fun cls d _ H => E cls d H) io { nx := fun _ H' => Q .non H', rt := Q } M rs := by
  have aft : ∀ {M' : Mem} {env : Env} {σ : L2.St}, ER G ⟨M.S, M.H, F, io.map fun i => (i, vs.getD i .non)⟩ M' env σ → Aft M F M' := fun er => ⟨er.old, er.fr, er.new, er.dom⟩
  have pins : ∀ {M' : Mem} {env : Env} {σ : L2.St}, ER G ⟨M.S, M.H, F, io.map fun i => (i, vs.getD i .non)⟩ M' env σ → ∀ i ∈ io, σ[i]? = some (some (vs.getD i .non)) := fun er i hi => er.pin (i, vs.getD i .non) (List.mem_map.mpr ⟨i, hi, rfl⟩)
  cases rs with
  | nx env =>
    intro σ M' kp er
    obtain ⟨FS, s⟩ := er.slots
    obtain ⟨Fo, h1, h2, h3⟩ := s.outs (ws := fun i => vs.getD i .non) hn (pins er)
    refine hf .non M' [] Fo (aft er) (by simp [Own, Rep]) h1 (by simpa using h2) fun a ha => ?_
    obtain ⟨i, hi, hia⟩ := h3 a (by simpa using ha)
    obtain ⟨q1, _, q3⟩ := s.own i a hia
    exact ⟨q1, q3.imp id And.left⟩
  | rt o env =>
    intro v σ M' kp er ⟨FS, Fv, s, o1, n1, f1, g1⟩
    obtain ⟨Fo, h1, h2, h3⟩ := s.outs (ws := fun i => vs.getD i .non) hn (pins er)
    refine hf v M' Fv Fo (aft er) o1 h1 ?_ fun a ha => ?_
    · refine List.nodup_append.mpr ⟨n1, h2, fun a ha b hb e => ?_⟩
      subst e
      obtain ⟨i, hi, hia⟩ := h3 a hb
      exact (g1 (fun z => by rw [z] at hi; cases hi) a ha).2 i hia
    · rcases List.mem_append.mp ha with ha | ha
      · exact f1 a ha
      · obtain ⟨i, hi, hia⟩ := h3 a ha
        obtain ⟨q1, _, q3⟩ := s.own i a hia
        exact ⟨q1, q3.imp id And.left⟩
  | bk env => exact hf.elim
  | ct env => exact hf.elim
  | exc c env => exact fun σ M' kp er => hf M' (aft er)
  | bad => exact hf.elim
theorem cf_ok (p : Prog) : ∀ k, CfOk (callD p k) p.np p.io
  | 0 => ⟨fun f os h => absurd rfl h, fun f os o outs h => by simp [callD] at h⟩
  | k + 1 => by
    refine ⟨fun f os h => ?_, fun f os o outs h => ?_⟩
    · simp only [callD, step, Prog.np] at h ⊢
      split at h
      · exact absurd rfl h
      · rename_i fd hf
        split at h
        · rename_i hc
          simp only [hf]
          exact hc.1
        · exact absurd rfl h
    · simp only [callD, step, Prog.io] at h ⊢
      split at h
      · cases h
      · rename_i fd hf
        split at h
        · have key : ∀ rs : RS, fin fd.io rs = .ok o outs → outs.length = fd.io.length := by
            intro rs h
            cases rs <;> simp only [fin, CR.ok.injEq, reduceCtorEq] at h
            · rw [← h.2]; simp [Ev.outs]
            · rw [← h.2]; simp [Ev.outs]
          simp only [hf]
          exact key _ h
        · cases h
section
variable {Γ : Gm} {p : Prog} {k : Nat} {P : Program} {w : World} {K : PySem.W.Frag} {mg : Str → Option Value} {base : Heap} {x qual : Str} {params : Arguments} {body : List Stmt} {scope : Scope} {dvs : List V} {kws : List (Str × V)} {f : Addr} {fd : FuncData}
theorem Facts.io {io' : List Nat} {np : Nat → Nat} {io : Nat → List Nat} {cf : Cf} {ini : Nat → Nat} (h : Facts Γ G cf ini np io k P w K mg base) : Facts { Γ with io := io' } G cf ini np io k P w K mg base := ⟨h.kk, h.free, h.gs, h.bs, h.cl, h.ci, h.cn, h.fn, h.mk_⟩
/-- a def, one level up -/
theorem fn_sound {N ps : List Str} {fi : Nat} {d : FnD} (F : FunD K x qual params body scope dvs kws f fd) (S : FnScope N ps scope) (hd : p.fns[fi]? = some d) (h1 : d.np = ps.length) (h2 : d.nl = N.length) (h3 : d.io.Nodup) (h4 : ∀ i ∈ d.io, i < d.np)
    (tr : trSs { Γ with io := d.io } N scope d.body body = true) (fc : Facts Γ G (callD p k) p.ini p.np p.io (2 * k) P w K mg base) : FnOk P w K mg base (L2.CX P w) (2 * k + 2) f fd ps (spF G (callD p (k + 1)) p.np p.io fi) := by
  have hnp : p.np fi = d.np := by simp only [Prog.np, hd]
  have hio : p.io fi = d.io := by simp only [Prog.io, hd]
  refine F.ok (k := 2 * k + 1) S (fun vs H Q E ⟨M, os, Fo, _, _, hl, ho, _⟩ => by rw [ho.length, hl, hnp, h1]) fun cdv A outer s H vs Q E hr ⟨M, os, Fo, eH, dm, hl, ho, nd, hs, hf⟩ => ?_
  subst eH
  rw [hio] at hf
  simp only [callD, step, hd] at hf
  rw [hnp] at hl
  by_cases hc : os.length = d.np ∧ ioOk d.io 0 os = true
  · rw [if_pos hc] at hf
    have er := enter (io := d.io) (nl := d.nl) ho nd hs dm hc.2 (fun i hi => by rw [hl]; exact h4 i hi)
    have out := leave h3 hf
    have snd := sndSs (G := G) (io := p.io) (sb := p.sb) (ini := p.ini) (k := 2 * k) (cf_ok p k) d.body body tr
    let X := cxOf (L2.CX P w) P w K mg base N qual scope f cdv A outer s M.H E
    have xo : XOk { Γ with io := d.io } G (callD p k) p.ini p.np p.io (2 * k) N scope X := ⟨rfl, S.nd, rfl, rfl, hr, fc.io⟩
    have xs : XSt X := ⟨fun _ => rfl, rfl, rfl⟩
    refine ⟨_, snd X ⟨M.S, M.H, Fo, d.io.map fun i => (i, vs.getD i .non)⟩ (fun cls d _ H => E cls d H) xo xs (fun q hq => ?_) (takes_of rfl rfl rfl rfl) (passes_of rfl), M.S, start d os, ?_, out⟩
    · obtain ⟨i, hi, rfl⟩ := List.mem_map.mp hq
      exact hi
    · have : (L2.start N vs) = vs.map some ++ List.replicate (d.nl - vs.length) none := by rw [h2]; rfl
      rw [this]
      exact er
  · rw [if_neg hc] at hf
    exact hf.elim
end
end Ev

/-! EvB23 -/
set_option Elab.async false
set_option linter.all false
set_option maxRecDepth 100000
set_option maxHeartbeats 8000000
/-! EvB23: all defs, level by level; the law's end. -/
namespace Ev
open PySem PySem.Spec PyProof.Rows L2
section
variable {Γ : Gm} {G : Ctx} {p : Prog} {P : Program} {w : World} {K : PySem.W.Frag} {mg : Str → Option Value} {base : Heap}
/-- what is checked of a def's text -/
def defChk (Γ : Gm) (d : FnD) (N ps : List Str) (sc : Scope) (body : List Stmt) : Bool :=
  (match sc.kind with | .function => true | _ => false) && !sc.isCoroutine && !sc.isGenerator && decide N.Nodup && decide (N.take ps.length = ps) && (ps.all fun x => locB sc x) && (sc.names.all fun y => !(match y.2 with | .free => true | _ => false)) &&
  decide (d.np = ps.length) && decide (d.nl = N.length) && decide d.io.Nodup && (d.io.all fun i => decide (i < d.np)) && trSs { Γ with io := d.io } N sc d.body body
theorem defChk_scope {d : FnD} {N ps : List Str} {sc : Scope} {body : List Stmt} (h : defChk Γ d N ps sc body = true) : FnScope N ps sc := by
  unfold defChk at h
  simp only [Bool.and_eq_true, Bool.not_eq_true', decide_eq_true_eq, List.all_eq_true] at h
  obtain ⟨⟨⟨⟨⟨⟨⟨⟨⟨⟨⟨h1, h2⟩, h3⟩, h4⟩, h5⟩, h6⟩, h7⟩, h8⟩, h9⟩, h10⟩, h11⟩, h12⟩ := h
  refine ⟨?_, h2, h3, h4, h5, fun x hx => locB_ok (h6 x hx), fun y hy e => ?_⟩
  · split at h1
    · assumption
    · cases h1
  · have := h7 y hy
    rw [e] at this
    cases this
structure DefOk (Γ : Gm) (p : Prog) (K : PySem.W.Frag) (fi : Nat) (a : Addr) (fd : FuncData) (ps : List Str) : Prop where
  ex : ∃ (x qual : Str) (params : Arguments) (body : List Stmt) (scope : Scope) (dvs : List V) (kws : List (Str × V)) (N : List Str) (d : FnD), FunD K x qual params body scope dvs kws a fd ∧ p.fns[fi]? = some d ∧ defChk Γ d N ps scope body = true
theorem DefOk.np {fi : Nat} {a : Addr} {fd : FuncData} {ps : List Str} (h : DefOk Γ p K fi a fd ps) : p.np fi = ps.length := by
  obtain ⟨x, qual, params, body, scope, dvs, kws, N, d, _, h2, h3⟩ := h.ex
  unfold defChk at h3
  simp only [Bool.and_eq_true, decide_eq_true_eq] at h3
  simp only [Prog.np, h2]
  exact h3.1.1.1.1.2
theorem DefOk.step {fi : Nat} {a : Addr} {fd : FuncData} {ps : List Str} {k : Nat} (h : DefOk Γ p K fi a fd ps) (fc : Facts Γ G (callD p k) p.ini p.np p.io (2 * k) P w K mg base) : FnOk P w K mg base (L2.CX P w) (2 * k + 2) a fd ps (spF G (callD p (k + 1)) p.np p.io fi) := by
  obtain ⟨x, qual, params, body, scope, dvs, kws, N, d, h1, h2, h3⟩ := h.ex
  have S := defChk_scope h3
  unfold defChk at h3
  simp only [Bool.and_eq_true, decide_eq_true_eq, List.all_eq_true] at h3
  exact fn_sound h1 S h2 h3.1.1.1.1.2 h3.1.1.1.2 h3.1.1.2 h3.1.2 h3.2 fc
theorem DefOk.zero {fi : Nat} {a : Addr} {fd : FuncData} {ps : List Str} (h : DefOk Γ p K fi a fd ps) : FnOk P w K mg base (L2.CX P w) 0 a fd ps (spF G (callD p 0) p.np p.io fi) :=
  ⟨fun vs H Q E ⟨M, os, F, _, _, hl, ho, _⟩ => by rw [ho.length, hl, h.np], fun _ _ _ _ _ _ _ _ _ _ _ _ _ ⟨_, _, _, _, _, _, _, _, _, hf⟩ => hf.elim⟩
/-- what stands of the module, whatever the level -/
structure Stat (Γ : Gm) (G : Ctx) (p : Prog) (K : PySem.W.Frag) (mg : Str → Option Value) : Prop where
  kk : K = G.K
  free : ∀ x ∈ bnames, mg x = none
  gs : ∀ n x, Γ.gs.lookup n = some x → ∃ t, mg n = some (.str x t)
  bs : ∀ n id, Γ.bs.lookup n = some id → mg n = some (.builtin id)
  cl : ∀ c q, Γ.cl[c]? = some q → G.fl c = q.2 ∧ q.2.Nodup ∧ (q.2 ≠ [] → Cls K (G.C c)) ∧ ∀ f ∈ q.2, NoAttr K (G.C c) f
  ci : ∀ c q, Γ.cl[c]? = some q → q.2 ≠ [] → C8.InsC K (G.C c)
  cn : ∀ c q, Γ.cl[c]? = some q → mg q.1 = some (.ref (G.C c))
  fn : ∀ f q ds, Γ.fn[f]? = some q → ds ∈ q.2 → ∃ a fd ps dV, mg q.1 = some (.ref a) ∧ PySem.W.keepIn K (.ref a) = true ∧ Binds K fd ps dV ∧ Vals (ds.map vOf) dV ∧ DefOk Γ p K f a fd ps
  mk_ : ∀ c q, Γ.cl[c]? = some q → q.2 ≠ [] → ∃ fa fd ps, Mk K (G.C c) fa ∧ p.io (p.ini c) = [0] ∧ DefOk Γ p K (p.ini c) fa fd ps ∧
    (∀ ds ∈ Γ.md c, ∃ dV, Binds K fd ps dV ∧ Vals (ds.map vOf) dV) ∧ ∀ n ks, (n, ks) ∈ Γ.mkw c → ∃ (g : List Value → List Value → List Value) (gV : List V → List V → List V), KBn K fd ps (n + 1) ks g gV ∧ ∀ vs zs, vs.length = n + 1 → zs.length = ks.length → gV vs zs = vs ++ zs
theorem Stat.facts (s : Stat Γ G p K mg) : ∀ k, Facts Γ G (callD p k) p.ini p.np p.io (2 * k) P w K mg base
  | 0 => ⟨s.kk, s.free, s.gs, s.bs, s.cl, s.ci, s.cn, fun f q ds h1 h2 => by
      obtain ⟨a, fd, ps, dV, e1, e2, e3, e4, e5⟩ := s.fn f q ds h1 h2
      exact ⟨a, fd, ps, dV, e1, e2, e3, e4, e5.zero⟩, fun c q h1 h2 => by
      obtain ⟨fa, fd, ps, e1, e2, e3, e4, e5⟩ := s.mk_ c q h1 h2
      exact ⟨fa, fd, ps, e1, e2, e3.zero, e4, e5⟩⟩
  | k + 1 => ⟨s.kk, s.free, s.gs, s.bs, s.cl, s.ci, s.cn, fun f q ds h1 h2 => by
      obtain ⟨a, fd, ps, dV, e1, e2, e3, e4, e5⟩ := s.fn f q ds h1 h2
      exact ⟨a, fd, ps, dV, e1, e2, e3, e4, e5.step (Stat.facts s k)⟩, fun c q h1 h2 => by
      obtain ⟨fa, fd, ps, e1, e2, e3, e4, e5⟩ := s.mk_ c q h1 h2
      exact ⟨fa, fd, ps, e1, e2, e3.step (Stat.facts s k), e4, e5⟩⟩
/-- the law's promise -/
theorem law_sp {k fl : Nat} {H : Hp} {a : Addr} {ns : List Int} (hk : K = G.K) (hnp : p.np fl = 1) (hio : p.io fl = []) (hO : Only H) (hS : SqL K H a (ns.map V.int)) (h : callD p k fl [.fz (.scr ns)] = .ok (.fz (.bl true)) []) :
    spF G (callD p k) p.np p.io fl [.ref a] H (fun v _ => v = .bl true) fun _ _ _ => False := by
  refine ⟨⟨fun b => b = a ∧ H a ≠ none, H⟩, [.fz (.scr ns)], [], rfl, fun b hb => by rw [hb.1]; exact hb.2, by rw [hnp]; rfl, ?_, List.nodup_nil, by simp, ?_⟩
  · simp only [Owns, Own, Rep]
    refine ⟨.ref a, [], [], [], rfl, rfl, ⟨rfl, a, rfl, ?_⟩, rfl, rfl⟩
    rcases hS with hS | hS
    · refine .inl ?_
      rcases hO a with z | ⟨o, xs, z⟩
      · rcases hS with q | ⟨o, q⟩
        · rw [z] at q; cases q
        · rw [z] at q; cases q
      · rcases hS with q | ⟨o', q⟩
        · rw [z] at q; cases q
        · exact ⟨o', ⟨rfl, by rw [q]; simp⟩, q⟩
    · exact .inr (hk ▸ hS)
  · rw [h, hio]
    intro v M' Fv Fo _ o1 _ _ _
    simp only [Own, Rep] at o1
    exact o1.2
end
end Ev

/-! EvB24 -/
set_option Elab.async false
set_option linter.all false
set_option maxRecDepth 100000
set_option maxHeartbeats 2000000
/-! EvB24: the hook: facts of the module as one check, the defs by name. -/
namespace Ev
open PySem PySem.Spec PyProof.Rows L2
abbrev AlV : Type := Bool × List He.FnW
def obsV (chk : PySem.W.Frag → Bool) (fn : List He.DefD) (K : PySem.W.Frag) : AlV := (chk K && fn.all fun d => d.ok K, fn.map fun d => He.fnW K d.at_)
def valV (fn : List He.DefD) : AlV := (true, fn.map He.DefD.val)
def SaysV (chk : PySem.W.Frag → Bool) (fn : List He.DefD) (K : PySem.W.Frag) : Prop := obsV chk fn K = valV fn
def obsVG (n : Nat) (chk : PySem.W.Frag → Bool) (fn : List He.DefD) (g : Addr → Option Obj) : AlV := obsV chk fn (He.frG g (He.asD g n))
def hookV (n : Nat) (chk : PySem.W.Frag → Bool) (fn : List He.DefD) : PySem.W.Hook where
  α := AlV
  obs := fun s => obsVG n chk fn s.heap.get?
  val := fun _ => valV fn
  says := fun _ h => ∃ K : PySem.W.Frag, K.In h ∧ SaysV chk fn K
  of := fun _ _ e => ⟨_, He.frG_in, e⟩
  keeps := fun _ _ _ ⟨K, hK, c⟩ k => ⟨K, PySem.W.Frag.In.keeps hK k, c⟩
theorem obsVG_eq {n : Nat} {chk : PySem.W.Frag → Bool} {fn : List He.DefD} {g : Addr → Option Obj} {s : Shared} (h : ∀ a, g a = s.heap.get? a) : obsVG n chk fn g = (hookV n chk fn).obs s := by
  have e : g = s.heap.get? := funext h
  subst e
  rfl
section
variable {chk : PySem.W.Frag → Bool} {fn : List He.DefD} {K : PySem.W.Frag}
theorem SaysV.facts (c : SaysV chk fn K) : chk K = true := (He.ba (show (chk K && fn.all fun d => d.ok K) = true from congrArg (fun z : AlV => z.1) c)).1
theorem SaysV.def_ (c : SaysV chk fn K) (i : Nat) {d : He.DefD} (h : fn[i]? = some d := by rfl) : ∃ fd, FunD K d.name d.qual d.params d.body d.scope (d.dvs K) (d.kws K) (He.fAd K d.at_) fd := by
  have c2 := (He.ba (show (chk K && fn.all fun d => d.ok K) = true from congrArg (fun z : AlV => z.1) c)).2
  have e : fn.map (fun d => He.fnW K d.at_) = fn.map He.DefD.val := congrArg (fun z : AlV => z.2) c
  have e2 : (fn.map fun d => He.fnW K d.at_)[i]? = (fn.map He.DefD.val)[i]? := by rw [e]
  rw [List.getElem?_map, List.getElem?_map, h] at e2
  exact He.DefD.funD (Option.some.inj e2) (List.all_eq_true.mp c2 d (List.mem_of_getElem? h))
end
/-- a module's name stands for a built-in function -/
def bltB (K : PySem.W.Frag) (x : Str) (id : String) : Bool := match PySem.W.nsIn K mainGlobals x with
  | some (some (.builtin j)) => decide (j = id)
  | _ => false
theorem bltB_ok {K : PySem.W.Frag} {h : Heap} {mg : Str → Option Value} (X : K.In h) (G : h.Ns mainGlobals mg) {x : Str} {id : String} (c : bltB K x id = true) : mg x = some (.builtin id) := by
  unfold bltB at c
  split at c
  · rename_i j e
    have := of_decide_eq_true c
    subst this
    exact PySem.W.mg_of X G e
  · cases c
end Ev

/-! EvE -/
set_option Elab.async false
set_option linter.all false
set_option maxRecDepth 100000
set_option maxHeartbeats 2000000
/-! EvE: from the head's facts to the law's promise. -/
namespace Ev
open PySem PySem.Spec PyProof.Rows L2
theorem lookup_mem {α β : Type} [BEq α] [LawfulBEq α] : ∀ {l : List (α × β)} {a : α} {b : β}, l.lookup a = some b → (a, b) ∈ l
  | [], _, _, h => by simp at h
  | (x, y) :: l, a, b, h => by
    rw [List.lookup_cons] at h
    split at h
    · rename_i e
      have := eq_of_beq e
      subst this
      cases h
      exact List.mem_cons_self
    · exact List.mem_cons_of_mem _ (lookup_mem h)
section
variable {Γ : Gm} {G : Ctx} {p : Prog} {P : Program} {w : World} {K : PySem.W.Frag} {mg : Str → Option Value} {base : Heap}
/-- what is asked of a def that is called -/
def FnAt (p : Prog) (Γ : Gm) (K : PySem.W.Frag) (mg : Str → Option Value) (f : Nat) (x : Str) (ds : List D) : Prop := ∃ a fd ps dV, mg x = some (.ref a) ∧ PySem.W.keepIn K (.ref a) = true ∧ Binds K fd ps dV ∧ Vals (ds.map vOf) dV ∧ DefOk Γ p K f a fd ps
/-- a def without defaults -/
theorem fnAt0 {f : Nat} {x : Str} {d : He.DefD} {fd : FuncData} {N ps : List Str} {e : FnD} (hg : mg x = some (.ref (He.fAd K d.at_))) (F : FunD K d.name d.qual d.params d.body d.scope (d.dvs K) (d.kws K) (He.fAd K d.at_) fd) (hd : d.dfl = [])
    (hb : ∀ (kV doc pm : Value) (an : Option Addr) (cdv ct : Value) (us : List Value), us.length = ps.length → bindArgs (PySem.W.fnOf d.name d.qual d.params d.body d.scope .none kV doc pm an cdv ct) ⟨us, []⟩ = pure (ps.zip us))
    (he : p.fns[f]? = some e) (hc : defChk Γ e N ps d.scope d.body = true) : FnAt p Γ K mg f x [] := by
  have hdv : d.dvs K = [] := by unfold He.DefD.dvs; rw [hd]; rfl
  have F' := F
  rw [hdv] at F'
  exact ⟨_, fd, ps, [], hg, F.kp, F'.bindsN hb, .nil, ⟨_, _, _, _, _, _, _, N, e, F, he, hc⟩⟩
/-- a call's exception, whatever the world -/
def CXw (P : Program) : CXT := fun outer H s E e s' => ∃ w, L2.CX P w outer H s E e s'
theorem fnOk_cx {k : Nat} {f : Addr} {fd : FuncData} {ps : List Str} {sp : Sp} (F : FnOk P w K mg base (L2.CX P w) k f fd ps sp) : FnOk P w K mg base (CXw P) k f fd ps sp :=
  ⟨F.len, fun A outer s H args us vs Q E hr he hb hv hs => codeAny_mono (F.run A outer s H args us vs Q E hr he hb hv hs) fun r s' h => by
    match r, h with
    | .ok (.ret _), h => exact h
    | .error _, h => exact ⟨w, h⟩⟩
/-- the law itself -/
theorem law_ok {l : PySem.W.OpenLaw} {k fl : Nat} {x : Str} {d : He.DefD} {fd : FuncData} {N : List Str} {e : FnD} (st : Stat Γ G p K mg) (F : FunD K d.name d.qual d.params d.body d.scope (d.dvs K) (d.kws K) (He.fAd K d.at_) fd) (he : p.fns[fl]? = some e) (hc : defChk Γ e N [x] d.scope d.body = true) :
    FnOk P w K mg base (CXw P) (2 * k + 2) (He.fAd K d.at_) fd [x] (spF G (callD p (k + 1)) p.np p.io fl) :=
  fnOk_cx (DefOk.step ⟨_, _, _, _, _, _, _, N, e, F, he, hc⟩ (st.facts k))
end
end Ev

/-! PuA -/
set_option linter.all false
set_option maxRecDepth 100000
/-! PuA: running the evaluator over a written text, by rewriting. -/
namespace Pu
open Ev
open PySem (Str)
theorem callD_succ (p : Prog) (k f : Nat) (os : List O) : callD p (k + 1) f os = step p (callD p k) f os := rfl
theorem step_eq {p : Prog} {cf : Cf} {f : Nat} {os : List O} {fd : FnD} (h : p.fns[f]? = some fd) (h1 : os.length = fd.np) (h2 : ioOk fd.io 0 os = true) : step p cf f os = fin fd.io (exs cf p.ini p.sb fd.io fd.body (start fd os)) := by
  simp only [step, h, h1, h2, and_self, if_true]
/-- a call, one level down -/
theorem call_eq {p : Prog} {k f : Nat} {os : List O} {fd : FnD} (h : p.fns[f]? = some fd) (h1 : os.length = fd.np) (h2 : ioOk fd.io 0 os = true) : callD p (k + 1) f os = fin fd.io (exs (callD p k) p.ini p.sb fd.io fd.body (start fd os)) := step_eq h h1 h2

def bnd {α β : Type} (r : R α) (f : α → R β) : R β := r.bind f
def lft {α : Type} (env : Env) (r : R α) (f : α → RS) : RS := lift env r f
def sq (r : RS) (f : Env → RS) : RS := thn r f
theorem bnd_ok {α β : Type} (a : α) (f : α → R β) : bnd (.ok a) f = f a := rfl
theorem bnd_exc {α β : Type} (c : Nat) (f : α → R β) : bnd (.exc c) f = .exc c := rfl
theorem bnd_bad {α β : Type} (f : α → R β) : bnd .bad f = .bad := rfl
theorem bnd_congr {α β : Type} {r r' : R α} {f : α → R β} (h : r = r') : bnd r f = bnd r' f := by rw [h]
theorem lft_ok {α : Type} (env : Env) (a : α) (f : α → RS) : lft env (.ok a) f = f a := rfl
theorem lft_exc {α : Type} (env : Env) (c : Nat) (f : α → RS) : lft env (.exc c) f = .exc c env := rfl
theorem lft_bad {α : Type} (env : Env) (f : α → RS) : lft env .bad f = .bad := rfl
theorem lft_congr {α : Type} {env : Env} {r r' : R α} {f : α → RS} (h : r = r') : lft env r f = lft env r' f := by rw [h]
theorem sq_nx (env : Env) (f : Env → RS) : sq (.nx env) f = f env := rfl
theorem sq_rt (o : O) (env : Env) (f : Env → RS) : sq (.rt o env) f = .rt o env := rfl
theorem sq_bk (env : Env) (f : Env → RS) : sq (.bk env) f = .bk env := rfl
theorem sq_ct (env : Env) (f : Env → RS) : sq (.ct env) f = .ct env := rfl
theorem sq_exc (c : Nat) (env : Env) (f : Env → RS) : sq (.exc c env) f = .exc c env := rfl
theorem sq_congr {r r' : RS} {f : Env → RS} (h : r = r') : sq r f = sq r' f := by rw [h]
/-- a choice -/
def br {α : Type} (b : Bool) (x y : α) : α := if b = true then x else y
theorem br_t {α : Type} (x y : α) : br true x y = x := rfl
theorem br_f {α : Type} (x y : α) : br false x y = y := rfl
theorem br_congr {α : Type} {b b' : Bool} {x y : α} (h : b = b') : br b x y = br b' x y := by rw [h]
theorem of_some {α : Type} (a : α) : R.of (some a) = .ok a := rfl
def envR : Option Env → RS
  | some e => .nx e
  | none => .bad
/-- what stands at a slot -/
def atS (x : Option O) (f : O → RS) : RS := match x with
  | some o => f o
  | none => .bad
theorem atS_some (o : O) (f : O → RS) : atS (some o) f = f o := rfl
theorem atS_congr {x x' : Option O} {f : O → RS} (h : x = x') : atS x f = atS x' f := by rw [h]
/-- the value of a slot -/
def slot : Option O → R Val
  | none => .bad
  | some .dead => .bad
  | some o => .ok (look o)
theorem slot_fz (d : D) : slot (some (.fz d)) = .ok (.tm (.fz d)) := rfl
theorem slot_l (os : List O) : slot (some (.l os)) = .ok (.al (.l os)) := rfl
theorem slot_t (os : List O) : slot (some (.t os)) = .ok (.al (.t os)) := rfl
theorem slot_i (c : Nat) (os : List O) : slot (some (.i c os)) = .ok (.al (.i c os)) := rfl
theorem look_fz (d : D) : look (.fz d) = .tm (.fz d) := rfl
theorem look_l (os : List O) : look (.l os) = .al (.l os) := rfl
theorem look_t (os : List O) : look (.t os) = .al (.t os) := rfl
theorem look_i (c : Nat) (os : List O) : look (.i c os) = .al (.i c os) := rfl
theorem keep_tm (o : O) : keep (.tm o) = .ok o := rfl
theorem frz_tm (o : O) : frz (.tm o) = R.of o.rd := rfl
theorem tm_o (o : O) : (Val.tm o).o = o := rfl
theorem al_o (o : O) : (Val.al o).o = o := rfl
theorem rd_fz (d : D) : O.rd (.fz d) = some d := rfl
theorem rd_l (os : List O) : O.rd (.l os) = (rds os).map D.lst := by simp only [O.rd]
theorem rd_t (os : List O) : O.rd (.t os) = (rds os).map (D.tup false) := by simp only [O.rd]
theorem rd_i (c : Nat) (os : List O) : O.rd (.i c os) = (rds os).map (D.ins c) := by simp only [O.rd]
theorem rds_fz : ∀ ds : List D, rds (ds.map .fz) = some ds
  | [] => by simp only [List.map, rds]
  | d :: ds => by simp only [List.map, rds, O.rd, rds_fz ds]
theorem rds_nil : rds [] = some [] := by simp only [rds]
theorem rds_cons {o : O} {os : List O} {d : D} {ds : List D} (h : O.rd o = some d) (h' : rds os = some ds) : rds (o :: os) = some (d :: ds) := by simp only [rds, h, h']
theorem rds_consE (o : O) (os : List O) : rds (o :: os) = (O.rd o).bind fun d => (rds os).map (d :: ·) := by
  simp only [rds]
  cases O.rd o <;> cases rds os <;> rfl
theorem rds_append : ∀ {os ps : List O} {ds es : List D}, rds os = some ds → rds ps = some es → rds (os ++ ps) = some (ds ++ es)
  | [], ps, ds, es, h, h' => by simp only [rds, Option.some.injEq] at h; subst h; exact h'
  | o :: os, ps, ds, es, h, h' => by
    simp only [rds] at h
    split at h
    · rename_i d ds' e1 e2
      simp only [Option.some.injEq] at h
      subst h
      simp only [List.cons_append]
      exact rds_cons e1 (rds_append e2 h')
    · cases h
theorem fzs_fz : ∀ ds : List D, fzs (ds.map .fz) = some ds
  | [] => rfl
  | d :: ds => by simp only [List.map, fzs, fzs_fz ds, Option.map_some]
theorem fzs_nil : fzs [] = some [] := rfl
theorem fzs_l (xs : List O) (os : List O) : fzs (.l xs :: os) = none := rfl
theorem fzs_t (xs : List O) (os : List O) : fzs (.t xs :: os) = none := rfl
theorem fzs_i (c : Nat) (xs : List O) (os : List O) : fzs (.i c xs :: os) = none := rfl
theorem fzs_cons (d : D) (os : List O) : fzs (.fz d :: os) = (fzs os).map (d :: ·) := rfl
section
variable (cf : Cf) (ini : Nat → Nat) (sb : Nat → Nat → Bool) (io : List Nat) (env : Env)
theorem ev_var (i : Nat) : ev cf ini (.var i) env = slot env[i]? := by
  simp only [ev, slot]
  all_goals (split <;> rename_i h <;> simp_all)
theorem ev_int (i : Int) : ev cf ini (.int i) env = .ok (.tm (.fz (.int i))) := by simp only [ev]
theorem ev_bl (b : Bool) : ev cf ini (.bl b) env = .ok (.tm (.fz (.bl b))) := by simp only [ev]
theorem ev_non : ev cf ini .non env = .ok (.tm (.fz .non)) := by simp only [ev]
theorem ev_str (x : Str) : ev cf ini (.str x) env = .ok (.tm (.fz (.str x))) := by simp only [ev]
theorem ev_gst (n x : Str) : ev cf ini (.gst n x) env = .ok (.tm (.fz (.str x))) := by simp only [ev]
theorem ev_bin (op : Op) (a b : E) : ev cf ini (.bin op a b) env = bnd (ev cf ini a env) fun x => bnd (ev cf ini b env) fun y => bnd (R.of (binO op x.o y.o)) fun o => .ok (.tm o) := by simp only [ev]; rfl
theorem ev_neg (a : E) : ev cf ini (.neg a) env = bnd (ev cf ini a env) fun x => bnd (R.of (asInt x.o)) fun i => .ok (.tm (.fz (.int (-i)))) := by simp only [ev]; rfl
theorem ev_cmp (op : Cm) (a b : E) : ev cf ini (.cmp op a b) env = bnd (ev cf ini a env) fun x => bnd (ev cf ini b env) fun y => bnd (R.of (cmpO op x.o y.o)) fun r => .ok (.tm (.fz (.bl r))) := by simp only [ev]; rfl
theorem ev_chn (op op' : Cm) (a b c : E) : ev cf ini (.chn op op' a b c) env = bnd (ev cf ini a env) fun x => bnd (ev cf ini b env) fun y => bnd (R.of (cmpO op x.o y.o)) fun r =>
    br r (bnd (ev cf ini c env) fun z => bnd (R.of (cmpO op' y.o z.o)) fun r' => .ok (.tm (.fz (.bl r')))) (.ok (.tm (.fz (.bl false)))) := by
  simp only [ev]
  show R.bind _ _ = R.bind _ _
  congr 1; funext x; show R.bind _ _ = R.bind _ _; congr 1; funext y; show R.bind _ _ = R.bind _ _; congr 1; funext r; cases r <;> rfl
theorem ev_and (a b : E) : ev cf ini (.and_ a b) env = bnd (ev cf ini a env) fun x => bnd (R.of (asBl x.o)) fun r => br r (bnd (ev cf ini b env) fun y => bnd (R.of (asBl y.o)) fun r' => .ok (.tm (.fz (.bl r')))) (.ok (.tm (.fz (.bl false)))) := by
  simp only [ev]
  show R.bind _ _ = R.bind _ _
  congr 1; funext x; show R.bind _ _ = R.bind _ _; congr 1; funext r; cases r <;> rfl
theorem ev_or (a b : E) : ev cf ini (.or_ a b) env = bnd (ev cf ini a env) fun x => bnd (R.of (asBl x.o)) fun r => br r (.ok (.tm (.fz (.bl true)))) (bnd (ev cf ini b env) fun y => bnd (R.of (asBl y.o)) fun r' => .ok (.tm (.fz (.bl r')))) := by
  simp only [ev]
  show R.bind _ _ = R.bind _ _
  congr 1; funext x; show R.bind _ _ = R.bind _ _; congr 1; funext r; cases r <;> rfl
theorem ev_not (a : E) : ev cf ini (.not_ a) env = bnd (ev cf ini a env) fun x => bnd (R.of (asBl x.o)) fun r => .ok (.tm (.fz (.bl (!r)))) := by simp only [ev]; rfl
theorem ev_ite (c a b : E) : ev cf ini (.ite c a b) env = bnd (ev cf ini c env) fun x => bnd (R.of (asBl x.o)) fun r => br r (ev cf ini a env) (ev cf ini b env) := by
  simp only [ev]
  show R.bind _ _ = R.bind _ _
  congr 1; funext x; show R.bind _ _ = R.bind _ _; congr 1; funext r; cases r <;> rfl
def mkT (os : List O) : R Val := if os.length ≤ sizeMax then match fzs os with
    | some ds => .ok (.tm (.fz (.tup false ds)))
    | none => .ok (.tm (.t os)) else .bad
def mkL (os : List O) : R Val := if os.length ≤ sizeMax then .ok (.tm (.l os)) else .bad
theorem ev_tup (es : Es) : ev cf ini (.tup es) env = bnd (evs cf ini es env) mkT := by simp only [ev]; rfl
theorem ev_lst (es : Es) : ev cf ini (.lst es) env = bnd (evs cf ini es env) mkL := by simp only [ev]; rfl
theorem mkT_fz {os : List O} {ds : List D} (h : fzs os = some ds) (h' : os.length ≤ sizeMax) : mkT os = .ok (.tm (.fz (.tup false ds))) := by simp only [mkT, if_pos h', h]
theorem mkL_ok {os : List O} (h' : os.length ≤ sizeMax) : mkL os = .ok (.tm (.l os)) := by simp only [mkL, if_pos h']
def tupR : Option (List D) → List O → R Val
  | some ds, _ => .ok (.tm (.fz (.tup false ds)))
  | none, os => .ok (.tm (.t os))
theorem tupR_some (ds : List D) (os : List O) : tupR (some ds) os = .ok (.tm (.fz (.tup false ds))) := rfl
theorem tupR_none (os : List O) : tupR none os = .ok (.tm (.t os)) := rfl
theorem mkT_s {os : List O} (h : os.length ≤ 1000) : mkT os = tupR (fzs os) os := by
  have h' : os.length ≤ sizeMax := Nat.le_trans h (by simp [sizeMax])
  simp only [mkT, if_pos h']
  cases fzs os <;> rfl
theorem mkL_s {os : List O} (h : os.length ≤ 1000) : mkL os = .ok (.tm (.l os)) := mkL_ok (Nat.le_trans h (by simp [sizeMax]))
theorem ev_idx (a i : E) : ev cf ini (.idx a i) env = bnd (ev cf ini a env) fun x => bnd (ev cf ini i env) fun y => bnd (R.of (asInt y.o)) fun j => bnd (R.of (idxO x.o j)) fun o => .ok (look o) := by simp only [ev]; rfl
theorem ev_slc (a : E) (lo hi : OE) : ev cf ini (.slc a lo hi) env = bnd (ev cf ini a env) fun x => bnd (evo cf ini lo env) fun l => bnd (evo cf ini hi env) fun h => bnd (R.of (slcO x.o l h)) fun o => .ok (.tm o) := by simp only [ev]; rfl
theorem ev_fld (c f : Nat) (a : E) : ev cf ini (.fld c f a) env = bnd (ev cf ini a env) fun x => bnd (R.of (fldO x.o c f)) fun o => .ok (look o) := by simp only [ev]; rfl
theorem ev_bi (f : Bi) (es : Es) : ev cf ini (.bi f es) env = bnd (evl cf ini es env) fun vs => bnd (R.of (biO f vs)) fun o => .ok (.tm o) := by simp only [ev]; rfl
theorem ev_mt (m : Mt) (a : E) (es : Es) : ev cf ini (.mt m a es) env = bnd (ev cf ini a env) fun x => br (mtRecv m x.o) (bnd (evl cf ini es env) fun vs => bnd (R.of (mtO m x.o vs)) fun o => .ok (.tm o)) .bad := by simp only [ev]; rfl
theorem ev_isi (a : E) (t : Ty) : ev cf ini (.isi a t) env = bnd (ev cf ini a env) fun x => bnd (R.of (isiO x.o t)) fun r => .ok (.tm (.fz (.bl r))) := by simp only [ev]; rfl
theorem ev_call (f : Nat) (es : Es) (dfl : List D) : ev cf ini (.call f es dfl) env = bnd (evf cf ini es env) fun ds => (cf f ((ds ++ dfl).map .fz)).val := by simp only [ev]; rfl
theorem ev_callb (f : Nat) (es : Es) (dfl : List D) : ev cf ini (.callb f es dfl) env = bnd (evl cf ini es env) fun os => bnd (R.of (rds os)) fun ds => flatR (cf f ((ds ++ dfl).map .fz)).val := by simp only [ev]; rfl
theorem ev_mk (c : Nat) (es : Es) (dfl : List D) : ev cf ini (.mk c es dfl) env = bnd (evf cf ini es env) fun ds => (cf (ini c) (.i c [] :: (ds ++ dfl).map .fz)).made := by simp only [ev]; rfl
theorem ev_mkk (c : Nat) (es kes : Es) (ks : List Str) : ev cf ini (.mkk c es kes ks) env = bnd (evf cf ini es env) fun ds => bnd (evf cf ini kes env) fun zs => (cf (ini c) (.i c [] :: (ds ++ zs).map .fz)).made := by simp only [ev]; rfl
/-- a comprehension's turn -/
def lcF (own : List Nat) (tg : Tg) (c : OE) (e : E) (d : D) : R (Option O) := match setTg tg d (wipe env own) with
      | none => .bad
      | some env' => calmR ((evc cf ini c env').bind fun b => match b with
        | true => (ev cf ini e env').bind fun x => (keep x).bind fun o => .ok (some o)
        | false => .ok none)
def lcR (own : List Nat) (tg : Tg) (c : OE) (e : E) (ds : List D) : R Val := if ds.length ≤ sizeMax then (turns (lcF cf ini env own tg c e) ds).bind fun os => .ok (.tm (.l os)) else .bad
theorem ev_lc (own : List Nat) (tg : Tg) (it : It) (c : OE) (e : E) : ev cf ini (.lc own tg it c e) env = bnd (evi cf ini true it env) (lcR cf ini env own tg c e) := by simp only [ev]; rfl
theorem lcF_eq {own : List Nat} {tg : Tg} {c : OE} {e : E} {d : D} {env' : Env} (h : setTg tg d (wipe env own) = some env') : lcF cf ini env own tg c e d = calmR (bnd (evc cf ini c env') fun b => br b (bnd (ev cf ini e env') fun x => bnd (keep x) fun o => .ok (some o)) (.ok none)) := by
  simp only [lcF, h]
  congr 1
  show R.bind _ _ = R.bind _ _
  congr 1; funext b; cases b <;> rfl
theorem calm_ok {α : Type} (a : α) : calmR (.ok a) = .ok a := rfl
theorem evs_nil : evs cf ini .nil env = .ok [] := by simp only [evs]
theorem evs_cons (e : E) (es : Es) : evs cf ini (.cons e es) env = bnd (ev cf ini e env) fun x => bnd (keep x) fun o => bnd (evs cf ini es env) fun os => .ok (o :: os) := by simp only [evs]; rfl
theorem evl_nil : evl cf ini .nil env = .ok [] := by simp only [evl]
theorem evl_cons (e : E) (es : Es) : evl cf ini (.cons e es) env = bnd (ev cf ini e env) fun x => bnd (evl cf ini es env) fun os => .ok (x.o :: os) := by simp only [evl]; rfl
theorem evf_nil : evf cf ini .nil env = .ok [] := by simp only [evf]
theorem evf_cons (e : E) (es : Es) : evf cf ini (.cons e es) env = bnd (ev cf ini e env) fun x => bnd (frz x) fun d => bnd (evf cf ini es env) fun ds => .ok (d :: ds) := by simp only [evf]; rfl
theorem evo_no : evo cf ini .no env = .ok none := by simp only [evo]
theorem evo_so (e : E) : evo cf ini (.so e) env = bnd (ev cf ini e env) fun x => bnd (R.of (asInt x.o)) fun i => .ok (some i) := by simp only [evo]; rfl
theorem evc_no : evc cf ini .no env = .ok true := by simp only [evc]
theorem evc_so (e : E) : evc cf ini (.so e) env = bnd (ev cf ini e env) fun x => R.of (asBl x.o) := by simp only [evc]; rfl
variable (lk : Bool)
theorem evi_ex (e : E) : evi cf ini lk (.ex e) env = bnd (ev cf ini e env) fun x => R.of (walkO lk x) := by simp only [evi]; rfl
theorem evi_rg1 (a : E) : evi cf ini lk (.rg1 a) env = bnd (ev cf ini a env) fun x => bnd (R.of (asInt x.o)) fun i => if near i = true then .ok (rangeD 0 i) else .bad := by simp only [evi]; rfl
theorem evi_rg2 (a b : E) : evi cf ini lk (.rg2 a b) env = bnd (ev cf ini a env) fun x => bnd (ev cf ini b env) fun y => bnd (R.of (asInt x.o)) fun i => bnd (R.of (asInt y.o)) fun j => if near i = true ∧ near j = true then .ok (rangeD i j) else .bad := by simp only [evi]; rfl
theorem ex_set_t (i : Nat) (e : E) : ex cf ini sb io (.set true i e) env = br (io.contains i) .bad (lft env (ev cf ini e env) fun x => lft env (keep x) fun o => .nx (env.set i o)) := by simp only [ex]; rfl
theorem ex_set_f (i : Nat) (e : E) : ex cf ini sb io (.set false i e) env = br (io.contains i) .bad (lft env (ev cf ini e env) fun x => lft env (frz x) fun d => .nx (env.set i (.fz d))) := by simp only [ex]; rfl
theorem ex_unp (tg : Tg) (e : E) : ex cf ini sb io (.unp tg e) env = lft env (ev cf ini e env) fun x => lft env (frz x) fun d => envR (setTg tg d env) := by
  simp only [ex]
  show lift _ _ _ = lift _ _ _
  congr 1
theorem ex_par (i j : Nat) (a b : E) : ex cf ini sb io (.par i j a b) env = br (io.contains i || io.contains j || i == j) .bad (lft env (ev cf ini a env) fun x => lft env (frz x) fun d => lft env (ev cf ini b env) fun y => lft env (frz y) fun d' =>
    .nx ((env.set i (.fz d)).set j (.fz d'))) := by simp only [ex]; rfl
/-- what stands at a slot, as a list -/
def onL (q : R (List Nat × O)) (f : List Nat → List O → RS) : RS := lft env q fun q => match q.2 with
  | .l os => f q.1 os
  | _ => .bad
theorem onL_ok (js : List Nat) (os : List O) (f : List Nat → List O → RS) : onL env (.ok (js, .l os)) f = f js os := rfl
theorem ex_app (i : Nat) (p : Pt) (e : E) : ex cf ini sb io (.app i p e) env = atS env[i]? fun o => onL env (evp cf ini p o env) fun js os => lft env (ev cf ini e env) fun x => lft env (keep x) fun n => br (decide (os.length < sizeMax)) (put1 env i o js (.l (os ++ [n]))) .bad := by
  simp only [ex, onL, atS]
  cases env[i]? with
  | none => rfl
  | some o =>
    show lift _ _ _ = lift _ _ _
    congr 1; funext q; cases q.2 <;> simp only [lft, br, decide_eq_true_eq]
theorem ex_sto (i : Nat) (p : Pt) (a b : E) : ex cf ini sb io (.sto i p a b) env = lft env (ev cf ini b env) fun y => lft env (keep y) fun n => atS env[i]? fun o => onL env (evp cf ini p o env) fun js os => lft env (ev cf ini a env) fun x => lft env (R.of (asInt x.o)) fun k => lft env (R.of (ixN os.length k)) fun j => put1 env i o js (.l (os.set j n)) := by
  simp only [ex, onL, atS]
  cases env[i]? <;> rfl
theorem ex_ins (i : Nat) (p : Pt) (a b : E) : ex cf ini sb io (.ins i p a b) env = atS env[i]? fun o => onL env (evp cf ini p o env) fun js os => lft env (ev cf ini a env) fun x => lft env (R.of (asInt x.o)) fun k => lft env (ev cf ini b env) fun y => lft env (keep y) fun n =>
    br (decide (os.length < sizeMax ∧ 0 ≤ k ∧ k < 2 ^ 63)) (put1 env i o js (.l (os.take k.toNat ++ [n] ++ os.drop k.toNat))) .bad := by
  simp only [ex, onL, atS]
  cases env[i]? with
  | none => rfl
  | some o =>
    show lift _ _ _ = lift _ _ _
    congr 1; funext q; cases q.2 <;> simp only [lft, br, decide_eq_true_eq]
theorem ex_hpush (i : Nat) (p : Pt) (e : E) : ex cf ini sb io (.hpush i p e) env = atS env[i]? fun o => onL env (evp cf ini p o env) fun js os => lft env (ev cf ini e env) fun x => lft env (keep x) fun n => br (decide (os.length < sizeMax ∧ (os ++ [n]).all (fun o => (keyO o).isSome) = true)) (put1 env i o js (.l (pushH ltO os n))) .bad := by
  simp only [ex, onL, atS]
  cases env[i]? with
  | none => rfl
  | some o =>
    show lift _ _ _ = lift _ _ _
    congr 1; funext q; cases q.2 <;> simp only [lft, br, decide_eq_true_eq]
def popR (tg : Tg) (i : Nat) (o : O) (js : List Nat) (os : List O) : RS := match popH ltO os with
        | some (.fz d, os') => if os.all (fun o => (keyO o).isSome) = true then sq (put1 env i o js (.l os')) fun env' => envR (setTg tg d env') else .bad
        | _ => .bad
theorem popR_eq {tg : Tg} {i : Nat} {o : O} {js : List Nat} {os os' : List O} {d : D} (h : popH ltO os = some (.fz d, os')) (k : os.all (fun o => (keyO o).isSome) = true) : popR env tg i o js os = sq (put1 env i o js (.l os')) fun env' => envR (setTg tg d env') := by
  simp only [popR, h, k, if_true]
theorem ex_hpop (tg : Tg) (i : Nat) (p : Pt) : ex cf ini sb io (.hpop tg i p) env = atS env[i]? fun o => onL env (evp cf ini p o env) fun js os => popR env tg i o js os := by
  simp only [ex, onL, atS]
  cases env[i]? with
  | none => rfl
  | some o =>
    show lift _ _ _ = lift _ _ _
    congr 1
theorem evp_l (os : List O) : evp cf ini .nil (.l os) env = .ok ([], .l os) := by simp only [evp]
theorem evp_i (c : Nat) (os : List O) : evp cf ini .nil (.i c os) env = .ok ([], .i c os) := by simp only [evp]
theorem put1_nil (i : Nat) (o n : O) : put1 env i o [] n = .nx (env.set i n) := by cases o <;> rfl
/-- a name's int changed -/
def augF (op : Op) (i : Nat) (e : E) : O → RS
  | .fz (.int u) => lft env (ev cf ini e env) fun y => lft env (R.of (asInt y.o)) fun w => lft env (R.of (augI op u w)) fun r => .nx (env.set i (.fz (.int r)))
  | _ => .bad
theorem augF_eq (op : Op) (i : Nat) (e : E) (u : Int) : augF cf ini env op i e (.fz (.int u)) = lft env (ev cf ini e env) fun y => lft env (R.of (asInt y.o)) fun w => lft env (R.of (augI op u w)) fun r => .nx (env.set i (.fz (.int r))) := rfl
/-- an own list's int changed -/
def adF (op : Op) (i : Nat) (o : O) (js : List Nat) (os : List O) (j : Nat) (b : E) : RS := match os[j]? with
  | some (.fz (.int u)) => lft env (ev cf ini b env) fun y => lft env (R.of (asInt y.o)) fun w => lft env (R.of (augI op u w)) fun r => put1 env i o js (.l (os.set j (.fz (.int r))))
  | _ => .bad
theorem adF_eq {op : Op} {i : Nat} {o : O} {js : List Nat} {os : List O} {j : Nat} {b : E} {u : Int} (h : os[j]? = some (.fz (.int u))) : adF cf ini env op i o js os j b = lft env (ev cf ini b env) fun y => lft env (R.of (asInt y.o)) fun w => lft env (R.of (augI op u w)) fun r => put1 env i o js (.l (os.set j (.fz (.int r)))) := by
  simp only [adF, h]
theorem ex_adto (op : Op) (i : Nat) (p : Pt) (a b : E) : ex cf ini sb io (.adto op i p a b) env = atS env[i]? fun o => onL env (evp cf ini p o env) fun js os => lft env (ev cf ini a env) fun x => lft env (R.of (asInt x.o)) fun k => lft env (R.of (ixN os.length k)) fun j => adF cf ini env op i o js os j b := by
  simp only [ex, onL, atS]
  cases env[i]? with
  | none => rfl
  | some o =>
    show lift _ _ _ = lift _ _ _
    congr 1
theorem ex_aug (op : Op) (i : Nat) (e : E) : ex cf ini sb io (.aug op i e) env = br (io.contains i) .bad (atS env[i]? fun o => augF cf ini env op i e o) := by
  simp only [ex, atS, augF, br]
  cases env[i]? with
  | none => rfl
  | some o => cases o <;> try rfl
              rename_i d
              cases d <;> rfl
theorem ex_expr (e : E) : ex cf ini sb io (.expr e) env = lft env (ev cf ini e env) fun _ => .nx env := by simp only [ex]; rfl
theorem ex_frz (i : Nat) : ex cf ini sb io (.frz i) env = br (io.contains i) .bad (atS env[i]? fun o => lft env (R.of o.rd) fun d => .nx (env.set i (.fz d))) := by
  simp only [ex, br, atS]
  cases env[i]? with
  | none => rfl
  | some o => simp only [Option.bind_some]; cases o.rd <;> rfl
theorem ex_ret (e : E) : ex cf ini sb [] (.ret e) env = lft env (ev cf ini e env) fun x => .rt x.o env := by simp only [ex]; rfl
theorem ex_retN : ex cf ini sb io .retN env = .rt (.fz .non) env := by simp only [ex]
def ifK (a b : Ss) : Bool → RS
  | true => exs cf ini sb io a env
  | false => exs cf ini sb io b env
theorem ifK_t (a b : Ss) : ifK cf ini sb io env a b true = exs cf ini sb io a env := rfl
theorem ifK_f (a b : Ss) : ifK cf ini sb io env a b false = exs cf ini sb io b env := rfl
theorem ex_ifs (c : E) (a b : Ss) : ex cf ini sb io (.ifs c a b) env = lft env (ev cf ini c env) fun x => lft env (R.of (asBl x.o)) (ifK cf ini sb io env a b) := by
  simp only [ex]
  show lift _ _ _ = lift _ _ _
  congr 1
/-- a for's turn -/
def forF (tg : Tg) (b : Ss) (d : D) (env : Env) : RS := match setTg tg d env with
      | some env' => exs cf ini sb io b env'
      | none => .bad
theorem forF_eq {tg : Tg} {b : Ss} {d : D} {env env' : Env} (h : setTg tg d env = some env') : forF cf ini sb io tg b d env = exs cf ini sb io b env' := by simp only [forF, h]
theorem ex_for (tg : Tg) (it : It) (b : Ss) : ex cf ini sb io (.for_ tg it b) env = lft env (evi cf ini false it env) fun ds => forT (forF cf ini sb io tg b) ds env := by simp only [ex]; rfl
theorem ex_whl (n : Nat) (c : E) (b : Ss) : ex cf ini sb io (.whl n c b) env = whlT (fun env => bnd (ev cf ini c env) fun x => R.of (asBl x.o)) (exs cf ini sb io b) n env := by simp only [ex]; rfl
theorem ex_pass : ex cf ini sb io .pass env = .nx env := by simp only [ex]
theorem ex_brk : ex cf ini sb io .brk env = .bk env := by simp only [ex]
theorem ex_cont : ex cf ini sb io .cont env = .ct env := by simp only [ex]
theorem exs_nil : exs cf ini sb io .nil env = .nx env := by simp only [exs]
theorem exs_cons (s : S) (ss : Ss) : exs cf ini sb io (.cons s ss) env = sq (ex cf ini sb io s env) (exs cf ini sb io ss) := by simp only [exs]; rfl
end
theorem ss_nil : ss [] = .nil := rfl
theorem ss_cons (s : S) (r : List S) : ss (s :: r) = .cons s (ss r) := rfl
theorem es_nil : es [] = .nil := rfl
theorem es_cons (s : E) (r : List E) : es (s :: r) = .cons s (es r) := rfl
theorem tgs_nil : tgs [] = .nil := rfl
theorem tgs_cons (s : Tg) (r : List Tg) : tgs (s :: r) = .cons s (tgs r) := rfl
theorem val_ok (o : O) : (CR.ok o []).val = .ok (.tm o) := rfl
theorem made_ok (o : O) : (CR.ok (.fz .non) [o]).made = .ok (.tm o) := rfl
theorem fin_rt (o : O) (env : Env) : fin [] (.rt o env) = .ok o [] := rfl
theorem fin_nx (env : Env) : fin [] (.nx env) = .ok (.fz .non) [] := rfl
/-! values -/
theorem bin_add (a b : Int) : binO .add (.fz (.int a)) (.fz (.int b)) = some (.fz (.int (a + b))) := rfl
theorem bin_sub (a b : Int) : binO .sub (.fz (.int a)) (.fz (.int b)) = some (.fz (.int (a - b))) := rfl
theorem bin_mul {a b : Int} (h : -(2 ^ 64) < a ∧ a < 2 ^ 64 ∨ -(2 ^ 64) < b ∧ b < 2 ^ 64) : binO .mul (.fz (.int a)) (.fz (.int b)) = some (.fz (.int (a * b))) := by
  simp only [binO]
  refine if_pos ?_
  simp only [big, Bool.or_eq_true, Bool.and_eq_true, decide_eq_true_eq]
  exact h
theorem bin_mod {a b : Int} (h : 0 < b) : binO .mod (.fz (.int a)) (.fz (.int b)) = some (.fz (.int (a % b))) := by simp only [binO, if_pos h]
theorem bin_fdv {a b : Int} (h : 0 < b ∧ b < 1073741824) : binO .fdv (.fz (.int a)) (.fz (.int b)) = some (.fz (.int (a / b))) := by simp only [binO, if_pos h]
theorem aug_add (a b : Int) : augI .add a b = some (a + b) := rfl
theorem aug_sub (a b : Int) : augI .sub a b = some (a - b) := rfl
theorem asInt_int (i : Int) : asInt (.fz (.int i)) = some i := rfl
theorem asBl_bl (b : Bool) : asBl (.fz (.bl b)) = some b := rfl
theorem cmp_lt (a b : Int) : cmpO .lt (.fz (.int a)) (.fz (.int b)) = some (decide (a < b)) := rfl
theorem cmp_le (a b : Int) : cmpO .le (.fz (.int a)) (.fz (.int b)) = some (decide (a ≤ b)) := rfl
theorem cmp_gt (a b : Int) : cmpO .gt (.fz (.int a)) (.fz (.int b)) = some (decide (b < a)) := rfl
theorem cmp_ge (a b : Int) : cmpO .ge (.fz (.int a)) (.fz (.int b)) = some (decide (b ≤ a)) := rfl
theorem eqD_int (a b : Int) : eqD (.int a) (.int b) = decide (a = b) := rfl
theorem okEq_int (k : Nat) (a : Int) : okEq k (.int a) = true := by cases k <;> rfl
theorem cmp_eq (a b : Int) : cmpO .eq (.fz (.int a)) (.fz (.int b)) = some (decide (a = b)) := rfl
theorem cmp_ne (a b : Int) : cmpO .ne (.fz (.int a)) (.fz (.int b)) = some (!decide (a = b)) := rfl
theorem cmp_is {a : O} {d : D} (h : a.rd = some d) : cmpO .is a (.fz .non) = some (isNon d) := by simp only [cmpO, h]
theorem cmp_isn {a : O} {d : D} (h : a.rd = some d) : cmpO .isn a (.fz .non) = some (!isNon d) := by simp only [cmpO, h]
theorem atI_nat {α : Type} (xs : List α) (n : Nat) : atI xs (n : Int) = xs[n]? := by
  unfold atI ixN
  by_cases h : n < xs.length
  · simp [h]
  · simp [h]
theorem atI_of {α : Type} {xs : List α} {i : Int} (h : 0 ≤ i) : atI xs i = xs[i.toNat]? := by
  have e : i = ((i.toNat : Nat) : Int) := by omega
  rw [e, atI_nat, ← e]
theorem atI_2 {α : Type} (xs : List α) : atI xs 2 = xs[2]? := atI_nat xs 2
theorem atI_3 {α : Type} (xs : List α) : atI xs 3 = xs[3]? := atI_nat xs 3
theorem atI_4 {α : Type} (xs : List α) : atI xs 4 = xs[4]? := atI_nat xs 4
theorem atI_5 {α : Type} (xs : List α) : atI xs 5 = xs[5]? := atI_nat xs 5
theorem atI_6 {α : Type} (xs : List α) : atI xs 6 = xs[6]? := atI_nat xs 6
theorem atI_7 {α : Type} (xs : List α) : atI xs 7 = xs[7]? := atI_nat xs 7
theorem atI_8 {α : Type} (xs : List α) : atI xs 8 = xs[8]? := atI_nat xs 8
theorem atI_9 {α : Type} (xs : List α) : atI xs 9 = xs[9]? := atI_nat xs 9
theorem atI_10 {α : Type} (xs : List α) : atI xs 10 = xs[10]? := atI_nat xs 10
theorem atI_11 {α : Type} (xs : List α) : atI xs 11 = xs[11]? := atI_nat xs 11
theorem atI_12 {α : Type} (xs : List α) : atI xs 12 = xs[12]? := atI_nat xs 12
theorem atI_13 {α : Type} (xs : List α) : atI xs 13 = xs[13]? := atI_nat xs 13
theorem atI_14 {α : Type} (xs : List α) : atI xs 14 = xs[14]? := atI_nat xs 14
theorem atI_15 {α : Type} (xs : List α) : atI xs 15 = xs[15]? := atI_nat xs 15
theorem atI_0 {α : Type} (xs : List α) : atI xs 0 = xs[0]? := atI_nat xs 0
theorem atI_1 {α : Type} (xs : List α) : atI xs 1 = xs[1]? := atI_nat xs 1
theorem ixN_nat {n j : Nat} (h : j < n) : ixN n (j : Int) = some j := by unfold ixN; simp [h]
theorem ixN_of {n : Nat} {i : Int} (h : 0 ≤ i) (h' : i < n) : ixN n i = some i.toNat := by unfold ixN; simp [h, h']
theorem idx_lst (ds : List D) (i : Int) : idxO (.fz (.lst ds)) i = (atI ds i).map .fz := rfl
theorem idx_tup (x : Bool) (ds : List D) (i : Int) : idxO (.fz (.tup x ds)) i = (atI ds i).map .fz := rfl
theorem idx_l (os : List O) (i : Int) : idxO (.l os) i = atI os i := rfl
theorem idx_scr (ns : List Int) (i : Int) : idxO (.fz (.scr ns)) i = (atI ns i).map fun n => .fz (.int n) := rfl
theorem len_scr (ns : List Int) : biO .len [.fz (.scr ns)] = some (.fz (.int ns.length)) := rfl
theorem len_lst (ds : List D) : biO .len [.fz (.lst ds)] = some (.fz (.int ds.length)) := by simp [biO, items]
theorem len_tup (x : Bool) (ds : List D) : biO .len [.fz (.tup x ds)] = some (.fz (.int ds.length)) := by simp [biO, items]
theorem len_l (os : List O) : biO .len [.l os] = some (.fz (.int os.length)) := by simp [biO, items]
theorem len_str {z : Str} (h : z.cps.size ≤ sizeMax) : biO .len [.fz (.str z)] = some (.fz (.int z.cps.size)) := by simp only [biO, if_pos h]
theorem int_int (i : Int) : biO .int [.fz (.int i)] = some (.fz (.int i)) := rfl
theorem int_bl (b : Bool) : biO .int [.fz (.bl b)] = some (.fz (.int (if b then 1 else 0))) := rfl
theorem list_l (ds : List D) : biO .list [.l (ds.map .fz)] = some (.l (ds.map .fz)) := by simp [biO, items, fzs_fz]
theorem list_lst (ds : List D) : biO .list [.fz (.lst ds)] = some (.l (ds.map .fz)) := by simp [biO, items, fzs_fz]
theorem list_tup (x : Bool) (ds : List D) : biO .list [.fz (.tup x ds)] = some (.l (ds.map .fz)) := by simp [biO, items, fzs_fz]
theorem tuple_l (ds : List D) : biO .tuple [.l (ds.map .fz)] = some (.fz (.tup true ds)) := by simp [biO, items, fzs_fz]
theorem tuple_lst (ds : List D) : biO .tuple [.fz (.lst ds)] = some (.fz (.tup true ds)) := by simp [biO, items, fzs_fz]
theorem tuple_tup (x : Bool) (ds : List D) : biO .tuple [.fz (.tup x ds)] = some (.fz (.tup x ds)) := rfl
theorem walk_lst (lk : Bool) (ds : List D) : walkO lk (.tm (.fz (.lst ds))) = some ds := rfl
theorem walk_tup (lk x : Bool) (ds : List D) : walkO lk (.tm (.fz (.tup x ds))) = some ds := rfl
theorem walk_str (lk : Bool) (z : Str) : walkO lk (.tm (.fz (.str z))) = some (z.cps.toList.map fun c => D.str ⟨#[c]⟩) := rfl
theorem walk_l (lk : Bool) (os : List O) : walkO lk (.tm (.l os)) = rds os := rfl
theorem walk_al (os : List O) : walkO true (.al (.l os)) = fzs os := rfl
theorem setTg_nm (i : Nat) (d : D) (env : Env) : setTg (.nm i) d env = some (env.set i (.fz d)) := by simp only [setTg]
theorem setTg_tp (ts : Tgs) (x : Bool) (ds : List D) (env : Env) : setTg (.tp ts) (.tup x ds) env = setTgs ts ds env := by simp only [setTg]
theorem setTgs_nil (env : Env) : setTgs .nil [] env = some env := by simp only [setTgs]
theorem setTgs_cons (a : Tg) (r : Tgs) (d : D) (ds : List D) (env : Env) : setTgs (.cons a r) (d :: ds) env = (setTg a d env).bind fun e => setTgs r ds e := by simp only [setTgs]
theorem range_nat (n : Nat) : rangeD 0 (n : Int) = (List.range n).map fun k => D.int (k : Nat) := by simp [rangeD]
theorem near_ok {i : Int} (h : -(2 ^ 62) ≤ i ∧ i < 2 ^ 62) : near i = true := by simp only [near, Bool.and_eq_true, decide_eq_true_eq]; exact h
theorem intsO_int : ∀ ns : List Int, intsO ((ns.map D.int).map .fz) = some ns
  | [] => rfl
  | n :: ns => by simp only [List.map, intsO, intsO_int ns, Option.map_some]
theorem min_lst {ns : List Int} (h : ns ≠ []) : biO .min [.fz (.lst (ns.map D.int))] = some (.fz (.int (minL ns))) := by
  cases ns with
  | nil => exact absurd rfl h
  | cons n ns => simp only [biO, items, Option.bind_some, intsO_int]
theorem min_tup {x : Bool} {ns : List Int} (h : ns ≠ []) : biO .min [.fz (.tup x (ns.map D.int))] = some (.fz (.int (minL ns))) := by
  cases ns with
  | nil => exact absurd rfl h
  | cons n ns => simp only [biO, items, Option.bind_some, intsO_int]
theorem min_l {ns : List Int} (h : ns ≠ []) : biO .min [.l ((ns.map D.int).map .fz)] = some (.fz (.int (minL ns))) := by
  cases ns with
  | nil => exact absurd rfl h
  | cons n ns => simp only [biO, items, Option.bind_some, intsO_int]
theorem max_lst {ns : List Int} (h : ns ≠ []) : biO .max [.fz (.lst (ns.map D.int))] = some (.fz (.int (maxL ns))) := by
  cases ns with
  | nil => exact absurd rfl h
  | cons n ns => simp only [biO, isList, items, Option.bind_some, intsO_int]
theorem max_l {ns : List Int} (h : ns ≠ []) : biO .max [.l ((ns.map D.int).map .fz)] = some (.fz (.int (maxL ns))) := by
  cases ns with
  | nil => exact absurd rfl h
  | cons n ns => simp only [biO, isList, items, Option.bind_some, intsO_int]
theorem sum_l (ns : List Int) : biO .sum [.l ((ns.map D.int).map .fz)] = some (.fz (.int ns.sum)) := by simp only [biO, isList, items, Option.bind_some, intsO_int]
theorem blsO_bl : ∀ ns : List Bool, blsO ((ns.map D.bl).map .fz) = some ns
  | [] => rfl
  | n :: ns => by simp only [List.map, blsO, blsO_bl ns, Option.map_some]
theorem all_l (bs : List Bool) : biO .all [.l ((bs.map D.bl).map .fz)] = some (.fz (.bl (bs.all id))) := by simp only [biO, isList, items, Option.bind_some, blsO_bl]
theorem any_l (bs : List Bool) : biO .any [.l ((bs.map D.bl).map .fz)] = some (.fz (.bl (bs.any id))) := by simp only [biO, isList, items, Option.bind_some, blsO_bl]
theorem max2_int (i j : Int) : biO .max2 [.fz (.int i), .fz (.int j)] = some (.fz (.int (if j > i then j else i))) := rfl
theorem gcd_int (i j : Int) : biO .gcd [.fz (.int i), .fz (.int j)] = some (.fz (.int (Nat.gcd i.natAbs j.natAbs : Nat))) := rfl
/-- [d] * n -/
theorem mul_rep {d : D} {n : Nat} (h : n ≤ sizeMax) : binO .mul (.l [.fz d]) (.fz (.int (n : Nat))) = some (.l ((List.replicate n d).map .fz)) := by
  have h2 : n ≤ 16777216 := h
  simp only [binO, isList, items, Option.bind_some, fzs, Option.map_some, Int.toNat_natCast, List.length_singleton, Nat.one_mul]
  rw [if_pos ⟨by omega, by omega, h⟩]
  congr 3
  clear h h2
  induction n with
  | zero => rfl
  | succ n ih => rw [List.replicate_succ, List.flatten_cons, ih]; rfl
theorem minL_mem : ∀ {l : List Int}, l ≠ [] → minL l ∈ l ∧ ∀ x ∈ l, minL l ≤ x
  | [], h => absurd rfl h
  | [a], _ => by simp [minL]
  | a :: b :: l, _ => by
    obtain ⟨h1, h2⟩ := minL_mem (l := b :: l) (by simp)
    have e : minL (a :: b :: l) = min a (minL (b :: l)) := rfl
    rw [e]
    refine ⟨?_, fun x hx => ?_⟩
    · by_cases q : a ≤ minL (b :: l)
      · rw [Int.min_eq_left q]; exact List.mem_cons_self
      · rw [Int.min_eq_right (by omega)]; exact List.mem_cons_of_mem _ h1
    · rcases List.mem_cons.mp hx with rfl | hx
      · exact Int.min_le_left _ _
      · exact Int.le_trans (Int.min_le_right _ _) (h2 x hx)
theorem maxL_mem : ∀ {l : List Int}, l ≠ [] → maxL l ∈ l ∧ ∀ x ∈ l, x ≤ maxL l
  | [], h => absurd rfl h
  | [a], _ => by simp [maxL]
  | a :: b :: l, _ => by
    obtain ⟨h1, h2⟩ := maxL_mem (l := b :: l) (by simp)
    have e : maxL (a :: b :: l) = max a (maxL (b :: l)) := rfl
    rw [e]
    refine ⟨?_, fun x hx => ?_⟩
    · by_cases q : maxL (b :: l) ≤ a
      · rw [Int.max_eq_left q]; exact List.mem_cons_self
      · rw [Int.max_eq_right (by omega)]; exact List.mem_cons_of_mem _ h1
    · rcases List.mem_cons.mp hx with rfl | hx
      · exact Int.le_max_left _ _
      · exact Int.le_trans (h2 x hx) (Int.le_max_right _ _)
theorem all_map {α : Type} (p : α → Bool) (xs : List α) : biO .all [.l (xs.map fun x => .fz (.bl (p x)))] = some (.fz (.bl (xs.all p))) := by
  rw [show (xs.map fun x => O.fz (.bl (p x))) = ((xs.map p).map D.bl).map .fz by simp [List.map_map], all_l, List.all_map]; rfl
theorem any_map {α : Type} (p : α → Bool) (xs : List α) : biO .any [.l (xs.map fun x => .fz (.bl (p x)))] = some (.fz (.bl (xs.any p))) := by
  rw [show (xs.map fun x => O.fz (.bl (p x))) = ((xs.map p).map D.bl).map .fz by simp [List.map_map], any_l, List.any_map]; rfl
theorem sum_map {α : Type} (f : α → Int) (xs : List α) : biO .sum [.l (xs.map fun x => .fz (.int (f x)))] = some (.fz (.int ((xs.map f).sum))) := by
  rw [show (xs.map fun x => O.fz (.int (f x))) = ((xs.map f).map D.int).map .fz by simp [List.map_map], sum_l]
/-! loops -/
theorem forT_nil (f : D → Env → RS) (env : Env) : forT f [] env = .nx env := rfl
theorem forT_cons {f : D → Env → RS} {d : D} {ds : List D} {env env' : Env} (h : f d env = .nx env') : forT f (d :: ds) env = forT f ds env' := by simp only [forT, h]
/-- a for by an invariant over the turn's number -/
theorem forT_inv {f : D → Env → RS} {ds : List D} (W : Nat → Env → Prop) {env : Env} (h0 : W 0 env) (hs : ∀ k env (h : k < ds.length), W k env → ∃ env', f ds[k] env = .nx env' ∧ W (k + 1) env') : ∃ env', forT f ds env = .nx env' ∧ W ds.length env' := by
  suffices H : ∀ (n : Nat) (k : Nat) (env : Env), k + n = ds.length → W k env → ∃ env', forT f (ds.drop k) env = .nx env' ∧ W ds.length env' by
    have := H ds.length 0 env (by omega) h0
    simpa using this
  intro n
  induction n with
  | zero =>
    intro k env hk hw
    rw [List.drop_eq_nil_of_le (by omega)]
    exact ⟨env, rfl, by rw [← show k = ds.length by omega]; exact hw⟩
  | succ n ih =>
    intro k env hk hw
    have hlt : k < ds.length := by omega
    rw [List.drop_eq_getElem_cons hlt]
    obtain ⟨e', h1, h2⟩ := hs k env hlt hw
    rw [forT_cons h1]
    exact ih (k + 1) e' (by omega) h2
/-- a for over the items of a list, by an invariant over what was taken -/
theorem forT_list {α : Type} {f : D → Env → RS} (g : α → D) (W : List α → Env → Prop) {xs : List α} {env : Env} (h0 : W [] env) (hs : ∀ pre x post env, xs = pre ++ x :: post → W pre env → ∃ env', f (g x) env = .nx env' ∧ W (pre ++ [x]) env') : ∃ env', forT f (xs.map g) env = .nx env' ∧ W xs env' := by
  suffices H : ∀ (post pre : List α) (env : Env), xs = pre ++ post → W pre env → ∃ env', forT f (post.map g) env = .nx env' ∧ W xs env' by
    exact H xs [] env rfl h0
  intro post
  induction post with
  | nil =>
    intro pre env e hw
    rw [List.append_nil] at e
    subst e
    exact ⟨env, rfl, hw⟩
  | cons x post ih =>
    intro pre env e hw
    obtain ⟨e', h1, h2⟩ := hs pre x post env e hw
    rw [List.map_cons, forT_cons h1]
    exact ih (pre ++ [x]) e' (by rw [e]; simp) h2
theorem forF_nm (cf : Cf) (ini : Nat → Nat) (sb : Nat → Nat → Bool) (io : List Nat) (i : Nat) (b : Ss) (d : D) (env : Env) : forF cf ini sb io (.nm i) b d env = exs cf ini sb io b (env.set i (.fz d)) := by simp only [forF, setTg]
theorem lcF_nm (cf : Cf) (ini : Nat → Nat) (env : Env) (own : List Nat) (i : Nat) (c : OE) (e : E) (d : D) : lcF cf ini env own (.nm i) c e d = calmR (bnd (evc cf ini c ((wipe env own).set i (.fz d))) fun b => br b (bnd (ev cf ini e ((wipe env own).set i (.fz d))) fun x => bnd (keep x) fun o => .ok (some o)) (.ok none)) := lcF_eq _ _ _ (by simp only [setTg])
theorem lcF_tp {cf : Cf} {ini : Nat → Nat} {env env' : Env} {own : List Nat} {ts : Tgs} {c : OE} {e : E} {x : Bool} {ds : List D} (h : setTgs ts ds (wipe env own) = some env') : lcF cf ini env own (.tp ts) c e (.tup x ds) = calmR (bnd (evc cf ini c env') fun b => br b (bnd (ev cf ini e env') fun x => bnd (keep x) fun o => .ok (some o)) (.ok none)) := lcF_eq _ _ _ (by simp only [setTg, h])
theorem forF_tp {cf : Cf} {ini : Nat → Nat} {sb : Nat → Nat → Bool} {io : List Nat} {ts : Tgs} {b : Ss} {x : Bool} {ds : List D} {env env' : Env} (h : setTgs ts ds env = some env') : forF cf ini sb io (.tp ts) b (.tup x ds) env = exs cf ini sb io b env' := forF_eq _ _ _ _ (by simp only [setTg, h])
/-- a for whose turns are a function of the state -/
theorem forT_fold {α : Type} {f : D → Env → RS} (st : α → Env) (g : α → D → α) : ∀ {ds : List D} {a : α}, (∀ d ∈ ds, ∀ a, f d (st a) = .nx (st (g a d))) → forT f ds (st a) = .nx (st (ds.foldl g a))
  | [], a, _ => rfl
  | d :: ds, a, h => by
    rw [forT_cons (h d List.mem_cons_self a), forT_fold st g fun d' hd => h d' (List.mem_cons_of_mem _ hd)]
    rfl
/-- a comprehension without a test -/
theorem turns_map {f : D → R (Option O)} {g : D → O} : ∀ {ds : List D}, (∀ d ∈ ds, f d = .ok (some (g d))) → turns f ds = .ok (ds.map g)
  | [], _ => rfl
  | d :: ds, h => by
    simp only [turns, h d List.mem_cons_self, R.bind, turns_map fun d' hd => h d' (List.mem_cons_of_mem _ hd), List.map_cons]
theorem turns_fmap {f : D → R (Option O)} {g : D → Option O} : ∀ {ds : List D}, (∀ d ∈ ds, f d = .ok (g d)) → turns f ds = .ok (ds.filterMap g)
  | [], _ => rfl
  | d :: ds, h => by
    simp only [turns, h d List.mem_cons_self, R.bind, turns_fmap fun d' hd => h d' (List.mem_cons_of_mem _ hd), List.filterMap_cons]
    cases g d <;> rfl
theorem lc_map {cf : Cf} {ini : Nat → Nat} {env : Env} {own : List Nat} {tg : Tg} {c : OE} {e : E} {ds : List D} (g : D → O) (hl : ds.length ≤ sizeMax) (h : ∀ d ∈ ds, lcF cf ini env own tg c e d = .ok (some (g d))) : lcR cf ini env own tg c e ds = .ok (.tm (.l (ds.map g))) := by
  simp only [lcR, if_pos hl, turns_map h, R.bind]
theorem lc_fmap {cf : Cf} {ini : Nat → Nat} {env : Env} {own : List Nat} {tg : Tg} {c : OE} {e : E} {ds : List D} (g : D → Option O) (hl : ds.length ≤ sizeMax) (h : ∀ d ∈ ds, lcF cf ini env own tg c e d = .ok (g d)) : lcR cf ini env own tg c e ds = .ok (.tm (.l (ds.filterMap g))) := by
  simp only [lcR, if_pos hl, turns_fmap h, R.bind]
theorem lc_list {α : Type} {cf : Cf} {ini : Nat → Nat} {env : Env} {own : List Nat} {tg : Tg} {c : OE} {e : E} {xs : List α} {g : α → D} (f : α → O) (hl : xs.length ≤ sizeMax) (h : ∀ x ∈ xs, lcF cf ini env own tg c e (g x) = .ok (some (f x))) : lcR cf ini env own tg c e (xs.map g) = .ok (.tm (.l (xs.map f))) := by
  have key : ∀ {xs : List α}, (∀ x ∈ xs, lcF cf ini env own tg c e (g x) = .ok (some (f x))) → turns (lcF cf ini env own tg c e) (xs.map g) = .ok (xs.map f) := by
    intro xs
    induction xs with
    | nil => intro _; rfl
    | cons x xs ih =>
      intro h
      simp only [List.map_cons, turns, h x List.mem_cons_self, R.bind, ih fun y hy => h y (List.mem_cons_of_mem _ hy)]
  simp only [lcR, List.length_map, if_pos hl, key h, R.bind]
theorem lc_flist {α : Type} {cf : Cf} {ini : Nat → Nat} {env : Env} {own : List Nat} {tg : Tg} {c : OE} {e : E} {xs : List α} {g : α → D} (f : α → Option O) (hl : xs.length ≤ sizeMax) (h : ∀ x ∈ xs, lcF cf ini env own tg c e (g x) = .ok (f x)) : lcR cf ini env own tg c e (xs.map g) = .ok (.tm (.l (xs.filterMap f))) := by
  have key : ∀ {xs : List α}, (∀ x ∈ xs, lcF cf ini env own tg c e (g x) = .ok (f x)) → turns (lcF cf ini env own tg c e) (xs.map g) = .ok (xs.filterMap f) := by
    intro xs
    induction xs with
    | nil => intro _; rfl
    | cons x xs ih =>
      intro h
      simp only [List.map_cons, turns, h x List.mem_cons_self, R.bind, ih fun y hy => h y (List.mem_cons_of_mem _ hy), List.filterMap_cons]
      cases f x <;> rfl
  simp only [lcR, List.length_map, if_pos hl, key h, R.bind]
theorem whlT_succ (c : Env → R Bool) (b : Env → RS) (n : Nat) (env : Env) : whlT c b (n + 1) env = lift env (c env) fun t => match t with
    | false => .nx env
    | true => match b env with
      | .nx env' => whlT c b n env'
      | .ct env' => whlT c b n env'
      | .bk env' => .nx env'
      | r => r := rfl
/-- a while by an invariant and a measure -/
theorem whlT_inv {c : Env → R Bool} {b : Env → RS} (W : Nat → Env → Prop) (Z : Env → Prop) (hs : ∀ m env, W m env → (c env = .ok false ∧ Z env) ∨ (c env = .ok true ∧ ∃ m' env', m' < m ∧ b env = .nx env' ∧ W m' env')) :
    ∀ (m n : Nat) (env : Env), m < n → W m env → ∃ env', whlT c b n env = .nx env' ∧ Z env' := by
  intro m
  induction m using Nat.strongRecOn with
  | ind m ih =>
    intro n env hn hw
    obtain ⟨n, rfl⟩ : ∃ k, n = k + 1 := ⟨n - 1, by omega⟩
    rw [whlT_succ]
    rcases hs m env hw with ⟨h1, h2⟩ | ⟨h1, m', env', h2, h3, h4⟩
    · exact ⟨env, by simp only [h1, lift], h2⟩
    · simp only [h1, lift, h3]
      exact ih m' h2 n env' (by omega) h4
end Pu

local macro_rules
  | `(tactic| walk_at "evs") => `(tactic| simp -implicitDefEqProofs only [Pu.ss_cons, Pu.ss_nil, Pu.es_cons, Pu.es_nil, Pu.tgs_cons, Pu.tgs_nil, Pu.exs_cons, Pu.exs_nil, Pu.ex_set_t, Pu.ex_set_f, Pu.ex_unp, Pu.ex_par, Pu.ex_expr, Pu.ex_ret, Pu.ex_retN, Pu.ex_ifs, Pu.ifK_t, Pu.ifK_f, Pu.ex_for, Pu.ex_whl, Pu.ex_pass, Pu.ex_brk, Pu.ex_cont, Pu.ex_app, Pu.ex_sto, Pu.ex_ins, Pu.ex_hpush, Pu.ex_hpop, Pu.ex_adto, Pu.ex_aug, Pu.ex_frz, Pu.augF_eq, Pu.forF_nm, Pu.lcF_nm, Pu.aug_add, Pu.aug_sub, Pu.atS_some, Pu.ev_var, Pu.ev_int, Pu.ev_bl, Pu.ev_non, Pu.ev_str, Pu.ev_gst, Pu.ev_bin, Pu.ev_neg, Pu.ev_cmp, Pu.ev_chn, Pu.ev_and, Pu.ev_or, Pu.ev_not, Pu.ev_ite, Pu.ev_tup, Pu.ev_lst, Pu.ev_idx, Pu.ev_slc, Pu.ev_fld, Pu.ev_bi, Pu.ev_mt, Pu.ev_isi, Pu.ev_call, Pu.ev_callb, Pu.ev_mk, Pu.ev_mkk, Pu.ev_lc, Pu.evs_nil, Pu.evs_cons, Pu.evl_nil, Pu.evl_cons, Pu.evf_nil, Pu.evf_cons, Pu.evo_no, Pu.evo_so, Pu.evc_no, Pu.evc_so, Pu.evi_ex, Pu.evi_rg1, Pu.evi_rg2, Pu.bnd_ok, Pu.bnd_exc, Pu.bnd_bad, Pu.lft_ok, Pu.lft_exc, Pu.lft_bad, Pu.sq_nx, Pu.sq_rt, Pu.sq_bk, Pu.sq_ct, Pu.sq_exc, Pu.br_t, Pu.br_f, Pu.of_some, Pu.slot_fz, Pu.slot_l, Pu.slot_t, Pu.slot_i, Pu.look_fz, Pu.look_l, Pu.look_t, Pu.look_i, Pu.keep_tm, Pu.frz_tm, Pu.tm_o, Pu.al_o, Pu.rd_fz, Pu.rd_l, Pu.rd_t, Pu.rd_i, Pu.rds_fz, Pu.rds_nil, Pu.rds_consE, Pu.fzs_l, Pu.fzs_t, Pu.fzs_i, Pu.fzs_fz, Pu.mkT_s, Pu.mkL_s, Nat.reduceAdd, Nat.reduceLeDiff, Nat.zero_add, decide_true, decide_false, Bool.not_true, Bool.not_false, Pu.tupR_some, Pu.tupR_none, List.length_cons, List.length_nil, Option.map_none, Option.bind_none, Pu.fzs_nil, Pu.fzs_cons, Option.map_some, Option.bind_some, List.getElem?_cons_zero, List.getElem?_cons_succ, List.set_cons_zero, List.set_cons_succ, List.contains_nil, List.map_cons, List.map_nil, List.append_nil, List.nil_append, List.cons_append, Pu.val_ok, Pu.made_ok, Pu.fin_rt, Pu.fin_nx, Pu.envR, Pu.bin_add, Pu.bin_sub, Pu.asInt_int, Pu.asBl_bl, Pu.cmp_lt, Pu.cmp_le, Pu.cmp_gt, Pu.cmp_ge, Pu.cmp_eq, Pu.cmp_ne, Pu.atI_nat, Pu.atI_0, Pu.atI_1, Pu.atI_2, Pu.atI_3, Pu.atI_4, Pu.atI_5, Pu.atI_6, Pu.atI_7, Pu.atI_8, Pu.atI_9, Pu.atI_10, Pu.atI_11, Pu.atI_12, Pu.atI_13, Pu.atI_14, Pu.atI_15, Pu.idx_lst, Pu.idx_tup, Pu.idx_l, Pu.idx_scr, Pu.len_scr, Pu.len_lst, Pu.len_tup, Pu.len_l, Pu.int_int, Pu.int_bl, Pu.list_l, Pu.list_lst, Pu.list_tup, Pu.tuple_l, Pu.tuple_lst, Pu.tuple_tup, Pu.walk_lst, Pu.walk_tup, Pu.walk_str, Pu.walk_l, Pu.walk_al, Pu.setTg_nm, Pu.setTg_tp, Pu.setTgs_nil, Pu.setTgs_cons, Ev.wipe, Pu.onL_ok, Pu.evp_l, Pu.evp_i, Pu.put1_nil, Pu.calm_ok])
local macro_rules
  | `(tactic| k_with "evs" => simp only [$ls,*]) => `(tactic| simp -implicitDefEqProofs only [$ls,*, Pu.ss_cons, Pu.ss_nil, Pu.es_cons, Pu.es_nil, Pu.tgs_cons, Pu.tgs_nil, Pu.exs_cons, Pu.exs_nil, Pu.ex_set_t, Pu.ex_set_f, Pu.ex_unp, Pu.ex_par, Pu.ex_expr, Pu.ex_ret, Pu.ex_retN, Pu.ex_ifs, Pu.ifK_t, Pu.ifK_f, Pu.ex_for, Pu.ex_whl, Pu.ex_pass, Pu.ex_brk, Pu.ex_cont, Pu.ex_app, Pu.ex_sto, Pu.ex_ins, Pu.ex_hpush, Pu.ex_hpop, Pu.ex_adto, Pu.ex_aug, Pu.ex_frz, Pu.augF_eq, Pu.forF_nm, Pu.lcF_nm, Pu.aug_add, Pu.aug_sub, Pu.atS_some, Pu.ev_var, Pu.ev_int, Pu.ev_bl, Pu.ev_non, Pu.ev_str, Pu.ev_gst, Pu.ev_bin, Pu.ev_neg, Pu.ev_cmp, Pu.ev_chn, Pu.ev_and, Pu.ev_or, Pu.ev_not, Pu.ev_ite, Pu.ev_tup, Pu.ev_lst, Pu.ev_idx, Pu.ev_slc, Pu.ev_fld, Pu.ev_bi, Pu.ev_mt, Pu.ev_isi, Pu.ev_call, Pu.ev_callb, Pu.ev_mk, Pu.ev_mkk, Pu.ev_lc, Pu.evs_nil, Pu.evs_cons, Pu.evl_nil, Pu.evl_cons, Pu.evf_nil, Pu.evf_cons, Pu.evo_no, Pu.evo_so, Pu.evc_no, Pu.evc_so, Pu.evi_ex, Pu.evi_rg1, Pu.evi_rg2, Pu.bnd_ok, Pu.bnd_exc, Pu.bnd_bad, Pu.lft_ok, Pu.lft_exc, Pu.lft_bad, Pu.sq_nx, Pu.sq_rt, Pu.sq_bk, Pu.sq_ct, Pu.sq_exc, Pu.br_t, Pu.br_f, Pu.of_some, Pu.slot_fz, Pu.slot_l, Pu.slot_t, Pu.slot_i, Pu.look_fz, Pu.look_l, Pu.look_t, Pu.look_i, Pu.keep_tm, Pu.frz_tm, Pu.tm_o, Pu.al_o, Pu.rd_fz, Pu.rd_l, Pu.rd_t, Pu.rd_i, Pu.rds_fz, Pu.rds_nil, Pu.rds_consE, Pu.fzs_l, Pu.fzs_t, Pu.fzs_i, Pu.fzs_fz, Pu.mkT_s, Pu.mkL_s, Nat.reduceAdd, Nat.reduceLeDiff, Nat.zero_add, decide_true, decide_false, Bool.not_true, Bool.not_false, Pu.tupR_some, Pu.tupR_none, List.length_cons, List.length_nil, Option.map_none, Option.bind_none, Pu.fzs_nil, Pu.fzs_cons, Option.map_some, Option.bind_some, List.getElem?_cons_zero, List.getElem?_cons_succ, List.set_cons_zero, List.set_cons_succ, List.contains_nil, List.map_cons, List.map_nil, List.append_nil, List.nil_append, List.cons_append, Pu.val_ok, Pu.made_ok, Pu.fin_rt, Pu.fin_nx, Pu.envR, Pu.bin_add, Pu.bin_sub, Pu.asInt_int, Pu.asBl_bl, Pu.cmp_lt, Pu.cmp_le, Pu.cmp_gt, Pu.cmp_ge, Pu.cmp_eq, Pu.cmp_ne, Pu.atI_nat, Pu.atI_0, Pu.atI_1, Pu.atI_2, Pu.atI_3, Pu.atI_4, Pu.atI_5, Pu.atI_6, Pu.atI_7, Pu.atI_8, Pu.atI_9, Pu.atI_10, Pu.atI_11, Pu.atI_12, Pu.atI_13, Pu.atI_14, Pu.atI_15, Pu.idx_lst, Pu.idx_tup, Pu.idx_l, Pu.idx_scr, Pu.len_scr, Pu.len_lst, Pu.len_tup, Pu.len_l, Pu.int_int, Pu.int_bl, Pu.list_l, Pu.list_lst, Pu.list_tup, Pu.tuple_l, Pu.tuple_lst, Pu.tuple_tup, Pu.walk_lst, Pu.walk_tup, Pu.walk_str, Pu.walk_l, Pu.walk_al, Pu.setTg_nm, Pu.setTg_tp, Pu.setTgs_nil, Pu.setTgs_cons, Ev.wipe, Pu.onL_ok, Pu.evp_l, Pu.evp_i, Pu.put1_nil, Pu.calm_ok])
local macro_rules
  | `(tactic| k_with "evs at" => simp at $h:ident) => `(tactic| simp -implicitDefEqProofs only [Pu.ss_cons, Pu.ss_nil, Pu.es_cons, Pu.es_nil, Pu.tgs_cons, Pu.tgs_nil, Pu.exs_cons, Pu.exs_nil, Pu.ex_set_t, Pu.ex_set_f, Pu.ex_unp, Pu.ex_par, Pu.ex_expr, Pu.ex_ret, Pu.ex_retN, Pu.ex_ifs, Pu.ifK_t, Pu.ifK_f, Pu.ex_for, Pu.ex_whl, Pu.ex_pass, Pu.ex_brk, Pu.ex_cont, Pu.ex_app, Pu.ex_sto, Pu.ex_ins, Pu.ex_hpush, Pu.ex_hpop, Pu.ex_adto, Pu.ex_aug, Pu.ex_frz, Pu.augF_eq, Pu.forF_nm, Pu.lcF_nm, Pu.aug_add, Pu.aug_sub, Pu.atS_some, Pu.ev_var, Pu.ev_int, Pu.ev_bl, Pu.ev_non, Pu.ev_str, Pu.ev_gst, Pu.ev_bin, Pu.ev_neg, Pu.ev_cmp, Pu.ev_chn, Pu.ev_and, Pu.ev_or, Pu.ev_not, Pu.ev_ite, Pu.ev_tup, Pu.ev_lst, Pu.ev_idx, Pu.ev_slc, Pu.ev_fld, Pu.ev_bi, Pu.ev_mt, Pu.ev_isi, Pu.ev_call, Pu.ev_callb, Pu.ev_mk, Pu.ev_mkk, Pu.ev_lc, Pu.evs_nil, Pu.evs_cons, Pu.evl_nil, Pu.evl_cons, Pu.evf_nil, Pu.evf_cons, Pu.evo_no, Pu.evo_so, Pu.evc_no, Pu.evc_so, Pu.evi_ex, Pu.evi_rg1, Pu.evi_rg2, Pu.bnd_ok, Pu.bnd_exc, Pu.bnd_bad, Pu.lft_ok, Pu.lft_exc, Pu.lft_bad, Pu.sq_nx, Pu.sq_rt, Pu.sq_bk, Pu.sq_ct, Pu.sq_exc, Pu.br_t, Pu.br_f, Pu.of_some, Pu.slot_fz, Pu.slot_l, Pu.slot_t, Pu.slot_i, Pu.look_fz, Pu.look_l, Pu.look_t, Pu.look_i, Pu.keep_tm, Pu.frz_tm, Pu.tm_o, Pu.al_o, Pu.rd_fz, Pu.rd_l, Pu.rd_t, Pu.rd_i, Pu.rds_fz, Pu.rds_nil, Pu.rds_consE, Pu.fzs_l, Pu.fzs_t, Pu.fzs_i, Pu.fzs_fz, Pu.mkT_s, Pu.mkL_s, Nat.reduceAdd, Nat.reduceLeDiff, Nat.zero_add, decide_true, decide_false, Bool.not_true, Bool.not_false, Pu.tupR_some, Pu.tupR_none, List.length_cons, List.length_nil, Option.map_none, Option.bind_none, Pu.fzs_nil, Pu.fzs_cons, Option.map_some, Option.bind_some, List.getElem?_cons_zero, List.getElem?_cons_succ, List.set_cons_zero, List.set_cons_succ, List.contains_nil, List.map_cons, List.map_nil, List.append_nil, List.nil_append, List.cons_append, Pu.val_ok, Pu.made_ok, Pu.fin_rt, Pu.fin_nx, Pu.envR, Pu.bin_add, Pu.bin_sub, Pu.asInt_int, Pu.asBl_bl, Pu.cmp_lt, Pu.cmp_le, Pu.cmp_gt, Pu.cmp_ge, Pu.cmp_eq, Pu.cmp_ne, Pu.atI_nat, Pu.atI_0, Pu.atI_1, Pu.atI_2, Pu.atI_3, Pu.atI_4, Pu.atI_5, Pu.atI_6, Pu.atI_7, Pu.atI_8, Pu.atI_9, Pu.atI_10, Pu.atI_11, Pu.atI_12, Pu.atI_13, Pu.atI_14, Pu.atI_15, Pu.idx_lst, Pu.idx_tup, Pu.idx_l, Pu.idx_scr, Pu.len_scr, Pu.len_lst, Pu.len_tup, Pu.len_l, Pu.int_int, Pu.int_bl, Pu.list_l, Pu.list_lst, Pu.list_tup, Pu.tuple_l, Pu.tuple_lst, Pu.tuple_tup, Pu.walk_lst, Pu.walk_tup, Pu.walk_str, Pu.walk_l, Pu.walk_al, Pu.setTg_nm, Pu.setTg_tp, Pu.setTgs_nil, Pu.setTgs_cons, Ev.wipe, Pu.onL_ok, Pu.evp_l, Pu.evp_i, Pu.put1_nil, Pu.calm_ok] at $h:ident)

/-! PuRow -/
set_option linter.all false
set_option maxRecDepth 100000
/-! PuRow: the laws' draws. -/
namespace Pu
open Ev
open PySem (Str)
def bRow : Ss :=
  (ss [.set true 2 (.lst (es [])),
  .set false 3 (.bin .sub (.var 0) (.bin .pow (.int 10) (.int 18))),
  .for_ (.nm 4) (.rg1 (.bi .len (es [(.var 1)]))) (ss [.ifs (.cmp .ge (.var 0) (.bin .pow (.int 10) (.int 18))) (ss [.app 2 .nil (.bin .mod (.bi .int (es [(.var 3)])) (.idx (.var 1) (.var 4))),
      .set false 3 (.bin .fdv (.var 3) (.idx (.var 1) (.var 4)))]) (ss [.set false 5 (.bin .mod (.bi .int (es [(.bin .add (.bin .add (.var 0) (.bin .mul (.int 7919) (.var 4))) (.int 13))])) (.int 2147483647)),
      .set false 5 (.bin .mod (.bi .int (es [(.bin .mul (.var 5) (.bin .add (.var 5) (.int 48271)))])) (.int 2147483629)),
      .set false 5 (.bin .mod (.bi .int (es [(.bin .add (.bin .mul (.var 5) (.bin .add (.var 5) (.int 69621))) (.bin .mul (.int 31) (.var 4)))])) (.int 2147483647)),
      .app 2 .nil (.bin .mod (.bi .int (es [(.bin .fdv (.var 5) (.int 9))])) (.idx (.var 1) (.var 4)))])]),
  .ret (.var 2)])
def bCell : Ss :=
  (ss [.ifs (.cmp .lt (.var 1) (.bi .len (es [(.var 0)]))) (ss [.ret (.idx (.var 0) (.var 1))]) (ss []),
  .ret (.int 0)])
def bIsInt : Ss := (ss [.ret (.and_ (.isi (.var 0) .int) (.not_ (.isi (.var 0) .bool)))])
/-- natural numbers as data -/
def nI (xs : List Nat) : List Int := xs.map fun x => ((x : Nat) : Int)
def nD (xs : List Nat) : List D := (nI xs).map D.int
theorem nD_len (xs : List Nat) : (nD xs).length = xs.length := by simp [nD, nI]
theorem nD_get (xs : List Nat) (i : Nat) : (nD xs)[i]? = (xs[i]?).map fun x => D.int ((x : Nat) : Int) := by simp [nD, nI]; rfl
theorem nD_app (xs ys : List Nat) : nD (xs ++ ys) = nD xs ++ nD ys := by simp [nD, nI]
theorem pow18 : binO .pow (.fz (.int 10)) (.fz (.int 18)) = some (.fz (.int 1000000000000000000)) := by
  simp only [binO]
  rw [if_pos (by decide)]
  rfl
theorem isi_int (i : Int) : isiO (.fz (.int i)) .int = some true := rfl
theorem isi_int_b (i : Int) : isiO (.fz (.int i)) .bool = some false := rfl
def cellI (ns : List Int) (i : Nat) : Int := ns.getD i 0
theorem lt_size {n : Nat} (h : n < 10000000) : n < sizeMax := Nat.lt_of_lt_of_le h (by decide)
theorem le_size {n : Nat} (h : n < 10000000) : n ≤ sizeMax := Nat.le_of_lt (lt_size h)
section
variable (cf : Cf) (ini : Nat → Nat) (sb : Nat → Nat → Bool)
theorem run_cell (ns : List Int) (i : Nat) : fin [] (exs cf ini sb [] bCell [.fz (.scr ns), .fz (.int i)]) = .ok (.fz (.int (cellI ns i))) [] := by
  simp only [bCell]
  by_cases h : i < ns.length
  · have h1 : decide ((i : Int) < (ns.length : Int)) = true := decide_eq_true (by omega)
    have h2 : ns[i]? = some (cellI ns i) := by rw [List.getElem?_eq_getElem h, cellI, List.getD_eq_getElem?_getD, List.getElem?_eq_getElem h]; rfl
    (k_with "evs" => simp only [h1, h2])
  · have h1 : decide ((i : Int) < (ns.length : Int)) = false := decide_eq_false (by omega)
    have h2 : cellI ns i = 0 := by rw [cellI, List.getD_eq_getElem?_getD, List.getElem?_eq_none (by omega)]; rfl
    (k_with "evs" => simp only [h1, h2])
theorem run_isInt (i : Int) : fin [] (exs cf ini sb [] bIsInt [.fz (.int i)]) = .ok (.fz (.bl true)) [] := by
  simp only [bIsInt]
  (k_with "evs" => simp only [isi_int, isi_int_b, Bool.not_false])
/-- what is drawn: below its size, each -/
structure Drawn (sizes xs : List Nat) : Prop where
  len : xs.length = sizes.length
  lt : ∀ i s x : Nat, sizes[i]? = some s → xs[i]? = some x → x < s
theorem run_row (c : Int) {sizes : List Nat} (hp : ∀ s ∈ sizes, 0 < s ∧ s < 1073741824) (hl : sizes.length < 1000000) : ∃ xs : List Nat, Drawn sizes xs ∧ fin [] (exs cf ini sb [] bRow [.fz (.int c), .fz (.lst (nD sizes)), .dead, .dead, .dead, .dead]) = .ok (.l ((nD xs).map .fz)) [] := by
  let body : Ss := (ss [.ifs (.cmp .ge (.var 0) (.bin .pow (.int 10) (.int 18))) (ss [.app 2 .nil (.bin .mod (.bi .int (es [(.var 3)])) (.idx (.var 1) (.var 4))),
      .set false 3 (.bin .fdv (.var 3) (.idx (.var 1) (.var 4)))]) (ss [.set false 5 (.bin .mod (.bi .int (es [(.bin .add (.bin .add (.var 0) (.bin .mul (.int 7919) (.var 4))) (.int 13))])) (.int 2147483647)),
      .set false 5 (.bin .mod (.bi .int (es [(.bin .mul (.var 5) (.bin .add (.var 5) (.int 48271)))])) (.int 2147483629)),
      .set false 5 (.bin .mod (.bi .int (es [(.bin .add (.bin .mul (.var 5) (.bin .add (.var 5) (.int 69621))) (.bin .mul (.int 31) (.var 4)))])) (.int 2147483647)),
      .app 2 .nil (.bin .mod (.bi .int (es [(.bin .fdv (.var 5) (.int 9))])) (.idx (.var 1) (.var 4)))])])
  have hs : ∀ k env (_ : k < ((List.range sizes.length).map fun k => D.int (k : Nat)).length), (∃ xs r x4 x5, Drawn (sizes.take k) xs ∧ env = [.fz (.int c), .fz (.lst (nD sizes)), .l ((nD xs).map .fz), .fz (.int r), x4, x5]) →
      ∃ env', forF cf ini sb [] (.nm 4) body ((List.range sizes.length).map fun k => D.int (k : Nat))[k] env = .nx env' ∧ ∃ xs r x4 x5, Drawn (sizes.take (k + 1)) xs ∧ env' = [.fz (.int c), .fz (.lst (nD sizes)), .l ((nD xs).map .fz), .fz (.int r), x4, x5] := by
    rintro k env hk ⟨xs, r, x4, x5, hd, rfl⟩
    simp only [List.length_map, List.length_range] at hk
    have hxl : xs.length = k := by rw [hd.len, List.length_take]; omega
    have hkg : sizes[k]? = some sizes[k] := List.getElem?_eq_getElem hk
    obtain ⟨hp1, hp2⟩ := hp _ (List.getElem_mem hk)
    generalize sizes[k] = s at hkg hp1 hp2
    have hg : idxO (.fz (.lst (nD sizes))) (k : Int) = some (.fz (.int (s : Nat))) := by rw [idx_lst, atI_nat, nD_get, hkg]; rfl
    have next : ∀ y : Nat, y < s → Drawn (sizes.take (k + 1)) (xs ++ [y]) := by
      intro y hy
      have ht : sizes.take (k + 1) = sizes.take k ++ [s] := by rw [List.take_add_one, hkg]; rfl
      refine ⟨by rw [ht, List.length_append, List.length_append, hd.len]; rfl, fun i s' x h1 h2 => ?_⟩
      rw [ht] at h1
      by_cases hi : i < k
      · rw [List.getElem?_append_left (by rw [List.length_take]; omega)] at h1
        rw [List.getElem?_append_left (by omega)] at h2
        exact hd.lt i s' x h1 h2
      · rw [List.getElem?_append_right (by rw [List.length_take]; omega)] at h1
        rw [List.getElem?_append_right (by omega)] at h2
        have e1 : i - (sizes.take k).length = i - xs.length := by rw [hd.len]
        rw [e1] at h1
        cases hq : i - xs.length with
        | zero =>
          rw [hq] at h1 h2
          simp at h1 h2
          omega
        | succ n => rw [hq] at h1; simp at h1
    have hsp : (0 : Int) < (s : Nat) := by omega
    have hap : ∀ z : Int, (nD xs).map O.fz ++ [O.fz (D.int (z % (s : Nat)))] = (nD (xs ++ [(z % (s : Nat)).toNat])).map O.fz := by
      intro z
      have : ((z % (s : Nat)).toNat : Int) = z % (s : Nat) := Int.toNat_of_nonneg (Int.emod_nonneg _ (by omega))
      rw [nD_app, List.map_append]
      simp [nD, nI, this]
    have hlt : ∀ z : Int, (z % (s : Nat)).toNat < s := by
      intro z
      have h1 := Int.emod_lt_of_pos z hsp
      have h2 := Int.emod_nonneg z (show ((s : Nat) : Int) ≠ 0 by omega)
      omega
    have hsz : decide (((nD xs).map O.fz).length < sizeMax) = true := decide_eq_true (by rw [List.length_map, nD_len]; exact lt_size (by omega))
    simp only [List.getElem_map, List.getElem_range]
    rw [forF_eq (env' := [.fz (.int c), .fz (.lst (nD sizes)), .l ((nD xs).map .fz), .fz (.int r), .fz (.int k), x5]) _ _ _ _ (by simp only [setTg]; rfl)]
    simp only [body]
    by_cases hc : (1000000000000000000 : Int) ≤ c
    · have h1 : decide ((1000000000000000000 : Int) ≤ c) = true := decide_eq_true hc
      have h2 : binO .fdv (.fz (.int r)) (.fz (.int (s : Nat))) = some (.fz (.int (r / (s : Nat)))) := bin_fdv ⟨hsp, by omega⟩
      (k_with "evs" => simp only [pow18, h1, hg, bin_mod hsp, hsz, hap, h2])
      exact ⟨_, rfl, _, _, _, _, next _ (hlt r), rfl⟩
    · have h1 : decide ((1000000000000000000 : Int) ≤ c) = false := decide_eq_false hc
      have m1 : (0 : Int) < 2147483647 := by decide
      have m2 : (0 : Int) < 2147483629 := by decide
      have b1 : ∀ z : Int, binO .mul (.fz (.int 7919)) (.fz (.int z)) = some (.fz (.int (7919 * z))) := fun z => bin_mul (.inl (by decide))
      have b2 : ∀ z : Int, binO .mul (.fz (.int 31)) (.fz (.int z)) = some (.fz (.int (31 * z))) := fun z => bin_mul (.inl (by decide))
      have b3 : ∀ z w : Int, binO .mul (.fz (.int (z % 2147483647))) (.fz (.int w)) = some (.fz (.int (z % 2147483647 * w))) := fun z w => bin_mul (.inl (by have := Int.emod_nonneg z (show (2147483647 : Int) ≠ 0 by decide); have := Int.emod_lt_of_pos z m1; omega))
      have b4 : ∀ z w : Int, binO .mul (.fz (.int (z % 2147483629))) (.fz (.int w)) = some (.fz (.int (z % 2147483629 * w))) := fun z w => bin_mul (.inl (by have := Int.emod_nonneg z (show (2147483629 : Int) ≠ 0 by decide); have := Int.emod_lt_of_pos z m2; omega))
      have b5 : ∀ z : Int, binO .fdv (.fz (.int z)) (.fz (.int 9)) = some (.fz (.int (z / 9))) := fun z => bin_fdv (by decide)
      (k_with "evs" => simp only [pow18, h1, hg, bin_mod hsp, bin_mod m1, bin_mod m2, b1, b2, b3, b4, b5, hsz, hap])
      exact ⟨_, rfl, _, _, _, _, next _ (hlt _), rfl⟩
  obtain ⟨env', h1, xs, r, x4, x5, h2, rfl⟩ := forT_inv (fun k env => ∃ xs r x4 x5, Drawn (sizes.take k) xs ∧ env = [.fz (.int c), .fz (.lst (nD sizes)), .l ((nD xs).map .fz), .fz (.int r), x4, x5])
    (env := [.fz (.int c), .fz (.lst (nD sizes)), .l ((nD []).map .fz), .fz (.int (c - 1000000000000000000)), .dead, .dead]) ⟨[], _, _, _, ⟨by simp, by simp⟩, rfl⟩ hs
  rw [List.length_map, List.length_range, List.take_length] at h2
  refine ⟨xs, h2, ?_⟩
  have e1 : mkL [] = .ok (.tm (.l ((nD []).map .fz))) := mkL_ok (by decide)
  have e2 : biO .len [.fz (.lst (nD sizes))] = some (.fz (.int (sizes.length : Nat))) := by rw [len_lst, nD_len]
  have e3 : near (sizes.length : Int) = true := near_ok (by omega)
  simp only [body, ss_cons, ss_nil, es_cons, es_nil] at h1
  simp only [bRow]
  (k_with "evs" => simp only [pow18, e1, e2, e3, if_true, range_nat, h1])
end
end Pu

/-! PuH -/
set_option linter.all false
/-! PuH: the heap's laws. -/
namespace Hl
open Ev
section
variable {α : Type} (lt : α → α → Bool)
def sw (i j a : Nat) : Nat := if a = i then j else if a = j then i else a
theorem swapL_len (l : List α) (i j : Nat) : (swapL l i j).length = l.length := by
  unfold swapL
  split <;> simp
theorem swapL_get {l : List α} {i j : Nat} (hi : i < l.length) (hj : j < l.length) (a : Nat) : (swapL l i j)[a]? = l[sw i j a]? := by
  unfold swapL sw
  rw [List.getElem?_eq_getElem hi, List.getElem?_eq_getElem hj]
  simp only [List.getElem?_set, List.length_set]
  by_cases h1 : j = a
  · subst h1
    rw [if_pos rfl, if_pos hj]
    by_cases h2 : j = i
    · subst h2
      rw [if_pos rfl, List.getElem?_eq_getElem hi]
    · rw [if_neg h2, if_pos rfl, List.getElem?_eq_getElem hi]
  · rw [if_neg h1]
    by_cases h2 : i = a
    · subst h2
      rw [if_pos rfl, if_pos hi, if_pos rfl, List.getElem?_eq_getElem hj]
    · rw [if_neg h2, if_neg (fun h => h2 h.symm), if_neg (fun h => h1 h.symm)]
theorem swapL_perm {l : List α} {i j : Nat} : (swapL l i j).Perm l := by
  unfold swapL
  split
  · rename_i x y h1 h2
    obtain ⟨hi, rfl⟩ := List.getElem?_eq_some_iff.mp h1
    obtain ⟨hj, rfl⟩ := List.getElem?_eq_some_iff.mp h2
    exact List.set_set_perm hi hj
  · exact List.Perm.refl _
theorem ltAt_swap {l : List α} {i j : Nat} (hi : i < l.length) (hj : j < l.length) (a b : Nat) : ltAt lt (swapL l i j) a b = ltAt lt l (sw i j a) (sw i j b) := by
  unfold ltAt
  rw [swapL_get hi hj, swapL_get hi hj]
theorem upH_perm : ∀ (n : Nat) (l : List α) (p : Nat), (upH lt n l p).Perm l
  | 0, l, p => List.Perm.refl _
  | n + 1, l, p => by
    unfold upH
    split
    · split
      · exact (upH_perm n _ _).trans swapL_perm
      · exact List.Perm.refl _
    · exact List.Perm.refl _
theorem downH_perm : ∀ (n : Nat) (l : List α) (p : Nat), (downH lt n l p).Perm l
  | 0, l, p => List.Perm.refl _
  | n + 1, l, p => by
    unfold downH
    split
    · exact (downH_perm n _ _).trans swapL_perm
    · exact upH_perm lt _ _ _
theorem pushH_perm (l : List α) (x : α) : (pushH lt l x).Perm (x :: l) :=
  (upH_perm lt _ _ _).trans (List.perm_append_singleton x l)
theorem popH_perm {l l' : List α} {x : α} (h : popH lt l = some (x, l')) : (x :: l').Perm l := by
  unfold popH at h
  split at h
  · cases h
  · rename_i y r
    split at h
    · rename_i e
      cases h
      rw [List.getLast?_eq_none_iff] at e
      subst e
      exact List.Perm.refl _
    · rename_i z e
      cases h
      refine List.Perm.cons _ ((downH_perm lt _ _ _).trans ?_)
      have e2 : r = r.dropLast ++ [z] := by
        rw [List.getLast?_eq_some_iff] at e
        obtain ⟨ys, rfl⟩ := e
        simp
      conv => rhs; rw [e2]
      exact (List.perm_append_singleton z _).symm
/-- the order's laws -/
structure Ord : Prop where
  asym : ∀ a b, lt a b = true → lt b a = false
  tr : ∀ a b c, lt b a = false → lt c b = false → lt c a = false
variable {lt}
theorem tr_at (o : Ord lt) {l : List α} {a b c : Nat} (hb : b < l.length) (h1 : ltAt lt l b a = false) (h2 : ltAt lt l c b = false) : ltAt lt l c a = false := by
  unfold ltAt at *
  rw [List.getElem?_eq_getElem hb] at h1 h2
  cases ha : l[a]? with
  | none => split <;> simp_all
  | some x =>
    cases hc : l[c]? with
    | none => rfl
    | some z =>
      rw [ha] at h1
      rw [hc] at h2
      exact o.tr _ _ _ h1 h2
theorem as_at (o : Ord lt) {l : List α} {a b : Nat} (h : ltAt lt l a b = true) : ltAt lt l b a = false := by
  unfold ltAt at *
  split at h
  · rename_i x y h1 h2
    rw [h1, h2]
    exact o.asym _ _ h
  · cases h
variable (lt)
def HeapL (l : List α) : Prop := ∀ i, 0 < i → i < l.length → ltAt lt l i ((i - 1) / 2) = false
def UpI (l : List α) (p : Nat) : Prop := (∀ i, 0 < i → i < l.length → i ≠ p → ltAt lt l i ((i - 1) / 2) = false) ∧ ∀ i, 0 < p → i < l.length → 0 < i → (i - 1) / 2 = p → ltAt lt l i ((p - 1) / 2) = false
def DnI (l : List α) (p : Nat) : Prop := (∀ i, 0 < i → i < l.length → i ≠ p → (i - 1) / 2 ≠ p → ltAt lt l i ((i - 1) / 2) = false) ∧ ∀ i, 0 < p → i < l.length → 0 < i → (i - 1) / 2 = p → ltAt lt l i ((p - 1) / 2) = false
variable {lt}
theorem upH_heap (o : Ord lt) : ∀ (n : Nat) (l : List α) (p : Nat), p < n → p < l.length → UpI lt l p → HeapL lt (upH lt n l p)
  | 0, l, p, h, _, _ => by omega
  | n + 1, l, p, hn, hp, ⟨h1, h2⟩ => by
    unfold upH
    by_cases h0 : 0 < p
    · rw [if_pos h0]
      by_cases hl : ltAt lt l p ((p - 1) / 2) = true
      · rw [if_pos hl]
        have hq : (p - 1) / 2 < l.length := by omega
        refine upH_heap o n _ _ (by omega) (by rw [swapL_len]; exact hq) ⟨fun i hi hil hne => ?_, fun i hq0 hil hi hpar => ?_⟩
        · rw [swapL_len] at hil
          rw [ltAt_swap lt hq hp]
          unfold sw
          rw [if_neg hne]
          by_cases e1 : i = p
          · subst e1
            rw [if_pos rfl, if_pos rfl]
            exact as_at o hl
          · rw [if_neg e1]
            by_cases e2 : (i - 1) / 2 = (p - 1) / 2
            · rw [if_pos e2]
              -- the sibling: above the parent, which is above p
              have h3 := h1 i hi hil e1
              rw [e2] at h3
              exact tr_at o hq (as_at o hl) h3
            · rw [if_neg e2]
              by_cases e3 : (i - 1) / 2 = p
              · rw [if_pos e3]
                exact h2 i h0 hil hi e3
              · rw [if_neg e3]
                exact h1 i hi hil e1
        · rw [swapL_len] at hil
          rw [ltAt_swap lt hq hp]
          have n1 : i ≠ (p - 1) / 2 := by omega
          have n2 : ((p - 1) / 2 - 1) / 2 ≠ (p - 1) / 2 := by omega
          have n3 : ((p - 1) / 2 - 1) / 2 ≠ p := by omega
          unfold sw
          rw [if_neg n1, if_neg n2, if_neg n3]
          have h4 := h1 ((p - 1) / 2) hq0 hq (by omega)
          by_cases e1 : i = p
          · rw [if_pos e1]
            exact h4
          · rw [if_neg e1]
            have h3 := h1 i hi hil e1
            rw [hpar] at h3
            exact tr_at o hq h4 h3
      · rw [if_neg hl]
        intro i hi hil
        by_cases e : i = p
        · subst e; simpa using hl
        · exact h1 i hi hil e
    · rw [if_neg h0]
      intro i hi hil
      exact h1 i hi hil (by omega)
theorem childH_cases (l : List α) (p : Nat) : childH lt l p = 2 * p + 1 ∨ childH lt l p = 2 * p + 2 := by
  unfold childH
  split
  · exact .inr rfl
  · exact .inl rfl
theorem childH_min (o : Ord lt) {l : List α} {p : Nat} (h : p < l.length / 2) : childH lt l p < l.length ∧ ∀ i, i < l.length → 0 < i → (i - 1) / 2 = p → i ≠ childH lt l p → ltAt lt l i (childH lt l p) = false := by
  unfold childH
  by_cases hc : 2 * p + 1 + 1 < l.length ∧ ltAt lt l (2 * p + 1) (2 * p + 1 + 1) = false
  · rw [if_pos hc]
    refine ⟨hc.1, fun i hil hi hp hne => ?_⟩
    have : i = 2 * p + 1 := by omega
    subst this
    exact hc.2
  · rw [if_neg hc]
    refine ⟨by omega, fun i hil hi hp hne => ?_⟩
    have e : i = 2 * p + 1 + 1 := by omega
    subst e
    have : ltAt lt l (2 * p + 1) (2 * p + 1 + 1) = true := by
      cases q : ltAt lt l (2 * p + 1) (2 * p + 1 + 1) with
      | true => rfl
      | false => exact absurd ⟨hil, q⟩ hc
    exact as_at o this
theorem downH_heap (o : Ord lt) : ∀ (n : Nat) (l : List α) (p : Nat), l.length - p < n → p < l.length → DnI lt l p → HeapL lt (downH lt n l p)
  | 0, l, p, h, _, _ => by omega
  | n + 1, l, p, hn, hp, ⟨h1, h2⟩ => by
    unfold downH
    by_cases h0 : p < l.length / 2
    · rw [if_pos h0]
      obtain ⟨hc, hm⟩ := childH_min (lt := lt) o h0
      have hcc := childH_cases (lt := lt) l p
      generalize childH lt l p = c at hc hm hcc
      refine downH_heap o n _ _ (by rw [swapL_len]; omega) (by rw [swapL_len]; exact hc) ⟨fun i hi hil hne hpn => ?_, fun i hc0 hil hi hpar => ?_⟩
      · rw [swapL_len] at hil
        rw [ltAt_swap lt hc hp]
        unfold sw
        rw [if_neg hne, if_neg hpn]
        by_cases e1 : i = p
        · subst e1
          rw [if_pos rfl, if_neg (show (i - 1) / 2 ≠ i by omega)]
          exact h2 c hi hc (by omega) (by omega)
        · rw [if_neg e1]
          by_cases e2 : (i - 1) / 2 = p
          · rw [if_pos e2]
            exact hm i hil hi e2 hne
          · rw [if_neg e2]
            exact h1 i hi hil e1 e2
      · rw [swapL_len] at hil
        rw [ltAt_swap lt hc hp]
        have e0 : (c - 1) / 2 = p := by omega
        unfold sw
        rw [e0, if_neg (show i ≠ c by omega), if_neg (show i ≠ p by omega), if_neg (show p ≠ c by omega), if_pos rfl, ← hpar]
        exact h1 i hi hil (by omega) (by omega)
    · rw [if_neg h0]
      refine upH_heap o _ l p (by omega) hp ⟨fun i hi hil hne => h1 i hi hil hne (by omega), fun i hi hil hi' hpar => h2 i hi hil hi' hpar⟩
theorem ltAt_append {l m : List α} {a b : Nat} (ha : a < l.length) (hb : b < l.length) : ltAt lt (l ++ m) a b = ltAt lt l a b := by
  unfold ltAt
  rw [List.getElem?_append_left ha, List.getElem?_append_left hb]
theorem pushH_heap (o : Ord lt) {l : List α} {x : α} (h : HeapL lt l) : HeapL lt (pushH lt l x) := by
  refine upH_heap o _ _ _ (by omega) (by simp) ⟨fun i hi hil hne => ?_, fun i hp hil hi hpar => ?_⟩
  · rw [List.length_append, List.length_singleton] at hil
    rw [ltAt_append (by omega) (by omega)]
    exact h i hi (by omega)
  · rw [List.length_append, List.length_singleton] at hil
    omega
theorem popH_heap (o : Ord lt) {l l' : List α} {x : α} (h : HeapL lt l) (e : popH lt l = some (x, l')) : HeapL lt l' := by
  unfold popH at e
  split at e
  · cases e
  · rename_i y r
    split at e
    · cases e
      intro i hi hil
      simp at hil
    · rename_i z ez
      cases e
      rw [List.getLast?_eq_some_iff] at ez
      obtain ⟨ys, rfl⟩ := ez
      simp only [List.dropLast_concat]
      refine downH_heap o _ _ _ (by simp) (by simp) ⟨fun i hi hil hne hpn => ?_, fun i hp => by omega⟩
      have h3 := h i hi (by simp at hil ⊢; omega)
      rw [← h3]
      simp only [List.length_cons] at hil
      unfold ltAt
      rw [show i = (i - 1) + 1 by omega, show (i - 1 + 1 - 1) / 2 = ((i - 1) / 2 - 1) + 1 by omega]
      simp only [List.getElem?_cons_succ]
      rw [List.getElem?_append_left (by omega), List.getElem?_append_left (by omega)]
/-- the first one is a least one -/
theorem heap_min (o : Ord lt) (irr : ∀ a, lt a a = false) {x : α} {r : List α} (h : HeapL lt (x :: r)) : ∀ y ∈ x :: r, lt y x = false := by
  have key : ∀ (n i : Nat), i ≤ n → i < (x :: r).length → ltAt lt (x :: r) i 0 = false := by
    intro n
    induction n with
    | zero =>
      intro i hi _
      rw [show i = 0 by omega]
      simp [ltAt, irr]
    | succ n ih =>
      intro i hi hl
      by_cases h0 : i = 0
      · subst h0; simp [ltAt, irr]
      · exact tr_at o (b := (i - 1) / 2) (by omega) (ih _ (by omega) (by omega)) (h i (by omega) hl)
  intro y hy
  obtain ⟨i, hi, rfl⟩ := List.mem_iff_getElem.mp hy
  have := key i i (Nat.le_refl _) hi
  unfold ltAt at this
  rw [List.getElem?_eq_getElem hi] at this
  simpa using this
end
theorem ltP_ord : Ord ltP := by
  refine ⟨fun a b h => ?_, fun a b c h1 h2 => ?_⟩
  · simp only [ltP, Bool.or_eq_true, decide_eq_true_eq, Bool.and_eq_true, Bool.or_eq_false_iff, decide_eq_false_iff_not, Bool.and_eq_false_imp] at *
    omega
  · simp only [ltP, Bool.or_eq_true, decide_eq_true_eq, Bool.and_eq_true, Bool.or_eq_false_iff, decide_eq_false_iff_not, Bool.and_eq_false_imp] at *
    omega
theorem ltP_irr (a : Int × Int) : ltP a a = false := by simp [ltP]
end Hl

/-! P32m -/
set_option linter.all false
/-! P32m: coins: what can be paid, the least sums, the sure amount. -/
namespace K32
inductive Pay (cs : List Nat) : Nat → Prop where
  | z : Pay cs 0
  | s {b c : Nat} : Pay cs b → c ∈ cs → Pay cs (b + c)
theorem Pay.coin {cs : List Nat} {c : Nat} (h : c ∈ cs) : Pay cs c := by
  have := Pay.s (Pay.z (cs := cs)) h
  rwa [Nat.zero_add] at this
theorem Pay.add {cs : List Nat} {a b : Nat} (h : Pay cs a) (k : Pay cs b) : Pay cs (a + b) := by
  induction k with
  | z => exact h
  | s _ hc ih => rw [← Nat.add_assoc]; exact .s ih hc
theorem Pay.mul {cs : List Nat} {a : Nat} (h : Pay cs a) : ∀ n, Pay cs (n * a)
  | 0 => by rw [Nat.zero_mul]; exact .z
  | n + 1 => by rw [Nat.succ_mul]; exact (Pay.mul h n).add h
theorem Pay.dvd {cs : List Nat} {g : Nat} (hg : ∀ c ∈ cs, g ∣ c) {b : Nat} (h : Pay cs b) : g ∣ b := by
  induction h with
  | z => exact Nat.dvd_zero g
  | s _ hc ih => exact Nat.dvd_add ih (hg _ hc)
theorem Pay.least {cs : List Nat} {m : Nat} (hm : ∀ c ∈ cs, m ≤ c) {b : Nat} (h : Pay cs b) : b = 0 ∨ m ≤ b := by
  induction h with
  | z => exact .inl rfl
  | s _ hc _ => exact .inr (Nat.le_trans (hm _ hc) (Nat.le_add_left _ _))
theorem least_of {p : Nat → Prop} : ∀ {n : Nat}, p n → ∃ d, p d ∧ ∀ e, p e → d ≤ e := by
  intro n
  induction n using Nat.strongRecOn with
  | ind n ih =>
    intro h
    by_cases q : ∃ k, k < n ∧ p k
    · obtain ⟨k, hk, hp⟩ := q
      exact ih k hk hp
    · refine ⟨n, h, fun e he => Nat.le_of_not_lt fun hlt => q ⟨e, hlt, he⟩⟩
/-- every multiple of the measure is payable, up to multiples of a coin -/
theorem pay_class {cs : List Nat} {m g : Nat} (hm : m ∈ cs) (h0 : 0 < m) (hd : ∀ c ∈ cs, g ∣ c) (hg : ∀ d, (∀ c ∈ cs, d ∣ c) → d ∣ g) (t : Nat) : ∃ p, Pay cs p ∧ p % m = (g * t) % m := by
  obtain ⟨d, ⟨hd0, p, hp, hpd⟩, hmin⟩ := least_of (p := fun d => 0 < d ∧ ∃ p, Pay cs p ∧ p % m = d % m) (n := m) ⟨h0, m, Pay.coin hm, rfl⟩
  have key : ∀ q, Pay cs q → d ∣ q := by
    intro q hq
    rw [Nat.dvd_iff_mod_eq_zero]
    refine Nat.eq_zero_of_not_pos fun hr => ?_
    have h1 : q % d < d := Nat.mod_lt _ hd0
    have h2 := hmin (q % d) ⟨hr, q + (q / d) * ((m - 1) * p), hq.add ((hp.mul (m - 1)).mul (q / d)), ?_⟩
    · omega
    · -- q + (q/d) * (m-1) * p ≡ q - (q/d) d
      have e1 : q + q / d * ((m - 1) * p) + (q / d) * p = q + (q / d) * (m * p) := by
        have : (m - 1) * p + p = m * p := by
          conv => lhs; rw [← Nat.succ_mul]
          congr 1; omega
        rw [Nat.add_assoc, ← Nat.mul_add, this]
      have e2 : q % d + (q / d) * d = q := by rw [Nat.mul_comm]; exact Nat.mod_add_div q d
      have e3 : (q + q / d * ((m - 1) * p) + (q / d) * p) % m = q % m := by
        rw [e1, Nat.mul_left_comm, Nat.add_mul_mod_self_left]
      have e4 : ((q / d) * p) % m = ((q / d) * d) % m := by rw [Nat.mul_mod, hpd, ← Nat.mul_mod]
      -- compare modulo m
      have e5 : (q + q / d * ((m - 1) * p) + (q / d) * d) % m = (q % d + (q / d) * d) % m := by
        rw [e2, Nat.add_mod, ← e4, ← Nat.add_mod, e3]
      have e6 : ∀ a b c : Nat, (a + c) % m = (b + c) % m → a % m = b % m := by
        intro a b c h
        have h1 : (a + c + (m - c % m)) % m = (b + c + (m - c % m)) % m := by rw [Nat.add_mod, h, ← Nat.add_mod]
        have h2 : c + (m - c % m) = m * (c / m + 1) := by
          have := Nat.mod_add_div c m
          have := Nat.mod_lt c h0
          rw [Nat.mul_add, Nat.mul_one]
          omega
        rw [Nat.add_assoc, Nat.add_assoc, h2, Nat.add_mul_mod_self_left, Nat.add_mul_mod_self_left] at h1
        exact h1
      exact e6 _ _ _ e5
  have h1 : d ∣ g := hg d fun c hc => key c (Pay.coin hc)
  have h2 : g ∣ d := by
    have a : g ∣ p := hp.dvd hd
    have b : g ∣ m := hd m hm
    have c : g ∣ p % m := (Nat.dvd_mod_iff b).mpr a
    rw [hpd] at c
    exact (Nat.dvd_mod_iff b).mp c
  have e : d = g := Nat.dvd_antisymm h1 h2
  subst e
  refine ⟨t * p, hp.mul t, ?_⟩
  rw [Nat.mul_mod, hpd, ← Nat.mul_mod, Nat.mul_comm]
/-- the least sums -/
structure LS (cs : List Nat) (m : Nat) (F : List (Option (Nat × Nat))) : Prop where
  len : F.length = m
  own : ∀ r a l : Nat, F[r]? = some (some (a, l)) → a % m = r ∧ (a = 0 ∨ ∃ c b l', cs[l]? = some c ∧ F[b % m]? = some (some (b, l')) ∧ a = b + c)
  all : ∀ b, Pay cs b → ∃ a l, F[b % m]? = some (some (a, l)) ∧ a ≤ b
section
variable {cs : List Nat} {m g : Nat} {F : List (Option (Nat × Nat))}
theorem LS.pay (h : LS cs m F) (hpos : ∀ c ∈ cs, 0 < c) : ∀ a r l : Nat, F[r]? = some (some (a, l)) → Pay cs a := by
  intro a
  induction a using Nat.strongRecOn with
  | ind a ih =>
    intro r l e
    rcases (h.own r a l e).2 with rfl | ⟨c, b, l', hc, hb, rfl⟩
    · exact .z
    · have hcm : c ∈ cs := List.mem_of_getElem? hc
      exact .s (ih b (by have := hpos c hcm; omega) _ _ hb) hcm
/-- an amount can be paid iff its class's least sum is at most it -/
theorem LS.iff (h : LS cs m F) (hm : m ∈ cs) (hpos : ∀ c ∈ cs, 0 < c) (b : Nat) : Pay cs b ↔ ∃ a l, F[b % m]? = some (some (a, l)) ∧ a ≤ b := by
  refine ⟨h.all b, fun ⟨a, l, e, hle⟩ => ?_⟩
  have hp := h.pay hpos a _ l e
  have hr := (h.own _ a l e).1
  -- b = a + k m
  have e1 := Nat.mod_add_div b m
  have e2 := Nat.mod_add_div a m
  have h0 := hpos m hm
  have hk : a / m ≤ b / m := Nat.div_le_div_right hle
  have : b = a + (b / m - a / m) * m := by
    rw [Nat.sub_mul, Nat.mul_comm, Nat.mul_comm (a / m)]
    have : m * (a / m) ≤ m * (b / m) := Nat.mul_le_mul_left _ hk
    omega
  rw [this]
  exact hp.add ((Pay.coin hm).mul _)
/-- how many entries are at most a -/
def leA (a : Nat) : Option (Nat × Nat) → Bool
  | some p => decide (p.1 ≤ a)
  | none => false
def cnt (F : List (Option (Nat × Nat))) (a : Nat) : Nat := F.countP (leA a)
theorem leA_mono {a b : Nat} (h : b ≤ a) (x : Option (Nat × Nat)) (hx : leA b x = true) : leA a x = true := by
  cases x with
  | none => exact hx
  | some p => simp only [leA, decide_eq_true_eq] at hx ⊢; omega
theorem cnt_lt {F : List (Option (Nat × Nat))} {a b l : Nat} (hab : b < a) (hm : some (a, l) ∈ F) : cnt F b < cnt F a := by
  unfold cnt
  induction F with
  | nil => cases hm
  | cons e F ih =>
    rw [List.countP_cons, List.countP_cons]
    have mono : List.countP (leA b) F ≤ List.countP (leA a) F := List.countP_mono_left fun x _ hx => leA_mono (by omega) x hx
    rcases List.mem_cons.mp hm with rfl | hm
    · have h1 : leA b (some (a, l)) = false := by simp [leA]; exact hab
      have h2 : leA a (some (a, l)) = true := by simp [leA]
      rw [if_neg (by rw [h1]; simp), if_pos h2]
      omega
    · have := ih hm
      cases q : leA b e with
      | true => rw [if_pos rfl, if_pos (leA_mono (by omega) e q)]; omega
      | false => rw [if_neg (by simp)]; omega
theorem LS.bound (h : LS cs m F) {M : Nat} (hM : ∀ c ∈ cs, c ≤ M) (hpos : ∀ c ∈ cs, 0 < c) : ∀ a r l : Nat, F[r]? = some (some (a, l)) → a ≤ (cnt F a - 1) * M := by
  intro a
  induction a using Nat.strongRecOn with
  | ind a ih =>
    intro r l e
    rcases (h.own r a l e).2 with rfl | ⟨c, b, l', hc, hb, rfl⟩
    · exact Nat.zero_le _
    · have hcm : c ∈ cs := List.mem_of_getElem? hc
      have hcp := hpos c hcm
      have h1 := ih b (by omega) _ _ hb
      have h2 : cnt F b < cnt F (b + c) := cnt_lt (by omega) (List.mem_of_getElem? e)
      have h4 : 0 < cnt F b := by
        unfold cnt
        exact List.countP_pos_iff.mpr ⟨_, List.mem_of_getElem? hb, by simp [leA]⟩
      have h3 : (cnt F b - 1) * M + M ≤ (cnt F (b + c) - 1) * M := by
        rw [← Nat.succ_mul]
        exact Nat.mul_le_mul_right _ (by omega)
      have := hM c hcm
      omega
theorem range_cnt {g : Nat} (hg : 0 < g) (p : Nat → Bool) (hp : ∀ r, p r = true → g ∣ r) : ∀ k, (List.range (g * k)).countP p ≤ k
  | 0 => by simp
  | k + 1 => by
    rw [Nat.mul_succ, List.range_add, List.countP_append, List.countP_map]
    have h1 := range_cnt hg p hp k
    have h2 : List.countP (p ∘ fun x => g * k + x) (List.range g) ≤ List.countP (fun x => x == 0) (List.range g) := by
      refine List.countP_mono_left fun x hx hpx => ?_
      have := hp _ hpx
      have h3 : g ∣ x := (Nat.dvd_add_right (Nat.dvd_mul_right g k)).mp this
      have h4 := List.mem_range.mp hx
      have := Nat.eq_zero_of_dvd_of_lt h3 h4
      simp [this]
    have h3 : List.countP (fun x => x == 0) (List.range g) ≤ 1 := by
      have : List.count 0 (List.range g) ≤ 1 := List.nodup_iff_count.mp List.nodup_range 0
      exact this
    omega
theorem LS.count (h : LS cs m F) {k : Nat} (hg0 : 0 < g) (hmk : m = g * k) (hd : ∀ c ∈ cs, g ∣ c) (hpos : ∀ c ∈ cs, 0 < c) (a : Nat) : cnt F a ≤ k := by
  have e : F = (List.range (g * k)).map fun r => (F[r]?).getD none := by
    apply List.ext_getElem
    · simp [h.len, hmk]
    · intro i h1 h2
      simp [h1]
  unfold cnt
  rw [e, List.countP_map]
  refine range_cnt hg0 _ (fun r hr => ?_) k
  simp only [Function.comp] at hr
  cases hq : F[r]? with
  | none => rw [hq] at hr; simp [leA] at hr
  | some x =>
    cases x with
    | none => rw [hq] at hr; simp [leA] at hr
    | some p =>
      obtain ⟨a', l'⟩ := p
      have h1 := (h.own r a' l' hq).1
      have h2 : g ∣ a' := (h.pay hpos a' r l' hq).dvd hd
      rw [← h1]
      exact (Nat.dvd_mod_iff (by rw [hmk]; exact Nat.dvd_mul_right _ _)).mpr h2
/-- the amounts of the least sums -/
def sums (F : List (Option (Nat × Nat))) : List Nat := F.filterMap fun e => e.map (·.1)
theorem mem_sums {F : List (Option (Nat × Nat))} {a : Nat} : a ∈ sums F ↔ ∃ r l : Nat, F[r]? = some (some (a, l)) := by
  unfold sums
  rw [List.mem_filterMap]
  constructor
  · rintro ⟨e, he, h⟩
    cases e with
    | none => simp at h
    | some p =>
      obtain ⟨r, hr⟩ := List.mem_iff_getElem?.mp he
      simp at h
      subst h
      exact ⟨r, p.2, hr⟩
  · rintro ⟨r, l, h⟩
    exact ⟨_, List.mem_of_getElem? h, rfl⟩
/-- the sure amount: what is not payable, what is -/
theorem LS.sure (h : LS cs m F) (hm : m ∈ cs) (hmin : ∀ c ∈ cs, m ≤ c) (h0 : 0 < m) (hd : ∀ c ∈ cs, g ∣ c) (hg : ∀ d, (∀ c ∈ cs, d ∣ c) → d ∣ g) {mx : Nat} (hx : mx ∈ sums F) (hxm : ∀ a ∈ sums F, a ≤ mx) {M : Nat} (hM : ∀ c ∈ cs, c ≤ M) :
    (∀ b, g ∣ b → mx < b + m → Pay cs b) ∧ (m < mx → ¬ Pay cs (mx - m)) ∧ (mx ≤ m → mx = 0 ∧ m = g) ∧ mx ≤ (m / g - 1) * M ∧ g ∣ mx := by
  have hpos : ∀ c ∈ cs, 0 < c := fun c hc => Nat.lt_of_lt_of_le h0 (hmin c hc)
  have hg0 : 0 < g := Nat.pos_of_ne_zero fun e => by
    subst e
    have := Nat.eq_zero_of_zero_dvd (hd m hm)
    omega
  obtain ⟨k, hk⟩ := hd m hm
  obtain ⟨r, l, hr⟩ := mem_sums.mp hx
  have hpx := h.pay hpos mx r l hr
  have hrm := (h.own r mx l hr).1
  refine ⟨fun b ⟨t, ht⟩ hb => ?_, fun hlt hp => ?_, fun hle => ?_, ?_, hpx.dvd hd⟩
  · obtain ⟨p, hp, he⟩ := pay_class hm h0 hd hg t
    rw [← ht] at he
    obtain ⟨a, l', h1, h2⟩ := h.all p hp
    rw [he] at h1
    have h3 := hxm a (mem_sums.mpr ⟨_, _, h1⟩)
    have h4 := (h.own _ a l' h1).1
    refine (h.iff hm hpos b).mpr ⟨a, l', h1, ?_⟩
    -- a ≤ mx < b + m, a ≡ b
    have e1 := Nat.mod_add_div a m
    have e2 := Nat.mod_add_div b m
    have : a / m < b / m + 1 := by
      refine Nat.lt_of_mul_lt_mul_left (a := m) ?_
      rw [Nat.mul_add, Nat.mul_one]
      omega
    have : m * (a / m) ≤ m * (b / m) := Nat.mul_le_mul_left _ (by omega)
    omega
  · obtain ⟨a, l', h1, h2⟩ := h.all _ hp
    have e : (mx - m) % m = mx % m := by
      conv => rhs; rw [show mx = mx - m + m by omega, Nat.add_mod_right]
    rw [e, hrm, hr] at h1
    cases h1
    omega
  · have hz : mx = 0 := by
      rcases hpx.least hmin with e | e
      · exact e
      · have e2 : mx = m := by omega
        have h1 : r = 0 := by rw [← hrm, e2, Nat.mod_self]
        obtain ⟨a, l', h2, h3⟩ := h.all 0 .z
        rw [Nat.zero_mod, ← h1, hr] at h2
        cases h2
        omega
    refine ⟨hz, ?_⟩
    obtain ⟨p, hp, he⟩ := pay_class hm h0 hd hg 1
    rw [Nat.mul_one] at he
    obtain ⟨a, l', h1, h2⟩ := h.all p hp
    have h3 := hxm a (mem_sums.mpr ⟨_, _, h1⟩)
    have h4 := (h.own _ a l' h1).1
    have : g % m = 0 := by
      rw [← he, ← h4, show a = 0 by omega, Nat.zero_mod]
    exact Nat.dvd_antisymm (Nat.dvd_of_mod_eq_zero this) (hd m hm)
  · have h1 := h.bound hM hpos mx r l hr
    have h2 := h.count hg0 hk hd hpos mx
    have h3 : m / g = k := by rw [hk, Nat.mul_div_cancel_left _ hg0]
    rw [h3]
    exact Nat.le_trans h1 (Nat.mul_le_mul_right _ (by omega))
end
end K32

/-! P32d -/
set_option linter.all false
/-! P32d: the search for the least sums. -/
namespace K32
open Ev Pu Hl
def ltN (a b : Nat × Nat) : Bool := decide (a.1 < b.1) || (decide (a.1 = b.1) && decide (a.2 < b.2))
theorem ltN_ord : Hl.Ord ltN := by
  refine ⟨fun a b h => ?_, fun a b c h1 h2 => ?_⟩
  · simp only [ltN, Bool.or_eq_true, decide_eq_true_eq, Bool.and_eq_true, Bool.or_eq_false_iff, decide_eq_false_iff_not, Bool.and_eq_false_imp] at *
    omega
  · simp only [ltN, Bool.or_eq_true, decide_eq_true_eq, Bool.and_eq_true, Bool.or_eq_false_iff, decide_eq_false_iff_not, Bool.and_eq_false_imp] at *
    omega
theorem ltN_irr (a : Nat × Nat) : ltN a a = false := by simp [ltN]
theorem ltN_le {a b : Nat × Nat} (h : ltN a b = false) : b.1 ≤ a.1 := by
  simp only [ltN, Bool.or_eq_false_iff, decide_eq_false_iff_not] at h
  omega
/-- all coins are put on top -/
def pushes (cs : List Nat) (a : Nat) (Q : List (Nat × Nat)) : Nat → List (Nat × Nat)
  | 0 => Q
  | n + 1 => pushH ltN (pushes cs a Q n) (a + cs.getD n 0, n)
section
variable {cs : List Nat} {a m : Nat} {Q : List (Nat × Nat)}
theorem pushes_mem : ∀ {n : Nat} {x : Nat × Nat}, x ∈ pushes cs a Q n ↔ x ∈ Q ∨ ∃ i, i < n ∧ x = (a + cs.getD i 0, i)
  | 0, x => by simp [pushes]
  | n + 1, x => by
    simp only [pushes]
    rw [(pushH_perm ltN _ _).mem_iff, List.mem_cons, pushes_mem (n := n)]
    constructor
    · rintro (rfl | h | ⟨i, hi, rfl⟩)
      · exact .inr ⟨n, by omega, rfl⟩
      · exact .inl h
      · exact .inr ⟨i, by omega, rfl⟩
    · rintro (h | ⟨i, hi, rfl⟩)
      · exact .inr (.inl h)
      · by_cases e : i = n
        · subst e; exact .inl rfl
        · exact .inr (.inr ⟨i, by omega, rfl⟩)
theorem pushes_heap (h : HeapL ltN Q) : ∀ n, HeapL ltN (pushes cs a Q n)
  | 0 => h
  | n + 1 => pushH_heap ltN_ord (pushes_heap h n)
theorem pushes_len : ∀ n, (pushes cs a Q n).length = Q.length + n
  | 0 => rfl
  | n + 1 => by
    simp only [pushes]
    rw [(pushH_perm ltN _ _).length_eq, List.length_cons, pushes_len n]
    omega
end
/-- what holds between two turns of the search -/
structure J (cs : List Nat) (m : Nat) (F : List (Option (Nat × Nat))) (Q : List (Nat × Nat)) : Prop where
  len : F.length = m
  heap : HeapL ltN Q
  que : ∀ q ∈ Q, q.1 = 0 ∨ ∃ c b l', cs[q.2]? = some c ∧ F[b % m]? = some (some (b, l')) ∧ q.1 = b + c
  own : ∀ r a l : Nat, F[r]? = some (some (a, l)) → a % m = r ∧ (a = 0 ∨ ∃ c b l', cs[l]? = some c ∧ F[b % m]? = some (some (b, l')) ∧ a = b + c)
  mono : ∀ r a l : Nat, F[r]? = some (some (a, l)) → ∀ q ∈ Q, a ≤ q.1
  done : ∀ r a l : Nat, F[r]? = some (some (a, l)) → ∀ i c, cs[i]? = some c → (a + c, i) ∈ Q ∨ ∃ a' l', F[(a + c) % m]? = some (some (a', l')) ∧ a' ≤ a + c
  zero : (∃ l, (0, l) ∈ Q) ∨ ∃ l, F[0]? = some (some (0, l))
section
variable {cs : List Nat} {m : Nat} {F : List (Option (Nat × Nat))} {Q Q' : List (Nat × Nat)} {a l : Nat}
theorem J.start (h0 : 0 < m) : J cs m (List.replicate m none) [(0, 0)] := by
  have no : ∀ r a l : Nat, (List.replicate m (none : Option (Nat × Nat)))[r]? ≠ some (some (a, l)) := by
    intro r a l h
    have := List.mem_of_getElem? h
    rw [List.mem_replicate] at this
    cases this.2
  refine ⟨by simp, fun i hi hl => ?_, fun q hq => ?_, fun r a l h => (no r a l h).elim, fun r a l h => (no r a l h).elim, fun r a l h => (no r a l h).elim, .inl ⟨0, by simp⟩⟩
  · simp at hl; omega
  · simp at hq; subst hq; exact .inl rfl
theorem J.fin (h : J cs m F []) (h0 : 0 < m) : LS cs m F := by
  refine ⟨h.len, h.own, fun b hb => ?_⟩
  induction hb with
  | z =>
    rcases h.zero with ⟨l, hl⟩ | ⟨l, hl⟩
    · cases hl
    · exact ⟨0, l, by rw [Nat.zero_mod]; exact hl, Nat.le_refl _⟩
  | s hp hc ih =>
    rename_i b c
    obtain ⟨a, l, h1, h2⟩ := ih
    obtain ⟨i, hi⟩ := List.mem_iff_getElem?.mp hc
    rcases h.done _ a l h1 i c hi with hq | ⟨a', l', h3, h4⟩
    · cases hq
    · have e : (a + c) % m = (b + c) % m := by rw [Nat.add_mod, (h.own _ a l h1).1, ← Nat.add_mod]
      rw [e] at h3
      exact ⟨a', l', h3, by omega⟩
theorem J.skip (h : J cs m F Q) (e : popH ltN Q = some ((a, l), Q')) {p : Nat × Nat} (hf : F[a % m]? = some (some p)) : J cs m F Q' := by
  have pm := popH_perm ltN e
  have mem : ∀ q, q ∈ Q ↔ q = (a, l) ∨ q ∈ Q' := fun q => by rw [← pm.mem_iff, List.mem_cons]
  obtain ⟨a', l'⟩ := p
  have hle : a' ≤ a := h.mono _ a' l' hf (a, l) ((mem _).mpr (.inl rfl))
  refine ⟨h.len, popH_heap ltN_ord h.heap e, fun q hq => h.que q ((mem q).mpr (.inr hq)), h.own, fun r b k hr q hq => h.mono r b k hr q ((mem q).mpr (.inr hq)), fun r b k hr i c hc => ?_, ?_⟩
  · rcases h.done r b k hr i c hc with hq | hq
    · rcases (mem _).mp hq with hq | hq
      · simp only [Prod.mk.injEq] at hq
        obtain ⟨h1, h2⟩ := hq
        refine .inr ⟨a', l', by rw [h1]; exact hf, by omega⟩
      · exact .inl hq
    · exact .inr hq
  · rcases h.zero with ⟨k, hk⟩ | hz
    · rcases (mem _).mp hk with hk | hk
      · simp only [Prod.mk.injEq] at hk
        obtain ⟨h1, h2⟩ := hk
        subst h1
        rw [Nat.zero_mod] at hf
        exact .inr ⟨l', by rw [hf, show a' = 0 by omega]⟩
      · exact .inl ⟨k, hk⟩
    · exact .inr hz
theorem J.take (h : J cs m F Q) (h0 : 0 < m) (e : popH ltN Q = some ((a, l), Q')) (hf : F[a % m]? = some none) : J cs m (F.set (a % m) (some (a, l))) (pushes cs a Q' cs.length) := by
  have pm := popH_perm ltN e
  have mem : ∀ q, q ∈ Q ↔ q = (a, l) ∨ q ∈ Q' := fun q => by rw [← pm.mem_iff, List.mem_cons]
  have hlt : a % m < F.length := by rw [h.len]; exact Nat.mod_lt _ h0
  -- the popped one is least
  have hmin : ∀ q ∈ Q', a ≤ q.1 := by
    intro q hq
    cases Q with
    | nil => simp [popH] at e
    | cons x r =>
      have hx : x = (a, l) := by
        unfold popH at e
        split at e
        · cases e
        · rename_i y r' hy
          cases hy
          split at e <;> cases e <;> rfl
      have := heap_min ltN_ord ltN_irr h.heap q ((mem q).mpr (.inr hq))
      rw [hx] at this
      exact ltN_le this
  have same : ∀ r b k : Nat, F[r]? = some (some (b, k)) → (F.set (a % m) (some (a, l)))[r]? = some (some (b, k)) := by
    intro r b k hr
    rw [List.getElem?_set]
    by_cases q : a % m = r
    · rw [q] at hf; rw [hf] at hr; cases hr
    · rw [if_neg q]; exact hr
  have here : (F.set (a % m) (some (a, l)))[a % m]? = some (some (a, l)) := by rw [List.getElem?_set, if_pos rfl, if_pos hlt]
  have back : ∀ r b k : Nat, (F.set (a % m) (some (a, l)))[r]? = some (some (b, k)) → (r = a % m ∧ b = a ∧ k = l) ∨ F[r]? = some (some (b, k)) := by
    intro r b k hr
    rw [List.getElem?_set] at hr
    by_cases q : a % m = r
    · rw [if_pos q, if_pos hlt] at hr
      cases hr
      exact .inl ⟨q.symm, rfl, rfl⟩
    · rw [if_neg q] at hr; exact .inr hr
  have getc : ∀ i, i < cs.length → cs[i]? = some (cs.getD i 0) := fun i hi => by rw [List.getElem?_eq_getElem hi, List.getD_eq_getElem?_getD, List.getElem?_eq_getElem hi]; rfl
  refine ⟨by rw [List.length_set]; exact h.len, pushes_heap (popH_heap ltN_ord h.heap e) _, fun q hq => ?_, fun r b k hr => ?_, fun r b k hr q hq => ?_, fun r b k hr i c hc => ?_, ?_⟩
  · rcases pushes_mem.mp hq with hq | ⟨i, hi, rfl⟩
    · rcases h.que q ((mem q).mpr (.inr hq)) with z | ⟨c, b, l', h1, h2, h3⟩
      · exact .inl z
      · exact .inr ⟨c, b, l', h1, same _ _ _ h2, h3⟩
    · exact .inr ⟨_, a, l, getc i hi, here, rfl⟩
  · rcases back r b k hr with ⟨rfl, rfl, rfl⟩ | hr
    · refine ⟨rfl, ?_⟩
      rcases h.que (b, k) ((mem _).mpr (.inl rfl)) with z | ⟨c, b', l', h1, h2, h3⟩
      · exact .inl z
      · exact .inr ⟨c, b', l', h1, same _ _ _ h2, h3⟩
    · obtain ⟨h1, h2⟩ := h.own r b k hr
      refine ⟨h1, ?_⟩
      rcases h2 with z | ⟨c, b', l', h3, h4, h5⟩
      · exact .inl z
      · exact .inr ⟨c, b', l', h3, same _ _ _ h4, h5⟩
  · have hb : b ≤ a := by
      rcases back r b k hr with ⟨_, rfl, _⟩ | hr
      · exact Nat.le_refl _
      · exact h.mono r b k hr (a, l) ((mem _).mpr (.inl rfl))
    rcases pushes_mem.mp hq with hq | ⟨i, hi, rfl⟩
    · exact Nat.le_trans hb (hmin q hq)
    · show b ≤ a + _
      omega
  · rcases back r b k hr with ⟨_, rfl, rfl⟩ | hr
    · refine .inl (pushes_mem.mpr (.inr ⟨i, (List.getElem?_eq_some_iff.mp hc).1, ?_⟩))
      have := getc i (List.getElem?_eq_some_iff.mp hc).1
      rw [hc] at this
      cases this
      rfl
    · rcases h.done r b k hr i c hc with hq | ⟨a', l', h1, h2⟩
      · rcases (mem _).mp hq with hq | hq
        · simp only [Prod.mk.injEq] at hq
          obtain ⟨h1, h2⟩ := hq
          exact .inr ⟨a, l, by rw [h1]; exact here, by omega⟩
        · exact .inl (pushes_mem.mpr (.inl hq))
      · exact .inr ⟨a', l', same _ _ _ h1, h2⟩
  · rcases h.zero with ⟨k, hk⟩ | ⟨k, hk⟩
    · rcases (mem _).mp hk with hk | hk
      · simp only [Prod.mk.injEq] at hk
        obtain ⟨h1, h2⟩ := hk
        subst h1
        rw [Nat.zero_mod] at here ⊢
        exact .inr ⟨l, here⟩
      · exact .inl ⟨k, pushes_mem.mpr (.inl hk)⟩
    · exact .inr ⟨k, same _ _ _ hk⟩
/-- what falls -/
def mea (cs : List Nat) (F : List (Option (Nat × Nat))) (Q : List (Nat × Nat)) : Nat := Q.length + cs.length * F.countP Option.isNone
theorem mea_skip (e : popH ltN Q = some ((a, l), Q')) : mea cs F Q' < mea cs F Q := by
  have := (popH_perm ltN e).length_eq
  simp only [List.length_cons] at this
  unfold mea
  omega
theorem countP_set : ∀ {F : List (Option (Nat × Nat))} {i : Nat} {p : Nat × Nat}, F[i]? = some none → (F.set i (some p)).countP Option.isNone + 1 = F.countP Option.isNone
  | [], _, _, h => by simp at h
  | e :: F, 0, p, h => by
    simp at h
    subst h
    simp
  | e :: F, i + 1, p, h => by
    simp only [List.set_cons_succ, List.countP_cons]
    have := countP_set (F := F) (i := i) (p := p) (by simpa using h)
    omega
theorem mea_take (e : popH ltN Q = some ((a, l), Q')) (hf : F[a % m]? = some none) : mea cs (F.set (a % m) (some (a, l))) (pushes cs a Q' cs.length) < mea cs F Q := by
  have h1 := (popH_perm ltN e).length_eq
  simp only [List.length_cons] at h1
  have h2 := countP_set (p := (a, l)) hf
  unfold mea
  rw [pushes_len, ← h2, Nat.mul_succ]
  omega
end
end K32

/-! Pr32 -/
set_option linter.all false
set_option maxRecDepth 100000
namespace K32
open Ev
/-- _law_row(_law_cell_here, _law_sizes) -/
def b__law_row : Ss :=
  (ss [.set true 2 (.lst (es [])),
  .set false 3 (.bin .sub (.var 0) (.bin .pow (.int 10) (.int 18))),
  .for_ (.nm 4) (.rg1 (.bi .len (es [(.var 1)]))) (ss [.ifs (.cmp .ge (.var 0) (.bin .pow (.int 10) (.int 18))) (ss [.app 2 .nil (.bin .mod (.bi .int (es [(.var 3)])) (.idx (.var 1) (.var 4))),
      .set false 3 (.bin .fdv (.var 3) (.idx (.var 1) (.var 4)))]) (ss [.set false 5 (.bin .mod (.bi .int (es [(.bin .add (.bin .add (.var 0) (.bin .mul (.int 7919) (.var 4))) (.int 13))])) (.int 2147483647)),
      .set false 5 (.bin .mod (.bi .int (es [(.bin .mul (.var 5) (.bin .add (.var 5) (.int 48271)))])) (.int 2147483629)),
      .set false 5 (.bin .mod (.bi .int (es [(.bin .add (.bin .mul (.var 5) (.bin .add (.var 5) (.int 69621))) (.bin .mul (.int 31) (.var 4)))])) (.int 2147483647)),
      .app 2 .nil (.bin .mod (.bi .int (es [(.bin .fdv (.var 5) (.int 9))])) (.idx (.var 1) (.var 4)))])]),
  .ret (.var 2)])
def f__law_row : FnD := ⟨2, 6, [], b__law_row⟩
/-- _law_coins(_law_one, _law_two) -/
def b__law_coins : Ss :=
  (ss [.set false 2 (.call 0 (es [(.var 0), (.lst (es [(.int 6), (.int 20), (.int 20), (.int 20), (.int 20), (.int 20), (.int 20)]))]) []),
  .set false 3 (.call 0 (es [(.var 1), (.lst (es [(.int 6), (.int 6), (.int 60), (.int 6), (.int 6), (.int 6), (.int 6)]))]) []),
  .set true 4 (.lc [6] (.nm 6) (.rg1 (.bin .add (.int 1) (.idx (.var 2) (.int 0)))) .no (.bin .add (.int 1) (.idx (.var 2) (.bin .add (.int 1) (.var 6))))),
  .ifs (.cmp .eq (.idx (.var 3) (.int 0)) (.int 0)) (ss [.sto 4 .nil (.bin .mod (.bi .int (es [(.idx (.var 3) (.int 1))])) (.bi .len (es [(.var 4)]))) (.bin .add (.int 1) (.idx (.var 3) (.int 2)))]) (ss []),
  .ifs (.cmp .eq (.idx (.var 3) (.int 0)) (.int 1)) (ss [.sto 4 .nil (.bin .mod (.bi .int (es [(.idx (.var 3) (.int 3))])) (.bi .len (es [(.var 4)]))) (.idx (.var 4) (.bin .mod (.bi .int (es [(.idx (.var 3) (.int 4))])) (.bi .len (es [(.var 4)]))))]) (ss []),
  .frz 4,
  .set false 5 (.idx (.lst (es [(.int 1), (.int 1), (.int 1), (.int 2), (.int 3), (.int 4)])) (.idx (.var 3) (.int 5))),
  .ret (.tup (es [(.lc [7] (.nm 7) (.ex (.var 4)) .no (.bin .mul (.var 7) (.var 5))), (.cmp .lt (.idx (.var 3) (.int 6)) (.int 2))]))])
def f__law_coins : FnD := ⟨2, 8, [], b__law_coins⟩
/-- _law_measure(_law_coins_here) -/
def b__law_measure : Ss :=
  (ss [.set false 1 (.int 1),
  .for_ (.nm 2) (.rg2 (.int 2) (.int 241)) (ss [.ifs (.bi .all (es [(.lc [3] (.nm 3) (.ex (.var 0)) .no (.cmp .eq (.bin .mod (.bi .int (es [(.var 3)])) (.var 2)) (.int 0)))])) (ss [.set false 1 (.var 2)]) (ss [])]),
  .ret (.var 1)])
def f__law_measure : FnD := ⟨1, 4, [], b__law_measure⟩
/-- _law_payable(_law_units) -/
def b__law_payable : Ss :=
  (ss [.set true 1 (.lst (es [(.bl true)])),
  .for_ (.nm 2) (.rg2 (.int 1) (.bin .add (.bin .mul (.bi .min (es [(.var 0)])) (.bi .max (es [(.var 0)]))) (.int 1))) (ss [.app 1 .nil (.bi .any (es [(.lc [3] (.nm 3) (.ex (.var 0)) (.so (.cmp .le (.var 3) (.var 2))) (.idx (.var 1) (.bin .sub (.var 2) (.var 3))))]))]),
  .ret (.var 1)])
def f__law_payable : FnD := ⟨1, 4, [], b__law_payable⟩
/-- _law_handed(_law_coins_here, _law_loose) -/
def b__law_handed : Ss :=
  (ss [.ifs (.var 1) (ss [.ret (.bi .tuple (es [(.var 0)]))]) (ss []),
  .ret (.bi .list (es [(.var 0)]))])
def f__law_handed : FnD := ⟨2, 2, [], b__law_handed⟩
/-- _law_cell(_law_script, _law_k) -/
def b__law_cell : Ss :=
  (ss [.ifs (.cmp .lt (.var 1) (.bi .len (es [(.var 0)]))) (ss [.ret (.idx (.var 0) (.var 1))]) (ss []),
  .ret (.int 0)])
def f__law_cell : FnD := ⟨2, 2, [], b__law_cell⟩
/-- common_measure(numbers) -/
def b_common_measure : Ss :=
  (ss [.set false 1 (.int 0),
  .for_ (.nm 2) (.ex (.var 0)) (ss [.set false 1 (.bi .gcd (es [(.var 1), (.var 2)]))]),
  .ret (.var 1)])
def f_common_measure : FnD := ⟨1, 3, [], b_common_measure⟩
/-- _least_sums(coins) -/
def b__least_sums : Ss :=
  (ss [.set true 1 (.bin .mul (.lst (es [.non])) (.bi .min (es [(.var 0)]))),
  .set true 2 (.lst (es [(.tup (es [(.int 0), (.int 0)]))])),
  .whl 1099511627776 (.cmp .gt (.bi .len (es [(.var 2)])) (.int 0)) (ss [.hpop (.tp (tgs [(.nm 3), (.nm 4)])) 2 .nil,
    .ifs (.cmp .is (.idx (.var 1) (.bin .mod (.var 3) (.bi .len (es [(.var 1)])))) .non) (ss [.sto 1 .nil (.bin .mod (.var 3) (.bi .len (es [(.var 1)]))) (.tup (es [(.var 3), (.var 4)])),
      .for_ (.nm 5) (.rg1 (.bi .len (es [(.var 0)]))) (ss [.hpush 2 .nil (.tup (es [(.bin .add (.var 3) (.idx (.var 0) (.var 5))), (.var 5)]))])]) (ss [])]),
  .ret (.var 1)])
def f__least_sums : FnD := ⟨1, 6, [], b__least_sums⟩
/-- sure_amount(coins) -/
def b_sure_amount : Ss :=
  (ss [.set false 1 (.lc [2] (.nm 2) (.ex (.call 7 (es [(.var 0)]) [])) (.so (.cmp .isn (.var 2) .non)) (.idx (.var 2) (.int 0))),
  .ret (.bin .add (.bin .sub (.bi .max (es [(.var 1)])) (.bi .min (es [(.var 0)]))) (.call 6 (es [(.var 0)]) []))])
def f_sure_amount : FnD := ⟨1, 3, [], b_sure_amount⟩
/-- pay(coins, amount) -/
def b_pay : Ss :=
  (ss [.set false 2 (.bi .min (es [(.var 0)])),
  .set false 3 (.call 7 (es [(.var 0)]) []),
  .set false 4 (.idx (.var 3) (.bin .mod (.var 1) (.var 2))),
  .ifs (.or_ (.cmp .is (.var 4) .non) (.cmp .gt (.idx (.var 4) (.int 0)) (.var 1))) (ss [.ret .non]) (ss []),
  .set true 5 (.bin .mul (.lst (es [(.int 0)])) (.bi .len (es [(.var 0)]))),
  .sto 5 .nil (.mt .index (.var 0) (es [(.var 2)])) (.bin .fdv (.bin .sub (.var 1) (.idx (.var 4) (.int 0))) (.var 2)),
  .set false 6 (.idx (.var 4) (.int 0)),
  .whl 1099511627776 (.cmp .gt (.var 6) (.int 0)) (ss [.set false 7 (.idx (.idx (.var 3) (.bin .mod (.var 6) (.var 2))) (.int 1)),
    .adto .add 5 .nil (.var 7) (.int 1),
    .aug .sub 6 (.idx (.var 0) (.var 7))]),
  .ret (.var 5)])
def f_pay : FnD := ⟨2, 8, [], b_pay⟩
/-- _law_is_integer(_law_actual) -/
def b__law_is_integer : Ss :=
  (ss [.ret (.and_ (.isi (.var 0) .int) (.not_ (.isi (.var 0) .bool)))])
def f__law_is_integer : FnD := ⟨1, 1, [], b__law_is_integer⟩
/-- _law_integers(_law_actual) -/
def b__law_integers : Ss :=
  (ss [.ifs (.not_ (.isi (.var 0) .list)) (ss [.ret (.bl false)]) (ss []),
  .ret (.bi .all (es [(.lc [1] (.nm 1) (.ex (.var 0)) .no (.call 10 (es [(.var 1)]) []))]))])
def f__law_integers : FnD := ⟨1, 2, [], b__law_integers⟩
/-- _law_pays(_law_coins_here, _law_loose, _law_amount, _law_payable_here) -/
def b__law_pays : Ss :=
  (ss [.set false 4 (.call 4 (es [(.var 0), (.var 1)]) []),
  .for_ (.nm 5) (.rg1 (.int 2)) (ss [.set true 6 (.call 9 (es [(.var 4), (.var 2)]) []),
    .ifs (.var 3) (ss [.ifs (.or_ (.not_ (.callb 11 (es [(.var 6)]) [])) (.cmp .ne (.bi .len (es [(.var 6)])) (.bi .len (es [(.var 0)])))) (ss [.ret (.bl false)]) (ss []),
      .ifs (.or_ (.cmp .lt (.bi .min (es [(.var 6)])) (.int 0)) (.cmp .ne (.bi .sum (es [(.lc [7] (.nm 7) (.rg1 (.bi .len (es [(.var 0)]))) .no (.bin .mul (.idx (.var 6) (.var 7)) (.idx (.var 0) (.var 7))))])) (.var 2))) (ss [.ret (.bl false)]) (ss []),
      .app 6 .nil (.int 1)]) (ss []),
    .frz 6,
    .ifs (.and_ (.not_ (.var 3)) (.cmp .isn (.var 6) .non)) (ss [.ret (.bl false)]) (ss [])]),
  .ret (.cmp .eq (.bi .list (es [(.var 4)])) (.var 0))])
def f__law_pays : FnD := ⟨4, 8, [], b__law_pays⟩
/-- law(_law_script) -/
def b_law : Ss :=
  (ss [.set false 1 (.call 1 (es [(.call 5 (es [(.var 0), (.int 0)]) []), (.call 5 (es [(.var 0), (.int 1)]) [])]) []),
  .set false 2 (.idx (.var 1) (.int 0)),
  .set false 3 (.call 2 (es [(.var 2)]) []),
  .set false 4 (.call 3 (es [(.lc [14] (.nm 14) (.ex (.var 2)) .no (.bin .fdv (.var 14) (.var 3)))]) []),
  .set false 5 (.int 0),
  .for_ (.nm 6) (.rg1 (.bi .len (es [(.var 4)]))) (ss [.ifs (.not_ (.idx (.var 4) (.var 6))) (ss [.set false 5 (.bin .mul (.bin .add (.var 6) (.int 1)) (.var 3))]) (ss [])]),
  .set false 7 (.call 4 (es [(.var 2), (.idx (.var 1) (.int 1))]) []),
  .for_ (.nm 8) (.rg1 (.int 2)) (ss [.set false 12 (.call 8 (es [(.var 7)]) []),
    .ifs (.or_ (.not_ (.call 10 (es [(.var 12)]) [])) (.cmp .ne (.var 12) (.var 5))) (ss [.ret (.bl false)]) (ss [])]),
  .set false 9 (.call 0 (es [(.call 5 (es [(.var 0), (.int 2)]) []), (.lst (es [(.int 401), (.int 60), (.int 8), (.int 100)]))]) []),
  .set true 10 (.lst (es [(.int 0), (.idx (.var 9) (.int 0)), (.var 5), (.bin .add (.var 5) (.idx (.var 9) (.int 1))), (.bi .max2 (es [(.int 0), (.bin .sub (.var 5) (.var 3))])), (.bin .add (.var 5) (.var 3)), (.bin .add (.var 5) (.int 1))])),
  .ifs (.cmp .eq (.idx (.var 9) (.int 2)) (.int 0)) (ss [.app 10 .nil (.bin .add (.int 3000) (.idx (.var 9) (.int 3)))]) (ss []),
  .frz 10,
  .for_ (.nm 11) (.ex (.var 10)) (ss [.set false 13 (.cmp .eq (.bin .mod (.bi .int (es [(.var 11)])) (.var 3)) (.int 0)),
    .ifs (.and_ (.var 13) (.cmp .lt (.bin .fdv (.var 11) (.var 3)) (.bi .len (es [(.var 4)])))) (ss [.set false 13 (.idx (.var 4) (.bin .fdv (.var 11) (.var 3)))]) (ss []),
    .ifs (.not_ (.call 12 (es [(.var 2), (.idx (.var 1) (.int 1)), (.var 11), (.var 13)]) [])) (ss [.ret (.bl false)]) (ss [])]),
  .ret (.cmp .eq (.bi .list (es [(.var 7)])) (.var 2))])
def f_law : FnD := ⟨1, 15, [], b_law⟩
def fns : List FnD := [f__law_row, f__law_coins, f__law_measure, f__law_payable, f__law_handed, f__law_cell, f_common_measure, f__least_sums, f_sure_amount, f_pay, f__law_is_integer, f__law_integers, f__law_pays, f_law]
def prog : Prog := ⟨fns, fun c => 0, fun _ _ => false⟩
end K32

/-! P32r -/
set_option linter.all false
set_option maxRecDepth 100000
namespace K32
open Ev Pu Hl
open PySem (Str)
/-- coins as data -/
def hd (x : Bool) (cs : List Nat) : D := if x then .tup true (nD cs) else .lst (nD cs)
def qO (q : Nat × Nat) : O := .fz (.tup false [.int (q.1 : Nat), .int (q.2 : Nat)])
def fO : Option (Nat × Nat) → O
  | none => .fz .non
  | some q => qO q
theorem qO_lt (a b : Nat × Nat) : ltO (qO a) (qO b) = ltN a b := by
  simp only [ltO, qO, keyO, ltP, ltN, Int.ofNat_lt, Int.natCast_inj]
theorem qO_key (Q : List (Nat × Nat)) : (Q.map qO).all (fun o => (keyO o).isSome) = true := by
  rw [List.all_eq_true]
  intro o ho
  obtain ⟨q, _, rfl⟩ := List.mem_map.mp ho
  rfl
theorem len_hd (x : Bool) (cs : List Nat) : biO .len [.fz (hd x cs)] = some (.fz (.int cs.length)) := by
  cases x
  · show biO .len [.fz (.lst (nD cs))] = _; rw [len_lst, nD_len]
  · show biO .len [.fz (.tup true (nD cs))] = _; rw [len_tup, nD_len]
theorem idx_hd (x : Bool) (cs : List Nat) (i : Nat) : idxO (.fz (hd x cs)) (i : Int) = (cs[i]?).map fun c => .fz (.int ((c : Nat) : Int)) := by
  cases x
  · show idxO (.fz (.lst (nD cs))) _ = _; rw [idx_lst, atI_nat, nD_get]; cases cs[i]? <;> rfl
  · show idxO (.fz (.tup true (nD cs))) _ = _; rw [idx_tup, atI_nat, nD_get]; cases cs[i]? <;> rfl
/-- a least coin -/
structure Min (cs : List Nat) (m : Nat) : Prop where
  mem : m ∈ cs
  le : ∀ c ∈ cs, m ≤ c
theorem min_hd {cs : List Nat} {m : Nat} (x : Bool) (h : Min cs m) : biO .min [.fz (hd x cs)] = some (.fz (.int m)) := by
  have hn : nI cs ≠ [] := by
    intro e
    have : cs = [] := by simpa [nI] using e
    rw [this] at h
    cases h.mem
  have key : minL (nI cs) = m := by
    obtain ⟨h1, h2⟩ := minL_mem hn
    obtain ⟨c, hc, e⟩ := List.mem_map.mp h1
    have h3 := h2 (m : Int) (List.mem_map.mpr ⟨m, h.mem, rfl⟩)
    have h4 := h.le c hc
    omega
  cases x
  · show biO .min [.fz (.lst ((nI cs).map D.int))] = _; rw [min_lst hn, key]
  · show biO .min [.fz (.tup true ((nI cs).map D.int))] = _; rw [min_tup hn, key]
theorem rds_F : ∀ F : List (Option (Nat × Nat)), rds (F.map fO) = some (F.map fun e => match e with
    | none => D.non
    | some q => .tup false [.int (q.1 : Nat), .int (q.2 : Nat)])
  | [] => by simp only [List.map, rds]
  | none :: F => by simp only [List.map, fO, rds, O.rd, rds_F F]
  | some q :: F => by simp only [List.map, fO, qO, rds, O.rd, rds_F F]
theorem cs_get {cs : List Nat} {i : Nat} (h : i < cs.length) : cs[i]? = some (cs.getD i 0) := by
  rw [List.getElem?_eq_getElem h, List.getD_eq_getElem?_getD, List.getElem?_eq_getElem h]; rfl
def lsBody : Ss := ss [.hpop (.tp (tgs [(.nm 3), (.nm 4)])) 2 .nil,
    .ifs (.cmp .is (.idx (.var 1) (.bin .mod (.var 3) (.bi .len (es [(.var 1)])))) .non) (ss [.sto 1 .nil (.bin .mod (.var 3) (.bi .len (es [(.var 1)]))) (.tup (es [(.var 3), (.var 4)])),
      .for_ (.nm 5) (.rg1 (.bi .len (es [(.var 0)]))) (ss [.hpush 2 .nil (.tup (es [(.bin .add (.var 3) (.idx (.var 0) (.var 5))), (.var 5)]))])]) (ss [])]
theorem push_loop (cf ini sb) {cs : List Nat} (x : Bool) (hl : cs.length ≤ 100) (Q' : List (Nat × Nat)) (a l : Nat) (o1 x5 : O) (hq : Q'.length + 100 < sizeMax) :
    ∃ x5', forT (forF cf ini sb [] (.nm 5) (ss [.hpush 2 .nil (.tup (es [(.bin .add (.var 3) (.idx (.var 0) (.var 5))), (.var 5)]))])) (rangeD 0 (cs.length : Int)) [.fz (hd x cs), o1, .l (Q'.map qO), .fz (.int a), .fz (.int l), x5] = .nx [.fz (hd x cs), o1, .l ((pushes cs a Q' cs.length).map qO), .fz (.int a), .fz (.int l), x5'] := by
  rw [range_nat]
  have hs : ∀ k env (_ : k < ((List.range cs.length).map fun k => D.int (k : Nat)).length), (∃ x5', env = [.fz (hd x cs), o1, .l ((pushes cs a Q' k).map qO), .fz (.int a), .fz (.int l), x5']) → ∃ env', forF cf ini sb [] (.nm 5) (ss [.hpush 2 .nil (.tup (es [(.bin .add (.var 3) (.idx (.var 0) (.var 5))), (.var 5)]))]) ((List.range cs.length).map fun k => D.int (k : Nat))[k] env = .nx env' ∧ ∃ x5', env' = [.fz (hd x cs), o1, .l ((pushes cs a Q' (k + 1)).map qO), .fz (.int a), .fz (.int l), x5'] := by
    rintro k env hk ⟨x5', rfl⟩
    simp only [List.length_map, List.length_range] at hk
    refine ⟨_, ?_, ⟨.fz (.int k), rfl⟩⟩
    have e1 : mkT [O.fz (D.int ((a : Int) + (cs.getD k 0 : Nat))), O.fz (D.int (k : Nat))] = .ok (.tm (qO (a + cs.getD k 0, k))) := by
      rw [mkT_fz rfl (by simp [sizeMax])]; simp only [qO]; rfl
    have e2 : decide (((pushes cs a Q' k).map qO).length < sizeMax ∧ (((pushes cs a Q' k).map qO) ++ [qO (a + cs.getD k 0, k)]).all (fun o => (keyO o).isSome) = true) = true := by
      refine decide_eq_true ⟨?_, ?_⟩
      · rw [List.length_map, pushes_len]; omega
      · rw [show ((pushes cs a Q' k).map qO) ++ [qO (a + cs.getD k 0, k)] = ((pushes cs a Q' k) ++ [(a + cs.getD k 0, k)]).map qO by simp]
        exact qO_key _
    have e3 : pushH ltO ((pushes cs a Q' k).map qO) (qO (a + cs.getD k 0, k)) = (pushes cs a Q' (k+1)).map qO := pushH_map (lt := ltN) (f := qO) fun x _ y _ => qO_lt x y
    have e4 : idxO (O.fz (hd x cs)) (k : Int) = some (.fz (.int (cs.getD k 0 : Nat))) := by rw [idx_hd, cs_get hk]; rfl
    simp only [List.getElem_map, List.getElem_range]
    rw [forF_eq (env' := [.fz (hd x cs), o1, .l ((pushes cs a Q' k).map qO), .fz (.int a), .fz (.int l), .fz (.int k)]) _ _ _ _ (by simp only [setTg]; rfl)]
    (k_with "evs" => simp only [e1, e2, e3, e4])
  obtain ⟨env', h1, h2⟩ := forT_inv (fun k env => ∃ x5', env = [.fz (hd x cs), o1, .l ((pushes cs a Q' k).map qO), .fz (.int a), .fz (.int l), x5']) (env := [.fz (hd x cs), o1, .l (Q'.map qO), .fz (.int a), .fz (.int l), x5]) ⟨x5, rfl⟩ hs
  rw [List.length_map, List.length_range] at h2
  obtain ⟨x5', rfl⟩ := h2
  exact ⟨x5', h1⟩
theorem mea_ge (cs : List Nat) (F : List (Option (Nat × Nat))) (Q : List (Nat × Nat)) : Q.length ≤ mea cs F Q := by unfold mea; omega
theorem ls_turn (cf ini sb) {cs : List Nat} {m : Nat} (x : Bool) (h0 : 0 < m) (hl : cs.length ≤ 100) {F : List (Option (Nat × Nat))} {Q : List (Nat × Nat)} (hJ : J cs m F Q) (hne : Q ≠ []) (hb : mea cs F Q < 1000000) (x3 x4 x5 : O) :
    ∃ F' Q' y3 y4 y5, J cs m F' Q' ∧ mea cs F' Q' < mea cs F Q ∧ exs cf ini sb [] lsBody [.fz (hd x cs), .l (F.map fO), .l (Q.map qO), x3, x4, x5] = .nx [.fz (hd x cs), .l (F'.map fO), .l (Q'.map qO), y3, y4, y5] := by
  obtain ⟨⟨a, l⟩, Q', hp⟩ : ∃ q Q', popH ltN Q = some (q, Q') := by
    cases Q with
    | nil => exact absurd rfl hne
    | cons q r => simp only [popH]; split <;> exact ⟨_, _, rfl⟩
  have hpo : popH ltO (Q.map qO) = some (.fz (.tup false [.int (a : Nat), .int (l : Nat)]), Q'.map qO) := by
    rw [popH_map (lt := ltN) (f := qO) fun x _ y _ => qO_lt x y, hp]; rfl
  have hlen : ((F.map fO).length : Int) = (m : Int) := by rw [List.length_map, hJ.len]
  have hlenN : (F.map fO).length = m := by rw [List.length_map, hJ.len]
  have hmp : (0 : Int) < ((F.map fO).length : Int) := by rw [hlen]; omega
  have hmod : (a : Int) % ((F.map fO).length : Int) = ((a % m : Nat) : Int) := by rw [hlen]; rfl
  have hlt : a % m < F.length := by rw [hJ.len]; exact Nat.mod_lt _ h0
  have hQl := (popH_perm ltN hp).length_eq
  simp only [List.length_cons] at hQl
  have hge := mea_ge cs F Q
  have hsz : sizeMax = 16777216 := rfl
  cases hf : F[a % m]? with
  | none => rw [List.getElem?_eq_none_iff] at hf; omega
  | some e =>
    have hg : (F.map fO)[a % m]? = some (fO e) := by rw [List.getElem?_map, hf]; rfl
    cases e with
    | some p =>
      refine ⟨F, Q', .fz (.int a), .fz (.int l), x5, hJ.skip hp hf, mea_skip hp, ?_⟩
      have e1 : cmpO .is (fO (some p)) (.fz .non) = some false := cmp_is (d := .tup false [.int p.1, .int p.2]) (by simp only [fO, qO, rd_fz])
      have hlk : look (fO (some p)) = .tm (fO (some p)) := rfl
      simp only [lsBody]
      (k_with "evs" => simp only [popR_eq _ hpo (qO_key Q), bin_mod hmp, hmod, hg, e1, hlk])
    | none =>
      obtain ⟨x5', hpl⟩ := push_loop cf ini sb x hl Q' a l (.l ((F.set (a % m) (some (a, l))).map fO)) x5 (by omega)
      refine ⟨_, _, .fz (.int a), .fz (.int l), x5', hJ.take h0 hp hf, mea_take hp hf, ?_⟩
      have e1 : cmpO .is (fO none) (.fz .non) = some true := cmp_is (d := .non) rfl
      have hlk : look (fO none) = .tm (fO none) := rfl
      have e2 : mkT [O.fz (D.int (a : Nat)), O.fz (D.int (l : Nat))] = .ok (.tm (fO (some (a, l)))) := mkT_fz rfl (by simp [sizeMax])
      have e3 : ixN (F.map fO).length ((a % m : Nat) : Int) = some (a % m) := ixN_nat (by rw [List.length_map]; exact hlt)
      have e4 : (F.map fO).set (a % m) (fO (some (a, l))) = (F.set (a % m) (some (a, l))).map fO := by rw [List.map_set]
      have e5 : near (cs.length : Int) = true := near_ok (by omega)
      simp only [ss_cons, ss_nil, es_cons, es_nil] at hpl
      simp only [lsBody]
      (k_with "evs" => simp only [popR_eq _ hpo (qO_key Q), bin_mod hmp, hmod, hg, e1, hlk, e2, e3, e4, e5, len_hd, if_true, hpl])
theorem least_ok (k : Nat) {cs : List Nat} {m : Nat} (x : Bool) (hm : Min cs m) (h0 : 0 < m) (hM : m ≤ 1000) (hl : cs.length ≤ 100) : ∃ F, LS cs m F ∧ callD prog (k+1) 7 [.fz (hd x cs)] = .ok (.l (F.map fO)) [] := by
  rw [call_eq (fd := f__least_sums) rfl rfl rfl]
  show ∃ F, _ ∧ fin [] (exs _ _ _ [] b__least_sums [.fz (hd x cs), .dead, .dead, .dead, .dead, .dead]) = _
  have hms : m ≤ sizeMax := Nat.le_trans hM (by decide)
  have e2 : mkL [O.fz (D.tup false [D.int 0, D.int 0])] = .ok (.tm (.l [O.fz (D.tup false [D.int 0, D.int 0])])) := mkL_ok (by decide)
  have e3 : mkL [O.fz .non] = .ok (.tm (.l [O.fz .non])) := mkL_ok (by decide)
  have e4 : mkT [O.fz (D.int 0), O.fz (D.int 0)] = .ok (.tm (.fz (.tup false [D.int 0, D.int 0]))) := mkT_fz rfl (by decide)
  have hrep : (List.replicate m D.non).map O.fz = (List.replicate m (none : Option (Nat × Nat))).map fO := by simp [fO]
  have h1 : mea cs (List.replicate m none) [(0, 0)] < 1000000 := by
    unfold mea
    have : (List.replicate m (none : Option (Nat × Nat))).countP Option.isNone ≤ m := by
      have := List.countP_le_length (p := Option.isNone) (l := List.replicate m (none : Option (Nat × Nat)))
      simpa using this
    have h3 : cs.length * (List.replicate m (none : Option (Nat × Nat))).countP Option.isNone ≤ 100 * 1000 := Nat.mul_le_mul hl (by omega)
    simp only [List.length_singleton]
    omega
  have hs : ∀ mm env, (∃ F Q x3 x4 x5, J cs m F Q ∧ mm = mea cs F Q ∧ mea cs F Q < 1000000 ∧ env = [.fz (hd x cs), .l (F.map fO), .l (Q.map qO), x3, x4, x5]) →
      ((bnd (ev (callD prog k) prog.ini (.cmp .gt (.bi .len (es [(.var 2)])) (.int 0)) env) fun x => R.of (asBl x.o)) = .ok false ∧ ∃ F y2 y3 y4 y5, J cs m F [] ∧ env = [.fz (hd x cs), .l (F.map fO), y2, y3, y4, y5]) ∨
      ((bnd (ev (callD prog k) prog.ini (.cmp .gt (.bi .len (es [(.var 2)])) (.int 0)) env) fun x => R.of (asBl x.o)) = .ok true ∧ ∃ m' env', m' < mm ∧ exs (callD prog k) prog.ini prog.sb [] lsBody env = .nx env' ∧ (∃ F Q x3 x4 x5, J cs m F Q ∧ m' = mea cs F Q ∧ mea cs F Q < 1000000 ∧ env' = [.fz (hd x cs), .l (F.map fO), .l (Q.map qO), x3, x4, x5])) := by
    rintro mm env ⟨F, Q, x3, x4, x5, hJ, rfl, hlt, rfl⟩
    by_cases hq : Q = []
    · subst hq
      refine .inl ⟨?_, F, _, x3, x4, x5, hJ, rfl⟩
      (walk_at "evs")
      simp
    · obtain ⟨F', Q', y3, y4, y5, hJ', hlt', hr⟩ := ls_turn (callD prog k) prog.ini prog.sb x h0 hl hJ hq hlt x3 x4 x5
      refine .inr ⟨?_, _, _, hlt', hr, F', Q', y3, y4, y5, hJ', rfl, by omega, rfl⟩
      have : 0 < Q.length := List.length_pos_iff.mpr hq
      (walk_at "evs")
      rw [List.length_map]
      congr 1
      exact decide_eq_true (by omega)
  obtain ⟨env', hw, F, y2, y3, y4, y5, hJ, rfl⟩ := whlT_inv _ _ hs _ 1099511627776 [.fz (hd x cs), .l ((List.replicate m (none : Option (Nat × Nat))).map fO), .l ([(0, 0)].map qO), .dead, .dead, .dead] (by omega) ⟨_, _, .dead, .dead, .dead, J.start h0, rfl, h1, rfl⟩
  refine ⟨F, hJ.fin h0, ?_⟩
  simp only [b__least_sums]
  simp only [lsBody, ss_cons, ss_nil, es_cons, es_nil, tgs_cons, tgs_nil] at hw
  rw [show [(0, 0)].map qO = [O.fz (D.tup false [D.int 0, D.int 0])] from rfl] at hw
  (k_with "evs" => simp only [e2, e3, e4, min_hd x hm, mul_rep hms, hrep])
  k_with "evs at" => simp at hw
  rw [hw]
  (walk_at "evs")
end K32

/-! P32s -/
set_option linter.all false
set_option maxRecDepth 100000
namespace K32
open Ev Pu Hl
open PySem (Str)
theorem nD_eq (xs : List Nat) : nD xs = xs.map fun x => D.int ((x : Nat) : Int) := by simp [nD, nI]
theorem walk_hd (lk x : Bool) (cs : List Nat) : walkO lk (.tm (.fz (hd x cs))) = some (nD cs) := by cases x <;> rfl
/-! the measure -/
def gcdL (cs : List Nat) : Nat := cs.foldl Nat.gcd 0
theorem gcdL_app (cs : List Nat) (c : Nat) : gcdL (cs ++ [c]) = Nat.gcd (gcdL cs) c := by simp [gcdL]
theorem gcdL_dvd (cs : List Nat) : (∀ c ∈ cs, gcdL cs ∣ c) ∧ ∀ d, (∀ c ∈ cs, d ∣ c) → d ∣ gcdL cs := by
  suffices H : ∀ (cs : List Nat) (a : Nat), (cs.foldl Nat.gcd a ∣ a ∧ ∀ c ∈ cs, cs.foldl Nat.gcd a ∣ c) ∧ ∀ d, d ∣ a → (∀ c ∈ cs, d ∣ c) → d ∣ cs.foldl Nat.gcd a from
    ⟨(H cs 0).1.2, fun d h => (H cs 0).2 d (Nat.dvd_zero d) h⟩
  intro cs
  induction cs with
  | nil => intro a; simp
  | cons c cs ih =>
    intro a
    obtain ⟨⟨h1, h2⟩, h3⟩ := ih (Nat.gcd a c)
    simp only [List.foldl_cons]
    refine ⟨⟨Nat.dvd_trans h1 (Nat.gcd_dvd_left _ _), fun x hx => ?_⟩, fun d hd hc => h3 d (Nat.dvd_gcd hd (hc c List.mem_cons_self)) fun x hx => hc x (List.mem_cons_of_mem _ hx)⟩
    rcases List.mem_cons.mp hx with rfl | hx
    · exact Nat.dvd_trans h1 (Nat.gcd_dvd_right _ _)
    · exact h2 x hx
theorem measure_ok (k : Nat) (cs : List Nat) (x : Bool) : callD prog (k+1) 6 [.fz (hd x cs)] = .ok (.fz (.int (gcdL cs : Nat))) [] := by
  rw [call_eq (fd := f_common_measure) rfl rfl rfl]
  show fin [] (exs _ _ _ [] b_common_measure [.fz (hd x cs), .dead, .dead]) = _
  obtain ⟨env', h1, x2, rfl⟩ := forT_list (f := forF (callD prog k) prog.ini prog.sb [] (.nm 2) (ss [.set false 1 (.bi .gcd (es [(.var 1), (.var 2)]))])) (fun c : Nat => D.int (c : Int))
    (fun pre env => ∃ x2, env = [.fz (hd x cs), .fz (.int (gcdL pre : Nat)), x2]) (xs := cs) (env := [.fz (hd x cs), .fz (.int 0), .dead]) ⟨.dead, rfl⟩ (by
      rintro pre c post env e ⟨x2, rfl⟩
      (k_with "evs" => simp only [gcd_int, Int.natAbs_natCast])
      exact ⟨_, rfl, _, by rw [gcdL_app]⟩)
  simp only [ss_cons, ss_nil, es_cons, es_nil] at h1
  simp only [b_common_measure]
  (k_with "evs" => simp only [walk_hd, nD_eq, h1])
/-! the sure amount -/
def fD : Option (Nat × Nat) → D
  | none => .non
  | some q => .tup false [.int (q.1 : Nat), .int (q.2 : Nat)]
theorem rds_fO (F : List (Option (Nat × Nat))) : rds (F.map fO) = some (F.map fD) := by
  rw [rds_F]
  congr 2
theorem sums_O (F : List (Option (Nat × Nat))) : (F.filterMap fun e => e.map fun q : Nat × Nat => O.fz (.int (q.1 : Nat))) = (nD (sums F)).map O.fz := by
  rw [nD_eq, sums, List.map_map, List.map_filterMap]
  congr 1
  funext e
  cases e <;> rfl
theorem sums_pos {cs : List Nat} {m : Nat} {F : List (Option (Nat × Nat))} (h : LS cs m F) : ∃ mx, mx ∈ sums F ∧ (∀ a ∈ sums F, a ≤ mx) ∧ maxL (nI (sums F)) = (mx : Nat) ∧ nI (sums F) ≠ [] := by
  obtain ⟨a, l, h1, _⟩ := h.all 0 .z
  have hm : a ∈ sums F := mem_sums.mpr ⟨_, _, h1⟩
  have hne : nI (sums F) ≠ [] := by
    intro e
    have : sums F = [] := by simpa [nI] using e
    rw [this] at hm; cases hm
  obtain ⟨h2, h3⟩ := maxL_mem hne
  obtain ⟨mx, h4, h5⟩ := List.mem_map.mp h2
  refine ⟨mx, h4, fun b hb => ?_, h5.symm, hne⟩
  have := h3 (b : Int) (List.mem_map.mpr ⟨b, hb, rfl⟩)
  omega
/-- what is asked of the sure amount -/
structure Sure (cs : List Nat) (g m M s : Nat) : Prop where
  dvd : g ∣ s
  pay : ∀ b, g ∣ b → s ≤ b → Pay cs b
  not : s = 0 ∨ ∃ u, s = u + g ∧ g ∣ u ∧ ¬ Pay cs u ∧ u ≤ (m / g) * M
theorem sure_ok (k : Nat) {cs : List Nat} {m M : Nat} (x : Bool) (hm : Min cs m) (h0 : 0 < m) (hM : ∀ c ∈ cs, c ≤ M) (hM2 : m ≤ 1000) (hl : cs.length ≤ 100) : ∃ s : Nat, Sure cs (gcdL cs) m M s ∧ callD prog (k+2) 8 [.fz (hd x cs)] = .ok (.fz (.int s)) [] := by
  obtain ⟨F, hF, hrun⟩ := least_ok k x hm h0 hM2 hl
  obtain ⟨mx, hx1, hx2, hx3, hx4⟩ := sums_pos hF
  obtain ⟨hd1, hd2⟩ := gcdL_dvd cs
  obtain ⟨q1, q2, q3, q4, q5⟩ := hF.sure hm.mem hm.le h0 hd1 hd2 hx1 hx2 hM
  have hg0 : 0 < gcdL cs := Nat.pos_of_ne_zero fun e => by
    have := hd1 m hm.mem
    rw [e] at this
    have := Nat.eq_zero_of_zero_dvd this
    omega
  have hgm := hd1 m hm.mem
  have hrun2 : callD prog (k+2) 8 [.fz (hd x cs)] = .ok (.fz (.int ((mx : Int) - (m : Int) + (gcdL cs : Nat)))) [] := by
    rw [call_eq (fd := f_sure_amount) rfl rfl rfl]
    show fin [] (exs _ _ _ [] b_sure_amount [.fz (hd x cs), .dead, .dead]) = _
    have hlc := lc_flist (cf := callD prog (k+1)) (ini := prog.ini) (env := [.fz (hd x cs), .dead, .dead]) (own := [2]) (tg := .nm 2) (c := .so (.cmp .isn (.var 2) .non)) (e := .idx (.var 2) (.int 0)) (xs := F) (g := fD)
      (fun e => e.map fun q : Nat × Nat => O.fz (.int (q.1 : Nat))) (by rw [hF.len]; exact le_size (by omega)) (by
        intro e _
        cases e with
        | none => (k_with "evs" => simp only [fD, cmp_isn (a := .fz .non) (d := .non) rfl, isNon, Bool.not_true, Option.map_none])
        | some q =>
          have h1 : cmpO .isn (.fz (.tup false [.int (q.1 : Nat), .int (q.2 : Nat)])) (.fz .non) = some true := by simp only [cmp_isn (rd_fz _), isNon, Bool.not_false]
          (k_with "evs" => simp only [fD, h1]))
    simp only [b_sure_amount]
    have hmx : biO .max [.fz (.lst (nD (sums F)))] = some (.fz (.int (mx : Nat))) := by rw [← hx3]; exact max_lst hx4
    (k_with "evs" => simp only [hrun, rds_fO, hlc, sums_O, hmx, min_hd x hm, measure_ok])
  by_cases hlt : m < mx
  · refine ⟨mx - m + gcdL cs, ⟨?_, fun b hb hs => q1 b hb (by omega), .inr ⟨mx - m, rfl, Nat.dvd_sub q5 hgm, q2 hlt, ?_⟩⟩, ?_⟩
    · exact Nat.dvd_add (Nat.dvd_sub q5 hgm) (Nat.dvd_refl _)
    · exact Nat.le_trans (Nat.sub_le _ _) (Nat.le_trans q4 (Nat.mul_le_mul_right M (Nat.sub_le _ _)))
    · rw [hrun2]
      congr 3
      omega
  · obtain ⟨e1, e2⟩ := q3 (by omega)
    refine ⟨0, ⟨Nat.dvd_zero _, fun b hb _ => q1 b hb (by omega), .inl rfl⟩, ?_⟩
    rw [hrun2]
    congr 3
    omega
/-! payments -/
def dot : List Nat → List Nat → Nat
  | k :: ks, c :: cs => k * c + dot ks cs
  | _, _ => 0
theorem dot_set : ∀ {ks cs : List Nat} {i k c n : Nat}, ks[i]? = some k → cs[i]? = some c → dot (ks.set i (k + n)) cs = dot ks cs + n * c
  | [], _, _, _, _, _, h, _ => by simp at h
  | _ :: _, [], _, _, _, _, _, h => by simp at h
  | a :: ks, b :: cs, 0, k, c, n, h1, h2 => by
    simp at h1 h2
    subst h1 h2
    simp only [List.set_cons_zero, dot, Nat.add_mul]
    omega
  | a :: ks, b :: cs, i + 1, k, c, n, h1, h2 => by
    simp only [List.set_cons_succ, dot]
    rw [dot_set (n := n) (by simpa using h1) (by simpa using h2)]
    omega
theorem dot_zero : ∀ (n : Nat) (cs : List Nat), dot (List.replicate n 0) cs = 0
  | 0, _ => rfl
  | n + 1, [] => rfl
  | n + 1, c :: cs => by simp only [List.replicate_succ, dot, dot_zero n cs]; omega
theorem flat_nD (cs : List Nat) : (nD cs).all flat = true := by
  rw [List.all_eq_true]
  intro d hd
  rw [nD_eq] at hd
  obtain ⟨c, _, rfl⟩ := List.mem_map.mp hd
  rfl
theorem index_hd {cs : List Nat} {m : Nat} (x : Bool) (hm : m ∈ cs) : ∃ j, cs[j]? = some m ∧ mtO .index (.fz (hd x cs)) [.fz (.int (m : Nat))] = some (.fz (.int (j : Nat))) := by
  have h1 : (items (.fz (hd x cs))).bind fzs = some (nD cs) := by cases x <;> simp [hd, items, fzs_fz]
  cases hf : (nD cs).findIdx? (fun y => eqF y (.int (m : Nat))) with
  | none =>
    rw [List.findIdx?_eq_none_iff] at hf
    have := hf (.int (m : Nat)) (by rw [nD_eq]; exact List.mem_map.mpr ⟨m, hm, rfl⟩)
    simp [eqF] at this
  | some j =>
    obtain ⟨hj, h2, _⟩ := List.findIdx?_eq_some_iff_getElem.mp hf
    rw [nD_len] at hj
    refine ⟨j, ?_, ?_⟩
    · have h3 : (nD cs)[j]? = some (.int (cs[j] : Nat)) := by rw [nD_get, List.getElem?_eq_getElem hj]; rfl
      have h4 : (nD cs)[j]'(by rw [nD_len]; exact hj) = .int (cs[j] : Nat) := by
        have := List.getElem?_eq_getElem (l := nD cs) (i := j) (by rw [nD_len]; exact hj)
        rw [h3] at this
        exact (Option.some.inj this).symm
      rw [h4] at h2
      simp only [eqF, beq_iff_eq] at h2
      rw [List.getElem?_eq_getElem hj]
      congr 1
      omega
    · simp only [mtO, h1, flat, flat_nD, Bool.and_self, if_true, hf]
      rfl
theorem recv_hd (x : Bool) (cs : List Nat) : mtRecv .index (.fz (hd x cs)) = true := by cases x <;> rfl
def payBody : Ss := ss [.set false 7 (.idx (.idx (.var 3) (.bin .mod (.var 6) (.var 2))) (.int 1)),
    .adto .add 5 .nil (.var 7) (.int 1),
    .aug .sub 6 (.idx (.var 0) (.var 7))]
theorem set_nD (ks : List Nat) (i v : Nat) : ((nD ks).map O.fz).set i (.fz (.int (v : Nat))) = (nD (ks.set i v)).map O.fz := by
  simp [nD_eq, List.map_set]
theorem pay_ok (k : Nat) {cs : List Nat} {m : Nat} (x : Bool) (hm : Min cs m) (h0 : 0 < m) (hM2 : m ≤ 1000) (hl : cs.length ≤ 100) {b : Nat} (hb : b < 1000000) :
    (¬ Pay cs b ∧ callD prog (k+2) 9 [.fz (hd x cs), .fz (.int (b : Nat))] = .ok (.fz .non) []) ∨
    (Pay cs b ∧ ∃ ks : List Nat, ks.length = cs.length ∧ dot ks cs = b ∧ callD prog (k+2) 9 [.fz (hd x cs), .fz (.int (b : Nat))] = .ok (.l ((nD ks).map O.fz)) []) := by
  obtain ⟨F, hF, hrun⟩ := least_ok k x hm h0 hM2 hl
  have hpos : ∀ c ∈ cs, 0 < c := fun c hc => Nat.lt_of_lt_of_le h0 (hm.le c hc)
  have hiff := hF.iff hm.mem hpos b
  have hmp : (0 : Int) < (m : Int) := by omega
  have hmod : ∀ a : Nat, (a : Int) % (m : Int) = ((a % m : Nat) : Int) := fun a => rfl
  have hlt : b % m < F.length := by rw [hF.len]; exact Nat.mod_lt _ h0
  rw [call_eq (fd := f_pay) rfl rfl rfl]
  show (_ ∧ fin [] (exs _ _ _ [] b_pay [.fz (hd x cs), .fz (.int b), .dead, .dead, .dead, .dead, .dead, .dead]) = _) ∨ (_ ∧ ∃ ks : List Nat, _ ∧ _ ∧ fin [] (exs _ _ _ [] b_pay [.fz (hd x cs), .fz (.int b), .dead, .dead, .dead, .dead, .dead, .dead]) = _)
  cases hf : F[b % m]? with
  | none => rw [List.getElem?_eq_none_iff] at hf; omega
  | some e =>
    have hg : (F.map fD)[b % m]? = some (fD e) := by rw [List.getElem?_map, hf]; rfl
    cases e with
    | none =>
      refine .inl ⟨fun hp => ?_, ?_⟩
      · obtain ⟨a, l, h1, _⟩ := hiff.mp hp
        rw [hf] at h1; cases h1
      · have h1 : cmpO .is (.fz .non) (.fz .non) = some true := rfl
        simp only [b_pay]
        (k_with "evs" => simp only [min_hd x hm, hrun, rds_fO, bin_mod hmp, hmod, hg, fD, h1])
    | some q =>
      obtain ⟨a, l⟩ := q
      have h1 : cmpO .is (.fz (.tup false [.int (a : Nat), .int (l : Nat)])) (.fz .non) = some false := rfl
      by_cases hab : b < a
      · refine .inl ⟨fun hp => ?_, ?_⟩
        · obtain ⟨a', l', h2, h3⟩ := hiff.mp hp
          rw [hf] at h2; cases h2; omega
        · have h2 : decide ((b : Int) < (a : Int)) = true := decide_eq_true (by omega)
          simp only [b_pay]
          (k_with "evs" => simp only [min_hd x hm, hrun, rds_fO, bin_mod hmp, hmod, hg, fD, h1, h2])
      · refine .inr ⟨hiff.mpr ⟨a, l, hf, by omega⟩, ?_⟩
        have h2 : decide ((b : Int) < (a : Int)) = false := decide_eq_false (by omega)
        obtain ⟨j, hj, hix⟩ := index_hd x hm.mem
        have hjl : j < cs.length := (List.getElem?_eq_some_iff.mp hj).1
        have hfd : binO .fdv (.fz (.int ((b : Int) - (a : Int)))) (.fz (.int (m : Nat))) = some (.fz (.int (((b - a) / m : Nat) : Int))) := by
          rw [bin_fdv ⟨hmp, by omega⟩]
          congr 3
          rw [show (b : Int) - (a : Int) = ((b - a : Nat) : Int) by omega]
          rfl
        have hrep : binO .mul (.l [.fz (.int 0)]) (.fz (.int (cs.length : Nat))) = some (.l ((nD (List.replicate cs.length 0)).map .fz)) := by
          rw [mul_rep (le_size (by omega))]
          congr 3
          simp [nD_eq]
        have e3 : mkL [O.fz (.int 0)] = .ok (.tm (.l [O.fz (.int 0)])) := mkL_ok (by simp [sizeMax])
        have hixN : ixN ((nD (List.replicate cs.length 0)).map O.fz).length (j : Int) = some j := ixN_nat (by rw [List.length_map, nD_len]; simpa using hjl)
        have hstart : dot ((List.replicate cs.length 0).set j ((b - a) / m)) cs + a = b := by
          have := dot_set (ks := List.replicate cs.length 0) (cs := cs) (i := j) (k := 0) (c := m) (n := (b - a) / m) (by rw [List.getElem?_replicate, if_pos hjl]) hj
          rw [Nat.zero_add] at this
          rw [this, dot_zero]
          have h3 := (hF.own _ a l hf).1
          have h4 : m ∣ b - a := by
            rw [Nat.dvd_iff_mod_eq_zero]
            exact Nat.sub_mod_eq_zero_of_mod_eq h3.symm
          rw [Nat.div_mul_cancel h4]
          omega
        -- the loop
        have hs : ∀ mm env, (∃ (r : Nat) (ks : List Nat) (l' : Nat) (x7 : O), mm = r ∧ F[r % m]? = some (some (r, l')) ∧ ks.length = cs.length ∧ dot ks cs + r = b ∧ env = [.fz (hd x cs), .fz (.int b), .fz (.int m), .fz (.lst (F.map fD)), .fz (.tup false [.int (a : Nat), .int (l : Nat)]), .l ((nD ks).map O.fz), .fz (.int r), x7]) →
            ((bnd (ev (callD prog (k+1)) prog.ini (.cmp .gt (.var 6) (.int 0)) env) fun x => R.of (asBl x.o)) = .ok false ∧ ∃ (ks : List Nat) (x6 x7 : O), ks.length = cs.length ∧ dot ks cs = b ∧ env = [.fz (hd x cs), .fz (.int b), .fz (.int m), .fz (.lst (F.map fD)), .fz (.tup false [.int (a : Nat), .int (l : Nat)]), .l ((nD ks).map O.fz), x6, x7]) ∨
            ((bnd (ev (callD prog (k+1)) prog.ini (.cmp .gt (.var 6) (.int 0)) env) fun x => R.of (asBl x.o)) = .ok true ∧ ∃ m' env', m' < mm ∧ exs (callD prog (k+1)) prog.ini prog.sb [] payBody env = .nx env' ∧
              (∃ (r : Nat) (ks : List Nat) (l' : Nat) (x7 : O), m' = r ∧ F[r % m]? = some (some (r, l')) ∧ ks.length = cs.length ∧ dot ks cs + r = b ∧ env' = [.fz (hd x cs), .fz (.int b), .fz (.int m), .fz (.lst (F.map fD)), .fz (.tup false [.int (a : Nat), .int (l : Nat)]), .l ((nD ks).map O.fz), .fz (.int r), x7])) := by
          rintro mm env ⟨r, ks, l', x7, rfl, hr, hkl, hkd, rfl⟩
          by_cases h0 : mm = 0
          · subst h0
            refine .inl ⟨?_, ks, _, x7, hkl, by omega, rfl⟩
            (walk_at "evs")
            rfl
          · rcases (hF.own _ mm l' hr).2 with e | ⟨c, b', l'', hc, hb', rfl⟩
            · exact absurd e h0
            · have hcm : c ∈ cs := List.mem_of_getElem? hc
              have hcp := hpos c hcm
              have hll : l' < cs.length := (List.getElem?_eq_some_iff.mp hc).1
              have hkg : ks[l']? = some ks[l'] := List.getElem?_eq_getElem (by omega)
              generalize ks[l'] = kv at hkg
              have hg2 : (F.map fD)[(b' + c) % m]? = some (.tup false [.int ((b' + c : Nat) : Int), .int (l' : Nat)]) := by rw [List.getElem?_map, hr]; rfl
              have hixl : ixN ((nD ks).map O.fz).length (l' : Int) = some l' := ixN_nat (by rw [List.length_map, nD_len]; omega)
              have hadg : ((nD ks).map O.fz)[l']? = some (.fz (.int (kv : Nat))) := by rw [List.getElem?_map, nD_get, hkg]; rfl
              have hcoin : idxO (.fz (hd x cs)) (l' : Int) = some (.fz (.int (c : Nat))) := by rw [idx_hd, hc]; rfl
              have hset : ((nD ks).map O.fz).set l' (.fz (.int ((kv : Int) + 1))) = (nD (ks.set l' (kv + 1))).map O.fz := set_nD ks l' (kv + 1)
              have hsub : ((b' + c : Nat) : Int) - (c : Int) = (b' : Nat) := by omega
              have hgt : (0 : Int) < ((b' + c : Nat) : Int) := by omega
              refine .inr ⟨?_, b', ?_⟩
              · (k_with "evs" => simp only [decide_eq_true hgt])
              · simp only [payBody]
                (k_with "evs" => simp only [bin_mod hmp, hmod, hg2, hixl, adF_eq _ _ _ hadg, hcoin, hset, hsub])
                refine ⟨_, by omega, rfl, b', _, l'', _, rfl, hb', ?_, ?_, rfl⟩
                · rw [List.length_set]; exact hkl
                · rw [dot_set hkg hc]; omega
        obtain ⟨env', hw, ks, x6, x7, hk1, hk2, rfl⟩ := whlT_inv _ _ hs a 1099511627776 [.fz (hd x cs), .fz (.int b), .fz (.int m), .fz (.lst (F.map fD)), .fz (.tup false [.int (a : Nat), .int (l : Nat)]), .l ((nD ((List.replicate cs.length 0).set j ((b - a) / m))).map O.fz), .fz (.int a), .dead] (by omega)
          ⟨a, _, l, .dead, rfl, by rw [(hF.own _ a l hf).1]; exact hf, by simp, hstart, rfl⟩
        refine ⟨ks, hk1, hk2, ?_⟩
        simp only [payBody, ss_cons, ss_nil, es_cons, es_nil, tgs_cons, tgs_nil] at hw
        k_with "evs at" => simp at hw
        simp only [b_pay]
        (k_with "evs" => simp only [min_hd x hm, hrun, rds_fO, bin_mod hmp, hmod, hg, fD, h1, h2, len_hd, e3, hrep, recv_hd, hix, hixN, hfd, set_nD, hw])
end K32

/-! P32t -/
set_option linter.all false
set_option maxRecDepth 100000
namespace K32
open Ev Pu Hl
open PySem (Str)
theorem row_ok (k : Nat) (c : Int) {sizes : List Nat} (hp : ∀ s ∈ sizes, 0 < s ∧ s < 1073741824) (hl : sizes.length < 1000000) : ∃ xs : List Nat, Drawn sizes xs ∧ callD prog (k+1) 0 [.fz (.int c), .fz (.lst (nD sizes))] = .ok (.l ((nD xs).map .fz)) [] := by
  rw [call_eq (fd := f__law_row) rfl rfl rfl]
  exact run_row (callD prog k) prog.ini prog.sb c hp hl
theorem cell_ok (k : Nat) (ns : List Int) (i : Nat) : callD prog (k+1) 5 [.fz (.scr ns), .fz (.int i)] = .ok (.fz (.int (cellI ns i))) [] := by
  rw [call_eq (fd := f__law_cell) rfl rfl rfl]
  exact run_cell (callD prog k) prog.ini prog.sb ns i
theorem isInt_ok (k : Nat) (i : Int) : callD prog (k+1) 10 [.fz (.int i)] = .ok (.fz (.bl true)) [] := by
  rw [call_eq (fd := f__law_is_integer) rfl rfl rfl]
  exact run_isInt (callD prog k) prog.ini prog.sb i
theorem handed_ok (k : Nat) (x : Bool) (cs : List Nat) : ∃ o, O.rd o = some (hd x cs) ∧ callD prog (k+1) 4 [.fz (.lst (nD cs)), .fz (.bl x)] = .ok o [] := by
  rw [call_eq (fd := f__law_handed) rfl rfl rfl]
  show ∃ o, _ ∧ fin [] (exs _ _ _ [] b__law_handed [.fz (.lst (nD cs)), .fz (.bl x)]) = _
  simp only [b__law_handed]
  cases x
  · refine ⟨.l ((nD cs).map .fz), by rw [rd_l, rds_fz]; rfl, ?_⟩
    (walk_at "evs")
  · refine ⟨.fz (.tup true (nD cs)), rfl, ?_⟩
    (walk_at "evs")
/-! the measure, by trial -/
theorem lawMeasure_ok (k : Nat) {cs : List Nat} (hc : ∀ c ∈ cs, 0 < c ∧ c ≤ 240) (hne : cs ≠ []) (hl : cs.length ≤ 100) : callD prog (k+1) 2 [.fz (.lst (nD cs))] = .ok (.fz (.int (gcdL cs : Nat))) [] := by
  rw [call_eq (fd := f__law_measure) rfl rfl rfl]
  show fin [] (exs _ _ _ [] b__law_measure [.fz (.lst (nD cs)), .dead, .dead, .dead]) = _
  obtain ⟨env', h1, best, x2, hb0, hb1, hb2, rfl⟩ := forT_list (f := forF (callD prog k) prog.ini prog.sb [] (.nm 2) (ss [.ifs (.bi .all (es [(.lc [3] (.nm 3) (.ex (.var 0)) .no (.cmp .eq (.bin .mod (.bi .int (es [(.var 3)])) (.var 2)) (.int 0)))])) (ss [.set false 1 (.var 2)]) (ss [])])) (fun j : Nat => D.int ((2 : Int) + (j : Int)))
    (fun pre env => ∃ (best : Nat) (x2 : O), 0 < best ∧ (∀ c ∈ cs, best ∣ c) ∧ (∀ d, 0 < d → (∀ c ∈ cs, d ∣ c) → d < 2 + pre.length → d ≤ best) ∧ env = [.fz (.lst (nD cs)), .fz (.int best), x2, .dead]) (xs := List.range 239) (env := [.fz (.lst (nD cs)), .fz (.int 1), .dead, .dead])
    ⟨1, .dead, by omega, fun c _ => Nat.one_dvd c, fun d _ _ h => by simp at h; omega, rfl⟩ (by
      rintro pre j post env e ⟨best, x2, hb0, hb1, hb2, rfl⟩
      have hj : pre.length = j := by
        have : (List.range 239)[pre.length]? = some j := by rw [e]; simp
        rw [List.getElem?_range (by
          have := congrArg List.length e
          simp at this; omega)] at this
        exact Option.some.inj this
      have hp : (0 : Int) < 2 + (j : Int) := by omega
      have hlc := lc_list (cf := callD prog k) (ini := prog.ini) (env := [.fz (.lst (nD cs)), .fz (.int best), .fz (.int (2 + (j : Int))), .dead]) (own := [3]) (tg := .nm 3) (c := .no) (e := .cmp .eq (.bin .mod (.bi .int (es [(.var 3)])) (.var 2)) (.int 0)) (xs := cs) (g := fun c : Nat => D.int (c : Int))
        (fun c => O.fz (.bl (decide ((c : Int) % (2 + (j : Int)) = 0)))) (le_size (by omega)) (by
          intro c _
          (k_with "evs" => simp only [bin_mod hp]))
      rw [← nD_eq] at hlc
      simp only [ss_cons, ss_nil, es_cons, es_nil] at hlc
      have hall : (cs.all fun c => decide ((c : Int) % (2 + (j : Int)) = 0)) = decide (∀ c ∈ cs, (2 + j) ∣ c) := by
        rw [Bool.eq_iff_iff, List.all_eq_true, decide_eq_true_eq]
        refine forall_congr' fun c => forall_congr' fun _ => ?_
        rw [decide_eq_true_eq, Nat.dvd_iff_mod_eq_zero, show (2 : Int) + (j : Int) = ((2 + j : Nat) : Int) by omega, ← Int.natCast_emod]
        omega
      by_cases hd : ∀ c ∈ cs, (2 + j) ∣ c
      · (k_with "evs" => simp only [hlc, all_map, hall, decide_eq_true hd])
        refine ⟨_, rfl, 2 + j, .fz (.int (2 + j)), by omega, hd, fun d h1 h2 h3 => ?_, ?_⟩
        · simp at h3; omega
        · simp
      · (k_with "evs" => simp only [hlc, all_map, hall, decide_eq_false hd])
        refine ⟨_, rfl, best, .fz (.int (2 + j)), hb0, hb1, fun d h1 h2 h3 => ?_, rfl⟩
        by_cases h4 : d = 2 + j
        · subst h4; exact absurd h2 hd
        · exact hb2 d h1 h2 (by simp at h3; omega))
  have hfin : best = gcdL cs := by
    obtain ⟨g1, g2⟩ := gcdL_dvd cs
    cases cs with
    | nil => exact absurd rfl hne
    | cons c r =>
      have hc0 := hc c List.mem_cons_self
      have hg1 : gcdL (c :: r) ∣ c := g1 c List.mem_cons_self
      have hle : gcdL (c :: r) ≤ c := Nat.le_of_dvd hc0.1 hg1
      have hpos : 0 < gcdL (c :: r) := Nat.pos_of_dvd_of_pos hg1 hc0.1
      have h2 := hb2 _ hpos g1 (by simp; omega)
      have h3 := Nat.le_of_dvd hpos (g2 best hb1)
      omega
  have hr : rangeD 2 241 = (List.range 239).map fun j : Nat => D.int ((2 : Int) + (j : Int)) := rfl
  simp only [ss_cons, ss_nil, es_cons, es_nil] at h1
  simp only [b__law_measure]
  (k_with "evs" => simp only [near_ok (show -(2 ^ 62) ≤ (2 : Int) ∧ (2 : Int) < 2 ^ 62 by decide), near_ok (show -(2 ^ 62) ≤ (241 : Int) ∧ (241 : Int) < 2 ^ 62 by decide), and_self, if_true, hr, h1, hfin])
end K32

/-! P32u -/
set_option linter.all false
set_option maxRecDepth 100000
namespace K32
open Ev Pu Hl
open PySem (Str)
/-! the table -/
def Tab (us : List Nat) (T : List Bool) : Prop := ∀ (a : Nat) (b : Bool), T[a]? = some b → (b = true ↔ Pay us a)
theorem pay_step {us : List Nat} (hpos : ∀ u ∈ us, 0 < u) {a : Nat} (ha : 0 < a) : Pay us a ↔ ∃ u ∈ us, u ≤ a ∧ Pay us (a - u) := by
  constructor
  · intro h
    cases h with
    | z => omega
    | s hb hc =>
      rename_i b c
      exact ⟨c, hc, by omega, by rw [Nat.add_sub_cancel]; exact hb⟩
  · rintro ⟨u, hu, h1, h2⟩
    have := h2.s hu
    rwa [Nat.sub_add_cancel h1] at this
def bD (T : List Bool) : List O := T.map fun b => .fz (.bl b)
theorem rds_bD (T : List Bool) : rds (bD T) = some (T.map D.bl) := by
  rw [bD, show (T.map fun b => O.fz (.bl b)) = (T.map D.bl).map .fz by simp [List.map_map], rds_fz]
theorem min_nD {us : List Nat} {m : Nat} (h : Min us m) : biO .min [.fz (.lst (nD us))] = some (.fz (.int m)) := min_hd false h
theorem maxLn {us : List Nat} (hne : us ≠ []) : ∃ M : Nat, M ∈ us ∧ (∀ u ∈ us, u ≤ M) ∧ biO .max [.fz (.lst (nD us))] = some (.fz (.int (M : Nat))) := by
  have hne' : nI us ≠ [] := by intro e; exact hne (by simpa [nI] using e)
  obtain ⟨h2, h3⟩ := maxL_mem hne'
  obtain ⟨mx, h4, h5⟩ := List.mem_map.mp h2
  refine ⟨mx, h4, fun b hb => ?_, ?_⟩
  · have := h3 (b : Int) (List.mem_map.mpr ⟨b, hb, rfl⟩)
    omega
  · have := max_lst hne'
    rw [← h5] at this
    exact this
theorem payable_ok (k : Nat) {us : List Nat} {m M : Nat} (hm : Min us m) (h0 : 0 < m) (hM : M ∈ us) (hle : ∀ u ∈ us, u ≤ M) (hM2 : M ≤ 1000) (hl : us.length ≤ 100) (hmx : biO .max [.fz (.lst (nD us))] = some (.fz (.int (M : Nat)))) :
    ∃ T : List Bool, Tab us T ∧ T.length = m * M + 1 ∧ callD prog (k+1) 3 [.fz (.lst (nD us))] = .ok (.l (bD T)) [] := by
  have hpos : ∀ c ∈ us, 0 < c := fun c hc => Nat.lt_of_lt_of_le h0 (hm.le c hc)
  have hmM : m ≤ M := hle m hm.mem
  have hsz : m * M ≤ 1000000 := Nat.le_trans (Nat.mul_le_mul (Nat.le_trans hmM hM2) hM2) (by decide)
  rw [call_eq (fd := f__law_payable) rfl rfl rfl]
  show ∃ T, _ ∧ _ ∧ fin [] (exs _ _ _ [] b__law_payable [.fz (.lst (nD us)), .dead, .dead, .dead]) = _
  obtain ⟨env', h1, T, x2, hT, hTl, rfl⟩ := forT_list (f := forF (callD prog k) prog.ini prog.sb [] (.nm 2) (ss [.app 1 .nil (.bi .any (es [(.lc [3] (.nm 3) (.ex (.var 0)) (.so (.cmp .le (.var 3) (.var 2))) (.idx (.var 1) (.bin .sub (.var 2) (.var 3))))]))])) (fun j : Nat => D.int ((1 : Int) + (j : Int)))
    (fun pre env => ∃ (T : List Bool) (x2 : O), Tab us T ∧ T.length = pre.length + 1 ∧ env = [.fz (.lst (nD us)), .l (bD T), x2, .dead]) (xs := List.range (m * M)) (env := [.fz (.lst (nD us)), .l (bD [true]), .dead, .dead])
    ⟨[true], .dead, fun a b h => by
      cases a with
      | zero => simp at h; subst h; exact ⟨fun _ => .z, fun _ => rfl⟩
      | succ a => simp at h, rfl, rfl⟩ (by
      rintro pre j post env e ⟨T, x2, hT, hTl, rfl⟩
      have hj : pre.length = j := by
        have hlt : pre.length < m * M := by
          have := congrArg List.length e
          simp at this; omega
        have : (List.range (m * M))[pre.length]? = some j := by rw [e]; simp
        rw [List.getElem?_range hlt] at this
        exact Option.some.inj this
      have hjl : j < m * M := by
        have : j ∈ List.range (m * M) := by rw [e]; simp
        exact List.mem_range.mp this
      let f : Nat → Option O := fun u => if u ≤ 1 + j then some (.fz (.bl (T.getD (1 + j - u) false))) else none
      have hlc := lc_flist (cf := callD prog k) (ini := prog.ini) (env := [.fz (.lst (nD us)), .l (bD T), .fz (.int (1 + (j : Int))), .dead]) (own := [3]) (tg := .nm 3) (c := .so (.cmp .le (.var 3) (.var 2))) (e := .idx (.var 1) (.bin .sub (.var 2) (.var 3))) (xs := us) (g := fun c : Nat => D.int (c : Int))
        f (le_size (by omega)) (by
          intro u hu
          have hup := hpos u hu
          by_cases hle : u ≤ 1 + j
          · have h1 : decide ((u : Int) ≤ 1 + (j : Int)) = true := decide_eq_true (by omega)
            have h2 : (1 : Int) + (j : Int) - (u : Int) = ((1 + j - u : Nat) : Int) := by omega
            have h3 : (bD T)[1 + j - u]? = some (.fz (.bl (T.getD (1 + j - u) false))) := by
              rw [bD, List.getElem?_map, List.getD_eq_getElem?_getD, List.getElem?_eq_getElem (show 1 + j - u < T.length by omega)]; rfl
            (k_with "evs" => simp only [h1, h2, h3])
            simp only [f, if_pos hle]
          · have h1 : decide ((u : Int) ≤ 1 + (j : Int)) = false := decide_eq_false (by omega)
            (k_with "evs" => simp only [h1])
            simp only [f, if_neg hle])
      rw [← nD_eq] at hlc
      let bs := us.filterMap fun u => if u ≤ 1 + j then some (T.getD (1 + j - u) false) else none
      have hbs : us.filterMap f = bs.map fun b => O.fz (.bl b) := by
        rw [List.map_filterMap]
        congr 1
        funext u
        simp only [f]
        split <;> rfl
      have hany : biO .any [.l (us.filterMap f)] = some (.fz (.bl (bs.any fun b => b))) := by rw [hbs]; exact any_map (fun b => b) bs
      have hval : (bs.any fun b => b) = true ↔ Pay us (1 + j) := by
        rw [pay_step hpos (by omega), List.any_eq_true]
        constructor
        · rintro ⟨b, hb, rfl⟩
          obtain ⟨u, hu, h⟩ := List.mem_filterMap.mp hb
          by_cases hle : u ≤ 1 + j
          · rw [if_pos hle] at h
            have hup := hpos u hu
            have hlt : 1 + j - u < T.length := by omega
            refine ⟨u, hu, hle, (hT (1 + j - u) true ?_).mp rfl⟩
            rw [List.getElem?_eq_getElem hlt]
            rw [List.getD_eq_getElem?_getD, List.getElem?_eq_getElem hlt] at h
            exact h
          · rw [if_neg hle] at h; cases h
        · rintro ⟨u, hu, hle, hp⟩
          have hup := hpos u hu
          have hlt : 1 + j - u < T.length := by omega
          refine ⟨true, List.mem_filterMap.mpr ⟨u, hu, ?_⟩, rfl⟩
          rw [if_pos hle, List.getD_eq_getElem?_getD, List.getElem?_eq_getElem hlt]
          congr 1
          exact (hT _ _ (List.getElem?_eq_getElem hlt)).mpr hp
      have hap : bD T ++ [O.fz (.bl (bs.any fun b => b))] = bD (T ++ [bs.any fun b => b]) := by simp [bD]
      have hsz2 : decide ((bD T).length < sizeMax) = true := decide_eq_true (by rw [bD, List.length_map]; exact lt_size (by omega))
      (k_with "evs" => simp only [hlc, hany, hsz2, hap])
      refine ⟨_, rfl, _, _, fun a b h => ?_, by simp [hTl], rfl⟩
      by_cases ha : a < T.length
      · rw [List.getElem?_append_left ha] at h
        exact hT a b h
      · rw [List.getElem?_append_right (by omega)] at h
        cases hq : a - T.length with
        | zero =>
          rw [hq] at h
          simp at h
          rw [show a = 1 + j by omega, ← hval]
          simp only [List.any_eq_true]
          rw [← h]
          simp
        | succ n => rw [hq] at h; simp at h)
  refine ⟨T, hT, by simpa using hTl, ?_⟩
  have hmul : binO .mul (.fz (.int (m : Nat))) (.fz (.int (M : Nat))) = some (.fz (.int ((m : Int) * (M : Int)))) := bin_mul (.inl (by omega))
  have hcast : (m : Int) * (M : Int) = ((m * M : Nat) : Int) := by simp
  have hr : rangeD 1 (((m * M : Nat) : Int) + 1) = (List.range (m * M)).map fun j : Nat => D.int ((1 : Int) + (j : Int)) := by
    simp only [rangeD]
    rw [show (((m * M : Nat) : Int) + 1 - 1).toNat = m * M by omega]
  have hnear : near (((m * M : Nat) : Int) + 1) = true := near_ok (by omega)
  have hT0 : mkL [O.fz (.bl true)] = .ok (.tm (.l (bD [true]))) := mkL_ok (by simp [sizeMax])
  simp only [ss_cons, ss_nil, es_cons, es_nil] at h1
  simp only [b__law_payable]
  (k_with "evs" => simp only [min_nD hm, hmx, hmul, hcast, near_ok (show -(2 ^ 62) ≤ (1 : Int) ∧ (1 : Int) < 2 ^ 62 by decide), hnear, and_self, if_true, hr, hT0, h1])
end K32

/-! P32v -/
set_option linter.all false
set_option maxRecDepth 100000
namespace K32
open Ev Pu Hl
open PySem (Str)
theorem Drawn.at_ {sizes xs : List Nat} (h : Drawn sizes xs) {i s : Nat} (e : sizes[i]? = some s) : ∃ x, xs[i]? = some x ∧ x < s := by
  have hi : i < xs.length := by rw [h.len]; exact (List.getElem?_eq_some_iff.mp e).1
  exact ⟨xs[i], List.getElem?_eq_getElem hi, h.lt i s _ e (List.getElem?_eq_getElem hi)⟩
theorem nD_at {xs : List Nat} {i x : Nat} (h : xs[i]? = some x) : (nD xs)[i]? = some (.int (x : Nat)) := by rw [nD_get, h]; rfl
structure Coins (cs : List Nat) (B : Nat) : Prop where
  ne : cs ≠ []
  len : cs.length ≤ 6
  ok : ∀ c ∈ cs, 0 < c ∧ c ≤ B
theorem Coins.set {cs : List Nat} {B : Nat} (h : Coins cs B) (i : Nat) {v : Nat} (hv : 0 < v ∧ v ≤ B) : Coins (cs.set i v) B := by
  refine ⟨fun e => h.ne (by simpa using e), by rw [List.length_set]; exact h.len, fun c hc => ?_⟩
  rcases List.mem_or_eq_of_mem_set hc with hc | rfl
  · exact h.ok c hc
  · exact hv
theorem modC (a b : Nat) : (a : Int) % (b : Int) = ((a % b : Nat) : Int) := rfl
theorem coins_ok (k : Nat) (a b : Int) : ∃ (cs : List Nat) (x : Bool), Coins cs 240 ∧ callD prog (k+2) 1 [.fz (.int a), .fz (.int b)] = .ok (.t [.l ((nD cs).map .fz), .fz (.bl x)]) [] := by
  obtain ⟨rs, hr, hrun⟩ := row_ok k a (sizes := [6, 20, 20, 20, 20, 20, 20]) (by simp) (by simp)
  obtain ⟨qs, hq, hqun⟩ := row_ok k b (sizes := [6, 6, 60, 6, 6, 6, 6]) (by simp) (by simp)
  obtain ⟨r0, hr0, hr0l⟩ := Drawn.at_ hr (i := 0) rfl
  obtain ⟨q0, hq0, _⟩ := Drawn.at_ hq (i := 0) rfl
  obtain ⟨q1, hq1, _⟩ := Drawn.at_ hq (i := 1) rfl
  obtain ⟨q2, hq2, hq2l⟩ := Drawn.at_ hq (i := 2) rfl
  obtain ⟨q3, hq3, _⟩ := Drawn.at_ hq (i := 3) rfl
  obtain ⟨q4, hq4, _⟩ := Drawn.at_ hq (i := 4) rfl
  obtain ⟨q5, hq5, hq5l⟩ := Drawn.at_ hq (i := 5) rfl
  obtain ⟨q6, hq6, _⟩ := Drawn.at_ hq (i := 6) rfl
  let cs0 := (List.range (1 + r0)).map fun j => 1 + rs.getD (1 + j) 0
  have hrow : ∀ j, j < 1 + r0 → rs[1 + j]? = some (rs.getD (1 + j) 0) ∧ rs.getD (1 + j) 0 < 20 := by
    intro j hj
    have hs : ([6, 20, 20, 20, 20, 20, 20] : List Nat)[1 + j]? = some 20 := by
      have : j < 6 := by omega
      match j, this with
      | 0, _ => rfl | 1, _ => rfl | 2, _ => rfl | 3, _ => rfl | 4, _ => rfl | 5, _ => rfl
    obtain ⟨v, h1, h2⟩ := Drawn.at_ hr hs
    rw [List.getD_eq_getElem?_getD, h1]
    exact ⟨rfl, h2⟩
  have hc0 : Coins cs0 60 := by
    refine ⟨fun e => ?_, by simp [cs0]; omega, fun c hc => ?_⟩
    · have := congrArg List.length e
      simp [cs0] at this
    · obtain ⟨j, hj, rfl⟩ := List.mem_map.mp hc
      have := hrow j (List.mem_range.mp hj)
      omega
  rw [call_eq (fd := f__law_coins) rfl rfl rfl]
  show ∃ cs x, _ ∧ fin [] (exs _ _ _ [] b__law_coins [.fz (.int a), .fz (.int b), .dead, .dead, .dead, .dead, .dead, .dead]) = _
  have hlen0 : cs0.length = 1 + r0 := by simp [cs0]
  have hlc := lc_list (cf := callD prog (k+1)) (ini := prog.ini) (env := [.fz (.int a), .fz (.int b), .fz (.lst (nD rs)), .fz (.lst (nD qs)), .dead, .dead, .dead, .dead]) (own := [6]) (tg := .nm 6) (c := .no) (e := .bin .add (.int 1) (.idx (.var 2) (.bin .add (.int 1) (.var 6)))) (xs := List.range (1 + r0)) (g := fun j : Nat => D.int (j : Int))
    (fun j => O.fz (.int ((1 + rs.getD (1 + j) 0 : Nat) : Int))) (le_size (by rw [List.length_range]; omega)) (by
      intro j hj
      have h1 := nD_at (hrow j (List.mem_range.mp hj)).1
      have h2 : (1 : Int) + (j : Int) = ((1 + j : Nat) : Int) := by omega
      (k_with "evs" => simp only [h2, h1])
      rfl)
  have hlc0 : ((List.range (1 + r0)).map fun j => O.fz (.int ((1 + rs.getD (1 + j) 0 : Nat) : Int))) = (nD cs0).map O.fz := by
    simp [nD_eq, cs0]
  have hr1 : (1 : Int) + (r0 : Int) = ((1 + r0 : Nat) : Int) := by omega
  have hnear : near ((1 + r0 : Nat) : Int) = true := near_ok (by omega)
  have g0 := nD_at hr0
  have e0 := nD_at hq0
  have e1 := nD_at hq1
  have e2 := nD_at hq2
  have e3 := nD_at hq3
  have e4 := nD_at hq4
  have e5 := nD_at hq5
  have e6 := nD_at hq6
  have hrun' : callD prog (k+1) 0 [.fz (.int a), .fz (.lst [.int 6, .int 20, .int 20, .int 20, .int 20, .int 20, .int 20])] = .ok (.l ((nD rs).map .fz)) [] := hrun
  have hqun' : callD prog (k+1) 0 [.fz (.int b), .fz (.lst [.int 6, .int 6, .int 60, .int 6, .int 6, .int 6, .int 6])] = .ok (.l ((nD qs).map .fz)) [] := hqun
  have hlenO : ∀ cs : List Nat, (((nD cs).map O.fz).length : Int) = ((cs.length : Nat) : Int) := fun cs => by rw [List.length_map, nD_len]
  -- what is behind the two changes
  have fin' : ∀ (cs : List Nat) (x6 : O), Coins cs 60 → ∃ cs' x, Coins cs' 240 ∧ fin [] (exs (callD prog (k+1)) prog.ini prog.sb [] (ss [.frz 4,
  .set false 5 (.idx (.lst (es [(.int 1), (.int 1), (.int 1), (.int 2), (.int 3), (.int 4)])) (.idx (.var 3) (.int 5))),
  .ret (.tup (es [(.lc [7] (.nm 7) (.ex (.var 4)) .no (.bin .mul (.var 7) (.var 5))), (.cmp .lt (.idx (.var 3) (.int 6)) (.int 2))]))]) [.fz (.int a), .fz (.int b), .fz (.lst (nD rs)), .fz (.lst (nD qs)), .l ((nD cs).map .fz), .dead, x6, .dead]) = .ok (.t [.l ((nD cs').map .fz), .fz (.bl x)]) [] := by
    intro cs x6 hc
    obtain ⟨f, hf, hf1⟩ : ∃ f : Nat, ([.fz (.int 1), .fz (.int 1), .fz (.int 1), .fz (.int 2), .fz (.int 3), .fz (.int 4)] : List O)[q5]? = some (.fz (.int (f : Nat))) ∧ 0 < f ∧ f ≤ 4 := by
      match q5, hq5l with
      | 0, _ => exact ⟨1, rfl, by omega⟩
      | 1, _ => exact ⟨1, rfl, by omega⟩
      | 2, _ => exact ⟨1, rfl, by omega⟩
      | 3, _ => exact ⟨2, rfl, by omega⟩
      | 4, _ => exact ⟨3, rfl, by omega⟩
      | 5, _ => exact ⟨4, rfl, by omega⟩
    have hl2 := lc_list (cf := callD prog (k+1)) (ini := prog.ini) (env := [.fz (.int a), .fz (.int b), .fz (.lst (nD rs)), .fz (.lst (nD qs)), .fz (.lst (nD cs)), .fz (.int (f : Nat)), x6, .dead]) (own := [7]) (tg := .nm 7) (c := .no) (e := .bin .mul (.var 7) (.var 5)) (xs := cs) (g := fun c : Nat => D.int (c : Int))
      (fun c => O.fz (.int ((c * f : Nat) : Int))) (le_size (by have := hc.len; omega)) (by
        intro c hcm
        have h1 : binO .mul (.fz (.int (c : Nat))) (.fz (.int (f : Nat))) = some (.fz (.int ((c : Int) * (f : Int)))) := bin_mul (.inr (by omega))
        (k_with "evs" => simp only [h1])
        simp)
    rw [← nD_eq] at hl2
    have hcs' : (cs.map fun c => O.fz (.int ((c * f : Nat) : Int))) = (nD (cs.map fun c => c * f)).map O.fz := by simp [nD_eq]
    refine ⟨cs.map fun c => c * f, decide ((q6 : Int) < 2), ⟨by simpa using hc.ne, by simpa using hc.len, fun c hcm => ?_⟩, ?_⟩
    · obtain ⟨c0, h1, rfl⟩ := List.mem_map.mp hcm
      have h2 := hc.ok c0 h1
      refine ⟨Nat.mul_pos h2.1 hf1.1, ?_⟩
      exact Nat.le_trans (Nat.mul_le_mul h2.2 hf1.2) (by decide)
    · (k_with "evs" => simp only [e5, hf, hl2, hcs', e6])
  have key : ∃ (cs : List Nat) (x6 : O), Coins cs 60 ∧ fin [] (exs (callD prog (k+1)) prog.ini prog.sb [] b__law_coins [.fz (.int a), .fz (.int b), .dead, .dead, .dead, .dead, .dead, .dead]) = fin [] (exs (callD prog (k+1)) prog.ini prog.sb [] (ss [.frz 4,
  .set false 5 (.idx (.lst (es [(.int 1), (.int 1), (.int 1), (.int 2), (.int 3), (.int 4)])) (.idx (.var 3) (.int 5))),
  .ret (.tup (es [(.lc [7] (.nm 7) (.ex (.var 4)) .no (.bin .mul (.var 7) (.var 5))), (.cmp .lt (.idx (.var 3) (.int 6)) (.int 2))]))]) [.fz (.int a), .fz (.int b), .fz (.lst (nD rs)), .fz (.lst (nD qs)), .l ((nD cs).map .fz), .dead, x6, .dead]) := by
    have hp0 : (0 : Int) < ((1 + r0 : Nat) : Int) := by omega
    have hixm : ∀ q : Nat, ixN ((nD cs0).map O.fz).length ((q % (1 + r0) : Nat) : Int) = some (q % (1 + r0)) := fun q => ixN_nat (by rw [List.length_map, nD_len, hlen0]; exact Nat.mod_lt _ (by omega))
    by_cases z0 : q0 = 0
    · subst z0
      refine ⟨cs0.set (q1 % (1 + r0)) (1 + q2), .dead, hc0.set _ (by omega), ?_⟩
      have d0 : decide ((((0 : Nat) : Int)) = 0) = true := rfl
      have d1 : decide ((((0 : Nat) : Int)) = 1) = false := rfl
      have h2 : (1 : Int) + (q2 : Int) = ((1 + q2 : Nat) : Int) := by omega
      simp only [b__law_coins]
      (k_with "evs" => simp only [hrun', hqun', g0, hr1, hnear, if_true, range_nat, hlc, hlc0, e0, e1, e2, d0, d1, h2, hlenO, hlen0, bin_mod hp0, modC, hixm, set_nD])
    · by_cases z1 : q0 = 1
      · subst z1
        have hlt4 : q4 % (1 + r0) < cs0.length := by rw [hlen0]; exact Nat.mod_lt _ (by omega)
        have hg4 : cs0[q4 % (1 + r0)]? = some (cs0[q4 % (1 + r0)]) := List.getElem?_eq_getElem hlt4
        have hok4 := hc0.ok _ (List.getElem_mem hlt4)
        generalize cs0[q4 % (1 + r0)] = v4 at hg4 hok4
        refine ⟨cs0.set (q3 % (1 + r0)) v4, .dead, hc0.set _ hok4, ?_⟩
        have d0 : decide ((((1 : Nat) : Int)) = 0) = false := rfl
        have d1 : decide ((((1 : Nat) : Int)) = 1) = true := rfl
        have hg5 : ((nD cs0).map O.fz)[q4 % (1 + r0)]? = some (.fz (.int (v4 : Nat))) := by rw [List.getElem?_map, nD_at hg4]; rfl
        simp only [b__law_coins]
        (k_with "evs" => simp only [hrun', hqun', g0, hr1, hnear, if_true, range_nat, hlc, hlc0, e0, e3, e4, d0, d1, hlenO, hlen0, bin_mod hp0, modC, hixm, hg5, set_nD])
      · refine ⟨cs0, .dead, hc0, ?_⟩
        have d0 : decide ((q0 : Int) = 0) = false := decide_eq_false (by omega)
        have d1 : decide ((q0 : Int) = 1) = false := decide_eq_false (by omega)
        simp only [b__law_coins]
        (k_with "evs" => simp only [hrun', hqun', g0, hr1, hnear, if_true, range_nat, hlc, hlc0, e0, d0, d1])
  obtain ⟨cs, x6, h1, h2⟩ := key
  obtain ⟨cs', x, h3, h4⟩ := fin' cs x6 h1
  exact ⟨cs', x, h3, h2.trans h4⟩
end K32

/-! P32w -/
set_option linter.all false
set_option maxRecDepth 100000
namespace K32
open Ev Pu Hl
open PySem (Str)
theorem flatR_bl (b : Bool) : flatR (.ok (.tm (.fz (.bl b)))) = .ok (.tm (.fz (.bl b))) := rfl
theorem isi_list (ds : List D) : isiO (.fz (.lst ds)) .list = some true := rfl
theorem integers_ok (k : Nat) {ks : List Nat} (hl : ks.length ≤ 100) : callD prog (k+2) 11 [.fz (.lst (nD ks))] = .ok (.fz (.bl true)) [] := by
  rw [call_eq (fd := f__law_integers) rfl rfl rfl]
  show fin [] (exs _ _ _ [] b__law_integers [.fz (.lst (nD ks)), .dead]) = _
  have hlc := lc_list (cf := callD prog (k+1)) (ini := prog.ini) (env := [.fz (.lst (nD ks)), .dead]) (own := [1]) (tg := .nm 1) (c := .no) (e := .call 10 (es [(.var 1)]) []) (xs := ks) (g := fun c : Nat => D.int (c : Int))
    (fun c => O.fz (.bl true)) (le_size (by omega)) (by
      intro c _
      (k_with "evs" => simp only [isInt_ok]))
  rw [← nD_eq] at hlc
  simp only [es_cons, es_nil] at hlc
  have hall : (ks.all fun _ => true) = true := by simp
  simp only [b__law_integers]
  (k_with "evs" => simp only [isi_list, Bool.not_true, hlc, all_map (fun _ => true), hall])
theorem dot_sum : ∀ (ks cs : List Nat), ks.length = cs.length → ((List.range cs.length).map fun j => ((ks.getD j 0 * cs.getD j 0 : Nat) : Int)).sum = (dot ks cs : Nat) := by
  intro ks cs h
  induction cs generalizing ks with
  | nil => cases ks <;> simp [dot]
  | cons c cs ih =>
    cases ks with
    | nil => simp at h
    | cons a ks =>
      have := ih ks (by simpa using h)
      rw [List.length_cons, List.range_succ_eq_map, List.map_cons, List.sum_cons, List.map_map]
      simp only [dot]
      have e : ((fun j => (((a :: ks).getD j 0 * (c :: cs).getD j 0 : Nat) : Int)) ∘ Nat.succ) = fun j => ((ks.getD j 0 * cs.getD j 0 : Nat) : Int) := by funext j; simp
      rw [e, this]
      simp
theorem min_lnD {ks : List Nat} (h : ks ≠ []) : ∃ mn : Nat, biO .min [.l ((nD ks).map O.fz)] = some (.fz (.int (mn : Nat))) := by
  have hne : nI ks ≠ [] := fun e => h (by simpa [nI] using e)
  obtain ⟨h1, _⟩ := minL_mem hne
  obtain ⟨c, _, e⟩ := List.mem_map.mp h1
  exact ⟨c, by rw [e]; exact min_l hne⟩
theorem eqDs_refl : ∀ xs : List Nat, eqDs (nD xs) (nD xs) = true
  | [] => by simp [nD, nI, eqDs]
  | x :: xs => by
    have := eqDs_refl xs
    simp only [nD_eq, List.map_cons, eqDs, Bool.and_eq_true] at this ⊢
    exact ⟨by rw [eqD_int]; simp, this⟩
theorem okEqs_nD : ∀ (k : Nat) (xs : List Nat), okEqs k (nD xs) = true
  | _, [] => by simp [nD, nI, okEqs]
  | k, x :: xs => by
    have := okEqs_nD k xs
    simp only [nD_eq, List.map_cons, okEqs, Bool.and_eq_true] at this ⊢
    exact ⟨okEq_int k _, this⟩
theorem eq_nD (xs : List Nat) : cmpO .eq (.l ((nD xs).map .fz)) (.fz (.lst (nD xs))) = some true := by
  simp only [cmpO, rd_l, rds_fz, rd_fz, Option.map_some, okEq, okEqs_nD, Bool.and_self, if_true, eqD, eqDs_refl]
theorem list_hd (x : Bool) (cs : List Nat) : biO .list [.fz (hd x cs)] = some (.l ((nD cs).map .fz)) := by cases x; exact list_lst _; exact list_tup _ _
theorem Coins.min {cs : List Nat} {B : Nat} (h : Coins cs B) : ∃ m, Min cs m ∧ 0 < m ∧ m ≤ B := by
  have hne : nI cs ≠ [] := fun e => h.ne (by simpa [nI] using e)
  obtain ⟨h1, h2⟩ := minL_mem hne
  obtain ⟨m, hm, e⟩ := List.mem_map.mp h1
  refine ⟨m, ⟨hm, fun c hc => ?_⟩, h.ok m hm⟩
  have := h2 (c : Int) (List.mem_map.mpr ⟨c, hc, rfl⟩)
  omega
def paysBody : Ss := (ss [.set true 6 (.call 9 (es [(.var 4), (.var 2)]) []),
    .ifs (.var 3) (ss [.ifs (.or_ (.not_ (.callb 11 (es [(.var 6)]) [])) (.cmp .ne (.bi .len (es [(.var 6)])) (.bi .len (es [(.var 0)])))) (ss [.ret (.bl false)]) (ss []),
      .ifs (.or_ (.cmp .lt (.bi .min (es [(.var 6)])) (.int 0)) (.cmp .ne (.bi .sum (es [(.lc [7] (.nm 7) (.rg1 (.bi .len (es [(.var 0)]))) .no (.bin .mul (.idx (.var 6) (.var 7)) (.idx (.var 0) (.var 7))))])) (.var 2))) (ss [.ret (.bl false)]) (ss []),
      .app 6 .nil (.int 1)]) (ss []),
    .frz 6,
    .ifs (.and_ (.not_ (.var 3)) (.cmp .isn (.var 6) .non)) (ss [.ret (.bl false)]) (ss [])])
theorem pays_turn (k : Nat) {cs : List Nat} (x : Bool) (hc : Coins cs 240) {b : Nat} (hb : b < 1000000) {p : Bool} (hp : p = true ↔ Pay cs b) (x5 x6 x7 : O) : ∃ y6, exs (callD prog (k+2)) prog.ini prog.sb [] paysBody [.fz (.lst (nD cs)), .fz (.bl x), .fz (.int b), .fz (.bl p), .fz (hd x cs), x5, x6, .dead] = .nx [.fz (.lst (nD cs)), .fz (.bl x), .fz (.int b), .fz (.bl p), .fz (hd x cs), x5, y6, .dead] := by
  obtain ⟨m, hm, h0, hM⟩ := hc.min
  have hcl := hc.len
  rcases pay_ok k x hm h0 (by omega) (by omega) hb with ⟨hn, hrun⟩ | ⟨hy, ks, hkl, hkd, hrun⟩
  · have hpf : p = false := by
      cases p with
      | false => rfl
      | true => exact absurd (hp.mp rfl) hn
    subst hpf
    have h1 : cmpO .isn (.fz .non) (.fz .non) = some false := rfl
    refine ⟨.fz .non, ?_⟩
    simp only [paysBody]
    (k_with "evs" => simp only [hrun, Bool.not_false, h1])
  · have hpt : p = true := hp.mpr hy
    subst hpt
    have hkn : ks ≠ [] := fun e => hc.ne (List.length_eq_zero_iff.mp (by rw [← hkl, e]; rfl))
    obtain ⟨mn, hmn⟩ := min_lnD hkn
    have hlt : decide ((mn : Int) < 0) = false := decide_eq_false (by omega)
    have hlen : decide ((((nD ks).map O.fz).length : Int) = (cs.length : Int)) = true := decide_eq_true (by rw [List.length_map, nD_len, hkl])
    have hlc := lc_list (cf := callD prog (k+2)) (ini := prog.ini) (env := [.fz (.lst (nD cs)), .fz (.bl x), .fz (.int b), .fz (.bl true), .fz (hd x cs), x5, .l ((nD ks).map .fz), .dead]) (own := [7]) (tg := .nm 7) (c := .no) (e := .bin .mul (.idx (.var 6) (.var 7)) (.idx (.var 0) (.var 7))) (xs := List.range cs.length) (g := fun c : Nat => D.int (c : Int))
      (fun j => O.fz (.int ((ks.getD j 0 * cs.getD j 0 : Nat) : Int))) (le_size (by rw [List.length_range]; omega)) (by
        intro j hj
        have hj' := List.mem_range.mp hj
        have g1 : ((nD ks).map O.fz)[j]? = some (.fz (.int (ks.getD j 0 : Nat))) := by
          rw [List.getElem?_map, nD_at (cs_get (show j < ks.length by omega))]; rfl
        have g2 := nD_at (cs_get hj')
        have hmem : cs.getD j 0 ∈ cs := List.mem_of_getElem? (cs_get hj')
        have hbd := hc.ok _ hmem
        have hmul : binO .mul (.fz (.int (ks.getD j 0 : Nat))) (.fz (.int (cs.getD j 0 : Nat))) = some (.fz (.int ((ks.getD j 0 : Nat) * (cs.getD j 0 : Nat)))) := bin_mul (.inr (by omega))
        (k_with "evs" => simp only [g1, g2, hmul])
        simp)
    have hsum := sum_map (fun j => ((ks.getD j 0 * cs.getD j 0 : Nat) : Int)) (List.range cs.length)
    rw [dot_sum ks cs hkl, hkd] at hsum
    have heq : decide ((b : Int) = (b : Int)) = true := decide_eq_true rfl
    have hsz : decide (((nD ks).map O.fz).length < sizeMax) = true := decide_eq_true (by rw [List.length_map, nD_len]; exact lt_size (by omega))
    have hap : ((nD ks).map O.fz) ++ [O.fz (.int 1)] = (nD (ks ++ [1])).map O.fz := by simp [nD_eq]
    have hnear : near (cs.length : Int) = true := near_ok (by omega)
    refine ⟨.fz (.lst (nD (ks ++ [1]))), ?_⟩
    simp only [paysBody]
    (k_with "evs" => simp only [hrun, integers_ok k (show ks.length ≤ 100 by omega), flatR_bl, Bool.not_true, hlen, hmn, hlt, hnear, if_true, nD_len, range_nat, hlc, hsum, heq, hsz, hap])
theorem pays_ok (k : Nat) {cs : List Nat} (x : Bool) (hc : Coins cs 240) {b : Nat} (hb : b < 1000000) {p : Bool} (hp : p = true ↔ Pay cs b) : callD prog (k+3) 12 [.fz (.lst (nD cs)), .fz (.bl x), .fz (.int b), .fz (.bl p)] = .ok (.fz (.bl true)) [] := by
  rw [call_eq (fd := f__law_pays) rfl rfl rfl]
  show fin [] (exs _ _ _ [] b__law_pays [.fz (.lst (nD cs)), .fz (.bl x), .fz (.int b), .fz (.bl p), .dead, .dead, .dead, .dead]) = _
  obtain ⟨o, ho, hrun⟩ := handed_ok (k+1) x cs
  obtain ⟨env', h1, x5, x6, rfl⟩ := forT_list (f := forF (callD prog (k+2)) prog.ini prog.sb [] (.nm 5) paysBody) (fun j : Nat => D.int (j : Int))
    (fun pre env => ∃ (x5 x6 : O), env = [.fz (.lst (nD cs)), .fz (.bl x), .fz (.int b), .fz (.bl p), .fz (hd x cs), x5, x6, .dead]) (xs := List.range 2) (env := [.fz (.lst (nD cs)), .fz (.bl x), .fz (.int b), .fz (.bl p), .fz (hd x cs), .dead, .dead, .dead]) ⟨.dead, .dead, rfl⟩ (by
      rintro pre j post env e ⟨x5, x6, rfl⟩
      obtain ⟨y6, h⟩ := pays_turn k x hc hb hp (.fz (.int j)) x6 .dead
      rw [forF_nm]
      exact ⟨_, h, _, y6, rfl⟩)
  simp only [paysBody, ss_cons, ss_nil, es_cons, es_nil] at h1
  have hr : rangeD 0 2 = (List.range 2).map fun j : Nat => D.int (j : Int) := rfl
  simp only [b__law_pays]
  (k_with "evs" => simp only [hrun, ho, near_ok (show -(2 ^ 62) ≤ (2 : Int) ∧ (2 : Int) < 2 ^ 62 by decide), if_true, hr, h1, list_hd, eq_nD])
end K32

/-! P32x -/
set_option linter.all false
set_option maxRecDepth 100000
namespace K32
open Ev Pu Hl
open PySem (Str)
theorem pay_units {us cs : List Nat} {g : Nat} (hg : 0 < g) (e : cs = us.map fun u => g * u) (t : Nat) : Pay us t ↔ Pay cs (g * t) := by
  subst e
  constructor
  · intro h
    induction h with
    | z => exact .z
    | s _ hc ih => rw [Nat.mul_add]; exact .s ih (List.mem_map.mpr ⟨_, hc, rfl⟩)
  · intro h
    generalize hq : g * t = q at h
    induction h generalizing t with
    | z =>
      rcases Nat.mul_eq_zero.mp hq with h | h
      · omega
      · rw [h]; exact .z
    | s hb hc ih =>
      rename_i b c
      obtain ⟨u, hu, rfl⟩ := List.mem_map.mp hc
      have hle : u ≤ t := Nat.le_of_mul_le_mul_left (show g * u ≤ g * t by omega) hg
      have h1 := ih (t - u) (by rw [Nat.mul_sub]; omega)
      have := h1.s hu
      rwa [Nat.sub_add_cancel hle] at this
/-- where the law's search stands -/
def At (T : List Bool) (g : Nat) (n s : Nat) : Prop := (s = 0 ∧ ∀ i, i < n → T[i]? = some true) ∨ ∃ v, v < n ∧ s = (v + 1) * g ∧ T[v]? = some false ∧ ∀ i, v < i → i < n → T[i]? = some true
theorem At.next {T : List Bool} {g n s : Nat} (h : At T g n s) {b : Bool} (e : T[n]? = some b) : At T g (n + 1) (if b then s else (n + 1) * g) := by
  cases b with
  | true =>
    rcases h with ⟨h1, h2⟩ | ⟨v, h1, h2, h3, h4⟩
    · refine .inl ⟨h1, fun i hi => ?_⟩
      by_cases q : i = n
      · subst q; exact e
      · exact h2 i (by omega)
    · refine .inr ⟨v, by omega, h2, h3, fun i hi hn => ?_⟩
      by_cases q : i = n
      · subst q; exact e
      · exact h4 i hi (by omega)
  | false => exact .inr ⟨n, by omega, rfl, e, fun i h1 h2 => by omega⟩
/-- what the search finds is the sure amount -/
theorem At.sure {us cs : List Nat} {g m M M' s L : Nat} {T : List Bool} (hg : 0 < g) (e : cs = us.map fun u => g * u) (hS : Sure cs g m M s) (hT : Tab us T) (hM : M = g * M') (hl : T.length = (m / g) * M' + 1) (h : At T g T.length L) : L = s := by
  -- an unpayable unit below the sure amount
  have hu : s ≠ 0 → ∃ u', s = g * u' + g ∧ ¬ Pay us u' ∧ u' < T.length := by
    intro hne
    rcases hS.not with z | ⟨u, h1, ⟨u', rfl⟩, h3, h4⟩
    · exact absurd z hne
    · refine ⟨u', h1, fun q => h3 ((pay_units hg e u').mp q), ?_⟩
      rw [hM, Nat.mul_left_comm] at h4
      have := Nat.le_of_mul_le_mul_left h4 hg
      omega
  rcases h with ⟨h1, h2⟩ | ⟨v, h1, h2, h3, h4⟩
  · refine Classical.byContradiction fun hne => ?_
    obtain ⟨u', _, hn, hlt⟩ := hu (by omega)
    exact hn ((hT u' true (h2 u' hlt)).mp rfl)
  · have hnv : ¬ Pay us v := fun q => by
      have := (hT v false h3).mpr q
      cases this
    have hlt : g * v < s := Nat.lt_of_not_le fun q => hnv ((pay_units hg e v).mpr (hS.pay _ (Nat.dvd_mul_right _ _) q))
    obtain ⟨u', e1, hn, hlu⟩ := hu (by omega)
    have a : u' ≤ v := by
      refine Nat.le_of_not_lt fun q => hn ((hT u' true (h4 u' q hlu)).mp rfl)
    have b : v < u' + 1 := by
      refine Nat.lt_of_mul_lt_mul_left (a := g) ?_
      rw [Nat.mul_add, Nat.mul_one]; omega
    have : u' = v := by omega
    subst this
    rw [h2, e1, Nat.add_mul, Nat.one_mul, Nat.mul_comm]
/-- the law's own answer -/
def told (T : List Bool) (g b : Nat) : Bool := if b % g = 0 then (if b / g < T.length then T.getD (b / g) false else true) else false
theorem told_ok {us cs : List Nat} {g m M M' s : Nat} {T : List Bool} (hg : 0 < g) (e : cs = us.map fun u => g * u) (hd : ∀ c ∈ cs, g ∣ c) (hS : Sure cs g m M s) (hT : Tab us T) (hM : M = g * M') (hl : T.length = (m / g) * M' + 1) (b : Nat) : told T g b = true ↔ Pay cs b := by
  unfold told
  by_cases h1 : b % g = 0
  · rw [if_pos h1]
    obtain ⟨t, rfl⟩ := Nat.dvd_of_mod_eq_zero h1
    rw [Nat.mul_div_cancel_left _ hg]
    by_cases h2 : t < T.length
    · rw [if_pos h2, List.getD_eq_getElem?_getD, List.getElem?_eq_getElem h2, ← pay_units hg e]
      exact hT t _ (List.getElem?_eq_getElem h2)
    · rw [if_neg h2]
      refine ⟨fun _ => hS.pay _ (Nat.dvd_mul_right _ _) ?_, fun _ => rfl⟩
      rcases hS.not with z | ⟨u, e1, ⟨u', rfl⟩, _, h4⟩
      · omega
      · rw [hM, Nat.mul_left_comm] at h4
        have h5 := Nat.le_of_mul_le_mul_left h4 hg
        have h6 : g * (u' + 1) ≤ g * t := Nat.mul_le_mul_left _ (by omega)
        rw [Nat.mul_add, Nat.mul_one] at h6
        omega
  · rw [if_neg h1]
    refine ⟨fun q => by simp at q, fun q => absurd (Nat.mod_eq_zero_of_dvd (q.dvd hd)) h1⟩
def amtBody : Ss := (ss [.set false 13 (.cmp .eq (.bin .mod (.bi .int (es [(.var 11)])) (.var 3)) (.int 0)),
    .ifs (.and_ (.var 13) (.cmp .lt (.bin .fdv (.var 11) (.var 3)) (.bi .len (es [(.var 4)])))) (ss [.set false 13 (.idx (.var 4) (.bin .fdv (.var 11) (.var 3)))]) (ss []),
    .ifs (.not_ (.call 12 (es [(.var 2), (.idx (.var 1) (.int 1)), (.var 11), (.var 13)]) [])) (ss [.ret (.bl false)]) (ss [])])
theorem law_ok (k : Nat) (ns : List Int) : callD prog (k+4) 13 [.fz (.scr ns)] = .ok (.fz (.bl true)) [] := by
  obtain ⟨cs, x, hc, hcoins⟩ := coins_ok (k+1) (cellI ns 0) (cellI ns 1)
  obtain ⟨m, hm, h0, hmB⟩ := hc.min
  have hcl := hc.len
  obtain ⟨hd1, hd2⟩ := gcdL_dvd cs
  have hmeas : callD prog (k+3) 2 [.fz (.lst (nD cs))] = .ok (.fz (.int (gcdL cs : Nat))) [] := lawMeasure_ok (k+2) hc.ok hc.ne (by omega)
  generalize hg : gcdL cs = g at hd1 hd2 hmeas
  have hgm := hd1 m hm.mem
  have hg0 : 0 < g := Nat.pos_of_dvd_of_pos hgm h0
  have hgle : g ≤ 240 := Nat.le_trans (Nat.le_of_dvd h0 hgm) hmB
  -- the greatest coin
  obtain ⟨M, hMm, hMle, _⟩ := maxLn hc.ne
  obtain ⟨s, hS, hsure⟩ := sure_ok (k+1) x hm h0 hMle (by omega) (by omega)
  rw [hg] at hS
  -- the units
  let us := cs.map fun c => c / g
  have hus : cs = us.map fun u => g * u := by
    simp only [us, List.map_map]
    conv => lhs; rw [← List.map_id cs]
    refine List.map_congr_left fun c hcm => ?_
    simp only [id, Function.comp]
    rw [Nat.mul_div_cancel' (hd1 c hcm)]
  have hmem : ∀ c ∈ cs, c / g ∈ us := fun c h => List.mem_map.mpr ⟨c, h, rfl⟩
  have hum : Min us (m / g) := ⟨hmem m hm.mem, fun u hu => by
    obtain ⟨c, h1, rfl⟩ := List.mem_map.mp hu
    exact Nat.div_le_div_right (hm.le c h1)⟩
  have hm0 : 0 < m / g := Nat.div_pos (Nat.le_of_dvd h0 hgm) hg0
  have hMM : ∀ u ∈ us, u ≤ M / g := fun u hu => by
    obtain ⟨c, h1, rfl⟩ := List.mem_map.mp hu
    exact Nat.div_le_div_right (hMle c h1)
  have hMg : M = g * (M / g) := (Nat.mul_div_cancel' (hd1 M hMm)).symm
  have hMB : M ≤ 240 := (hc.ok M hMm).2
  have hMgB : M / g ≤ 240 := Nat.le_trans (Nat.div_le_self _ _) hMB
  have hmgB : m / g ≤ 240 := Nat.le_trans (Nat.div_le_self _ _) hmB
  have hune : us ≠ [] := fun e => hc.ne (by simpa [us] using e)
  obtain ⟨M2, q1, q2, hmx⟩ := maxLn hune
  have hM2 : M2 = M / g := Nat.le_antisymm (hMM M2 q1) (q2 _ (hmem M hMm))
  subst hM2
  obtain ⟨T, hT, hTl, hpayable⟩ := payable_ok (k+2) hum hm0 (hmem M hMm) hMM (by omega) (by simp [us]; omega) hmx
  have hTB : T.length ≤ 57601 := by
    rw [hTl]
    have := Nat.mul_le_mul hmgB hMgB
    omega
  have hsB : s ≤ 60000 := by
    rcases hS.not with z | ⟨u, e1, _, _, h4⟩
    · omega
    · have := Nat.mul_le_mul hmgB hMB
      omega
  obtain ⟨o, ho, hhand⟩ := handed_ok (k+2) x cs
  obtain ⟨rs, hr, hrun⟩ := row_ok (k+2) (cellI ns 2) (sizes := [401, 60, 8, 100]) (by simp) (by simp)
  obtain ⟨r0, hr0, hr0l⟩ := Drawn.at_ hr (i := 0) rfl
  obtain ⟨r1, hr1, hr1l⟩ := Drawn.at_ hr (i := 1) rfl
  obtain ⟨r2, hr2, hr2l⟩ := Drawn.at_ hr (i := 2) rfl
  obtain ⟨r3, hr3, hr3l⟩ := Drawn.at_ hr (i := 3) rfl
  have g0 := nD_at hr0
  have g1 := nD_at hr1
  have g2 := nD_at hr2
  have g3 := nD_at hr3
  have hrun' : callD prog (k+3) 0 [.fz (.int (cellI ns 2)), .fz (.lst [.int 401, .int 60, .int 8, .int 100])] = .ok (.l ((nD rs).map .fz)) [] := hrun
  have c0 : callD prog (k+3) 5 [.fz (.scr ns), .fz (.int 0)] = .ok (.fz (.int (cellI ns 0))) [] := cell_ok (k+2) ns 0
  have c1 : callD prog (k+3) 5 [.fz (.scr ns), .fz (.int 1)] = .ok (.fz (.int (cellI ns 1))) [] := cell_ok (k+2) ns 1
  have c2 : callD prog (k+3) 5 [.fz (.scr ns), .fz (.int 2)] = .ok (.fz (.int (cellI ns 2))) [] := cell_ok (k+2) ns 2
  have hcoins' : callD prog (k+3) 1 [.fz (.int (cellI ns 0)), .fz (.int (cellI ns 1))] = .ok (.t [.l ((nD cs).map .fz), .fz (.bl x)]) [] := hcoins
  have hsure' : callD prog (k+3) 8 [.fz (hd x cs)] = .ok (.fz (.int s)) [] := hsure
  have hint : ∀ i, callD prog (k+3) 10 [.fz (.int i)] = .ok (.fz (.bl true)) [] := isInt_ok (k+2)
  have hfdv : ∀ z : Int, binO .fdv (.fz (.int z)) (.fz (.int (g : Nat))) = some (.fz (.int (z / (g : Nat)))) := fun z => bin_fdv (by omega)
  have hgp : (0 : Int) < (g : Nat) := by omega
  -- the units' list
  have hlc := lc_list (cf := callD prog (k+3)) (ini := prog.ini) (env := [.fz (.scr ns), .fz (.tup false [.lst (nD cs), .bl x]), .fz (.lst (nD cs)), .fz (.int g), .dead, .dead, .dead, .dead, .dead, .dead, .dead, .dead, .dead, .dead, .dead]) (own := [14]) (tg := .nm 14) (c := .no) (e := .bin .fdv (.var 14) (.var 3)) (xs := cs) (g := fun c : Nat => D.int (c : Int))
    (fun c => O.fz (.int ((c / g : Nat) : Int))) (le_size (by omega)) (by
      intro c _
      (k_with "evs" => simp only [hfdv])
      simp)
  rw [← nD_eq, show (cs.map fun c => O.fz (.int ((c / g : Nat) : Int))) = (nD us).map O.fz by simp [nD_eq, us]] at hlc
  -- the search
  have hTbl : ∀ {i : Nat} {b : Bool}, T[i]? = some b → (T.map D.bl)[i]? = some (.bl b) := fun h => by rw [List.getElem?_map, h]; rfl
  obtain ⟨env', h1, L, x6, hAt, rfl⟩ := forT_list (f := forF (callD prog (k+3)) prog.ini prog.sb [] (.nm 6) (ss [.ifs (.not_ (.idx (.var 4) (.var 6))) (ss [.set false 5 (.bin .mul (.bin .add (.var 6) (.int 1)) (.var 3))]) (ss [])])) (fun j : Nat => D.int (j : Int))
    (fun pre env => ∃ (L : Nat) (x6 : O), At T g pre.length L ∧ env = [.fz (.scr ns), .fz (.tup false [.lst (nD cs), .bl x]), .fz (.lst (nD cs)), .fz (.int g), .fz (.lst (T.map D.bl)), .fz (.int L), x6, .dead, .dead, .dead, .dead, .dead, .dead, .dead, .dead]) (xs := List.range T.length)
    (env := [.fz (.scr ns), .fz (.tup false [.lst (nD cs), .bl x]), .fz (.lst (nD cs)), .fz (.int g), .fz (.lst (T.map D.bl)), .fz (.int 0), .dead, .dead, .dead, .dead, .dead, .dead, .dead, .dead, .dead])
    ⟨0, .dead, .inl ⟨rfl, fun i hi => by simp at hi⟩, rfl⟩ (by
      rintro pre j post env e ⟨L, x6, hA, rfl⟩
      have hlt : pre.length < T.length := by
        have := congrArg List.length e
        simp at this; omega
      have hj : pre.length = j := by
        have : (List.range T.length)[pre.length]? = some j := by rw [e]; simp
        rw [List.getElem?_range hlt] at this
        exact Option.some.inj this
      have hTj : T[pre.length]? = some T[pre.length] := List.getElem?_eq_getElem hlt
      generalize T[pre.length] = b at hTj
      have hn := hA.next hTj
      rw [hj] at hTj
      have hTb := hTbl hTj
      cases b with
      | true =>
        (k_with "evs" => simp only [hTb])
        exact ⟨_, rfl, L, _, by rw [List.length_append]; exact hn, rfl⟩
      | false =>
        have hmul : binO .mul (.fz (.int ((j : Int) + 1))) (.fz (.int (g : Nat))) = some (.fz (.int (((j + 1) * g : Nat) : Int))) := by
          rw [bin_mul (.inr (by omega))]; simp
        (k_with "evs" => simp only [hTb, hmul])
        exact ⟨_, rfl, (j + 1) * g, _, by rw [List.length_append, ← hj]; exact hn, rfl⟩)
  rw [List.length_range] at hAt
  have hL : L = s := hAt.sure hg0 hus hS hT hMg hTl
  subst hL
  -- asked twice
  obtain ⟨env', h2, y8, y12, rfl⟩ := forT_list (f := forF (callD prog (k+3)) prog.ini prog.sb [] (.nm 8) (ss [.set false 12 (.call 8 (es [(.var 7)]) []), .ifs (.or_ (.not_ (.call 10 (es [(.var 12)]) [])) (.cmp .ne (.var 12) (.var 5))) (ss [.ret (.bl false)]) (ss [])])) (fun j : Nat => D.int (j : Int))
    (fun pre env => ∃ (y8 y12 : O), env = [.fz (.scr ns), .fz (.tup false [.lst (nD cs), .bl x]), .fz (.lst (nD cs)), .fz (.int g), .fz (.lst (T.map D.bl)), .fz (.int L), x6, .fz (hd x cs), y8, .dead, .dead, .dead, y12, .dead, .dead]) (xs := List.range 2)
    (env := [.fz (.scr ns), .fz (.tup false [.lst (nD cs), .bl x]), .fz (.lst (nD cs)), .fz (.int g), .fz (.lst (T.map D.bl)), .fz (.int L), x6, .fz (hd x cs), .dead, .dead, .dead, .dead, .dead, .dead, .dead]) ⟨_, _, rfl⟩ (by
      rintro pre j post env e ⟨y8, y12, rfl⟩
      (k_with "evs" => simp only [hsure', hint])
      exact ⟨_, rfl, _, _, rfl⟩)
  -- the amounts
  have h3 : ∀ As : List Nat, (∀ b ∈ As, b < 1000000) → ∃ z11 z13, forT (forF (callD prog (k+3)) prog.ini prog.sb [] (.nm 11) amtBody) (As.map fun b : Nat => D.int (b : Int)) [.fz (.scr ns), .fz (.tup false [.lst (nD cs), .bl x]), .fz (.lst (nD cs)), .fz (.int g), .fz (.lst (T.map D.bl)), .fz (.int L), x6, .fz (hd x cs), y8, .fz (.lst (nD rs)), .fz (.lst (As.map fun b : Nat => D.int (b : Int))), .dead, y12, .dead, .dead] = .nx [.fz (.scr ns), .fz (.tup false [.lst (nD cs), .bl x]), .fz (.lst (nD cs)), .fz (.int g), .fz (.lst (T.map D.bl)), .fz (.int L), x6, .fz (hd x cs), y8, .fz (.lst (nD rs)), .fz (.lst (As.map fun b : Nat => D.int (b : Int))), z11, y12, z13, .dead] := by
    intro As hAs
    obtain ⟨env', h1, z11, z13, rfl⟩ := forT_list (f := forF (callD prog (k+3)) prog.ini prog.sb [] (.nm 11) amtBody) (fun j : Nat => D.int (j : Int))
      (fun pre env => ∃ (z11 z13 : O), env = [.fz (.scr ns), .fz (.tup false [.lst (nD cs), .bl x]), .fz (.lst (nD cs)), .fz (.int g), .fz (.lst (T.map D.bl)), .fz (.int L), x6, .fz (hd x cs), y8, .fz (.lst (nD rs)), .fz (.lst (As.map fun b : Nat => D.int (b : Int))), z11, y12, z13, .dead]) (xs := As)
      (env := [.fz (.scr ns), .fz (.tup false [.lst (nD cs), .bl x]), .fz (.lst (nD cs)), .fz (.int g), .fz (.lst (T.map D.bl)), .fz (.int L), x6, .fz (hd x cs), y8, .fz (.lst (nD rs)), .fz (.lst (As.map fun b : Nat => D.int (b : Int))), .dead, y12, .dead, .dead]) ⟨_, _, rfl⟩ (by
        rintro pre b post env e ⟨z11, z13, rfl⟩
        have hb : b < 1000000 := hAs b (by rw [e]; simp)
        have hp := pays_ok k x hc hb (told_ok hg0 hus hd1 hS hT hMg hTl b)
        have hmod : (b : Int) % (g : Int) = ((b % g : Nat) : Int) := rfl
        have hdiv : (b : Int) / (g : Int) = ((b / g : Nat) : Int) := rfl
        unfold told at hp
        simp only [amtBody]
        by_cases q1 : b % g = 0
        · have d1 : decide (((b % g : Nat) : Int) = 0) = true := decide_eq_true (by omega)
          rw [if_pos q1] at hp
          by_cases q2 : b / g < T.length
          · have d2 : decide (((b / g : Nat) : Int) < ((T.map D.bl).length : Int)) = true := decide_eq_true (by rw [List.length_map]; omega)
            rw [if_pos q2] at hp
            have hTb := hTbl (i := b / g) (b := T.getD (b / g) false) (by rw [List.getD_eq_getElem?_getD, List.getElem?_eq_getElem q2]; rfl)
            (k_with "evs" => simp only [bin_mod hgp, hmod, d1, hfdv, hdiv, d2, hTb, hp])
            exact ⟨_, rfl, _, _, rfl⟩
          · have d2 : decide (((b / g : Nat) : Int) < ((T.map D.bl).length : Int)) = false := decide_eq_false (by rw [List.length_map]; omega)
            rw [if_neg q2] at hp
            (k_with "evs" => simp only [bin_mod hgp, hmod, d1, hfdv, hdiv, d2, hp])
            exact ⟨_, rfl, _, _, rfl⟩
        · have d1 : decide (((b % g : Nat) : Int) = 0) = false := decide_eq_false (by omega)
          rw [if_neg q1] at hp
          (k_with "evs" => simp only [bin_mod hgp, hmod, d1, hfdv, hdiv, hp])
          exact ⟨_, rfl, _, _, rfl⟩)
    exact ⟨z11, z13, h1⟩
  rw [call_eq (fd := f_law) rfl rfl rfl]
  show fin [] (exs _ _ _ [] b_law [.fz (.scr ns), .dead, .dead, .dead, .dead, .dead, .dead, .dead, .dead, .dead, .dead, .dead, .dead, .dead, .dead]) = _
  have e1 : (L : Int) + (r1 : Int) = ((L + r1 : Nat) : Int) := by omega
  have e2 : biO .max2 [.fz (.int 0), .fz (.int ((L : Int) - (g : Int)))] = some (.fz (.int ((L - g : Nat) : Int))) := by
    rw [max2_int]
    congr 3
    split <;> omega
  have e3 : (L : Int) + (g : Int) = ((L + g : Nat) : Int) := by omega
  have e4 : (L : Int) + 1 = ((L + 1 : Nat) : Int) := by omega
  have e5 : (3000 : Int) + (r3 : Int) = ((3000 + r3 : Nat) : Int) := by omega
  have n1 : near (T.length : Int) = true := near_ok (by omega)
  have hr2' : rangeD 0 2 = (List.range 2).map fun j : Nat => D.int (j : Int) := rfl
  simp only [ss_cons, ss_nil, es_cons, es_nil] at h1 h2
  by_cases q : r2 = 0
  · obtain ⟨z11, z13, h4⟩ := h3 [0, r0, L, L + r1, L - g, L + g, L + 1, 3000 + r3] (by simp; omega)
    have d1 : decide ((r2 : Int) = 0) = true := decide_eq_true (by omega)
    have d7 : decide (7 < sizeMax) = true := by simp [sizeMax]
    simp only [amtBody, ss_cons, ss_nil, es_cons, es_nil, List.map_cons, List.map_nil, Int.natCast_zero] at h4
    simp only [b_law]
    (k_with "evs" => simp only [c0, c1, c2, hcoins', hmeas, hlc, hpayable, rds_bD, List.length_map, n1, if_true, range_nat, h1, hhand, ho, near_ok (show -(2 ^ 62) ≤ (2 : Int) ∧ (2 : Int) < 2 ^ 62 by decide), hr2', h2, hrun', g0, g1, g2, g3, e1, e2, e3, e4, e5, d1, d7, h4, list_hd, eq_nD])
  · obtain ⟨z11, z13, h4⟩ := h3 [0, r0, L, L + r1, L - g, L + g, L + 1] (by simp; omega)
    have d1 : decide ((r2 : Int) = 0) = false := decide_eq_false (by omega)
    simp only [amtBody, ss_cons, ss_nil, es_cons, es_nil, List.map_cons, List.map_nil, Int.natCast_zero] at h4
    simp only [b_law]
    (k_with "evs" => simp only [c0, c1, c2, hcoins', hmeas, hlc, hpayable, rds_bD, List.length_map, n1, if_true, range_nat, h1, hhand, ho, near_ok (show -(2 ^ 62) ≤ (2 : Int) ∧ (2 : Int) < 2 ^ 62 by decide), hr2', h2, hrun', g0, g1, g2, g3, e1, e2, e3, e4, e5, d1, h4, list_hd, eq_nD])
end K32

/-! Hd32 -/
set_option Elab.async false
set_option linter.all false
set_option maxRecDepth 100000
set_option maxHeartbeats 0
namespace K32
open PySem PySem.Spec PyProof.Rows L2
def top (i : Nat) : Stmt := PySem.Challenge.pw_lanternhouse_k32_coins.main.body.getD i (.Pass ⟨0, 0, 0, 0⟩)
def d0 : He.DefD := ⟨("_law_row", none), "_law_row", "_law_row", defArgs (top 10), defBody (top 10), defScope (top 10), [], []⟩
def d1 : He.DefD := ⟨("_law_coins", none), "_law_coins", "_law_coins", defArgs (top 13), defBody (top 13), defScope (top 13), [], []⟩
def d2 : He.DefD := ⟨("_law_measure", none), "_law_measure", "_law_measure", defArgs (top 14), defBody (top 14), defScope (top 14), [], []⟩
def d3 : He.DefD := ⟨("_law_payable", none), "_law_payable", "_law_payable", defArgs (top 15), defBody (top 15), defScope (top 15), [], []⟩
def d4 : He.DefD := ⟨("_law_handed", none), "_law_handed", "_law_handed", defArgs (top 16), defBody (top 16), defScope (top 16), [], []⟩
def d5 : He.DefD := ⟨("_law_cell", none), "_law_cell", "_law_cell", defArgs (top 9), defBody (top 9), defScope (top 9), [], []⟩
def d6 : He.DefD := ⟨("common_measure", none), "common_measure", "common_measure", defArgs (top 3), defBody (top 3), defScope (top 3), [], []⟩
def d7 : He.DefD := ⟨("_least_sums", none), "_least_sums", "_least_sums", defArgs (top 5), defBody (top 5), defScope (top 5), [], []⟩
def d8 : He.DefD := ⟨("sure_amount", none), "sure_amount", "sure_amount", defArgs (top 6), defBody (top 6), defScope (top 6), [], []⟩
def d9 : He.DefD := ⟨("pay", none), "pay", "pay", defArgs (top 7), defBody (top 7), defScope (top 7), [], []⟩
def d10 : He.DefD := ⟨("_law_is_integer", none), "_law_is_integer", "_law_is_integer", defArgs (top 11), defBody (top 11), defScope (top 11), [], []⟩
def d11 : He.DefD := ⟨("_law_integers", none), "_law_integers", "_law_integers", defArgs (top 12), defBody (top 12), defScope (top 12), [], []⟩
def d12 : He.DefD := ⟨("_law_pays", none), "_law_pays", "_law_pays", defArgs (top 17), defBody (top 17), defScope (top 17), [], []⟩
def d13 : He.DefD := ⟨("law", none), "law", "law", defArgs (top 18), defBody (top 18), defScope (top 18), [], []⟩
def fn : List He.DefD := ([d0, d1, d2, d3, d4, d5, d6, d7, d8, d9, d10, d11, d12, d13] : List He.DefD)
def fa : List He.Fa := ([.glo "_law_row", .glo "_law_coins", .glo "_law_measure", .glo "_law_payable", .glo "_law_handed", .glo "_law_cell", .glo "common_measure", .glo "_least_sums", .glo "sure_amount", .glo "pay", .glo "_law_is_integer", .glo "_law_integers", .glo "_law_pays", .glo "law", .free "len", .free "int", .free "list", .free "tuple", .free "sum", .free "all", .free "any", .free "max", .free "min", .free "abs", .free "sorted", .free "set", .free "isinstance", .free "bool", .free "str", .free "range"] : List He.Fa) ++ ([.free "zip", .free "enumerate", .free "reversed"] : List He.Fa)
def bl : List (Str × String) := ([("heappop", "_heapq.heappop"), ("heappush", "_heapq.heappush"), ("gcd", "math.gcd")] : List (Str × String))
def chk (K : PySem.W.Frag) : Bool := (fa.all fun f => f.ok K) && bl.all fun q => Ev.bltB K q.1 q.2
abbrev R : PySem.W.OpenRow := PySem.W.OpenLaw.row PySem.Challenge.rw_lanternhouse_k32_coins
abbrev hk : PySem.W.Hook := Ev.hookV 5 chk fn
def ob (s : PySem.W.SharedT) : Ev.AlV := Ev.obsVG 5 chk fn (HandSHeadRun.getT s)
theorem ob_eq (s : PySem.W.SharedT) : ob s = hk.obs s.abs := Ev.obsVG_eq (HandSHeadRun.getT_eq s)
def loose : List PySem.Str := (["common_measure", "_least_sums", "sure_amount", "pay", "_law_cell", "_law_row", "_law_is_integer", "_law_integers", "_law_coins", "_law_measure", "_law_payable", "_law_handed", "_law_pays"] : List PySem.Str)
theorem run (w : World) : HandSHeadRun.RunEqI R (PySem.W.view R.prog [0, 1, 18]) hk ob 20000 loose w := by

  show (_ : Option _) = _
  kernel_rfl
end K32

/-! Ck32 -/
set_option Elab.async false
set_option linter.all false
set_option maxRecDepth 100000
set_option maxHeartbeats 0
namespace K32
open PySem PySem.Spec PyProof.Rows L2 Ev
def Γ : Gm := { fn := [("_law_row", [[]]), ("_law_coins", [[]]), ("_law_measure", [[]]), ("_law_payable", [[]]), ("_law_handed", [[]]), ("_law_cell", [[]]), ("common_measure", [[]]), ("_least_sums", [[]]), ("sure_amount", [[]]), ("pay", [[]]), ("_law_is_integer", [[]]), ("_law_integers", [[]]), ("_law_pays", [[]]), ("law", [])], cl := [], gs := [], bs := bl, md := fun c => [], mkw := fun c => [] }
theorem c0 : defChk Γ f__law_row ["_law_cell_here", "_law_sizes", "_law_row_here", "_law_rest", "_law_k", "_law_mixed"] ["_law_cell_here", "_law_sizes"] d0.scope d0.body = true := by decide +kernel
theorem c1 : defChk Γ f__law_coins ["_law_one", "_law_two", "_law_row_here", "_law_choice", "_law_coins_here", "_law_factor", "_law_k", "_law_coin"] ["_law_one", "_law_two"] d1.scope d1.body = true := by decide +kernel
theorem c2 : defChk Γ f__law_measure ["_law_coins_here", "_law_best", "_law_size", "_law_coin"] ["_law_coins_here"] d2.scope d2.body = true := by decide +kernel
theorem c3 : defChk Γ f__law_payable ["_law_units", "_law_table", "_law_amount", "_law_unit"] ["_law_units"] d3.scope d3.body = true := by decide +kernel
theorem c4 : defChk Γ f__law_handed ["_law_coins_here", "_law_loose"] ["_law_coins_here", "_law_loose"] d4.scope d4.body = true := by decide +kernel
theorem c5 : defChk Γ f__law_cell ["_law_script", "_law_k"] ["_law_script", "_law_k"] d5.scope d5.body = true := by decide +kernel
theorem c6 : defChk Γ f_common_measure ["numbers", "measure", "number"] ["numbers"] d6.scope d6.body = true := by decide +kernel
theorem c7 : defChk Γ f__least_sums ["coins", "found", "queue", "amount", "last", "coin"] ["coins"] d7.scope d7.body = true := by decide +kernel
theorem c8 : defChk Γ f_sure_amount ["coins", "sums", "found"] ["coins"] d8.scope d8.body = true := by decide +kernel
theorem c9 : defChk Γ f_pay ["coins", "amount", "least", "sums", "found", "counts", "rest", "coin"] ["coins", "amount"] d9.scope d9.body = true := by decide +kernel
theorem c10 : defChk Γ f__law_is_integer ["_law_actual"] ["_law_actual"] d10.scope d10.body = true := by decide +kernel
theorem c11 : defChk Γ f__law_integers ["_law_actual", "_law_number"] ["_law_actual"] d11.scope d11.body = true := by decide +kernel
theorem c12 : defChk Γ f__law_pays ["_law_coins_here", "_law_loose", "_law_amount", "_law_payable_here", "_law_handed_here", "_law_turn", "_law_told", "_law_k"] ["_law_coins_here", "_law_loose", "_law_amount", "_law_payable_here"] d12.scope d12.body = true := by decide +kernel
theorem c13 : defChk Γ f_law ["_law_script", "_law_made", "_law_coins_here", "_law_measure_here", "_law_table", "_law_sure", "_law_unit", "_law_handed_here", "_law_turn", "_law_row_here", "_law_amounts", "_law_amount", "_law_told", "_law_payable_here", "_law_coin"] ["_law_script"] d13.scope d13.body = true := by decide +kernel
end K32

/-! End32 -/
set_option Elab.async false
set_option linter.all false
set_option maxRecDepth 100000
set_option maxHeartbeats 0
namespace K32
open PySem PySem.Spec PyProof.Rows L2 Ev
section
variable {K : PySem.W.Frag} {h : Heap} {mg : Str → Option Value}
theorem fact (c : SaysV chk fn K) {f : He.Fa} (i : Nat) (e : fa[i]? = some f := by rfl) : f.ok K = true := List.all_eq_true.mp (He.ba c.facts).1 f (List.mem_of_getElem? e)
def ctx (K : PySem.W.Frag) : Ev.Ctx := ⟨fun c => 0, fun c => [], K⟩
theorem a0 (X : K.In h) (G : h.Ns mainGlobals mg) (c : SaysV chk fn K) : FnAt prog Γ K mg 0 "_law_row" [] := by
  obtain ⟨fd, F⟩ := c.def_ 0 (d := d0) rfl
  exact fnAt0 (d := d0) (ps := ["_law_cell_here", "_law_sizes"]) (He.glo_ok X G (fact c 0 (f := .glo "_law_row") rfl)) F rfl (fun _ _ _ _ _ _ us hl => match us, hl with | [_, _], _ => rfl) rfl c0
theorem a1 (X : K.In h) (G : h.Ns mainGlobals mg) (c : SaysV chk fn K) : FnAt prog Γ K mg 1 "_law_coins" [] := by
  obtain ⟨fd, F⟩ := c.def_ 1 (d := d1) rfl
  exact fnAt0 (d := d1) (ps := ["_law_one", "_law_two"]) (He.glo_ok X G (fact c 1 (f := .glo "_law_coins") rfl)) F rfl (fun _ _ _ _ _ _ us hl => match us, hl with | [_, _], _ => rfl) rfl c1
theorem a2 (X : K.In h) (G : h.Ns mainGlobals mg) (c : SaysV chk fn K) : FnAt prog Γ K mg 2 "_law_measure" [] := by
  obtain ⟨fd, F⟩ := c.def_ 2 (d := d2) rfl
  exact fnAt0 (d := d2) (ps := ["_law_coins_here"]) (He.glo_ok X G (fact c 2 (f := .glo "_law_measure") rfl)) F rfl (fun _ _ _ _ _ _ us hl => match us, hl with | [_], _ => rfl) rfl c2
theorem a3 (X : K.In h) (G : h.Ns mainGlobals mg) (c : SaysV chk fn K) : FnAt prog Γ K mg 3 "_law_payable" [] := by
  obtain ⟨fd, F⟩ := c.def_ 3 (d := d3) rfl
  exact fnAt0 (d := d3) (ps := ["_law_units"]) (He.glo_ok X G (fact c 3 (f := .glo "_law_payable") rfl)) F rfl (fun _ _ _ _ _ _ us hl => match us, hl with | [_], _ => rfl) rfl c3
theorem a4 (X : K.In h) (G : h.Ns mainGlobals mg) (c : SaysV chk fn K) : FnAt prog Γ K mg 4 "_law_handed" [] := by
  obtain ⟨fd, F⟩ := c.def_ 4 (d := d4) rfl
  exact fnAt0 (d := d4) (ps := ["_law_coins_here", "_law_loose"]) (He.glo_ok X G (fact c 4 (f := .glo "_law_handed") rfl)) F rfl (fun _ _ _ _ _ _ us hl => match us, hl with | [_, _], _ => rfl) rfl c4
theorem a5 (X : K.In h) (G : h.Ns mainGlobals mg) (c : SaysV chk fn K) : FnAt prog Γ K mg 5 "_law_cell" [] := by
  obtain ⟨fd, F⟩ := c.def_ 5 (d := d5) rfl
  exact fnAt0 (d := d5) (ps := ["_law_script", "_law_k"]) (He.glo_ok X G (fact c 5 (f := .glo "_law_cell") rfl)) F rfl (fun _ _ _ _ _ _ us hl => match us, hl with | [_, _], _ => rfl) rfl c5
theorem a6 (X : K.In h) (G : h.Ns mainGlobals mg) (c : SaysV chk fn K) : FnAt prog Γ K mg 6 "common_measure" [] := by
  obtain ⟨fd, F⟩ := c.def_ 6 (d := d6) rfl
  exact fnAt0 (d := d6) (ps := ["numbers"]) (He.glo_ok X G (fact c 6 (f := .glo "common_measure") rfl)) F rfl (fun _ _ _ _ _ _ us hl => match us, hl with | [_], _ => rfl) rfl c6
theorem a7 (X : K.In h) (G : h.Ns mainGlobals mg) (c : SaysV chk fn K) : FnAt prog Γ K mg 7 "_least_sums" [] := by
  obtain ⟨fd, F⟩ := c.def_ 7 (d := d7) rfl
  exact fnAt0 (d := d7) (ps := ["coins"]) (He.glo_ok X G (fact c 7 (f := .glo "_least_sums") rfl)) F rfl (fun _ _ _ _ _ _ us hl => match us, hl with | [_], _ => rfl) rfl c7
theorem a8 (X : K.In h) (G : h.Ns mainGlobals mg) (c : SaysV chk fn K) : FnAt prog Γ K mg 8 "sure_amount" [] := by
  obtain ⟨fd, F⟩ := c.def_ 8 (d := d8) rfl
  exact fnAt0 (d := d8) (ps := ["coins"]) (He.glo_ok X G (fact c 8 (f := .glo "sure_amount") rfl)) F rfl (fun _ _ _ _ _ _ us hl => match us, hl with | [_], _ => rfl) rfl c8
theorem a9 (X : K.In h) (G : h.Ns mainGlobals mg) (c : SaysV chk fn K) : FnAt prog Γ K mg 9 "pay" [] := by
  obtain ⟨fd, F⟩ := c.def_ 9 (d := d9) rfl
  exact fnAt0 (d := d9) (ps := ["coins", "amount"]) (He.glo_ok X G (fact c 9 (f := .glo "pay") rfl)) F rfl (fun _ _ _ _ _ _ us hl => match us, hl with | [_, _], _ => rfl) rfl c9
theorem a10 (X : K.In h) (G : h.Ns mainGlobals mg) (c : SaysV chk fn K) : FnAt prog Γ K mg 10 "_law_is_integer" [] := by
  obtain ⟨fd, F⟩ := c.def_ 10 (d := d10) rfl
  exact fnAt0 (d := d10) (ps := ["_law_actual"]) (He.glo_ok X G (fact c 10 (f := .glo "_law_is_integer") rfl)) F rfl (fun _ _ _ _ _ _ us hl => match us, hl with | [_], _ => rfl) rfl c10
theorem a11 (X : K.In h) (G : h.Ns mainGlobals mg) (c : SaysV chk fn K) : FnAt prog Γ K mg 11 "_law_integers" [] := by
  obtain ⟨fd, F⟩ := c.def_ 11 (d := d11) rfl
  exact fnAt0 (d := d11) (ps := ["_law_actual"]) (He.glo_ok X G (fact c 11 (f := .glo "_law_integers") rfl)) F rfl (fun _ _ _ _ _ _ us hl => match us, hl with | [_], _ => rfl) rfl c11
theorem a12 (X : K.In h) (G : h.Ns mainGlobals mg) (c : SaysV chk fn K) : FnAt prog Γ K mg 12 "_law_pays" [] := by
  obtain ⟨fd, F⟩ := c.def_ 12 (d := d12) rfl
  exact fnAt0 (d := d12) (ps := ["_law_coins_here", "_law_loose", "_law_amount", "_law_payable_here"]) (He.glo_ok X G (fact c 12 (f := .glo "_law_pays") rfl)) F rfl (fun _ _ _ _ _ _ us hl => match us, hl with | [_, _, _, _], _ => rfl) rfl c12
theorem stat (X : K.In h) (G : h.Ns mainGlobals mg) (c : SaysV chk fn K) : Stat Γ (ctx K) prog K mg where
  kk := rfl
  free := fun x hx => by
    obtain ⟨i, hi, e⟩ := List.mem_iff_getElem.mp hx
    have hi2 : i < 19 := hi
    subst e
    match i, hi2 with
    | 0, _ => exact He.free_ok X G (fact c 14 (f := .free "len") rfl)
    | 1, _ => exact He.free_ok X G (fact c 15 (f := .free "int") rfl)
    | 2, _ => exact He.free_ok X G (fact c 16 (f := .free "list") rfl)
    | 3, _ => exact He.free_ok X G (fact c 17 (f := .free "tuple") rfl)
    | 4, _ => exact He.free_ok X G (fact c 18 (f := .free "sum") rfl)
    | 5, _ => exact He.free_ok X G (fact c 19 (f := .free "all") rfl)
    | 6, _ => exact He.free_ok X G (fact c 20 (f := .free "any") rfl)
    | 7, _ => exact He.free_ok X G (fact c 21 (f := .free "max") rfl)
    | 8, _ => exact He.free_ok X G (fact c 22 (f := .free "min") rfl)
    | 9, _ => exact He.free_ok X G (fact c 23 (f := .free "abs") rfl)
    | 10, _ => exact He.free_ok X G (fact c 24 (f := .free "sorted") rfl)
    | 11, _ => exact He.free_ok X G (fact c 25 (f := .free "set") rfl)
    | 12, _ => exact He.free_ok X G (fact c 26 (f := .free "isinstance") rfl)
    | 13, _ => exact He.free_ok X G (fact c 27 (f := .free "bool") rfl)
    | 14, _ => exact He.free_ok X G (fact c 28 (f := .free "str") rfl)
    | 15, _ => exact He.free_ok X G (fact c 29 (f := .free "range") rfl)
    | 16, _ => exact He.free_ok X G (fact c 30 (f := .free "zip") rfl)
    | 17, _ => exact He.free_ok X G (fact c 31 (f := .free "enumerate") rfl)
    | 18, _ => exact He.free_ok X G (fact c 32 (f := .free "reversed") rfl)
    | n + 19, h => exact absurd h (by omega)
  gs := fun n x e => by
    exact absurd (lookup_mem e) (by simp [Γ])
  bs := fun n id e => bltB_ok X G (List.all_eq_true.mp (He.ba c.facts).2 (n, id) (lookup_mem e))
  cl := fun c q e => by simp [Γ] at e
  ci := fun c q e => by simp [Γ] at e
  cn := fun c q e => by simp [Γ] at e
  mk_ := fun c q e => by simp [Γ] at e
  fn := fun f q ds h1 h2 => by
    match f, h1 with
    | 0, h1 => cases h1; rcases List.mem_singleton.mp h2 with rfl; exact a0 X G c
    | 1, h1 => cases h1; rcases List.mem_singleton.mp h2 with rfl; exact a1 X G c
    | 2, h1 => cases h1; rcases List.mem_singleton.mp h2 with rfl; exact a2 X G c
    | 3, h1 => cases h1; rcases List.mem_singleton.mp h2 with rfl; exact a3 X G c
    | 4, h1 => cases h1; rcases List.mem_singleton.mp h2 with rfl; exact a4 X G c
    | 5, h1 => cases h1; rcases List.mem_singleton.mp h2 with rfl; exact a5 X G c
    | 6, h1 => cases h1; rcases List.mem_singleton.mp h2 with rfl; exact a6 X G c
    | 7, h1 => cases h1; rcases List.mem_singleton.mp h2 with rfl; exact a7 X G c
    | 8, h1 => cases h1; rcases List.mem_singleton.mp h2 with rfl; exact a8 X G c
    | 9, h1 => cases h1; rcases List.mem_singleton.mp h2 with rfl; exact a9 X G c
    | 10, h1 => cases h1; rcases List.mem_singleton.mp h2 with rfl; exact a10 X G c
    | 11, h1 => cases h1; rcases List.mem_singleton.mp h2 with rfl; exact a11 X G c
    | 12, h1 => cases h1; rcases List.mem_singleton.mp h2 with rfl; exact a12 X G c
    | 13, h1 => cases h1; cases h2
    | n + 14, h1 => simp [Γ] at h1
end
end K32
open PySem PySem.W PySem.Calls PyProof.Rows
set_option maxRecDepth 100000 in
set_option maxHeartbeats 8000000 in
theorem PySem.Challenge.cw_lanternhouse_k32_coins_holds : PySem.Challenge.rw_lanternhouse_k32_coins.Holds := by
  w_on; o_law
  refine HandSHeadRun.head_imp (r := OpenLaw.row PySem.Challenge.rw_lanternhouse_k32_coins) (q := view (OpenLaw.row PySem.Challenge.rw_lanternhouse_k32_coins).prog [0, 1, 18]) (H := K32.hk) (ob := K32.ob) (M := 20000) (loose := K32.loose) (d := HandSHeadRun.topDef (OpenLaw.row PySem.Challenge.rw_lanternhouse_k32_coins).prog 18) (kwd := []) K32.ob_eq
    K32.run (by kernel_rfl) (by kernel_rfl) (by kernel_rfl) (by rfl) (by first | assumption | decide +kernel) (by decide +kernel) ⟨rfl, rfl, rfl, rfl, rfl, by decide +kernel⟩ ?hw ?hc
  case hw => w_witness2
  case hc =>
    refine L2.walk_ofE (l := PySem.Challenge.rw_lanternhouse_k32_coins) (n := 63) (k := 8) (x := "_law_script") (CX := Ev.CXw (PySem.Challenge.rw_lanternhouse_k32_coins).prog) rfl (by decide) (by kernel_rfl) ⟨rfl, by decide, by decide⟩ ?F (fun _ _ _ _ ⟨_, _, _, _, _, _, _, _, _, _, _, _, _, z⟩ => z)
    intro w mg fa h Y G hmg0
    obtain ⟨K, KX, c⟩ := Y
    have hmg : mg ("law" : PySem.Str) = some (.ref fa) := by
      have e : (HandSHeadRun.topDef (OpenLaw.row PySem.Challenge.rw_lanternhouse_k32_coins).prog 18).name = ("law" : PySem.Str) := by kernel_rfl
      rw [← e]
      exact hmg0
    have st := K32.stat KX G c
    obtain ⟨fd, F⟩ := c.def_ 13 (d := K32.d13) rfl
    have e := hmg.symm.trans (He.glo_ok KX G (K32.fact c 13 (f := .glo "law") rfl))
    cases e
    have b := L2.FunD.bindsA (ps := ["_law_script"]) F fun _ _ _ _ _ _ us hl => match us, hl with | [_], _ => rfl
    exact ⟨K, fd, Ev.spF (K32.ctx K) (Ev.callD K32.prog 4) K32.prog.np K32.prog.io 13, KX, fun s v => b s [v] rfl, fun H a ns hl hO hS => Ev.law_sp (p := K32.prog) (k := 4) (fl := 13) rfl rfl rfl hO hS (K32.law_ok 0 ns), fun base _ _ => Ev.law_ok (k := 3) (fl := 13) (N := ["_law_script", "_law_made", "_law_coins_here", "_law_measure_here", "_law_table", "_law_sure", "_law_unit", "_law_handed_here", "_law_turn", "_law_row_here", "_law_amounts", "_law_amount", "_law_told", "_law_payable_here", "_law_coin"]) (l := PySem.Challenge.rw_lanternhouse_k32_coins) st F rfl K32.c13⟩
