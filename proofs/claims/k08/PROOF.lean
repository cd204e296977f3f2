import PyProof.Rows.All
import Wide.All
import OpenK.AllK
import Wide.FinOn
import HandS.ForMost
import HandS.Wide
import HandS.Walk
import HandS.IsInst
import HandS.TupAny
import HandS.Deep
import HandS.Zip
import HandS.Conv
import HandS.Lambda
import KE.KeyNested
import KE.KDictKeyed
import HandS.TupMul
import HandS.Dict
import HandS.Star
import HandS.TupLe
import HandS.SortInts
import HandS.More
import HandS.Codes
import HandS.CallLocal
import KE.GoesEnum
import HandS.Style
import HandS.SetFor
import HandS.Strs
import HandS.SortRule
import KE.KIndexOf
import HandS.DictTup
import KE.DataMinMax
import KE.SortCalls
import KE.SortData
import KE.KTupSum
import KE.SortKeyHeap
import KE.DataFind
import KE.DataMinKey
import HandS.Nested
import HandS.ExcInit
import HandS.ExcIs
import HandS.ExcField
import HandS.ExcOwn
import KE.KExcSuper
import KE.KExcIs
import HandS.Defaults
import HandS.Head2
import HandS.HeadHook2
import HandS.Head0
import HandS.Head1
import HandS.HeadEnd
import HandS.HeadHook1
import HandS.HeadWalk
import PySem.Challenge.RW_walledin_k08_known_traps
set_option Elab.async false
set_option linter.all false
set_option maxRecDepth 100000
set_option autoImplicit false
/-! Data, a small program form, and its evaluator. -/
namespace Wl
open PySem

/-- data -/
inductive D where
  | non | bl (b : Bool) | int (i : Int) | str (s : Str) | tup (l : List D) | lst (l : List D) | dct (t : Bool) (ks vs : List D) | row
  /-- a def of the module, by its number -/
  | fn (k : Nat)
  deriving Inhabited

mutual
def D.beq : D → D → Bool
  | .non, .non => true
  | .bl a, .bl b => a == b
  | .bl a, .int j => (if a then 1 else 0) == j
  | .int i, .bl b => i == (if b then 1 else 0)
  | .int i, .int j => i == j
  | .str x, .str y => x == y
  | .lst xs, .lst ys => D.beqs xs ys
  | .tup xs, .tup ys => D.beqs xs ys
  | _, _ => false
def D.beqs : List D → List D → Bool
  | [], [] => true
  | x :: xs, y :: ys => D.beq x y && D.beqs xs ys
  | _, _ => false
end
mutual
/-- plain: no dicts, no row; nesting below n -/
def D.sh : Nat → D → Bool
  | _, .non => true
  | _, .bl _ => true
  | _, .int _ => true
  | _, .str s => PyData.strOk s
  | 0, .tup _ => false
  | 0, .lst _ => false
  | n + 1, .tup l => D.shs n l
  | n + 1, .lst l => D.shs n l
  | _, .dct _ _ _ => false
  | _, .row => false
  | _, .fn _ => false
def D.shs : Nat → List D → Bool
  | _, [] => true
  | n, d :: ds => D.sh n d && D.shs n ds
end
def isL : D → Bool
  | .lst _ => true
  | .dct _ _ _ => true
  | _ => false
def isNon : D → Bool
  | .non => true
  | _ => false
def D.flat : D → Bool
  | .non => true
  | .bl _ => true
  | .int _ => true
  | .str _ => true
  | _ => false

/-- the law's row: the script, the place, the two numbers -/
structure Row where
  sc : List Int
  p : Int
  h : Int
  c : Int

/-- an error: its class by number, its field -/
structure Ex where
  cls : Nat
  arg : D

inductive Res (α : Type) where
  | ok (a : α) (r : Row)
  | ex (e : Ex) (r : Row)
  | no
@[inline] def Res.bind {α β : Type} (x : Res α) (f : α → Row → Res β) : Res β :=
  match x with
  | .ok a r => f a r
  | .ex e r => .ex e r
  | .no => .no
def Res.of {α : Type} (x : Option α) (r : Row) : Res α := match x with
  | some a => .ok a r
  | none => .no

/-- a slot: not set, read only, one's own -/
inductive Sl where
  | un | fz (d : D) | ow (d : D)
  deriving Inhabited
abbrev Env := List Sl
def rd (env : Env) (i : Nat) : Option D := match env[i]? with
  | some (.fz d) => some d
  | some (.ow d) => some d
  | _ => none
def isOw : Option Sl → Bool
  | some (.ow _) => true
  | _ => false
def noOwn (env : Env) (l : List Nat) : Bool := l.all fun i => !isOw env[i]?
def frz1 : Sl → Sl
  | .ow d => .fz d
  | s => s
def frz (env : Env) : List Nat → Env
  | [] => env
  | i :: is => frz (env.modify i frz1) is
def st (env : Env) (i : Nat) (own : Bool) (d : D) : Env := env.set i (if own then .ow d else .fz d)

/-- operators -/
inductive Op where
  | add | sub | mul | fdiv | mod | addB
  deriving DecidableEq
inductive Cm where
  | eq | ne | lt | le | gt | ge
  deriving DecidableEq
/-- built-in functions of values -/
inductive Bf where
  | len | sorted | tuple | list | sum | min | max | any | all | int | listD | lenD | sortedT | sortedL | sortedD | minD | maxD | sortedP | sumT | sortedTL
  deriving DecidableEq
inductive Ty where
  | int | bool | tuple | list | str
  deriving DecidableEq

inductive IE where
  | var (i : Nat)
  | int (n : Int) | bl (b : Bool) | non | str (s : Str)
  | gint (x : Str) (n : Int)
  | op (o : Op) (a b : IE) | neg (a : IE)
  | cmp (c : Cm) (a b : IE) | chain (c c' : Cm) (a b d : IE)
  | isN (n : Bool) (a : IE)
  | inS (n : Bool) (a b : IE) | inD (n : Bool) (a b : IE)
  | not (a : IE) | and (a b : IE) | or (a b : IE) | one (a : IE) | ite (c a b : IE)
  | nil | cons (a b : IE) | star (a b : IE)
  | tup (l : IE) | lst (l : IE)
  | idx (a i : IE) | dget (a i : IE) | slc (a lo hi : IE)
  | call (f : Nat) (args : IE)
  | blt (f : Bf) (a : IE) | blt2 (f : Bf) (a b : IE) | isi (t : Ty) (a : IE) | isi2 (t u : Ty) (a : IE)
  | tupR (a : IE)
  | get1 (o k : IE) | get2 (o k z : IE)
  | dic (t : Bool) (k v : IE) | dic0 (t : Bool)
  /-- iterables -/
  | ind (a v : IE) | cnt (a v : IE)
  | minK (c : Nat) (a : IE) | maxK (i : Nat) (a : IE)
  | srtK (a : IE) | sset (a : IE) | tupR2 (a b : IE) | lstR1 (a : IE) | lstR2 (a b : IE) | isB (n b : Bool) (a : IE) | revL (a : IE) | rev (b : Bool) (a : IE) | itR3 (a b c : IE)
  | itL (a : IE) | itR1 (a : IE) | itR2 (a b : IE) | itE (a : IE) | itZ (a b : IE) | itK (a : IE) | itI (a : IE)
  | comp (fr tg : List Nat) (sole : Bool) (it : IE) (cond : Bool) (c e : IE)
  /-- a def as a value; a call of what a slot holds; the word of the error that a thing raises -/
  | fnv (k : Nat) | callv (i : Nat) (args : IE) | told (tb : List (Nat × Str × Bool)) (c : IE)
  /-- the first, or the second where the first tells nothing -/
  | alt (a b : IE)
  deriving Inhabited

def SZ : Nat := 16777216

def opD (o : Op) (a b : D) : Option D := match o, a, b with
  | .add, .int i, .int j => some (.int (i + j))
  | .add, .lst x, .lst y => if x.length + y.length ≤ SZ then some (.lst (x ++ y)) else none
  | .add, .tup x, .tup y => if x.length + y.length ≤ SZ then some (.tup (x ++ y)) else none
  | .sub, .int i, .int j => some (.int (i - j))
  | .mul, .int i, .int j => if (-(2 ^ 64) < i && i < 2 ^ 64) || (-(2 ^ 64) < j && j < 2 ^ 64) then some (.int (i * j)) else none
  | .mul, .lst x, .int k => if 0 ≤ k && k ≤ 4096 && x.length ≤ 4096 then some (.lst (List.replicate k.toNat x).flatten) else none
  | .mul, .tup x, .int k => if -1000 ≤ k && k ≤ 1000 && x.length ≤ 1000 then some (.tup (List.replicate k.toNat x).flatten) else none
  | .fdiv, .int i, .int j => if 0 < j && j < 18446744073709551616 then some (.int (i / j)) else none
  | .mod, .int i, .int j => if 0 < j then some (.int (i % j)) else none
  | .addB, .int i, .bl b => some (.int (i + if b = true then 1 else 0))
  | _, _, _ => none
/-- x in l -/
def inDs (x : D) (l : List D) : Bool := l.any fun z => D.beq z x
def inSD (a b : D) : Option Bool := match b with
  | .lst l => if D.sh 32 a && D.shs 31 l then some (inDs a l) else none
  | .tup l => if a.flat && l.all D.flat then some (inDs a l) else none
  | _ => none
/-- keys: intsD (texts), or tuples of such -/
def D.key : D → Bool
  | .int _ => true
  | .str _ => true
  | _ => false
mutual
/-- keys of any depth: ints, None, tuples of such -/
def D.keyN : Nat → D → Bool
  | _, .non => true
  | _, .int _ => true
  | n + 1, .tup l => D.keyNs n l
  | _, _ => false
def D.keyNs : Nat → List D → Bool
  | _, [] => true
  | n, d :: ds => D.keyN n d && D.keyNs n ds
end
def D.keyT : D → Bool
  | .tup l => D.keyNs 7 l
  | _ => false
mutual
def D.same : D → D → Bool
  | .non, .non => true
  | .int i, .int j => i == j
  | .str x, .str y => x == y
  | .tup xs, .tup ys => D.sames xs ys
  | _, _ => false
def D.sames : List D → List D → Bool
  | [], [] => true
  | x :: xs, y :: ys => D.same x y && D.sames xs ys
  | _, _ => false
end
def lookD (k : D) : List D → List D → Option D
  | x :: ks, v :: vs => if D.same x k then some v else lookD k ks vs
  | _, _ => none
def repD (k v : D) : List D → List D → List D
  | x :: ks, y :: vs => (if D.same x k then v else y) :: repD k v ks vs
  | _, _ => []
def putD (k v : D) (ks vs : List D) : List D × List D := if ks.any fun x => D.same x k then (ks, repD k v ks vs) else (ks ++ [k], vs ++ [v])
def keyOk (t : Bool) (k : D) : Bool := if t then k.keyT else k.key
def atD (l : List D) (i : Int) : Option D := L2.atI l i
def cutIx (n d : Nat) : Option Int → Nat
  | none => d
  | some v => if v < 0 then (v + (n : Int)).toNat else min v.toNat n
def cutD (l : List D) (lo hi : Option Int) : List D := (l.drop (cutIx l.length 0 lo)).take (cutIx l.length l.length hi - cutIx l.length 0 lo)
/-- from -(2^62) to 2^62: told so that a symbol stops the kernel at once -/
def smallI (i : Int) : Bool := match i with
  | .ofNat n => Nat.ble n 4611686018427387903
  | .negSucc n => Nat.ble n 4611686018427387903
theorem small_iff {i : Int} : smallI i = true ↔ -(2 ^ 62) ≤ i ∧ i < 2 ^ 62 := by
  cases i with
  | ofNat n =>
    show Nat.ble n 4611686018427387903 = true ↔ _
    rw [Nat.ble_eq]
    simp only [Int.ofNat_eq_natCast]
    omega
  | negSucc n =>
    show Nat.ble n 4611686018427387903 = true ↔ _
    rw [Nat.ble_eq]
    omega
def partD : D → Option (Option Int)
  | .non => some none
  | .int i => if smallI i then some (some i) else none
  | _ => none
def intsD : List D → Option (List Int)
  | [] => some []
  | .int i :: r => (intsD r).map (i :: ·)
  | _ :: _ => none
def blsD : List D → Option (List Bool)
  | [] => some []
  | .bl i :: r => (blsD r).map (i :: ·)
  | _ :: _ => none
def insI (x : Int) : List Int → List Int
  | [] => [x]
  | y :: r => if x ≤ y then x :: y :: r else y :: insI x r
def sortI : List Int → List Int
  | [] => []
  | x :: r => insI x (sortI r)
def minO : List Int → Option Int
  | [] => none
  | x :: r => match minO r with
    | none => some x
    | some m => some (if x ≤ m then x else m)
def maxO : List Int → Option Int
  | [] => none
  | x :: r => match maxO r with
    | none => some x
    | some m => some (if m ≤ x then x else m)
/-- as tuples are compared -/
def lexI : List Int → List Int → Bool
  | [], [] => false
  | [], _ :: _ => true
  | _ :: _, [] => false
  | x :: xs, y :: ys => if x = y then lexI xs ys else decide (x < y)
def cmD (c : Cm) (a b : D) : Option Bool := match c, a, b with
  | .lt, .int i, .int j => some (decide (i < j))
  | .le, .int i, .int j => some (decide (i ≤ j))
  | .gt, .int i, .int j => some (decide (j < i))
  | .ge, .int i, .int j => some (decide (j ≤ i))
  | .lt, .tup a, .tup b => (intsD a).bind fun x => (intsD b).map fun y => lexI x y
  | .le, .tup a, .tup b => (intsD a).bind fun x => (intsD b).map fun y => !lexI y x
  | .eq, a, b => if D.sh 32 a && D.sh 32 b then some (D.beq a b) else none
  | .ne, a, b => if D.sh 32 a && D.sh 32 b then some (!D.beq a b) else none
  | _, _, _ => none
/-- the first place of an equal one -/
def indL (y : D) : List D → Option Nat
  | [] => none
  | x :: l => if D.beq x y = true then some 0 else (indL y l).map (· + 1)
def indD (x y : D) : Option D := match x with
  | .lst l => if D.sh 32 y && D.shs 31 l then (indL y l).map fun (j : Nat) => D.int (j : Int) else none
  | .tup l => if (intsD [y]).isSome && (intsD l).isSome then (indL y l).map fun (j : Nat) => D.int (j : Int) else none
  | _ => none
def cntD (x y : D) : Option D := match x, y with
  | .lst l, .int k => (intsD l).map fun ns => D.int ((ns.count k : Nat) : Int)
  | _, _ => none
/-- insertion, stable -/
def insL (x : List Int) : List (List Int) → List (List Int)
  | [] => [x]
  | y :: r => if lexI y x = true then y :: insL x r else x :: y :: r
def sortL : List (List Int) → List (List Int)
  | [] => []
  | x :: r => insL x (sortL r)
def tupsD : List D → Option (List (List Int))
  | [] => some []
  | .tup l :: r => (intsD l).bind fun ns => (tupsD r).map (ns :: ·)
  | _ :: _ => none
def tupI (ns : List Int) : D := .tup (ns.map .int)
mutual
/-- ints, and tuples and lists of such -/
def D.pi : D → Bool
  | .int _ => true
  | .tup l => D.pis l
  | .lst l => D.pis l
  | _ => false
def D.pis : List D → Bool
  | [] => true
  | d :: ds => D.pi d && D.pis ds
end
mutual
/-- can be compared -/
def D.alk : D → D → Bool
  | .int _, .int _ => true
  | .tup a, .tup b => D.alks a b
  | .lst a, .lst b => D.alks a b
  | _, _ => false
def D.alks : List D → List D → Bool
  | x :: xs, y :: ys => D.alk x y && D.alks xs ys
  | _, _ => true
end
mutual
def D.lt : D → D → Bool
  | .int i, .int j => decide (i < j)
  | .tup a, .tup b => D.lts a b
  | .lst a, .lst b => D.lts a b
  | _, _ => false
def D.lts : List D → List D → Bool
  | [], [] => false
  | [], _ :: _ => true
  | _ :: _, [] => false
  | x :: xs, y :: ys => if D.beq x y then D.lts xs ys else D.lt x y
end
def datOk (l : List D) : Bool := D.pis l && D.shs 31 l && l.all fun x => l.all fun y => D.alk x y
def isTupNe : D → Bool
  | .tup (_ :: _) => true
  | _ => false
def isTup0 : D → Bool
  | .tup _ => true
  | _ => false
def srtOk (l : List D) : Bool := l.all isTupNe || l.all fun d => !isTup0 d
def minDs : List D → Option D
  | [] => none
  | d :: ds => some (ds.foldl (fun a y => if D.lt y a then y else a) d)
def maxDs : List D → Option D
  | [] => none
  | d :: ds => some (ds.foldl (fun a y => if D.lt a y then y else a) d)
def insDD (x : D) : List D → List D
  | [] => [x]
  | y :: r => if D.lt y x then y :: insDD x r else x :: y :: r
def sortDD : List D → List D
  | [] => []
  | x :: r => insDD x (sortDD r)
/-- sorted by (length, thing) -/
def kyD : D → D
  | .tup l => .tup [.int l.length, .tup l]
  | d => d
def unK : D → D
  | .tup [_, d] => d
  | d => d
def isTI : D → Bool
  | .tup l => (intsD l).isSome
  | _ => false
def srtKD : D → Option D
  | .lst l => if l.all isTI && datOk (l.map kyD) && decide (l.length ≤ SZ) then some (.lst ((sortDD (l.map kyD)).map unK)) else none
  | _ => none
/-- min(xs, key=lambda a: a[c]) -/
def kyC (c : Nat) : D → Option Int
  | .tup l => match l[c]? with
    | some (.int i) => some i
    | _ => none
  | _ => none
def minKD (c : Nat) : D → Option D
  | .lst (d :: l) => if (d :: l).all (fun x => isTI x && (kyC c x).isSome) then some (l.foldl (fun a y => if decide ((kyC c y).getD 0 < (kyC c a).getD 0) then y else a) d) else none
  | _ => none
/-- max(xs, key=lambda n: (ws[n], n)) -/
def isIx (k : Nat) : D → Bool
  | .int n => decide (0 ≤ n) && decide (n < k) && smallI n
  | _ => false
def ixOf : D → Int
  | .int n => n
  | _ => 0
def ltK2 (a b : Int × Int) : Bool := decide (a.1 < b.1) || (decide (a.1 = b.1) && decide (a.2 < b.2))
def kyW (ws : List Int) (d : D) : Int × Int := (ws.getD (ixOf d).toNat 0, ixOf d)
def maxKD (w x : D) : Option D := match w, x with
  | .tup ws, .lst (d :: l) => match intsD ws with
    | some ns => if (d :: l).all (isIx ns.length) then some (l.foldl (fun a y => if ltK2 (kyW ns a) (kyW ns y) then y else a) d) else none
    | none => none
  | _, _ => none
def seqD : D → Option (List D)
  | .lst l => some l
  | .tup l => some l
  | _ => none
def bfD (f : Bf) (a : D) : Option D := match f, a with
  | .len, .lst l => some (.int l.length)
  | .len, .tup l => some (.int l.length)
  | .lenD, .dct false ks _ => some (.int ks.length)
  | .sorted, .lst l => (intsD l).map fun ns => .lst ((sortI ns).map .int)
  | .sortedT, .tup l => (intsD l).map fun ns => .lst ((sortI ns).map .int)
  | .sortedL, .lst l => (tupsD l).bind fun nss => if nss.length < 2 || nss.all (fun n => !n.isEmpty) then some (.lst ((sortL nss).map tupI)) else none
  | .sortedTL, .tup l => (tupsD l).bind fun nss => if nss.length < 2 || nss.all (fun n => !n.isEmpty) then some (.lst ((sortL nss).map tupI)) else none
  | .sortedD, .dct true ks _ => (tupsD ks).bind fun nss => if nss.length < 2 || nss.all (fun n => !n.isEmpty) then some (.lst ((sortL nss).map tupI)) else none
  | .tuple, .lst l => some (.tup l)
  | .tuple, .tup l => some (.tup l)
  | .list, .lst l => some (.lst l)
  | .list, .tup l => some (.lst l)
  | .listD, .dct _ ks _ => some (.lst ks)
  | .sum, .lst l => (intsD l).map fun ns => .int ns.sum
  | .sumT, .tup l => (intsD l).map fun ns => .int ns.sum
  | .min, .lst l => (intsD l).bind fun ns => (minO ns).map .int
  | .max, .lst l => (intsD l).bind fun ns => (maxO ns).map .int
  | .minD, x => (seqD x).bind fun l => if datOk l then minDs l else none
  | .maxD, x => (seqD x).bind fun l => if datOk l then maxDs l else none
  | .sortedP, .lst l => if datOk l && srtOk l && decide (l.length ≤ SZ) then some (.lst (sortDD l)) else none
  | .any, .lst l => (blsD l).map fun bs => .bl (bs.any id)
  | .all, .lst l => (blsD l).map fun bs => .bl (bs.all id)
  | .int, .int i => some (.int i)
  | _, _ => none
def isD (t : Ty) : D → Option Bool
  | .non => some false
  | .bl _ => some (match t with | .int => true | .bool => true | _ => false)
  | .int _ => some (match t with | .int => true | _ => false)
  | .str _ => some (match t with | .str => true | _ => false)
  | .tup _ => some (match t with | .tuple => true | _ => false)
  | .lst _ => some (match t with | .list => true | _ => false)
  | .dct false _ _ => some false
  | _ => none
def insU (x : Int) : List Int → List Int
  | [] => [x]
  | y :: r => if x < y then x :: y :: r else if y < x then y :: insU x r else y :: r
/-- sorted, each once -/
def ssetI : List Int → List Int
  | [] => []
  | x :: r => insU x (ssetI r)
/-- few enough for a set: the kit sorts sets of fewer than 64 members -/
def fewI (ns : List Int) : Bool := decide (ns.length < 64) || (decide (ns.length < 4000) && decide ((ssetI ns).length < 64))
def seqI : D → Option (List Int)
  | .lst l => intsD l
  | .tup l => intsD l
  | _ => none
/-- lo, lo - 1, .. -/
def rngN (lo : Int) (n : Nat) : List D := (List.range n).map fun (i : Nat) => D.int (lo - i)
def rngD (lo : Int) (n : Nat) : List D := (List.range n).map fun (i : Nat) => D.int (lo + i)
def enuD : Nat → List D → List D
  | _, [] => []
  | i, d :: ds => .tup [.int i, d] :: enuD (i + 1) ds
def zipD : List D → List D → List D
  | x :: xs, y :: ys => .tup [x, y] :: zipD xs ys
  | _, _ => []

/-- the targets of a for: one name, or names for a tuple's items -/
def bindT (tg : List Nat) (sole : Bool) (d : D) (env : Env) : Option Env := match sole, tg, d with
  | true, [i], d => some (st env i false d)
  | false, tg, .tup l => if l.length = tg.length then some ((tg.zip l).foldl (fun e p => st e p.1 false p.2) env) else none
  | _, _, _ => none
def wipeE (env : Env) (tg : List Nat) : Env := tg.foldr (fun i e => e.set i .un) env

/-- a comprehension's turns -/
def turns (f : D → Row → Res (Option D)) : List D → List D → Row → Res (List D)
  | [], acc, r => .ok acc r
  | x :: xs, acc, r => (f x r).bind fun o r => match o with
    | none => turns f xs acc r
    | some y => if acc.length < SZ then turns f xs (acc ++ [y]) r else .no

def asB (d : D) (r : Row) : Res Bool := match d with
  | .bl b => .ok b r
  | _ => .no
abbrev Fns := Nat → List D → Row → Res D
/-- the word that an error has in a table -/
def wordOf (e : Ex) : List (Nat × Str × Bool) → Option D
  | [] => none
  | x :: l => if x.1 = e.cls then some (if x.2.2 = true then .tup [.str x.2.1, e.arg] else .str x.2.1) else wordOf e l
def toldR (tb : List (Nat × Str × Bool)) : Res D → Res D
  | .ok _ r => .ok (.str "") r
  | .ex e r => Res.of (wordOf e tb) r
  | .no => .no
def isFn : Option Sl → Option Nat
  | some (.fz (.fn k)) => some k
  | _ => none
/-- expressions (lists of arguments are tuples) -/
def ev (F : Fns) : IE → Env → Row → Res D
  | .alt a b, env, r => match ev F a env r with
    | .no => ev F b env r
    | .ok d r => .ok d r
    | .ex e r => .ex e r
  | .var i, env, r => .of (rd env i) r
  | .int n, _, r => .ok (.int n) r
  | .bl b, _, r => .ok (.bl b) r
  | .non, _, r => .ok .non r
  | .str s, _, r => .ok (.str s) r
  | .gint _ n, _, r => .ok (.int n) r
  | .op o a b, env, r => (ev F a env r).bind fun x r => (ev F b env r).bind fun y r => .of (opD o x y) r
  | .neg a, env, r => (ev F a env r).bind fun x r => match x with
    | .int i => .ok (.int (-i)) r
    | _ => .no
  | .cmp c a b, env, r => (ev F a env r).bind fun x r => (ev F b env r).bind fun y r => .of ((cmD c x y).map .bl) r
  | .chain c c' a b d, env, r => (ev F a env r).bind fun x r => (ev F b env r).bind fun y r => (Res.of (cmD c x y) r).bind fun k r =>
    if k then (ev F d env r).bind fun z r => .of ((cmD c' y z).map .bl) r else .ok (.bl false) r
  | .isN n a, env, r => (ev F a env r).bind fun x r => .ok (.bl (if n then !isNon x else isNon x)) r
  | .inS n a b, env, r => (ev F a env r).bind fun x r => (ev F b env r).bind fun y r => .of ((inSD x y).map fun k => .bl (if n then !k else k)) r
  | .inD n a b, env, r => (ev F a env r).bind fun x r => (ev F b env r).bind fun y r => match y with
    | .dct t ks vs => if keyOk t x then .ok (.bl (if n then (lookD x ks vs).isNone else (lookD x ks vs).isSome)) r else .no
    | _ => .no
  | .not a, env, r => (ev F a env r).bind fun x r => (asB x r).bind fun k r => .ok (.bl (!k)) r
  | .and a b, env, r => (ev F a env r).bind fun x r => (asB x r).bind fun k r => if k then (ev F b env r).bind fun y r => (asB y r).bind fun k r => .ok (.bl k) r else .ok (.bl false) r
  | .or a b, env, r => (ev F a env r).bind fun x r => (asB x r).bind fun k r => if k then .ok (.bl true) r else (ev F b env r).bind fun y r => (asB y r).bind fun k r => .ok (.bl k) r
  | .one a, env, r => ev F a env r
  | .ite c a b, env, r => (ev F c env r).bind fun x r => (asB x r).bind fun k r => if k then ev F a env r else ev F b env r
  | .nil, _, r => .ok (.tup []) r
  | .cons a b, env, r => (ev F a env r).bind fun x r => (ev F b env r).bind fun y r => match y with
    | .tup l => .ok (.tup (x :: l)) r
    | _ => .no
  | .star a b, env, r => (ev F a env r).bind fun x r => (ev F b env r).bind fun y r => match x, y with
    | .tup l, .tup m => .ok (.tup (l ++ m)) r
    | .lst l, .tup m => .ok (.tup (l ++ m)) r
    | _, _ => .no
  | .tup l, env, r => (ev F l env r).bind fun x r => match x with
    | .tup l => if l.length ≤ SZ then .ok (.tup l) r else .no
    | _ => .no
  | .lst l, env, r => (ev F l env r).bind fun x r => match x with
    | .tup l => if l.length ≤ SZ then .ok (.lst l) r else .no
    | _ => .no
  | .idx a i, env, r => (ev F a env r).bind fun x r => (ev F i env r).bind fun y r => match x, y with
    | .lst l, .int k => .of (atD l k) r
    | .tup l, .int k => .of (atD l k) r
    | _, _ => .no
  | .dget a i, env, r => (ev F a env r).bind fun x r => (ev F i env r).bind fun y r => match x with
    | .dct t ks vs => if keyOk t y then .of (lookD y ks vs) r else .no
    | _ => .no
  | .slc a lo hi, env, r => (ev F a env r).bind fun x r => (ev F lo env r).bind fun y r => (ev F hi env r).bind fun z r => match partD y, partD z with
    | some i, some j => (match x with
      | .tup l => .ok (.tup (cutD l i j)) r
      | .lst l => .ok (.lst (cutD l i j)) r
      | _ => .no)
    | _, _ => .no
  | .call f args, env, r => (ev F args env r).bind fun x r => match x with
    | .tup l => F f l r
    | _ => .no
  | .blt f a, env, r => (ev F a env r).bind fun x r => .of (bfD f x) r
  | .blt2 f a b, env, r => (ev F a env r).bind fun x r => (ev F b env r).bind fun y r => match f, x, y with
    | .min, .int i, .int j => .ok (.int (if j < i then j else i)) r
    | .max, .int i, .int j => .ok (.int (if j > i then j else i)) r
    | _, _, _ => .no
  | .isi t a, env, r => (ev F a env r).bind fun x r => .of ((isD t x).map .bl) r
  | .isi2 t u a, env, r => (ev F a env r).bind fun x r => .of ((isD t x).bind fun k => (isD u x).map fun k' => .bl (k || k')) r
  | .tupR a, env, r => (ev F a env r).bind fun x r => match x with
    | .int k => if smallI k && k.toNat ≤ SZ then .ok (.tup (rngD 0 k.toNat)) r else .no
    | _ => .no
  | .minK c a, env, r => (ev F a env r).bind fun x r => .of (minKD c x) r
  | .maxK i a, env, r => (ev F a env r).bind fun x r => match env[i]? with
    | some (.fz w) => .of (maxKD w x) r
    | _ => .no
  | .srtK a, env, r => (ev F a env r).bind fun x r => .of (srtKD x) r
  | .ind a v, env, r => (ev F a env r).bind fun x r => (ev F v env r).bind fun y r => .of (indD x y) r
  | .cnt a v, env, r => (ev F a env r).bind fun x r => (ev F v env r).bind fun y r => .of (cntD x y) r
  | .sset a, env, r => (ev F a env r).bind fun x r => match seqI x with
    | some ns => if fewI ns = true then .ok (.lst ((ssetI ns).map .int)) r else .no
    | none => .no
  | .tupR2 a b, env, r => (ev F a env r).bind fun x r => (ev F b env r).bind fun y r => match x, y with
    | .int i, .int j => if smallI i && smallI j && (j - i).toNat ≤ SZ then .ok (.tup (rngD i (j - i).toNat)) r else .no
    | _, _ => .no
  | .lstR1 a, env, r => (ev F a env r).bind fun x r => match x with
    | .int k => if smallI k && k.toNat ≤ SZ then .ok (.lst (rngD 0 k.toNat)) r else .no
    | _ => .no
  | .lstR2 a b, env, r => (ev F a env r).bind fun x r => (ev F b env r).bind fun y r => match x, y with
    | .int i, .int j => if smallI i && smallI j && (j - i).toNat ≤ SZ then .ok (.lst (rngD i (j - i).toNat)) r else .no
    | _, _ => .no
  | .isB n b a, env, r => (ev F a env r).bind fun x r => match x with
    | .bl k => .ok (.bl (if n then !decide (k = b) else decide (k = b))) r
    | _ => .no
  | .revL a, env, r => (ev F a env r).bind fun x r => match x with
    | .lst l => .ok (.lst l.reverse) r
    | _ => .no
  | .rev b a, env, r => (ev F a env r).bind fun x r => match x with
    | .lst l => .ok (.lst (l.drop (if b then 1 else 0)).reverse) r
    | .tup l => .ok (.tup (l.drop (if b then 1 else 0)).reverse) r
    | _ => .no
  | .itR3 a b c, env, r => (ev F a env r).bind fun x r => (ev F b env r).bind fun y r => (ev F c env r).bind fun z r => match x, y, z with
    | .int i, .int j, .int k => if smallI i && smallI j && decide (k = -1) then .ok (.tup (rngN i (i - j).toNat)) r else .no
    | _, _, _ => .no
  | .get1 o k, env, r => (ev F o env r).bind fun x r => (ev F k env r).bind fun y r => match x with
    | .dct t ks vs => if keyOk t y then .ok ((lookD y ks vs).getD .non) r else .no
    | _ => .no
  | .get2 o k z, env, r => (ev F o env r).bind fun x r => (ev F k env r).bind fun y r => (ev F z env r).bind fun w r => match x with
    | .dct t ks vs => if keyOk t y then .ok ((lookD y ks vs).getD w) r else .no
    | _ => .no
  | .dic t k v, env, r => (ev F k env r).bind fun x r => (ev F v env r).bind fun y r => if keyOk t x then .ok (.dct t [x] [y]) r else .no
  | .dic0 t, _, r => .ok (.dct t [] []) r
  | .itL a, env, r => (ev F a env r).bind fun x r => match x with
    | .lst l => .ok (.tup l) r
    | .tup l => .ok (.tup l) r
    | _ => .no
  | .itR1 a, env, r => (ev F a env r).bind fun x r => match x with
    | .int k => if smallI k then .ok (.tup (rngD 0 k.toNat)) r else .no
    | _ => .no
  | .itR2 a b, env, r => (ev F a env r).bind fun x r => (ev F b env r).bind fun y r => match x, y with
    | .int i, .int j => if smallI i && smallI j then .ok (.tup (rngD i (j - i).toNat)) r else .no
    | _, _ => .no
  | .itE a, env, r => (ev F a env r).bind fun x r => match x with
    | .lst l => .ok (.tup (enuD 0 l)) r
    | .tup l => .ok (.tup (enuD 0 l)) r
    | _ => .no
  | .itZ a b, env, r => (ev F a env r).bind fun x r => (ev F b env r).bind fun y r => match x, y with
    | .lst l, .lst m => .ok (.tup (zipD l m)) r
    | .tup l, .tup m => .ok (.tup (zipD l m)) r
    | .tup l, .lst m => .ok (.tup (zipD l m)) r
    | _, _ => .no
  | .itK a, env, r => (ev F a env r).bind fun x r => match x with
    | .dct _ ks _ => .ok (.tup ks) r
    | _ => .no
  | .itI a, env, r => (ev F a env r).bind fun x r => match x with
    | .dct _ ks vs => .ok (.tup (zipD ks vs)) r
    | _ => .no
  | .comp fr tg sole it cd c e, env, r => (ev F it env r).bind fun x r => match x with
    | .tup l => if !(noOwn env fr) then .no else (turns (fun d r => match bindT tg sole d (wipeE env tg) with
        | none => .no
        | some env' => match cd with
          | false => (ev F e env' r).bind fun y r => .ok (some y) r
          | true => (ev F c env' r).bind fun k r => (asB k r).bind fun k r => if k then (ev F e env' r).bind fun y r => .ok (some y) r else .ok none r) l [] r).bind fun acc r => .ok (.lst acc) r
    | _ => .no
  | .fnv k, _, r => .ok (.fn k) r
  | .callv i args, env, r => (ev F args env r).bind fun x r => match x, isFn env[i]? with
    | .tup l, some k => F k l r
    | _, _ => .no
  | .told tb c, env, r => toldR tb (ev F c env r)
/-- what a thing raises, where that is followed -/
def rx (F : Fns) : IE → Env → Row → Option (Ex × Row)
  | .call f args, env, r => match ev F args env r with
    | .ok (.tup l) r => (match F f l r with
      | .ex e r => some (e, r)
      | _ => none)
    | .ok _ _ => none
    | _ => rx F args env r
  | .callv i args, env, r => match ev F args env r, isFn env[i]? with
    | .ok (.tup l) r, some k => (match F k l r with
      | .ex e r => some (e, r)
      | _ => none)
    | _, _ => none
  | .cons a b, env, r => match ev F a env r with
    | .ok _ r => rx F b env r
    | _ => rx F a env r
  | .alt a b, env, r => match ev F a env r with
    | .no => rx F b env r
    | _ => rx F a env r
  | .blt _ a, env, r => rx F a env r
  | .idx a _, env, r => rx F a env r
  | .dget a _, env, r => rx F a env r
  | .comp _ _ _ it _ _ _, env, r => rx F it env r
  | .itL a, env, r => rx F a env r
  | _, _, _ => none

/-- statements -/
inductive IS where
  | nil | cons (s t : IS)
  | asg (fz : List Nat) (i : Nat) (own : Bool) (e : IE)
  | asgT (fz : List Nat) (tg : List Nat) (e : IE)
  | par (fz : List Nat) (l : List (Nat × Bool × IE))
  | aug (o : Op) (i : Nat) (e : IE)
  | app (fz : List Nat) (i : Nat) (e : IE)
  | ext (fz : List Nat) (i : Nat) (e : IE)
  | setL (fz : List Nat) (i : Nat) (k e : IE)
  | setD (fz : List Nat) (i : Nat) (k e : IE)
  | apop (fz : List Nat) (i j : Nat) (k : IE) | pop (i j : Nat) | popT (tg : List Nat) (j : Nat) | rem (i : Nat) (e : IE) | remD (i : Nat) (e : IE)
  | augL (o : Op) (i : Nat) (k e : IE) | augD (o : Op) (i : Nat) (k e : IE)
  | ite (c : IE) (a b : IS)
  | whl (c : IE) (b : IS)
  | for_ (fz : List Nat) (tg : List Nat) (sole : Bool) (it : IE) (b : IS)
  | ret (e : IE) | ret0 | brk | cnt | pass | exp (e : IE) | die
  /-- raise C(), raise C(e) -/
  | raise0 (c : Nat) | raise1 (c : Nat) (e : IE)
  | alt (a b : IS)
  deriving Inhabited
/-- how a statement ends -/
inductive Fl where
  | nx (e : Env) | bk (e : Env) | ct (e : Env) | rt (d : D) | rs (e : Ex)
def FUEL : Nat := 1000000
/-- a value goes on, an error is told -/
def Res.fl {α : Type} (x : Res α) (y : Option (Ex × Row)) (f : α → Row → Res Fl) : Res Fl := match x with
  | .ok d r => f d r
  | .ex _ _ => (match y with
    | some p => .ok (.rs p.1) p.2
    | none => .no)
  | .no => .no
/-- what an error bears -/
def argOk : D → Bool
  | .non => true
  | .int _ => true
  | _ => false
def whl (c : Env → Row → Res Bool) (b : Env → Row → Res Fl) : Nat → Env → Row → Res Fl
  | 0, _, _ => .no
  | n + 1, env, r => (c env r).bind fun k r => if k then (b env r).bind fun f r => (match f with
      | .nx e => whl c b n e r
      | .ct e => whl c b n e r
      | .bk e => .ok (.nx e) r
      | .rt d => .ok (.rt d) r
      | .rs e => .ok (.rs e) r) else .ok (.nx env) r
def fors (tg : List Nat) (sole : Bool) (b : Env → Row → Res Fl) : List D → Env → Row → Res Fl
  | [], env, r => .ok (.nx env) r
  | x :: xs, env, r => match bindT tg sole x env with
    | none => .no
    | some env => (b env r).bind fun f r => match f with
      | .nx e => fors tg sole b xs e r
      | .ct e => fors tg sole b xs e r
      | .bk e => .ok (.nx e) r
      | .rt d => .ok (.rt d) r
      | .rs e => .ok (.rs e) r
def evP (F : Fns) : List (Nat × Bool × IE) → Env → Env → Row → Res Env
  | [], _, env', r => .ok env' r
  | (i, own, e) :: l, env, env', r => (ev F e env r).bind fun d r => if own && !(isL d && decide (i < env'.length)) then .no else evP F l env (st env' i own d) r
def evS (F : Fns) : IS → Env → Row → Res Fl
  | .nil, env, r => .ok (.nx env) r
  | .cons s t, env, r => (evS F s env r).bind fun f r => match f with
    | .nx e => evS F t e r
    | .bk e => .ok (.bk e) r
    | .ct e => .ok (.ct e) r
    | .rt d => .ok (.rt d) r
    | .rs e => .ok (.rs e) r
  | .asg fz i own e, env, r => Res.fl (ev F e env r) (if own = true then none else rx F e env r) fun d r => if own && !(isL d && decide (i < env.length)) then .no else .ok (.nx (st (frz env fz) i own d)) r
  | .asgT fz tg e, env, r => (ev F e env r).bind fun d r => match bindT tg false d (frz env fz) with
    | some e => .ok (.nx e) r
    | none => .no
  | .par fz l, env, r => (evP F l env (frz env fz) r).bind fun e r => .ok (.nx e) r
  | .aug o i e, env, r => (Res.of (rd env i) r).bind fun x r => (ev F e env r).bind fun y r => match x, y with
    | .int a, .int b => (Res.of (opD o (.int a) (.int b)) r).bind fun d r => .ok (.nx (st env i false d)) r
    | _, _ => .no
  | .app fz i e, env, r => (ev F e env r).bind fun d r => match (frz env fz)[i]? with
    | some (.ow (.lst l)) => if l.length < SZ then .ok (.nx (st (frz env fz) i true (.lst (l ++ [d])))) r else .no
    | _ => .no
  | .ext fz i e, env, r => (ev F e env r).bind fun d r => match (frz env fz)[i]?, d with
    | some (.ow (.lst l)), .lst m => if l.length + m.length ≤ SZ then .ok (.nx (st (frz env fz) i true (.lst (l ++ m)))) r else .no
    | some (.ow (.lst l)), .tup m => if l.length + m.length ≤ SZ then .ok (.nx (st (frz env fz) i true (.lst (l ++ m)))) r else .no
    | _, _ => .no
  | .setL fz i k e, env, r => (ev F e env r).bind fun d r => (ev F k env r).bind fun x r => match (frz env fz)[i]?, x with
    | some (.ow (.lst l)), .int j => if 0 ≤ j && j < l.length then .ok (.nx (st (frz env fz) i true (.lst (l.set j.toNat d)))) r else .no
    | _, _ => .no
  | .setD fz i k e, env, r => (ev F e env r).bind fun d r => (ev F k env r).bind fun x r => match (frz env fz)[i]? with
    | some (.ow (.dct t ks vs)) => if keyOk t x && ks.length < SZ then .ok (.nx (st (frz env fz) i true (.dct t (putD x d ks vs).1 (putD x d ks vs).2))) r else .no
    | _ => .no
  | .augL o i k e, env, r => (ev F k env r).bind fun x r => match env[i]?, x with
    | some (.ow (.lst l)), .int j => if 0 ≤ j && j < l.length then (match l[j.toNat]? with
      | some (.int a) => (ev F e env r).bind fun y r => (match y with
        | .int b => (Res.of (opD o (.int a) (.int b)) r).bind fun d r => .ok (.nx (st env i true (.lst (l.set j.toNat d)))) r
        | _ => .no)
      | _ => .no) else .no
    | _, _ => .no
  | .augD o i k e, env, r => (ev F k env r).bind fun x r => match env[i]? with
    | some (.ow (.dct t ks vs)) => if keyOk t x && ks.length < SZ then (match lookD x ks vs with
      | some (.int a) => (ev F e env r).bind fun y r => (match y with
        | .int b => (match o with
          | .add => .ok (.nx (st env i true (.dct t (putD x (.int (a + b)) ks vs).1 (putD x (.int (a + b)) ks vs).2))) r
          | .sub => .ok (.nx (st env i true (.dct t (putD x (.int (a - b)) ks vs).1 (putD x (.int (a - b)) ks vs).2))) r
          | _ => .no)
        | _ => .no)
      | _ => .no) else .no
    | _ => .no
  | .apop fz i j k, env, r => (ev F k env r).bind fun x r => match (frz env fz)[i]?, (frz env fz)[j]?, x with
    | some (.ow (.lst m)), some (.ow (.lst l)), .int n => if 0 ≤ n && n < l.length && decide (i ≠ j) && m.length < SZ && l.length ≤ SZ then (match l[n.toNat]? with
      | some d => .ok (.nx (st (st (frz env fz) j true (.lst (l.eraseIdx n.toNat))) i true (.lst (m ++ [d])))) r
      | none => .no) else .no
    | _, _, _ => .no
  | .pop i j, env, r => match env[j]? with
    | some (.ow (.lst l)) => if decide (i ≠ j) then (match l[l.length - 1]? with
      | some d => .ok (.nx (st (st env j true (.lst l.dropLast)) i false d)) r
      | none => .no) else .no
    | _ => .no
  | .popT tg j, env, r => match env[j]? with
    | some (.ow (.lst l)) => (match l[l.length - 1]? with
      | some d => (match bindT tg false d (st env j true (.lst l.dropLast)) with
        | some e => .ok (.nx e) r
        | none => .no)
      | none => .no)
    | _ => .no
  | .rem i e, env, r => (ev F e env r).bind fun x r => match env[i]?, x with
    | some (.ow (.lst l)), .int k => (match intsD l with
      | some ns => if k ∈ ns then .ok (.nx (st env i true (.lst ((ns.erase k).map .int)))) r else .no
      | none => .no)
    | _, _ => .no
  | .remD i e, env, r => (ev F e env r).bind fun x r => match env[i]? with
    | some (.ow (.lst l)) => if (D.sh 32 x && D.shs 31 l) = true then (match indL x l with
      | some j => .ok (.nx (st env i true (.lst (l.eraseIdx j)))) r
      | none => .no) else .no
    | _ => .no
  | .ite c a b, env, r => (ev F c env r).bind fun x r => (asB x r).bind fun k r => if k then evS F a env r else evS F b env r
  | .whl c b, env, r => whl (fun env r => (ev F c env r).bind asB) (evS F b) FUEL env r
  | .for_ fz tg sole it b, env, r => (ev F it (frz env fz) r).bind fun x r => match x with
    | .tup l => if noOwn (frz env fz) fz then fors tg sole (evS F b) l (frz env fz) r else .no
    | _ => .no
  | .ret e, env, r => Res.fl (ev F e env r) (rx F e env r) fun d r => .ok (.rt d) r
  | .ret0, _, r => .ok (.rt .non) r
  | .brk, env, r => .ok (.bk env) r
  | .cnt, env, r => .ok (.ct env) r
  | .pass, env, r => .ok (.nx env) r
  | .exp e, env, r => Res.fl (ev F e env r) (rx F e env r) fun _ r => .ok (.nx env) r
  | .raise0 c, _, r => .ok (.rs ⟨c, .non⟩) r
  | .raise1 c e, env, r => (ev F e env r).bind fun d r => if argOk d = true then .ok (.rs ⟨c, d⟩) r else .no
  | .die, _, _ => .no
  | .alt a b, env, r => match evS F a env r with
    | .no => evS F b env r
    | .ok d r => .ok d r
    | .ex e r => .ex e r

/-- a draw -/
def taken (r : Row) (m : Int) : Option (Int × Row) :=
  if 0 < m && m < 1073741824 then
    if 0 < r.c then some (r.c % m, { r with c := r.c / m })
    else if (r.sc.length : Int) < r.p + 1 then some (((r.h * 48271 + 11) % 2147483647 / 7) % m, { r with p := r.p + 1, h := (r.h * 48271 + 11) % 2147483647 })
    else match r.sc[r.p.toNat]? with
      | none => none
      | some x => some (x % m, { r with p := r.p + 1, h := (r.h * 48271 + x + 11) % 2147483647, c := if 1000000000000000000 ≤ x then x / m else r.c })
  else none
inductive FDef where
  | fn (np n : Nat) (body : IS)
  | taken
  deriving Inhabited
def endF (f : Fl) (r : Row) : Res D := match f with
  | .rt d => .ok d r
  | .nx _ => .ok .non r
  | .rs e => .ex e r
  | _ => .no
def endR (x : Res Fl) : Res D := match x with
  | .ok f r => endF f r
  | _ => .no
def runF (F : Fns) : FDef → List D → Row → Res D
  | .fn np n body, as, r => if as.length = np then endR (evS F body (as.map .fz ++ List.replicate (n - np) .un) r) else .no
  | .taken, as, r => match as with
    | [.row, .int m] => (match taken r m with
      | some (x, r) => .ok (.int x) r
      | none => .no)
    | _ => .no
def run (P : List FDef) : Nat → Fns
  | 0, _, _, _ => .no
  | k + 1, f, as, r => match P[f]? with
    | some fd => runF (run P k) fd as r
    | none => .no
end Wl
/-! How data lie in the heap; the state's relation. -/
namespace Wl
open PySem PySem.Spec PyProof.Rows L2

def keyD : Key → D
  | .inl i => .int i
  | .inr s => .str s
/-! ### keys of any depth -/
mutual
def nkD : NestedKey → D
  | .none => .non
  | .num i => .int i
  | .text x => .str x
  | .tup ks => .tup (nkDs ks)
def nkDs : List NestedKey → List D
  | [] => []
  | k :: ks => nkD k :: nkDs ks
end
mutual
def dNk : D → NestedKey
  | .int i => .num i
  | .str x => .text x
  | .tup l => .tup (dNks l)
  | _ => .none
def dNks : List D → List NestedKey
  | [] => []
  | d :: ds => dNk d :: dNks ds
end
mutual
/-- no texts -/
def nI : NestedKey → Bool
  | .none => true
  | .num _ => true
  | .text _ => false
  | .tup ks => nIs ks
def nIs : List NestedKey → Bool
  | [] => true
  | k :: ks => nI k && nIs ks
end
mutual
/-- its hash, of any world -/
def hI : NestedKey → Int
  | .none => reduceHash 0xFCA86420
  | .num i => hashInt i
  | .text _ => 0
  | .tup ks => reduceHash (Builtin.Tuple.tupleHashOf (hIs ks))
def hIs : List NestedKey → List Int
  | [] => []
  | k :: ks => hI k :: hIs ks
end
mutual
theorem hI_eq (w : World) : ∀ k : NestedKey, nI k = true → k.hash w = hI k
  | .none, _ => by simp [NestedKey.hash, hI]
  | .num i, _ => by simp [NestedKey.hash, hI]
  | .text _, h => by simp [nI] at h
  | .tup ks, h => by simp only [NestedKey.hash, hI, hIs_eq w ks (by simpa [nI] using h)]
theorem hIs_eq (w : World) : ∀ ks : List NestedKey, nIs ks = true → NestedKey.hashes w ks = hIs ks
  | [], _ => by simp [NestedKey.hashes, hIs]
  | k :: ks, h => by
    simp only [nIs, Bool.and_eq_true] at h
    simp only [NestedKey.hashes, hIs, hI_eq w k h.1, hIs_eq w ks h.2]
end
def isTk : NestedKey → Bool
  | .tup _ => true
  | _ => false
/-- a dict's key -/
def okK (k : NestedKey) : Prop := isTk k = true ∧ nI k = true ∧ k.depth ≤ 8
mutual
theorem keyN_nk : ∀ (n : Nat) (d : D), D.keyN n d = true → nkD (dNk d) = d ∧ nI (dNk d) = true ∧ (dNk d).depth ≤ n
  | _, .non, _ => by simp [dNk, nkD, nI, NestedKey.depth]
  | _, .int _, _ => by simp [dNk, nkD, nI, NestedKey.depth]
  | 0, .tup l, h => by simp [D.keyN] at h
  | n + 1, .tup l, h => by
    obtain ⟨h1, h2, h3⟩ := keyNs_nk n l (by simpa [D.keyN] using h)
    simp only [dNk, nkD, nI, NestedKey.depth]
    exact ⟨by rw [h1], h2, by omega⟩
  | 0, .bl _, h => by simp [D.keyN] at h
  | 0, .str _, h => by simp [D.keyN] at h
  | 0, .lst _, h => by simp [D.keyN] at h
  | 0, .dct _ _ _, h => by simp [D.keyN] at h
  | 0, .row, h => by simp [D.keyN] at h
  | 0, .fn _, h => by simp [D.keyN] at h
  | _ + 1, .bl _, h => by simp [D.keyN] at h
  | _ + 1, .str _, h => by simp [D.keyN] at h
  | _ + 1, .lst _, h => by simp [D.keyN] at h
  | _ + 1, .dct _ _ _, h => by simp [D.keyN] at h
  | _ + 1, .row, h => by simp [D.keyN] at h
  | _ + 1, .fn _, h => by simp [D.keyN] at h
theorem keyNs_nk : ∀ (n : Nat) (l : List D), D.keyNs n l = true → nkDs (dNks l) = l ∧ nIs (dNks l) = true ∧ NestedKey.depthAll (dNks l) ≤ n
  | _, [], _ => by simp [dNks, nkDs, nIs, NestedKey.depthAll]
  | n, d :: l, h => by
    simp only [D.keyNs, Bool.and_eq_true] at h
    obtain ⟨h1, h2, h3⟩ := keyN_nk n d h.1
    obtain ⟨g1, g2, g3⟩ := keyNs_nk n l h.2
    simp only [dNks, nkDs, nIs, NestedKey.depthAll, Bool.and_eq_true]
    exact ⟨by rw [h1, g1], ⟨h2, g2⟩, by omega⟩
end
theorem keyT_nk {d : D} (h : d.keyT = true) : nkD (dNk d) = d ∧ okK (dNk d) := by
  cases d with
  | tup l =>
    obtain ⟨h1, h2, h3⟩ := keyNs_nk 7 l h
    refine ⟨by simp only [dNk, nkD]; rw [h1], rfl, by simpa [dNk, nI] using h2, ?_⟩
    simp only [dNk, NestedKey.depth]
    omega
  | _ => simp [D.keyT] at h
mutual
theorem same_nk : ∀ (k j : NestedKey), nI k = true → nI j = true → D.same (nkD k) (nkD j) = NestedKey.beq k j
  | .none, .none, _, _ => by simp [nkD, D.same, NestedKey.beq]
  | .none, .num _, _, _ => by simp [nkD, D.same, NestedKey.beq]
  | .none, .tup _, _, _ => by simp [nkD, D.same, NestedKey.beq]
  | .num _, .none, _, _ => by simp [nkD, D.same, NestedKey.beq]
  | .num a, .num b, _, _ => by
    simp only [nkD, D.same, NestedKey.beq]
    exact Bool.eq_iff_iff.mpr (by simp)
  | .num _, .tup _, _, _ => by simp [nkD, D.same, NestedKey.beq]
  | .tup _, .none, _, _ => by simp [nkD, D.same, NestedKey.beq]
  | .tup _, .num _, _, _ => by simp [nkD, D.same, NestedKey.beq]
  | .tup a, .tup b, h, h' => by
    simp only [nkD, D.same, NestedKey.beq]
    exact sames_nk a b (by simpa [nI] using h) (by simpa [nI] using h')
  | .text _, _, h, _ => by simp [nI] at h
  | .none, .text _, _, h => by simp [nI] at h
  | .num _, .text _, _, h => by simp [nI] at h
  | .tup _, .text _, _, h => by simp [nI] at h
theorem sames_nk : ∀ (k j : List NestedKey), nIs k = true → nIs j = true → D.sames (nkDs k) (nkDs j) = NestedKey.beqAll k j
  | [], [], _, _ => by simp [nkDs, D.sames, NestedKey.beqAll]
  | [], _ :: _, _, _ => by simp [nkDs, D.sames, NestedKey.beqAll]
  | _ :: _, [], _, _ => by simp [nkDs, D.sames, NestedKey.beqAll]
  | a :: k, b :: j, h, h' => by
    simp only [nIs, Bool.and_eq_true] at h h'
    simp only [nkDs, D.sames, NestedKey.beqAll]
    rw [same_nk a b h.1 h'.1, sames_nk k j h.2 h'.2]
end
theorem same_dec {k j : NestedKey} (h : nI k = true) (h' : nI j = true) : D.same (nkD k) (nkD j) = decide (k = j) := by
  rw [NestedKey.decide_eq]; exact same_nk k j h h'

/-- the very object -/
def exO (a : Addr) (o : Obj) : HO := .ext fun h => h.get? a = some o
/-- a tuple's object: it has no dict of its own -/
def TupO (H : Hp) (a : Addr) (vs : List V) : Prop := ∃ o : Obj, o.dict = none ∧ H a = some (.frz o (.tup vs))
theorem TupO.rd {H : Hp} {a : Addr} {vs : List V} (h : TupO H a vs) : Rd H a (.tup vs) := let ⟨o, _, e⟩ := h; .inr ⟨o, e⟩
theorem TupO.of {K : PySem.W.Frag} {H : Hp} {a : Addr} {vs : List V} (h : TupO H a vs) : SqT K H a vs := .inl h.rd
theorem TupO.get {H : Hp} {a : Addr} {vs : List V} (h : TupO H a vs) : ∃ o, H a = some (.frz o (.tup vs)) := let ⟨o, _, e⟩ := h; ⟨o, e⟩
/-- a dict whose keys are tuples: its object -/
def entI (x : NestedKey × Addr × Value) : DictEntry := ⟨hI x.1, .ref x.2.1, x.2.2⟩
structure DicO (a : Addr) (o : Obj) (xs : List (NestedKey × Addr × Value)) : Prop where
  ex : o.ExactDict
  dat : ∃ es ep, o.data = .dict es ep ∧ es.toList = xs.map entI
  nd : (xs.map (·.1)).Nodup
  ok : ∀ x ∈ xs, okK x.1
  len : xs.length ≤ sizeLine
  sm : (a == sysModules) = false
/-- such a dict with its keys, where they stand, its values -/
def DtK (a : Addr) (o : Obj) (ks : List D) (bs us : List V) : Prop :=
  ∃ (xs : List (NestedKey × Addr × Value)) (kvs : List (NestedKey × V)), DicO a o xs ∧ Paired (fun p q => p.1 = q.1 ∧ RelV p.2 q.2.2) kvs xs ∧
    ks = kvs.map (fun p => nkD p.1) ∧ bs = xs.map (fun p => V.ref p.2.1) ∧ us = kvs.map (·.2)

/-- what may be owned -/
def lk : HO → Prop
  | .lst _ => True
  | .dK _ => True
  | .ext φ => ∃ a o es ep, HO.ext φ = exO a o ∧ o.data = .dict es ep
  | _ => False
theorem DtK.lk {a : Addr} {o : Obj} {ks : List D} {bs us : List V} (h : DtK a o ks bs us) : lk (exO a o) := by
  obtain ⟨xs, kvs, d, _⟩ := h
  obtain ⟨es, ep, e, _⟩ := d.dat
  exact ⟨a, o, es, ep, rfl, e⟩
/-- no code object's cell -/
theorem lk_code {o : HO} (h : lk o) (c : Addr) (q : Str) : o ≠ LamX.CodeO c q := fun z => by
  subst z
  obtain ⟨a, o, es, ep, e, d⟩ := h
  have e' : (fun h : Heap => ∃ (oc : Obj) (vs : Array Value) (t : Tok), h.get? c = some oc ∧ oc.data = .fields vs ∧ vs[1]? = some (.str q t)) = fun h => h.get? a = some o := HO.ext.inj e
  have h0 := congrFun e' { objs := Array.replicate (a + 1) o }
  have ha : ({ objs := Array.replicate (a + 1) o } : Heap).get? a = some o := by
    obtain ⟨cls, dd, dt, sl⟩ := o
    have d : dt = .dict es ep := d
    subst d
    unfold Heap.get?
    simp
  rw [eq_iff_iff] at h0
  obtain ⟨oc, vs, t, g1, g2, _⟩ := h0.mpr ha
  have : oc = o := by
    unfold Heap.get? at g1
    have hr : ({ objs := Array.replicate (a + 1) o } : Heap).objs[c]? = if c < a + 1 then some o else none := Array.getElem?_replicate
    rw [hr] at g1
    split at g1
    · cases g1
    · split at g1
      · exact (Option.some.inj g1).symm
      · cases g1
  rw [this, d] at g2
  cases g2

/-- what a walk keeps: the row's address, the script's (if its list is not frozen), the tables of code objects -/
structure AR where
  row : Addr
  sc : Option Addr
  tt : List (Addr × Str)
  /-- the defs as values; the errors' classes, their fields -/
  fa : Nat → Option Addr := fun _ => none
  ea : Nat → Option (Addr × Option Str) := fun _ => none
instance : CoeOut AR Addr := ⟨AR.row⟩
/-- no table of a code object -/
def nt : HO → Bool
  | .tbl _ => false
  | _ => true
theorem nt_lk {o : HO} (h : lk o) : nt o = true := by
  cases o <;> first | rfl | exact h.elim
mutual
def Rep (aR : AR) (H : Hp) (Z : Addr → Prop) : D → V → Prop
  | .non, v => v = .non
  | .bl b, v => v = .bl b
  | .int i, v => v = .int i
  | .str s, v => v = .str s
  | .tup l, v => ∃ a vs, v = .ref a ∧ TupO H a vs ∧ ¬ Z a ∧ Reps aR H Z l vs
  | .lst l, v => ∃ a vs, v = .ref a ∧ H a = some (.lst vs) ∧ ¬ Z a ∧ Reps aR H Z l vs
  | .dct false ks vs, v => ∃ a kvs, v = .ref a ∧ Rd H a (.dK kvs) ∧ ¬ Z a ∧ ks = kvs.map (fun p => keyD p.1) ∧ Reps aR H Z vs (kvs.map (·.2))
  | .dct true ks vs, v => ∃ a o bs us, v = .ref a ∧ Rd H a (exO a o) ∧ ¬ Z a ∧ DtK a o ks bs us ∧ Reps aR H Z ks bs ∧ Reps aR H Z vs us
  | .row, v => v = .ref aR
  | .fn k, v => ∃ g, aR.fa k = some g ∧ v = .ref g
def Reps (aR : AR) (H : Hp) (Z : Addr → Prop) : List D → List V → Prop
  | [], vs => vs = []
  | d :: ds, vs => ∃ v r, vs = v :: r ∧ Rep aR H Z d v ∧ Reps aR H Z ds r
end
/-- its top may be an owned one -/
def RepC (aR : AR) (H : Hp) (Z : Addr → Prop) : D → V → Prop
  | .lst l, v => ∃ a vs, v = .ref a ∧ H a = some (.lst vs) ∧ a ≠ aR ∧ Reps aR H Z l vs
  | .dct false ks vs, v => ∃ a kvs, v = .ref a ∧ Rd H a (.dK kvs) ∧ a ≠ aR ∧ ks = kvs.map (fun p => keyD p.1) ∧ Reps aR H Z vs (kvs.map (·.2))
  | .dct true ks vs, v => ∃ a o bs us, v = .ref a ∧ Rd H a (exO a o) ∧ a ≠ aR ∧ DtK a o ks bs us ∧ Reps aR H Z ks bs ∧ Reps aR H Z vs us
  | d, v => Rep aR H Z d v
/-- an owned thing -/
def Ow (aR : AR) (H : Hp) (Z : Addr → Prop) (a : Addr) : D → Prop
  | .lst l => ∃ vs, H a = some (.lst vs) ∧ Reps aR H Z l vs
  | .dct false ks vs => ∃ kvs, H a = some (.dK kvs) ∧ ks = kvs.map (fun p => keyD p.1) ∧ Reps aR H Z vs (kvs.map (·.2))
  | .dct true ks vs => ∃ o bs us, H a = some (exO a o) ∧ DtK a o ks bs us ∧ Reps aR H Z ks bs ∧ Reps aR H Z vs us
  | _ => False

/-- what stands in H outside Z stands in H' outside Z' -/
def Le (H : Hp) (Z : Addr → Prop) (H' : Hp) (Z' : Addr → Prop) : Prop := ∀ a o, H a = some o → nt o = true → ¬ Z a → H' a = some o ∧ ¬ Z' a
section
variable {aR : AR} {H H' H1 H2 : Hp} {Z Z' Z1 Z2 : Addr → Prop}
theorem Le.refl : Le H Z H Z := fun _ _ e _ n => ⟨e, n⟩
theorem Le.trans (a : Le H Z H1 Z1) (b : Le H1 Z1 H2 Z2) : Le H Z H2 Z2 := fun c o e t n => let ⟨e1, n1⟩ := a c o e t n; b c o e1 t n1
theorem Le.less (h : ∀ a, Z' a → Z a) : Le H Z H Z' := fun _ _ e _ n => ⟨e, fun z => n (h _ z)⟩
theorem Le.rd {a : Addr} {u : HO} (l : Le H Z H' Z') (h : Rd H a u) (n : ¬ Z a) (t : nt u = true := by rfl) : Rd H' a u ∧ ¬ Z' a := by
  rcases h with h | ⟨o, h⟩
  · exact ⟨.inl (l _ _ h t n).1, (l _ _ h t n).2⟩
  · exact ⟨.inr ⟨o, (l _ _ h rfl n).1⟩, (l _ _ h rfl n).2⟩
theorem Le.tup {a : Addr} {vs : List V} (l : Le H Z H' Z') (h : TupO H a vs) (n : ¬ Z a) : TupO H' a vs ∧ ¬ Z' a :=
  let ⟨o, d, e⟩ := h; ⟨⟨o, d, (l a _ e rfl n).1⟩, (l a _ e rfl n).2⟩
mutual
theorem Rep.mono (l : Le H Z H' Z') : ∀ {d : D} {v : V}, Rep aR H Z d v → Rep aR H' Z' d v
  | .non, _, h => h
  | .bl _, _, h => h
  | .int _, _, h => h
  | .str _, _, h => h
  | .row, _, h => h
  | .fn _, _, h => h
  | .tup ds, _, h => by
    obtain ⟨a, vs, e, h1, n, h2⟩ := h
    exact ⟨a, vs, e, (l.tup h1 n).1, (l.tup h1 n).2, Reps.mono l h2⟩
  | .lst ds, _, h => by
    obtain ⟨a, vs, e, h1, n, h2⟩ := h
    exact ⟨a, vs, e, (l _ _ h1 rfl n).1, (l _ _ h1 rfl n).2, Reps.mono l h2⟩
  | .dct false ks ds, _, h => by
    obtain ⟨a, kvs, e, h1, n, hk, h2⟩ := h
    exact ⟨a, kvs, e, (l.rd h1 n).1, (l.rd h1 n).2, hk, Reps.mono l h2⟩
  | .dct true ks ds, _, h => by
    obtain ⟨a, o, bs, us, e, h1, n, hk, h3, h2⟩ := h
    exact ⟨a, o, bs, us, e, (l.rd h1 n).1, (l.rd h1 n).2, hk, Reps.mono l h3, Reps.mono l h2⟩
theorem Reps.mono (l : Le H Z H' Z') : ∀ {ds : List D} {vs : List V}, Reps aR H Z ds vs → Reps aR H' Z' ds vs
  | [], _, h => h
  | _ :: _, _, h => by
    obtain ⟨v, r, e, h1, h2⟩ := h
    exact ⟨v, r, e, Rep.mono l h1, Reps.mono l h2⟩
end
theorem Reps.length : ∀ {ds : List D} {vs : List V}, Reps aR H Z ds vs → vs.length = ds.length
  | [], _, h => by cases h; rfl
  | _ :: _, _, h => by
    obtain ⟨v, r, e, h1, h2⟩ := h
    subst e
    simp [Reps.length h2]
theorem Reps.get : ∀ {ds : List D} {vs : List V} {i : Nat} {d : D}, Reps aR H Z ds vs → ds[i]? = some d → ∃ v, vs[i]? = some v ∧ Rep aR H Z d v
  | [], _, _, _, _, e => by simp at e
  | _ :: _, _, 0, _, h, e => by
    obtain ⟨v, r, rfl, h1, h2⟩ := h
    simp at e; subst e
    exact ⟨v, rfl, h1⟩
  | _ :: _, _, i + 1, _, h, e => by
    obtain ⟨v, r, rfl, h1, h2⟩ := h
    exact Reps.get (i := i) h2 (by simpa using e)
theorem Reps.get' {ds : List D} {vs : List V} {i : Nat} {v : V} (h : Reps aR H Z ds vs) (e : vs[i]? = some v) : ∃ d, ds[i]? = some d ∧ Rep aR H Z d v := by
  have hl := h.length
  have hi : i < vs.length := (List.getElem?_eq_some_iff.mp e).1
  have e2 : ds[i]? = some ds[i] := List.getElem?_eq_getElem (by omega)
  obtain ⟨v', e', r⟩ := h.get e2
  rw [e] at e'; cases e'
  exact ⟨_, e2, r⟩
theorem Reps.append : ∀ {ds es : List D} {vs us : List V}, Reps aR H Z ds vs → Reps aR H Z es us → Reps aR H Z (ds ++ es) (vs ++ us)
  | [], _, _, _, h, h' => by cases h; exact h'
  | _ :: _, _, _, _, h, h' => by
    obtain ⟨v, r, rfl, h1, h2⟩ := h
    exact ⟨v, r ++ _, rfl, h1, Reps.append h2 h'⟩
theorem Reps.one {d : D} {v : V} (h : Rep aR H Z d v) : Reps aR H Z [d] [v] := ⟨v, [], rfl, h, rfl⟩
theorem Reps.take : ∀ {ds : List D} {vs : List V} (n : Nat), Reps aR H Z ds vs → Reps aR H Z (ds.take n) (vs.take n)
  | [], _, _, h => by cases h; simp; rfl
  | _ :: _, _, 0, h => by simp; rfl
  | _ :: _, _, n + 1, h => by
    obtain ⟨v, r, rfl, h1, h2⟩ := h
    exact ⟨v, r.take n, rfl, h1, Reps.take n h2⟩
theorem Reps.drop : ∀ {ds : List D} {vs : List V} (n : Nat), Reps aR H Z ds vs → Reps aR H Z (ds.drop n) (vs.drop n)
  | [], _, _, h => by cases h; simp; rfl
  | _ :: _, _, 0, h => h
  | _ :: _, _, n + 1, h => by
    obtain ⟨v, r, rfl, h1, h2⟩ := h
    exact Reps.drop n h2
theorem Reps.set : ∀ {ds : List D} {vs : List V} {d : D} {v : V} (i : Nat), Reps aR H Z ds vs → Rep aR H Z d v → Reps aR H Z (ds.set i d) (vs.set i v)
  | [], _, _, _, _, h, _ => by cases h; simp; rfl
  | _ :: _, _, _, _, 0, h, h' => by
    obtain ⟨v, r, rfl, h1, h2⟩ := h
    exact ⟨_, r, rfl, h', h2⟩
  | _ :: _, _, _, _, n + 1, h, h' => by
    obtain ⟨v, r, rfl, h1, h2⟩ := h
    exact ⟨v, _, rfl, h1, Reps.set n h2 h'⟩
theorem Rep.c (z : Z aR) : ∀ {d : D} {v : V}, Rep aR H Z d v → RepC aR H Z d v
  | .non, _, h => h
  | .bl _, _, h => h
  | .int _, _, h => h
  | .str _, _, h => h
  | .row, _, h => h
  | .fn _, _, h => h
  | .tup _, _, h => h
  | .lst _, _, ⟨a, vs, e, h1, n, h2⟩ => ⟨a, vs, e, h1, fun q => n (q ▸ z), h2⟩
  | .dct false _ _, _, ⟨a, kvs, e, h1, n, hk, h2⟩ => ⟨a, kvs, e, h1, fun q => n (q ▸ z), hk, h2⟩
  | .dct true _ _, _, ⟨a, o, bs, us, e, h1, n, hk, h3, h2⟩ => ⟨a, o, bs, us, e, h1, fun q => n (q ▸ z), hk, h3, h2⟩
theorem Ow.c {a : Addr} (n : a ≠ aR) : ∀ {d : D}, Ow aR H Z a d → RepC aR H Z d (.ref a)
  | .lst _, ⟨vs, h1, h2⟩ => ⟨a, vs, rfl, h1, n, h2⟩
  | .dct false _ _, ⟨kvs, h1, hk, h2⟩ => ⟨a, kvs, rfl, .inl h1, n, hk, h2⟩
  | .dct true _ _, ⟨o, bs, us, h1, hk, h3, h2⟩ => ⟨a, o, bs, us, rfl, .inl h1, n, hk, h3, h2⟩
theorem Ow.rep : ∀ {d : D} {a : Addr}, Ow aR H Z a d → ¬ Z a → Rep aR H Z d (.ref a)
  | .lst _, a, ⟨vs, h1, h2⟩, n => ⟨a, vs, rfl, h1, n, h2⟩
  | .dct false _ _, a, ⟨kvs, h1, hk, h2⟩, n => ⟨a, kvs, rfl, .inl h1, n, hk, h2⟩
  | .dct true _ _, a, ⟨o, bs, us, h1, hk, h3, h2⟩, n => ⟨a, o, bs, us, rfl, .inl h1, n, hk, h3, h2⟩
theorem Ow.mono (l : Le H Z H' Z') {a : Addr} (k : ∀ o, H a = some o → nt o = true → H' a = some o) : ∀ {d : D}, Ow aR H Z a d → Ow aR H' Z' a d
  | .lst _, ⟨vs, h1, h2⟩ => ⟨vs, k _ h1 rfl, h2.mono l⟩
  | .dct false _ _, ⟨kvs, h1, hk, h2⟩ => ⟨kvs, k _ h1 rfl, hk, h2.mono l⟩
  | .dct true _ _, ⟨o, bs, us, h1, hk, h3, h2⟩ => ⟨o, bs, us, k _ h1 rfl, hk, h3.mono l, h2.mono l⟩
theorem Ow.lk : ∀ {d : D} {a : Addr}, Ow aR H Z a d → ∃ o, H a = some o ∧ lk o
  | .lst _, _, ⟨vs, h1, _⟩ => ⟨_, h1, trivial⟩
  | .dct false _ _, _, ⟨kvs, h1, _⟩ => ⟨_, h1, trivial⟩
  | .dct true _ _, _, ⟨o, bs, us, h1, hk, h2⟩ => ⟨_, h1, hk.lk⟩
end

/-- nothing stands there but a table -/
def Fr0 (H : Hp) (a : Addr) : Prop := ∀ o, H a = some o → nt o = false
theorem Fr0.of {H : Hp} {a : Addr} (h : H a = none) : Fr0 H a := fun o e => by rw [h] at e; cases e
theorem Fr0.ne {H : Hp} {p a : Addr} {o : HO} (f : Fr0 H p) (e : H a = some o) (t : nt o = true) : a ≠ p := fun z => by
  rw [z] at e
  rw [f o e] at t; cases t
/-- all but the row is as it was -/
structure Ext (aR : AR) (H H' : Hp) : Prop where
  get : ∀ (a : Addr) (o : HO), a ≠ aR.row → H a = some o → nt o = true → H' a = some o
  dom : ∀ (a : Addr), Fr0 H' a → Fr0 H a
instance {aR : AR} {H H' : Hp} : CoeFun (Ext aR H H') fun _ => ∀ (a : Addr) (o : HO), a ≠ aR.row → H a = some o → nt o = true → H' a = some o := ⟨Ext.get⟩
theorem Ext.refl {aR : AR} {H : Hp} : Ext aR H H := ⟨fun _ _ _ e _ => e, fun _ e => e⟩
theorem Ext.trans {aR : AR} {H H1 H2 : Hp} (a : Ext aR H H1) (b : Ext aR H1 H2) : Ext aR H H2 := ⟨fun c o n e t => b c o n (a c o n e t) t, fun c e => a.dom c (b.dom c e)⟩
theorem Ext.new {aR : AR} {p : Addr} {H : Hp} {o : HO} (h : H p = none) : Ext aR H (upd H p o) := ⟨fun a u _ e _ => by rw [upd_ne (ne_of_none e h)]; exact e, fun a f u e => f u (by rw [upd_ne (ne_of_none e h)]; exact e)⟩
theorem Ext.keep {aR : AR} {H H' : Hp} (k : ∀ a o, H a = some o → H' a = some o) : Ext aR H H' := ⟨fun a o _ e _ => k a o e, fun a f o e => f o (k a o e)⟩
theorem Ext.updN {aR : AR} {p : Addr} {H H' : Hp} {o : HO} (x : Ext aR H H') (h : Fr0 H p) : Ext aR H (upd H' p o) := ⟨fun a u n e t => by rw [upd_ne (h.ne e t)]; exact x a u n e t, fun a f => by
  by_cases c : a = p
  · rw [c]; exact h
  · exact x.dom a fun u e => f u (by rw [upd_ne c]; exact e)⟩
theorem Ext.le {aR : AR} {H H' : Hp} {Z : Addr → Prop} (x : Ext aR H H') (z : Z aR) : Le H Z H' Z := fun a o e t n => ⟨x a o (fun q => n (q ▸ z)) e t, n⟩

theorem RepC.ext {aR : AR} {H H' : Hp} {Z : Addr → Prop} (x : Ext aR H H') (z : Z aR) : ∀ {d : D} {v : V}, RepC aR H Z d v → RepC aR H' Z d v
  | .non, _, h => h
  | .bl _, _, h => h
  | .int _, _, h => h
  | .str _, _, h => h
  | .row, _, h => h
  | .fn _, _, h => h
  | .tup _, _, h => Rep.mono (d := .tup _) (x.le z) h
  | .lst _, _, ⟨a, vs, e, h1, n, h2⟩ => ⟨a, vs, e, x _ _ n h1 rfl, n, h2.mono (x.le z)⟩
  | .dct false _ _, _, ⟨a, kvs, e, h1, n, hk, h2⟩ => ⟨a, kvs, e, h1.imp (fun q => x _ _ n q rfl) (fun ⟨o, q⟩ => ⟨o, x _ _ n q rfl⟩), n, hk, h2.mono (x.le z)⟩
  | .dct true _ _, _, ⟨a, o, bs, us, e, h1, n, hk, h3, h2⟩ => ⟨a, o, bs, us, e, h1.imp (fun q => x _ _ n q rfl) (fun ⟨o, q⟩ => ⟨o, x _ _ n q rfl⟩), n, hk, h3.mono (x.le z), h2.mono (x.le z)⟩
theorem RepC.less {aR : AR} {H : Hp} {Z Z' : Addr → Prop} (l : ∀ a, Z' a → Z a) : ∀ {d : D} {v : V}, RepC aR H Z d v → RepC aR H Z' d v
  | .non, _, h => h
  | .bl _, _, h => h
  | .int _, _, h => h
  | .str _, _, h => h
  | .row, _, h => h
  | .fn _, _, h => h
  | .tup _, _, h => Rep.mono (d := .tup _) (Le.less l) h
  | .lst _, _, ⟨a, vs, e, h1, n, h2⟩ => ⟨a, vs, e, h1, n, h2.mono (Le.less l)⟩
  | .dct false _ _, _, ⟨a, kvs, e, h1, n, hk, h2⟩ => ⟨a, kvs, e, h1, n, hk, h2.mono (Le.less l)⟩
  | .dct true _ _, _, ⟨a, o, bs, us, e, h1, n, hk, h3, h2⟩ => ⟨a, o, bs, us, e, h1, n, hk, h3.mono (Le.less l), h2.mono (Le.less l)⟩

/-- a list of the caller's, that nobody writes -/
def SqF (K : PySem.W.Frag) (H : Hp) (a : Addr) (xs : List V) : Prop := (∃ o, H a = some (.frz o (.lst xs))) ∨
  ∃ (o : Obj) (its : Array Value) (n : Nat), K.lookup a = some o ∧ o.cls = .type "list" ∧ o.dict = none ∧ o.data = .seq its n ∧ its.size ≤ sizeLine ∧ Vals xs its.toList
theorem SqF.seq {K : PySem.W.Frag} {H : Hp} {a : Addr} {xs : List V} (h : SqF K H a xs) : SqL K H a xs := by
  rcases h with ⟨o, h⟩ | h
  · exact .inl (.inr ⟨o, h⟩)
  · exact .inr h
theorem SqF.keep {K : PySem.W.Frag} {H H' : Hp} {a : Addr} {xs : List V} (h : SqF K H a xs) (k : ∀ o u, H a = some (.frz o u) → H' a = some (.frz o u)) : SqF K H' a xs := by
  rcases h with ⟨o, h⟩ | h
  · exact .inl ⟨o, k _ _ h⟩
  · exact .inr h
/-- the script's list -/
def SqG (aR : AR) (K : PySem.W.Frag) (H : Hp) (a : Addr) (xs : List V) : Prop := SqF K H a xs ∨ aR.sc = some a ∧ H a = some (.lst xs)
theorem SqG.seq {aR : AR} {K : PySem.W.Frag} {H : Hp} {a : Addr} {xs : List V} (h : SqG aR K H a xs) : SqL K H a xs := by
  rcases h with h | ⟨_, h⟩
  · exact h.seq
  · exact .inl (.inl h)
theorem SqG.keep {aR : AR} {K : PySem.W.Frag} {H H' : Hp} {a : Addr} {xs : List V} (h : SqG aR K H a xs) (k : ∀ o u, H a = some (.frz o u) → H' a = some (.frz o u)) (k2 : aR.sc = some a → H a = some (.lst xs) → H' a = some (.lst xs)) : SqG aR K H' a xs := by
  rcases h with h | ⟨e, h⟩
  · exact .inl (h.keep k)
  · exact .inr ⟨e, k2 e h⟩
def RowOk (aR : AR) (K : PySem.W.Frag) (H : Hp) (r : Row) : Prop :=
  ∃ a, H aR = some (.lst [.ref a, .int r.p, .int r.h, .int r.c]) ∧ SqG aR K H a (r.sc.map V.int) ∧ 0 ≤ r.p ∧ LamX.Tabs aR.tt H ∧ ∀ b, aR.sc = some b → ∃ o, H b = some o ∧ nt o = true
/-- a heap that keeps the row too -/
theorem RowOk.keep {aR : AR} {K : PySem.W.Frag} {H H' : Hp} {r : Row} (h : RowOk aR K H r) (k : ∀ a o, H a = some o → H' a = some o) : RowOk aR K H' r := by
  obtain ⟨a, h1, h2, h3, h4, h5⟩ := h
  exact ⟨a, k _ _ h1, h2.keep (fun o u e => k _ _ e) (fun _ e => k _ _ e), h3, h4.ext k, fun b eb => let ⟨o, q, t⟩ := h5 b eb; ⟨o, k _ _ q, t⟩⟩
/-- tables stay while other things are written -/
theorem tabs_upd {T : List (Addr × Str)} {H : Hp} {p : Addr} {o u : HO} (h : LamX.Tabs T H) (e : H p = some o) (n1 : nt o = true) (n2 : ∀ c q, o ≠ LamX.CodeO c q) : LamX.Tabs T (upd H p u) := fun q hq => by
  obtain ⟨ps, a1, a2, a3⟩ := h q hq
  refine ⟨ps, ?_, a2, fun pos cv hc => ?_⟩
  · rw [upd_ne (fun z => by rw [z, e] at a1; cases a1; cases n1)]; exact a1
  · obtain ⟨c, e1, e2⟩ := a3 pos cv hc
    exact ⟨c, e1, by rw [upd_ne (fun z => by rw [z, e] at e2; exact n2 _ _ (Option.some.inj e2))]; exact e2⟩
/-- a row's heap in which a list or dict is written -/
theorem RowOk.upd {aR : AR} {K : PySem.W.Frag} {H : Hp} {r : Row} {p : Addr} {o u : HO} (h : RowOk aR K H r) (e : H p = some o) (l : lk o) (n1 : p ≠ aR) (n2 : aR.sc ≠ some p) : RowOk aR K (upd H p u) r := by
  obtain ⟨a, h1, h2, h3, h4, h5⟩ := h
  refine ⟨a, by rw [upd_ne n1.symm]; exact h1, h2.keep (fun o' u' e' => ?_) (fun es e' => ?_), h3, tabs_upd h4 e (nt_lk l) (lk_code l), fun b eb => by rw [upd_ne (fun z => n2 (by rw [← z]; exact eb))]; exact h5 b eb⟩
  · rw [upd_ne (fun z => by rw [z, e] at e'; cases e'; exact l)]; exact e'
  · rw [upd_ne (fun z => n2 (by rw [← z]; exact es))]; exact e'

/-- the owned slots' addresses, but those of ex -/
def Own (σ : L2.St) (env : Env) (ex : List Nat) (a : Addr) : Prop := ∃ (i : Nat) (d : D), env[i]? = some (.ow d) ∧ σ[i]? = some (some (.ref a)) ∧ i ∉ ex
/-- the mask -/
def Mk (Z : Addr → Prop) (σ : L2.St) (env : Env) (ex : List Nat) (a : Addr) : Prop := Z a ∨ Own σ env ex a

structure Ok (aR : AR) (K : PySem.W.Frag) (Z : Addr → Prop) (H0 : Hp) (σ : L2.St) (H : Hp) (env : Env) (r : Row) : Prop where
  len : σ.length = env.length
  row : RowOk aR K H r
  zr : Z aR
  zk : ∀ a, Z a → ∃ o, H a = some o ∧ lk o
  fz : ∀ (i : Nat) (d : D), env[i]? = some (.fz d) → ∃ v, σ[i]? = some (some v) ∧ Rep aR H (Mk Z σ env []) d v
  ow : ∀ (i : Nat) (d : D), env[i]? = some (.ow d) → ∃ a, σ[i]? = some (some (.ref a)) ∧ ¬ Z a ∧ Fr0 H0 a ∧ Ow aR H (Mk Z σ env []) a d
  dis : ∀ (i j : Nat) (d d' : D) (a : Addr), env[i]? = some (.ow d) → env[j]? = some (.ow d') → σ[i]? = some (some (.ref a)) → σ[j]? = some (some (.ref a)) → i = j
  ext : Ext aR H0 H
  sc : ∀ a, aR.sc = some a → ∃ o, H0 a = some o ∧ nt o = true
section
variable {aR : AR} {K : PySem.W.Frag} {Z : Addr → Prop} {H0 H H' : Hp} {σ : L2.St} {env : Env} {r r' : Row} {ex : List Nat}
theorem Mk.more {e1 e2 : List Nat} (h : ∀ i ∈ e1, i ∈ e2) {a : Addr} (m : Mk Z σ env e2 a) : Mk Z σ env e1 a := by
  rcases m with m | ⟨i, d, h1, h2, h3⟩
  · exact .inl m
  · exact .inr ⟨i, d, h1, h2, fun q => h3 (h i q)⟩
theorem Mk.le (H : Hp) {e1 e2 : List Nat} (h : ∀ i ∈ e1, i ∈ e2) : Le H (Mk Z σ env e1) H (Mk Z σ env e2) := Le.less fun _ => Mk.more h
theorem Mk.le0 (H : Hp) : Le H (Mk Z σ env []) H (Mk Z σ env ex) := Mk.le H (fun _ q => nomatch q)
theorem Ok.mr (h : Ok aR K Z H0 σ H env r) : Mk Z σ env ex aR := .inl h.zr
theorem Ok.mkk (h : Ok aR K Z H0 σ H env r) : ∀ a, Mk Z σ env ex a → ∃ o, H a = some o ∧ lk o := fun a m => by
  rcases m with m | ⟨i, d, h1, h2, _⟩
  · exact h.zk a m
  · obtain ⟨b, e, _, _, o⟩ := h.ow i d h1
    rw [h2] at e; cases e
    exact o.lk
theorem Ok.scn {p : Addr} (h : Ok aR K Z H0 σ H env r) (h0 : Fr0 H0 p) : aR.sc ≠ some p := fun z => by
  obtain ⟨o, eo, t⟩ := h.sc _ z
  exact h0.ne eo t rfl
/-- the heap grows -/
theorem Ok.grow (h : Ok aR K Z H0 σ H env r) (x : Ext aR H H') (ro : RowOk aR K H' r') : Ok aR K Z H0 σ H' env r' := by
  have l : Le H (Mk Z σ env []) H' (Mk Z σ env []) := x.le h.mr
  refine ⟨h.len, ro, h.zr, fun a z => ?_, fun i d e => ?_, fun i d e => ?_, h.dis, h.ext.trans x, h.sc⟩
  · by_cases q : a = aR
    · obtain ⟨b, e, _⟩ := ro
      rw [q]
      exact ⟨_, e, True.intro⟩
    · obtain ⟨o, e, k⟩ := h.zk a z
      exact ⟨o, x a o q e (nt_lk k), k⟩
  · obtain ⟨v, e1, rp⟩ := h.fz i d e
    exact ⟨v, e1, rp.mono l⟩
  · obtain ⟨a, e1, nz, n0, o⟩ := h.ow i d e
    exact ⟨a, e1, nz, n0, o.mono l fun u eu t => x a u (fun q => nz (q ▸ h.zr)) eu t⟩
/-- one more address is reserved, that nothing leans on -/
theorem Ok.hide {p : Addr} {o : HO} (h : Ok aR K Z H0 σ H env r) (x : Ext aR H H') (ro : RowOk aR K H' r') (hp : Fr0 H p) (e : H' p = some o) (k : lk o) : Ok aR K (fun a => Z a ∨ a = p) H0 σ H' env r' := by
  have h1 := h.grow x ro
  have l : Le H (Mk Z σ env []) H' (Mk (fun a => Z a ∨ a = p) σ env []) := fun a u ea t n => by
    refine ⟨x a u (fun q => n (q ▸ h.mr)) ea t, fun m => ?_⟩
    rcases m with (m | m) | m
    · exact n (.inl m)
    · exact hp.ne ea t m
    · exact n (.inr m)
  refine ⟨h.len, ro, .inl h.zr, fun a z => ?_, fun i d e => ?_, fun i d e => ?_, h.dis, h.ext.trans x, h.sc⟩
  · rcases z with z | z
    · exact h1.zk a z
    · exact ⟨o, z ▸ e, k⟩
  · obtain ⟨v, e1, rp⟩ := h.fz i d e
    exact ⟨v, e1, rp.mono l⟩
  · obtain ⟨a, e1, nz, n0, ow⟩ := h.ow i d e
    refine ⟨a, e1, fun q => ?_, n0, ow.mono l fun u eu t => x a u (fun q => nz (q ▸ h.zr)) eu t⟩
    rcases q with q | q
    · exact nz q
    · obtain ⟨u, eu, l⟩ := ow.lk
      exact hp.ne eu (nt_lk l) q
end
end Wl
set_option maxHeartbeats 4000000
/-! tuple * int, any int of few figures. -/
namespace Wl
open PySem PySem.Spec PyProof.Rows L2
theorem tuple_mulS (l : Addr) (items : Array Value) (n : Nat) (dd : Option Addr) (sl : Array (Option Value)) (x : Int) (u : Tok) (c0 : (decide (x < -(2 ^ 63)) || decide (x ≥ 2 ^ 63)) = false) (c1 : (items.isEmpty || x == 1) = true) :
    Meets (Builtin.«tuple.__mul__» ⟨[.ref l, .int x u], []⟩) (fun _ R s => s.heap.get? l = some { cls := .type "tuple", dict := dd, data := .seq items n, slots := sl } ∧
      R (.ok (.ret (.ref l))) s) :=
  .of_wp fun prog w A R s h => by
    obtain ⟨hp, g, d, tk, os⟩ := s
    obtain ⟨hl, h⟩ := h
    have f1 := AutoSeq1.idx_int
    wp_walk using wpAny_loadPart' hl
    repeat (first
      | (refine wpAny_ite_false (decide_eq_false (by rw [c0]; exact Bool.false_ne_true)) ?_; wp_walk using wpAny_loadPart' hl)
      | (refine wpAny_ite_true (decide_eq_true c1) ?_; wp_walk using wpAny_loadPart' hl))
    exact ⟨_, rfl, h⟩
theorem tuple_mulZ (l : Addr) (items : Array Value) (n : Nat) (dd : Option Addr) (sl : Array (Option Value)) (x : Int) (u : Tok) (c0 : (decide (x < -(2 ^ 63)) || decide (x ≥ 2 ^ 63)) = false) (c1 : (items.isEmpty || x == 1) = false) (c2 : (decide (x ≤ 0) || items.isEmpty) = true) :
    Meets (Builtin.«tuple.__mul__» ⟨[.ref l, .int x u], []⟩) (fun _ R s => s.heap.get? l = some { cls := .type "tuple", dict := dd, data := .seq items n, slots := sl } ∧
      R (.ok (.ret (Value.ref s.heap.objs.size))) { s with heap := s.heap.push { cls := Value.type "tuple", data := Data.seq #[] }, toks := s.toks }) :=
  .of_wp fun prog w A R s h => by
    obtain ⟨hp, g, d, tk, os⟩ := s
    obtain ⟨hl, h⟩ := h
    have f1 := AutoSeq1.idx_int
    wp_walk using wpAny_loadPart' hl
    repeat (first
      | (refine wpAny_ite_false (decide_eq_false (by rw [c0]; exact Bool.false_ne_true)) ?_; wp_walk using wpAny_loadPart' hl)
      | (refine wpAny_ite_false (decide_eq_false (by rw [c1]; exact Bool.false_ne_true)) ?_; wp_walk using wpAny_loadPart' hl)
      | (refine wpAny_ite_true (decide_eq_true c2) ?_; wp_walk using wpAny_loadPart' hl))
    exact ⟨_, rfl, h⟩
variable {X : Cx}
/-! xs.extend(t), t a tuple -/
theorem list_extend_tup (l : Addr) (items : Array Value) (n : Nat) (b : Addr) (items2 : Array Value) (n2 : Nat) (dd : Option Addr) (sl : Array (Option Value)) (hs0 : ¬(!items.isEmpty && Builtin.List.listTooLong (items.size + items2.size)) = true) (hs1 : items.size ≤ sizeLine) (hs2 : items.size + items2.size ≤ sizeLine + 1) :
    Meets (Builtin.«list.extend» ⟨[.ref l, .ref b], []⟩) (fun _ R s => s.heap.get? l = some { cls := .type "list", dict := none, data := .seq items n, slots := #[] } ∧ s.heap.get? b = some { cls := .type "tuple", dict := dd, data := .seq items2 n2, slots := sl } ∧ R (.ok (.ret Value.none)) { s with heap := s.heap.update l (Obj.mapSeq fun x => x ++ items2), toks := s.toks }) :=
  .of_wp fun prog w A R s h => by
    obtain ⟨hp, g, d, tk, os⟩ := s; obtain ⟨hl, hb, h⟩ := h; have f1 := AutoSeq1.idx_int; have f2 := AutoSeq1.sub_tuple_tuple; have f3 := AutoSeq1.sub_list_list; have f4 := AutoSeq1.sub_tuple_list; have f5 := AutoSeq1.sub_list_tuple;
    have hz' : (items ++ items2).size ≤ sizeLine + 1 := by rw [Array.size_append]; exact hs2
    wp_walk using (wpAny_updateSeq hl rfl (hz := hs1) (_hz' := hz')), wpAny_loadPart' hl, wpAny_loadPart' hb; exact ⟨_, rfl, h⟩
def rExtT (K : PySem.W.Frag) : V → List V → Hp → VK → Prop := fun x vs H Q => ∃ l b xs zs, x = .ref l ∧ vs = [.ref b] ∧ H l = some (.lst xs) ∧ SqT K H b zs ∧ xs.length + zs.length ≤ sizeLine ∧ Q .non (upd H l (.lst (xs ++ zs)))
theorem mt_extT : MtM X "list.extend" (rExtT X.K) := by
  intro pins s σ H x vs v us Q I rx rv h
  obtain ⟨l, b, xs, zs, rfl, rfl, hH, hB, hz, q⟩ := h
  cases rx
  obtain ⟨u, rfl, ru⟩ := rv.one
  cases ru
  obtain ⟨z, its, n, r, hl, e⟩ := I.lstM hH
  obtain ⟨its2, r2, ⟨⟨cls, dd, data, sl⟩, ho, hc, n2, hd⟩, hs2⟩ := I.tuple hB
  simp only at hc hd
  subst hc hd
  have l1 := r.length
  have l2 := r2.length
  have hsz : its.toArray.size + its2.toArray.size ≤ sizeLine := by rw [List.size_toArray, List.size_toArray]; omega
  have hlong : ¬ (!its.toArray.isEmpty && Builtin.List.listTooLong (its.toArray.size + its2.toArray.size)) = true := by
    rw [notLongL hsz, Bool.and_false]
    exact Bool.false_ne_true
  refine call_meets F.slot_list_extend ⟨_, e, rfl⟩ F.entry_list_extend (F.args_list_extend_2 _ _)
    (list_extend_tup l its.toArray n b its2.toArray n2 dd sl hlong (by rw [List.size_toArray]; omega) (by omega)) ⟨e, ho, ?_⟩
  refine ⟨.non, _, I.lset (its' := its ++ its2) hH e (by simp) (r.append r2) ?_, rfl, q⟩
  rw [List.length_append]
  omega
end Wl
set_option maxHeartbeats 4000000
/-! Tuples made, their objects known. -/
namespace Wl
open PySem PySem.Spec PyProof.Rows L2
/-- a new tuple's object -/
def tO (its : List Value) : Obj := { cls := .type "tuple", data := .seq its.toArray }
/-- a new tuple is handed on -/
def NewT (H : Hp) (xs : List V) (Q : VK) : Prop := ∀ p o, H p = none → o.dict = none → Q (.ref p) (upd H p (.frz o (.tup xs)))
section
variable {X : Cx} {pins : List (Addr × Obj)} {σ : L2.St} {H : Hp} {s : Shared}
theorem laidS {its : List Value} {xs : List V} {t' : Nat} (I : Inv X pins σ H s) (r : Vals xs its) (hz : xs.length ≤ sizeLine) :
    Inv X pins σ (upd H s.heap.objs.size (.frz (tO its) (.tup xs))) { s with heap := s.heap.push (tO its), toks := t' } :=
  I.laid (o := .frz (tO its) (.tup xs)) (fun b u e => Heap.get?_push_of_some _ e) (Nat.le_refl _) ⟨Heap.get?_push_size _ rfl, hz, its, r, IsTup.new _ _⟩
theorem EPs {its : List Value} {xs : List V} {t' : Nat} {Q : VK} (I : Inv X pins σ H s) (r : Vals xs its) (hz : xs.length ≤ sizeLine) (q : NewT H xs Q) :
    EP X pins σ Q (.ref s.heap.objs.size) { s with heap := s.heap.push (tO its), toks := t' } :=
  ⟨.ref s.heap.objs.size, _, laidS I r hz, rfl, q _ _ (I.hok.fresh (Nat.le_refl _)) rfl⟩
end
section
variable {X : Cx} {pos : Pos}
def tTupS (t : TA) : TE := fun σ H Q => t σ H fun xs H1 => xs.length ≤ sizeLine ∧ NewT H1 xs Q
theorem pe_tupS {es : List Expr} {t : TA} {x1 : Nat} (h : PA X es t) : PE X (.Tuple es x1 pos) (tTupS t) := by
  refine ⟨fun pins s σ H Q I hq => ?_⟩
  refine wpAny_Tuple_spliced (thn (h.run pos pins s σ H _ I hq) fun us s1 ⟨xs, H1, I1, r, z, q⟩ => ⟨by rw [← r.length]; exact z, ?_⟩)
  exact EPs (t' := s1.toks) I1 r z q
/-- t + u -/
def rCatS2 (K : PySem.W.Frag) : R2 := fun x y H Q => ∃ a b xs ys, x = .ref a ∧ y = .ref b ∧ SqT K H a xs ∧ SqT K H b ys ∧ xs.length + ys.length ≤ sizeLine ∧
  (xs = [] → Q (.ref b) H) ∧ (xs ≠ [] → ys = [] → Q (.ref a) H) ∧ (xs ≠ [] → ys ≠ [] → NewT H (xs ++ ys) Q)
theorem op_catS2 : OpR X (binaryOp .Add) (rCatS2 X.K) := by
  intro pins s σ H x y v u Q I rx ry h
  obtain ⟨a, b, xs, ys, rfl, rfl, ha, hb, hz, q0, q1, q2⟩ := h
  cases rx
  cases ry
  obtain ⟨its, r1, p1, _⟩ := I.tuple ha
  obtain ⟨its2, r2, p2, _⟩ := I.tuple hb
  by_cases hx : xs = []
  · subst hx
    cases r1
    exact cat_tup0 p1 p2 ⟨.ref b, H, I, rfl, q0 rfl⟩
  · refine HT.cat_tup p1 p2 (fun z => hx (r1.nil_iff.mp z)) (fun z => ⟨.ref a, H, I, rfl, q1 hx (r2.nil_iff.mp z)⟩) (fun z => ?_) (by rw [← r1.length, ← r2.length]; exact hz)
    exact EPs (t' := s.toks) I (r1.append r2) (by rw [List.length_append]; exact hz) (q2 hx fun w => z (r2.nil_iff.mpr w))
/-- t[lo:hi] -/
def rSlS (K : PySem.W.Frag) : V → Option Int → Option Int → Hp → VK → Prop := fun x lo hi H Q => ∃ a xs, x = .ref a ∧ SqT K H a xs ∧
  (HT.sIx xs.length 0 lo = 0 ∧ HT.sIx xs.length xs.length hi = xs.length → Q (.ref a) H) ∧ (¬ (HT.sIx xs.length 0 lo = 0 ∧ HT.sIx xs.length xs.length hi = xs.length) → NewT H (cutV xs lo hi) Q)
theorem sl_tupS : SlR X (rSlS X.K) := by
  intro pins s σ H x v vl vu lo hi sl Q I rx hs pl pu h
  obtain ⟨a, xs, rfl, hx, q1, q2⟩ := h
  cases rx
  obtain ⟨its, r, ht, hz⟩ := I.tuple hx
  have hlen : its.toArray.size = xs.length := by rw [List.size_toArray]; exact r.length.symm
  refine ⟨"tuple", _, PyProof.Rows.slot_tuple_getitem.lookup, ht.typeIs, ?_⟩
  by_cases hw : HT.sIx xs.length 0 lo = 0 ∧ HT.sIx xs.length xs.length hi = xs.length
  · exact getItem_tuple_whole ht hs pl pu (by rw [hlen]; exact hw) ⟨.ref a, H, I, rfl, q1 hw⟩
  · refine HT.getItem_tuple_cut ht hs pl pu (by rw [hlen]; exact hw) ?_ (by rw [hlen]; exact hz)
    rw [hlen]
    exact EPs (t' := s.toks) I ((r.drop (HT.sIx xs.length 0 lo)).take (HT.sIx xs.length xs.length hi - HT.sIx xs.length 0 lo)) (Nat.le_trans (cutV_length xs lo hi) hz) (q2 hw)
/-- tuple(x) -/
theorem call_tuple_ofS : CallR X (.type "tuple") (fun xs H Q => ∃ p ys, xs = [.ref p] ∧ ((SqL X.K H p ys ∧ NewT H ys Q) ∨ (SqT X.K H p ys ∧ Q (.ref p) H))) := by
  intro pins s σ H xs us Q I r h
  obtain ⟨p, ys, rfl, h⟩ := h
  obtain ⟨u, rfl, rx⟩ := vals1 r
  cases rx
  rcases h with ⟨hq, q⟩ | ⟨hq, q⟩
  · obtain ⟨its, r', pl, hz⟩ := I.list hq
    have hlen := r'.length
    refine call_tuple_list pl.isList (fun h' kp => ?_) (by simp only [List.size_toArray] <;> omega)
    have I1 : Inv X pins σ H { s with heap := h' } := I.kept (t' := s.toks) kp
    exact EPs (t' := s.toks) I1 r' hz q
  · obtain ⟨its, r', pl, hz⟩ := I.tuple hq
    exact call_tuple_same pl ⟨.ref p, H, I, rfl, q⟩
/-- tuple(range(..)) -/
def tTupRgS (te : L2.St → Hp → (Int → Int → Hp → Prop) → Prop) : TE := fun σ H Q => te σ H fun a b H1 => RgOk a b ∧ NewT H1 (rgV a b) Q
theorem pe_tupRgS {e : Expr} {te : L2.St → Hp → (Int → Int → Hp → Prop) → Prop} {p pos : Pos} (hc : X.calm = true) (hg : Gl X "tuple") (hm : X.mg "tuple" = none) (he : PRg X e te) (na : starEach [e] X.env = (false, eval e X.env) :: starEach [] X.env := by rfl) : PE X (.Call (.Name "tuple" p) [e] [] pos) (tTupRgS te) := by
  refine ⟨fun pins s σ H Q I h => ?_⟩
  refine Call_ (ld_blt I hg hm boot_tuple (PyProof.Rows.callWith_type1 (args_cons (thn (he pins s σ H _ I h) fun x s1 ⟨r, a, b, t, u, v, H1, ex, hr, I1, ok, q⟩ => args_nil ?_) na) na))
  subst ex
  obtain ⟨b1, b2, b3, b4, b5⟩ := ok
  refine call_tuple_range (n := (b - a).toNat) (I1.ok.hd hc) hr (small_one b1 b2 b3 b4) (rangeSize_nat a b) b5 fun h' tk acc hk hi => ?_
  have I2 : Inv X pins σ H1 { s1 with heap := h', toks := tk } := I1.kept hk
  have := EPs (t' := tk) I2 (vals_rg hi) (by rw [rgV_length, sizeLine_eq]; omega) q
  unfold tO at this
  rw [Array.toArray_toList] at this
  exact this
/-- t * n -/
def rRepW (K : PySem.W.Frag) : R2 := fun x y H Q => ∃ l k xs, x = .ref l ∧ y = .int k ∧ SqT K H l xs ∧ -1000 ≤ k ∧ k ≤ 1000 ∧ xs.length ≤ 1000 ∧
  (xs = [] ∨ k = 1 → Q (.ref l) H) ∧ (xs ≠ [] → k ≠ 1 → NewT H (List.replicate k.toNat xs).flatten Q)
theorem op_repW : OpR X (binaryOp .Mult) (rRepW X.K) := by
  intro pins s σ H x y v u Q I rx ry h
  obtain ⟨l, k, xs, rfl, rfl, hT, h0, h2, hz, q1, q2⟩ := h
  cases rx
  obtain ⟨t, rfl⟩ := ry
  obtain ⟨its, r, ⟨⟨cls, dd, data, sl⟩, ho, hc, n, hd⟩, hsz⟩ := I.tuple hT
  simp only at hc hd
  subst hc hd
  have hle : its.length = xs.length := r.length.symm
  have c0 : (decide (k < -(2 ^ 63)) || decide (k ≥ 2 ^ 63)) = false := by
    rw [decide_eq_false (by omega), decide_eq_false (by omega)] <;> rfl
  have hemp : its.toArray.isEmpty = decide (xs = []) := by
    cases its with
    | nil => rw [List.length_nil] at hle; rw [List.eq_nil_of_length_eq_zero hle.symm]; rfl
    | cons a b =>
      have : xs ≠ [] := fun e => by rw [e] at hle; cases hle
      rw [decide_eq_false this]; rfl
  have flen : (List.replicate k.toNat its).flatten.length ≤ sizeLine := by
    rw [PyProof.Rows.lm_len_rep_flat, hle, sizeLine_eq]
    have a1 : k.toNat * xs.length ≤ 1000 * 1000 := Nat.mul_le_mul (by omega) hz
    omega
  have flenV : ((List.replicate k.toNat xs).flatten).length ≤ sizeLine := by
    rw [PyProof.Rows.lm_len_rep_flat, sizeLine_eq]
    have a1 : k.toNat * xs.length ≤ 1000 * 1000 := Nat.mul_le_mul (by omega) hz
    omega
  by_cases hq : xs = [] ∨ k = 1
  · have c1 : (its.toArray.isEmpty || k == 1) = true := by
      rw [hemp, Bool.or_eq_true, decide_eq_true_eq, beq_iff_eq]; exact hq
    refine wpAny_binaryOp_repeat_ref (T := "tuple") (U := "int") (by decide) ⟨_, ho, rfl⟩ (fun s' => typeIs_int s' k t) noFill_tuple_mul F.fills_int_mul F.slot_int_rmul repeat_tuple F.slot_int_index.lookup
      (call_meets F.slot_int_rmul (typeIs_int s k t) F.entry_int_rmul (F.args_int_rmul_2 _ _) (int_rmul_tuple k t l its.toArray n dd sl)
        ⟨ho, rfl, ⟨_, ho, rfl⟩, call_meets F.slot_tuple_mul ⟨_, ho, rfl⟩ F.entry_tuple_mul (F.args_tuple_mul_2 _ _) (tuple_mulS l its.toArray n dd sl k t c0 c1) ⟨ho, ?_⟩⟩)
    exact ⟨.ref l, _, I, rfl, q1 hq⟩
  · have hx : xs ≠ [] := fun e => hq (.inl e)
    have hk : k ≠ 1 := fun e => hq (.inr e)
    have c1 : (its.toArray.isEmpty || k == 1) = false := by
      rw [hemp, decide_eq_false hx, Bool.false_or]; exact beq_eq_false_iff_ne.mpr hk
    by_cases hk0 : k ≤ 0
    · have c2 : (decide (k ≤ 0) || its.toArray.isEmpty) = true := by
        rw [decide_eq_true hk0]; rfl
      refine wpAny_binaryOp_repeat_ref (T := "tuple") (U := "int") (by decide) ⟨_, ho, rfl⟩ (fun s' => typeIs_int s' k t) noFill_tuple_mul F.fills_int_mul F.slot_int_rmul repeat_tuple F.slot_int_index.lookup
        (call_meets F.slot_int_rmul (typeIs_int s k t) F.entry_int_rmul (F.args_int_rmul_2 _ _) (int_rmul_tuple k t l its.toArray n dd sl)
          ⟨ho, rfl, ⟨_, ho, rfl⟩, call_meets F.slot_tuple_mul ⟨_, ho, rfl⟩ F.entry_tuple_mul (F.args_tuple_mul_2 _ _) (tuple_mulZ l its.toArray n dd sl k t c0 c1 c2) ⟨ho, ?_⟩⟩)
      have e0 : k.toNat = 0 := by omega
      have q := q2 hx hk
      rw [e0] at q
      exact EPs (its := []) (xs := []) (t' := s.toks) I .nil (by simp) q
    · have c2 : (decide (k ≤ 0) || its.toArray.isEmpty) = false := by
        rw [hemp, decide_eq_false hx, Bool.or_false]
        exact decide_eq_false hk0
      have hm : ((its.toArray.size : Nat) : Int) * k ≤ 1000000 := by
        rw [List.size_toArray, hle]
        have a1 : ((xs.length : Nat) : Int) * k ≤ 1000 * k := Int.mul_le_mul_of_nonneg_right (by omega) (by omega)
        omega
      have c4 : Builtin.Tuple.tupleTooMany (((its.toArray.size : Nat) : Int) * k) = false := by
        unfold Builtin.Tuple.tupleTooMany
        rw [sizeLine_eq]
        exact decide_eq_false (by omega)
      refine wpAny_binaryOp_repeat_ref (T := "tuple") (U := "int") (by decide) ⟨_, ho, rfl⟩ (fun s' => typeIs_int s' k t) noFill_tuple_mul F.fills_int_mul F.slot_int_rmul repeat_tuple F.slot_int_index.lookup
        (call_meets F.slot_int_rmul (typeIs_int s k t) F.entry_int_rmul (F.args_int_rmul_2 _ _) (int_rmul_tuple k t l its.toArray n dd sl)
          ⟨ho, rfl, ⟨_, ho, rfl⟩, call_meets F.slot_tuple_mul ⟨_, ho, rfl⟩ F.entry_tuple_mul (F.args_tuple_mul_2 _ _) (tuple_mulW l its.toArray n dd sl k t c0 c1 c2 (by omega) c4 (by rw [size_rep, List.size_toArray]; exact flen)) ⟨ho, ?_⟩⟩)
      rw [size_rep]
      exact EPs (t' := s.toks) I (r.rep k.toNat) flenV (q2 hx hk)
end
end Wl
set_option maxHeartbeats 4000000
/-! Dicts whose keys are tuples of any depth. -/
namespace Wl
open PySem PySem.Spec PyProof.Rows L2

/-! ### keys where they stand -/
mutual
def KAt (H : Hp) : NestedKey → V → Prop
  | .none, v => v = .non
  | .num i, v => v = .int i
  | .text x, v => v = .str x
  | .tup ks, v => ∃ a vs, v = .ref a ∧ TupO H a vs ∧ KAts H ks vs
def KAts (H : Hp) : List NestedKey → List V → Prop
  | [], vs => vs = []
  | k :: ks, vs => ∃ v r, vs = v :: r ∧ KAt H k v ∧ KAts H ks r
end
section
variable {P : Program} {w : World} {H H' : Hp} {h : Heap}
mutual
theorem kat_is (ok : HOk P w H h) : ∀ (k : NestedKey) (v : V) (u : Value), KAt H k v → RelV v u → NestedIs h k u
  | .none, _, _, x, r => by cases x; cases r; exact .none
  | .num i, _, _, x, r => by cases x; obtain ⟨t, rfl⟩ := r; exact .int i t
  | .text y, _, _, x, r => by cases x; obtain ⟨t, rfl⟩ := r; exact .text y t
  | .tup ks, _, _, x, r => by
    obtain ⟨a, vs, rfl, ⟨o, _, e⟩, x2⟩ := x
    cases r
    obtain ⟨_, _, its, rv, o2, g1, g2, n, g3⟩ := ok a _ e
    exact .tup g1 g2 g3 (by simpa using kats_is ok ks vs its x2 rv)
theorem kats_is (ok : HOk P w H h) : ∀ (k : List NestedKey) (v : List V) (u : List Value), KAts H k v → Vals v u → NestedAll h k u
  | [], _, _, x, r => by cases x; cases r; exact .nil
  | k :: ks, _, _, x, r => by
    obtain ⟨v, vs, rfl, x1, x2⟩ := x
    cases r with
    | cons r1 r2 => exact .cons (kat_is ok k _ _ x1 r1) (kats_is ok ks _ _ x2 r2)
end
mutual
theorem KAt.keep (g : ∀ a vs, TupO H a vs → TupO H' a vs) : ∀ {k : NestedKey} {v : V}, KAt H k v → KAt H' k v
  | .none, _, x => x
  | .num _, _, x => x
  | .text _, _, x => x
  | .tup ks, _, x => by
    obtain ⟨a, vs, e, x1, x2⟩ := x
    exact ⟨a, vs, e, g a vs x1, KAts.keep g x2⟩
theorem KAts.keep (g : ∀ a vs, TupO H a vs → TupO H' a vs) : ∀ {k : List NestedKey} {v : List V}, KAts H k v → KAts H' k v
  | [], _, x => x
  | k :: ks, _, x => by
    obtain ⟨v, vs, e, x1, x2⟩ := x
    exact ⟨v, vs, e, KAt.keep g x1, KAts.keep g x2⟩
end
variable {aR : AR} {Z : Addr → Prop}
mutual
theorem rep_kat : ∀ (k : NestedKey) (v : V), Rep aR H Z (nkD k) v → KAt H k v
  | .none, _, x => by simpa [nkD, Rep, KAt] using x
  | .num i, _, x => by simpa [nkD, Rep, KAt] using x
  | .text y, _, x => by simpa [nkD, Rep, KAt] using x
  | .tup ks, v, x => by
    have x : Rep aR H Z (.tup (nkDs ks)) v := by simpa [nkD] using x
    obtain ⟨a, vs, e, h1, n, h2⟩ := x
    exact ⟨a, vs, e, h1, reps_kat ks vs h2⟩
theorem reps_kat : ∀ (k : List NestedKey) (v : List V), Reps aR H Z (nkDs k) v → KAts H k v
  | [], _, x => by simpa [nkDs, Reps, KAts] using x
  | k :: ks, v, x => by
    have x : Reps aR H Z (nkD k :: nkDs ks) v := by simpa [nkDs] using x
    obtain ⟨v, r, e, h1, h2⟩ := x
    exact ⟨v, r, e, rep_kat k v h1, reps_kat ks r h2⟩
end
end

/-! ### keys and values, tracked -/
abbrev KN (H : Hp) : List (NestedKey × V) → List (NestedKey × Addr × Value) → Prop := Paired fun p q => p.1 = q.1 ∧ KAt H p.1 (.ref q.2.1) ∧ RelV p.2 q.2.2
section
variable {H H' : Hp} {kvs : List (NestedKey × V)} {xs : List (NestedKey × Addr × Value)}
theorem KN.val (r : KN H kvs xs) (k : NestedKey) : RelO (valV kvs k) ((atKey xs k).map (·.2)) := by
  induction r with
  | nil => exact True.intro
  | @cons p q ps qs h t ih =>
    obtain ⟨h1, _, h2⟩ := h
    by_cases e : p.1 = k
    · have e' : q.1 = k := h1.symm.trans e
      have b : atKey (q :: qs) k = some q.2 := by simp [atKey, List.find?_cons, e']
      rw [valV_pos e, b]; exact h2
    · have e' : ¬ q.1 = k := fun z => e (h1.trans z)
      have b : atKey (q :: qs) k = atKey qs k := by simp [atKey, List.find?_cons, e']
      rw [valV_neg e, b]; exact ih
theorem KN.repl (r : KN H kvs xs) (k : NestedKey) {y : V} {u : Value} (ry : RelV y u) :
    KN H (kvs.map fun kv => if kv.1 = k then (kv.1, y) else kv) (xs.map (putAt k u)) := by
  induction r with
  | nil => exact .nil
  | @cons p q ps qs h t ih =>
    rw [List.map_cons, List.map_cons]
    refine .cons ?_ ih
    obtain ⟨h1, h2, h3⟩ := h
    unfold putAt
    by_cases e : p.1 = k
    · rw [if_pos e, if_pos (h1.symm.trans e)]; exact ⟨h1, h2, ry⟩
    · rw [if_neg e, if_neg (fun z => e (h1.trans z))]; exact ⟨h1, h2, h3⟩
theorem KN.put (r : KN H kvs xs) (k : NestedKey) {b : Addr} {y : V} {u : Value} (hb : KAt H k (.ref b)) (ry : RelV y u) :
    KN H (putK kvs k y) (storedH xs k b u) := by
  have e : (kvs.any fun kv => decide (kv.1 = k)) = (atKey xs k).isSome := by
    rw [valV_any, (r.val k).isSome_eq, Option.isSome_map]
  unfold putK storedH
  rw [e]
  by_cases q : (atKey xs k).isSome = true
  · rw [if_pos q, if_pos q]; exact r.repl k ry
  · rw [if_neg q, if_neg q]; exact Paired.snoc r ⟨rfl, hb, ry⟩
theorem KN.keeps (r : KN H kvs xs) (g : ∀ a vs, TupO H a vs → TupO H' a vs) : KN H' kvs xs := Paired.mapP r fun _ _ z => ⟨z.1, z.2.1.keep g, z.2.2⟩
theorem KN.mem (r : KN H kvs xs) : ∀ x ∈ xs, KAt H x.1 (.ref x.2.1) := by
  induction r with
  | nil => intro x hx; cases hx
  | @cons p q ps qs h t ih =>
    intro x hx
    rcases List.mem_cons.mp hx with rfl | hx
    · rw [← h.1]; exact h.2.1
    · exact ih x hx
end
section
variable {P : Program} {w : World} {H : Hp} {h : Heap} {a : Addr} {o : Obj} {kvs : List (NestedKey × V)} {xs : List (NestedKey × Addr × Value)}
theorem exO_at (ok : HOk P w H h) (e : Rd H a (exO a o)) : h.get? a = some o := by
  have q : ObjOk P w H h a (exO a o) := e.ok ok
  exact q.1
theorem ent_eq (hk : ∀ x ∈ xs, okK x.1) : xs.map entI = xs.map (entryOfKey (nestedKind P w)) := List.map_congr_left fun x hx => by
  unfold entI entryOfKey
  rw [← hI_eq w x.1 (hk x hx).2.1]
  rfl
theorem dic_at (ok : HOk P w H h) (e : Rd H a (exO a o)) (d : DicO a o xs) (rel : KN H kvs xs) : h.DictOfH (nestedKind P w) a xs := by
  obtain ⟨es, ep, h1, h2⟩ := d.dat
  exact ⟨o, es, ep, exO_at ok e, d.ex, h1, by rw [h2, ent_eq d.ok], fun x hx => ⟨kat_is ok _ _ _ (rel.mem x hx) rfl, (d.ok x hx).2.2⟩, d.nd⟩
theorem dic_typeIs {s : Shared} (ok : HOk P w H s.heap) (e : Rd H a (exO a o)) (d : DicO a o xs) : s.TypeIs (.ref a) "dict" := ⟨o, exO_at ok e, d.ex.1⟩
end

/-- what the dict at a holds at the key y -/
def XGet (H : Hp) (a : Addr) (y : V) (r : Option V) : Prop :=
  (∃ kvs k, Rd H a (.dK kvs) ∧ y = kV k ∧ r = valV kvs k) ∨ ∃ o kvs xs k b, Rd H a (exO a o) ∧ DicO a o xs ∧ KN H kvs xs ∧ y = .ref b ∧ okK k ∧ KAt H k y ∧ r = valV kvs k
/-- behind a[y] = v -/
def XPut (H : Hp) (a : Addr) (y v : V) (R : Hp → Prop) : Prop :=
  (∃ kvs k, H a = some (.dK kvs) ∧ y = kV k ∧ kvs.length < sizeLine ∧ R (upd H a (.dK (putK kvs k v)))) ∨
  ∃ o kvs xs k b, H a = some (exO a o) ∧ DicO a o xs ∧ KN H kvs xs ∧ y = .ref b ∧ okK k ∧ KAt H k y ∧ xs.length < sizeLine ∧
    ∀ o' u, RelV v u → DicO a o' (storedH xs k b u) → R (upd H a (exO a o'))
theorem storedH_len {κ : Type} [DecidableEq κ] (xs : List (κ × Addr × Value)) (k : κ) (b : Addr) (u : Value) : (storedH xs k b u).length ≤ xs.length + 1 := by
  unfold storedH
  split
  · rw [List.length_map]; omega
  · simp
theorem storedH_keys {xs : List (NestedKey × Addr × Value)} {k : NestedKey} {b : Addr} {u : Value} (hk : okK k) (h : ∀ x ∈ xs, okK x.1) : ∀ x ∈ storedH xs k b u, okK x.1 := by
  unfold storedH
  split
  · intro x hx
    obtain ⟨y, hy, rfl⟩ := List.mem_map.mp hx
    unfold putAt
    split
    · exact h y hy
    · exact h y hy
  · intro x hx
    rcases List.mem_append.mp hx with hx | hx
    · exact h x hx
    · rw [List.mem_singleton] at hx
      subst hx
      exact hk
section
variable {X : Cx} {pins : List (Addr × Obj)} {σ : L2.St} {H : Hp} {s : Shared} {a : Addr} {y v d : V} {u r : Value} {o : Option V} {A : Around} {E : Value → Shared → Prop}
theorem nroom {A : Around} (hu : A.units + 64 < cLine) : (nestedKind X.prog X.w).room A.in1 := by
  show A.units + 1 + 8 < cLine
  omega
theorem x_getItem {Q : Value → Shared → Prop} (hu : A.units + 64 < cLine) (I : Inv X pins σ H s) (g : XGet H a y (some v)) (ry : RelV y u) (h : ∀ w' s', Inv X pins σ H s' → RelV v w' → Q w' s') :
    wpAny (model X.prog X.w) A (getItem (.ref a) u) Q E s := by
  rcases g with ⟨kvs, k, e, ey, l⟩ | ⟨o, kvs, xs, k, b, e, dd, rel, ey, hk, ka, l⟩
  · exact d_getItem (by omega) I (.inl ⟨kvs, k, e, ey, l⟩) ry h
  · subst ey
    cases (show u = Value.ref b from ry)
    obtain ⟨w', hw, rw'⟩ := RelO.some_of (v := v) (o := (atKey xs k).map (·.2)) (by rw [l]; exact rel.val k)
    obtain ⟨p, hp, hp2⟩ := Option.map_eq_some_iff.mp hw
    refine wpAny_getItem_heap (knd := nestedKind X.prog X.w) (nroom hu) ⟨kat_is I.hok _ _ _ ka rfl, hk.2.2⟩ (dic_at I.hok e dd rel) hp ?_
    rw [hp2]
    exact h w' _ (I.tok _) rw'
theorem x_in {Q : Value → Shared → Prop} (hu : A.units + 64 < cLine) (I : Inv X pins σ H s) (g : XGet H a y o) (ry : RelV y u) (h : ∀ s', Inv X pins σ H s' → Q (.bool o.isSome) s') :
    wpAny (model X.prog X.w) A (compareOp .In u (.ref a)) Q E s := by
  rcases g with ⟨kvs, k, e, ey, l⟩ | ⟨ob, kvs, xs, k, b, e, dd, rel, ey, hk, ka, l⟩
  · exact d_in (by omega) I (.inl ⟨kvs, k, e, ey, l⟩) ry h
  · subst ey
    cases (show u = Value.ref b from ry)
    refine wpAny_in_heap (knd := nestedKind X.prog X.w) (nroom hu) ⟨kat_is I.hok _ _ _ ka rfl, hk.2.2⟩ dd.sm (dic_at I.hok e dd rel) ?_
    have q := (rel.val k).isSome_eq
    rw [Option.isSome_map] at q
    rw [← q, ← l]
    exact h _ (I.tok _)
theorem x_notIn {Q : Value → Shared → Prop} (hu : A.units + 64 < cLine) (I : Inv X pins σ H s) (g : XGet H a y o) (ry : RelV y u) (h : ∀ s', Inv X pins σ H s' → Q (.bool (!o.isSome)) s') :
    wpAny (model X.prog X.w) A (compareOp .NotIn u (.ref a)) Q E s := by
  rcases g with ⟨kvs, k, e, ey, l⟩ | ⟨ob, kvs, xs, k, b, e, dd, rel, ey, hk, ka, l⟩
  · exact d_notIn (by omega) I (.inl ⟨kvs, k, e, ey, l⟩) ry h
  · subst ey
    cases (show u = Value.ref b from ry)
    refine wpAny_notIn_heap (knd := nestedKind X.prog X.w) (nroom hu) ⟨kat_is I.hok _ _ _ ka rfl, hk.2.2⟩ dd.sm (dic_at I.hok e dd rel) ?_
    have q := (rel.val k).isSome_eq
    rw [Option.isSome_map] at q
    rw [← q, ← l]
    exact h _ (I.tok _)
theorem exO_new {ob : Obj} {h' : Heap} {H' : Hp} (hq : h'.get? a = some ob) : ObjOk X.prog X.w H' h' a (exO a ob) := ⟨hq, ⟨ob, hq⟩, fun _ _ p k => k _ p⟩
theorem x_setItem {R : Hp → Prop} {Q : Unit → Shared → Prop} (hu : A.units + 64 < cLine) (I : Inv X pins σ H s) (g : XPut H a y v R) (ry : RelV y u) (rv : RelV v r) (h : ∀ H' s', Inv X pins σ H' s' → R H' → Q () s') :
    wpAny (model X.prog X.w) A (setItem (.ref a) u r) Q E s := by
  rcases g with ⟨kvs, k, e, ey, l, eH⟩ | ⟨o, kvs, xs, k, b, e, dd, rel, ey, hk, ka, l, eH⟩
  · exact d_setItem (by omega) I (.inl ⟨kvs, k, e, ey, l, rfl⟩) ry rv fun s' I' => h _ s' I' eH
  · subst ey
    cases (show u = Value.ref b from ry)
    refine wpAny_setItem_heap (hsz := dd.len) (knd := nestedKind X.prog X.w) (nroom hu) ⟨kat_is I.hok _ _ _ ka rfl, hk.2.2⟩ (dic_at I.hok (.of e) dd rel) fun h' dd' hs => ?_
    obtain ⟨q, es, ep, hq, h2, h3, h4, _, h5⟩ := dd'
    have hks := storedH_keys (b := b) (u := r) hk dd.ok
    refine h _ _ (d_write (ob := exO a q) I (by rw [e]; exact True.intro) hs ⟨q, hq⟩ (exO_new hq)) (eH q r rv ⟨h2, ⟨es, ep, h3, ?_⟩, h5, hks, ?_, dd.sm⟩)
    · rw [h4, ent_eq hks]
    · have := storedH_len xs k b r; omega
end

/-! ### readings and rules -/
section
variable {X : Cx} {pins : List (Addr × Obj)} {σ : L2.St} {H : Hp} {s : Shared} {a : Addr} {y v d : V} {u r : Value} {o : Option V} {A : Around} {E : Value → Shared → Prop}
/-- a dict, whatever its keys -/
def IsX (H : Hp) (a : Addr) : Prop := (∃ kvs, Rd H a (.dK kvs)) ∨ ∃ o xs, Rd H a (exO a o) ∧ DicO a o xs
theorem isX_at (I : Inv X pins σ H s) (d : IsX H a) : s.TypeIs (.ref a) "dict" ∧ (∀ b, Value.ref a = .ref b → ∃ ob, s.heap.get? b = some ob ∧ ob.dict = none) ∧ (a == sysModules) = false := by
  rcases d with ⟨kvs, e⟩ | ⟨o, xs, e, dd⟩
  · exact isD_at I (.inl ⟨kvs, e⟩)
  · refine ⟨dic_typeIs I.hok e dd, fun b q => ?_, dd.sm⟩
    cases q
    exact ⟨o, exO_at I.hok e, dd.ex.2.1⟩
theorem XGet.is (g : XGet H a y o) : IsX H a := by
  rcases g with ⟨kvs, k, e, _⟩ | ⟨ob, kvs, xs, k, b, e, dd, _⟩
  · exact .inl ⟨kvs, e⟩
  · exact .inr ⟨ob, xs, e, dd⟩
theorem x_get1 {Q : Value → Shared → Prop} (hu : A.units + 64 < cLine) (I : Inv X pins σ H s) (g : XGet H a y o) (ry : RelV y u) (h : ∀ w' s', Inv X pins σ H s' → RelV (o.getD .non) w' → Q w' s') :
    wpAny (model X.prog X.w) A (call (.builtin "dict.get") [.ref a, u]) Q E s := by
  rcases g with ⟨kvs, k, e, ey, l⟩ | ⟨ob, kvs, xs, k, b, e, dd, rel, ey, hk, ka, l⟩
  · exact d_get1 (by omega) I (.inl ⟨kvs, k, e, ey, l⟩) ry h
  · subst ey
    cases (show u = Value.ref b from ry)
    refine call_meetsIn PySem.F.slot_dict_get (dic_typeIs I.hok e dd) PySem.F.entry_dict_get (PySem.F.args_dict_get_2 _ _) (meetsH_dict_get (nestedKind X.prog X.w) a b dd.sm) ⟨nroom hu, k, xs, ⟨kat_is I.hok _ _ _ ka rfl, hk.2.2⟩, dic_at I.hok e dd rel, h _ _ (I.tok _) ?_⟩
    rw [l]
    exact (rel.val k).getD rfl
theorem x_get2 {Q : Value → Shared → Prop} (hu : A.units + 64 < cLine) (I : Inv X pins σ H s) (g : XGet H a y o) (ry : RelV y u) (rd : RelV d r) (h : ∀ w' s', Inv X pins σ H s' → RelV (o.getD d) w' → Q w' s') :
    wpAny (model X.prog X.w) A (call (.builtin "dict.get") [.ref a, u, r]) Q E s := by
  rcases g with ⟨kvs, k, e, ey, l⟩ | ⟨ob, kvs, xs, k, b, e, dd, rel, ey, hk, ka, l⟩
  · exact d_get2 (by omega) I (.inl ⟨kvs, k, e, ey, l⟩) ry rd h
  · subst ey
    cases (show u = Value.ref b from ry)
    refine call_meetsIn PySem.F.slot_dict_get (dic_typeIs I.hok e dd) PySem.F.entry_dict_get (PySem.F.args_dict_get_3 _ _ _) (meetsH_dict_get_default (nestedKind X.prog X.w) a b dd.sm r) ⟨nroom hu, k, xs, ⟨kat_is I.hok _ _ _ ka rfl, hk.2.2⟩, dic_at I.hok e dd rel, h _ _ (I.tok _) ?_⟩
    rw [l]
    exact (rel.val k).getD rd
end
def tXGet (td ty : TE) : TE := fun σ H Q => td σ H fun x H1 => ty σ H1 fun y H2 => ∃ a v, x = .ref a ∧ XGet H2 a y (some v) ∧ Q v H2
def tXIn (ty td : TE) : TE := fun σ H Q => ty σ H fun y H1 => td σ H1 fun x H2 => ∃ a o, x = .ref a ∧ XGet H2 a y o ∧ Q (.bl o.isSome) H2
def tXNotIn (ty td : TE) : TE := fun σ H Q => ty σ H fun y H1 => td σ H1 fun x H2 => ∃ a o, x = .ref a ∧ XGet H2 a y o ∧ Q (.bl (!o.isSome)) H2
def sXPut (td ty tv : TE) : TS := fun D σ H => tv σ H fun v H1 => td σ H1 fun x H2 => ty σ H2 fun y H3 => ∃ a, x = .ref a ∧ XPut H3 a y v fun H4 => D.nx σ H4
def sXAug (td ty tv : TE) (rd : V → V → Hp → VK → Prop) : TS := fun D σ H => td σ H fun x H1 => ty σ H1 fun y H2 => ∃ a v, x = .ref a ∧ XGet H2 a y (some v) ∧
  tv σ H2 fun y2 H3 => rd v y2 H3 fun z H4 => XPut H4 a y z fun H5 => D.nx σ H5
def tXGet1 (td ty : TE) : TE := fun σ H Q => td σ H fun x H1 => ∃ a, x = .ref a ∧ IsX H1 a ∧ ty σ H1 fun y H2 => ∃ o, XGet H2 a y o ∧ Q (o.getD .non) H2
def tXGet2 (td ty tx : TE) : TE := fun σ H Q => td σ H fun x H1 => ∃ a, x = .ref a ∧ IsX H1 a ∧ ty σ H1 fun y H2 => tx σ H2 fun z H3 => ∃ o, XGet H3 a y o ∧ Q (o.getD z) H3
section
variable {X : Cx} {o i e f value : Expr} {pos pos' tpos apos cpos : Pos} {td ty tv tx : TE}
theorem pe_xget (hu : X.A.units + 64 < cLine) (ho : PE X o td) (hi : PE X i ty) (hs : NoSl i) : PE X (.Subscript o i pos) (tXGet td ty) := by
  refine ⟨fun pins s σ H Q I h => ?_⟩
  refine subD_of PySem.F.slot_dict_getitem.lookup hs (thn (ho.run pins s σ H _ I h) fun u s1 ⟨x, H1, I1, rx, q1⟩ => thn (hi.run pins s1 σ H1 _ I1 q1) fun iv s2 ⟨y, H2, I2, ry, a, v, ex, g, q2⟩ => ?_)
  subst ex
  obtain rfl : u = Value.ref a := rx
  exact ⟨(isX_at I2 g.is).1, x_getItem hu I2 g ry fun w' s3 I3 rw' => ⟨v, H2, I3, rw', q2⟩⟩
theorem pc_xin (hu : X.A.units + 64 < cLine) (hi : PE X i ty) (ho : PE X o td) : PC X .In i o (tXIn ty td) := by
  refine ⟨fun pins s σ H Q I h => ?_⟩
  refine thn (hi.run pins s σ H _ I h) fun iv s1 ⟨y, H1, I1, ry, q1⟩ => thn (ho.run pins s1 σ H1 _ I1 q1) fun u s2 ⟨x, H2, I2, rx, a, ov, ex, g, q2⟩ => ?_
  subst ex
  obtain rfl : u = Value.ref a := rx
  exact x_in hu I2 g ry fun s3 I3 => ⟨.bl ov.isSome, H2, I3, rfl, q2⟩
theorem pc_xnotin (hu : X.A.units + 64 < cLine) (hi : PE X i ty) (ho : PE X o td) : PC X .NotIn i o (tXNotIn ty td) := by
  refine ⟨fun pins s σ H Q I h => ?_⟩
  refine thn (hi.run pins s σ H _ I h) fun iv s1 ⟨y, H1, I1, ry, q1⟩ => thn (ho.run pins s1 σ H1 _ I1 q1) fun u s2 ⟨x, H2, I2, rx, a, ov, ex, g, q2⟩ => ?_
  subst ex
  obtain rfl : u = Value.ref a := rx
  exact x_notIn hu I2 g ry fun s3 I3 => ⟨.bl (!ov.isSome), H2, I3, rfl, q2⟩
theorem ps_xput (hu : X.A.units + 64 < cLine) (ho : PE X o td) (hi : PE X i ty) (hv : PE X value tv) (hs : swapsWith value (some (.Subscript o i pos')) pos.line X.env = pure false) :
    PS X (.Assign [.Subscript o i pos'] value pos) (sXPut td ty tv) := by
  refine ⟨fun pins s σ H D I h => ?_⟩
  refine wpAny_Assign_Subscript (thn (hv.run pins s σ H _ I h) fun r s1 ⟨v, H1, I1, rv, q1⟩ => thn (ho.run pins s1 σ H1 _ I1 q1) fun u s2 ⟨x, H2, I2, rx, q2⟩ => thn (hi.run pins s2 σ H2 _ I2 q2) fun iv s3 ⟨y, H3, I3, ry, a, ex, g⟩ => ?_) hs
  subst ex
  obtain rfl : u = Value.ref a := rx
  exact x_setItem hu I3 g ry rv fun H4 s4 I4 q3 => ⟨σ, H4, I4, q3⟩
theorem ps_xaug {op : Operator} {rd : V → V → Hp → VK → Prop} (hu : X.A.units + 64 < cLine) (ho : PE X o td) (hi : PE X i ty) (hv : PE X value tv) (hop : InOp X op rd)
    (ha : ∀ ov iv new, augStore i ov iv new = (do holding [new, ov, iv] (setItem ov iv new); release [new, ov, iv] []; pure .next)) : PS X (.AugAssign (.Subscript o i tpos) op value pos) (sXAug td ty tv rd) := by
  refine ⟨fun pins s σ H D I h => ?_⟩
  refine wpAny_AugAssign_SubscriptAny (thn (ho.run pins s σ H _ I h) fun u s1 ⟨x, H1, I1, rx, q1⟩ => thn (hi.run pins s1 σ H1 _ I1 q1) fun iv s2 ⟨y, H2, I2, ry, a, v, ex, g, q2⟩ => ?_) ha
  subst ex
  obtain rfl : u = Value.ref a := rx
  refine x_getItem hu I2 g ry fun w' s3 I3 rw' => thn (hv.run pins s3 σ H2 _ I3 q2) fun w2 s4 ⟨y2, H3, I4, ry2, q3⟩ => thn (hop pins s4 σ H3 v y2 w' w2 _ I4 rw' ry2 q3) fun w3 s5 ⟨z, H4, I5, rz, g5⟩ => ?_
  exact x_setItem hu I5 g5 ry rz fun H5 s6 I6 q4 => ⟨σ, H5, I6, q4⟩
theorem pe_xget1 (hu : X.A.units + 64 < cLine) (ho : PE X o td) (he : PE X e ty) (m : M1 X o "get" apos e cpos) : PE X (.Call (.Attribute o "get" apos) [e] [] cpos) (tXGet1 td ty) := by
  refine ⟨fun pins s σ H Q I h => ?_⟩
  refine wpAny_Call_method m.base m.few m.line PySem.F.plainAttrs_dict PySem.F.slot_dict_get PySem.F.type_dict_get (thn (ho.run pins s σ H _ I h) fun u s1 ⟨x, H1, I1, rx, a, ex, d, q1⟩ => ?_)
  subst ex
  obtain rfl : u = Value.ref a := rx
  obtain ⟨t1, t2, _⟩ := isX_at I1 d
  refine ⟨t1, t2, ?_⟩
  rw [m.trees]
  refine Calls.callWith_builtin rfl (Calls.evalArgs_plain (Calls.spliced_cons (thn (he.run pins s1 σ H1 _ I1 q1) fun iv s2 ⟨y, H2, I2, ry, ov, g, q2⟩ => Calls.spliced_nil ?_)))
  exact x_get1 hu I2 g ry fun w' s3 I3 rw' => ⟨_, H2, I3, rw', q2⟩
theorem pe_xget2 (hu : X.A.units + 64 < cLine) (ho : PE X o td) (he : PE X e ty) (hf : PE X f tx) (m : M2 X o "get" apos e f cpos) : PE X (.Call (.Attribute o "get" apos) [e, f] [] cpos) (tXGet2 td ty tx) := by
  refine ⟨fun pins s σ H Q I h => ?_⟩
  refine wpAny_Call_method m.base m.few m.line PySem.F.plainAttrs_dict PySem.F.slot_dict_get PySem.F.type_dict_get (thn (ho.run pins s σ H _ I h) fun u s1 ⟨x, H1, I1, rx, a, ex, d, q1⟩ => ?_)
  subst ex
  obtain rfl : u = Value.ref a := rx
  obtain ⟨t1, t2, _⟩ := isX_at I1 d
  refine ⟨t1, t2, ?_⟩
  rw [m.trees]
  refine Calls.callWith_builtin rfl (Calls.evalArgs_plain (Calls.spliced_cons (thn (he.run pins s1 σ H1 _ I1 q1) fun iv s2 ⟨y, H2, I2, ry, q2⟩ =>
    Calls.spliced_cons (thn (hf.run pins s2 σ H2 _ I2 q2) fun fv s3 ⟨z, H3, I3, rz, ov, g, q3⟩ => Calls.spliced_nil ?_))))
  exact x_get2 hu I3 g ry rz fun w' s4 I4 rw' => ⟨_, H3, I4, rw', q3⟩
/-- {}, its object told -/
theorem dic_empty {a : Addr} (h : (a == sysModules) = false) : DicO a { cls := .type "dict", data := .dict #[] } [] :=
  ⟨⟨rfl, rfl, rfl⟩, ⟨#[], 0, rfl, rfl⟩, List.nodup_nil, fun _ z => (by cases z), Nat.zero_le _, h⟩
def tXNew : TE := fun _ H Q => ∀ p o, H p = none → DicO p o [] → Q (.ref p) (upd H p (exO p o))
theorem pe_xnew : PE X (.Dict [] [] pos) tXNew := ⟨fun pins s σ H Q I h =>
  wpAny_Dict_empty ⟨.ref s.heap.objs.size, _, I.laid (a := s.heap.objs.size) (o := exO s.heap.objs.size { cls := .type "dict", data := .dict #[] }) (t' := s.toks) (fun _ _ q => Heap.get?_push_of_some _ q) (Nat.le_refl _) (exO_new (Heap.get?_push_size _ rfl)), rfl,
    h _ _ (I.hok.fresh (Nat.le_refl _)) (dic_empty (beq_eq_false_iff_ne.mpr (Ne.symm (Nat.ne_of_lt I.big))))⟩⟩
end
end Wl
set_option maxHeartbeats 4000000
/-! list(d), the keys tuples. -/
namespace Wl
open PySem PySem.Spec PyProof.Rows L2
theorem acc_keys {es : Array DictEntry} {xs : List (NestedKey × Addr × Value)} {acc : Array Value} (he : es.toList = xs.map entI)
    (it : ItemsOf (fun i v => ∃ en : DictEntry, es[i]? = some en ∧ v = en.key) acc es.size) : acc.toList = (xs.map fun x => x.2.1).map Value.ref := by
  have l1 : es.size = xs.length := by rw [← Array.length_toList, he, List.length_map]
  rw [List.map_map]
  have hl : acc.toList.length = xs.length := by rw [Array.length_toList, it.1]; exact l1
  apply List.ext_getElem?
  intro j
  rw [List.getElem?_map]
  cases hj : acc.toList[j]? with
  | none =>
    have h1 := List.getElem?_eq_none_iff.mp hj
    rw [List.getElem?_eq_none (by omega)]
    all_goals rfl
  | some v =>
    obtain ⟨en, hen, hv⟩ := it.2 j v (by rw [← Array.getElem?_toList]; exact hj)
    have qe : es[j]? = (xs[j]?).map entI := by rw [← Array.getElem?_toList, he, List.getElem?_map]
    rw [hen] at qe
    cases hb : xs[j]? with
    | none =>
      rw [hb] at qe
      exact nomatch (show some en = none from qe)
    | some b =>
      rw [hb] at qe
      have e2 : en = entI b := Option.some.inj qe
      rw [hv, e2]
      all_goals rfl
/-- the keys of such a dict -/
def kRefs (xs : List (NestedKey × Addr × Value)) : List V := xs.map fun p => V.ref p.2.1
theorem kRefs_eq (xs : List (NestedKey × Addr × Value)) : kRefs xs = (xs.map fun x => x.2.1).map V.ref := by rw [List.map_map]; rfl
section
variable {X : Cx}
theorem call_list_X (hc : X.calm = true) : CallR X (.type "list") (fun vs H Q => ∃ d o xs, vs = [V.ref d] ∧ Rd H d (exO d o) ∧ DicO d o xs ∧ ∀ p, H p = none → Q (.ref p) (upd H p (.lst (kRefs xs)))) := by
  intro pins s σ H xs us Q I r h
  obtain ⟨d, o, ks, rfl, hd, dd, q⟩ := h
  obtain ⟨u, rfl, rx⟩ := r.one
  cases rx
  have ho := exO_at I.hok hd
  obtain ⟨es, ep, hdt, he⟩ := dd.dat
  have l1 : es.size = ks.length := by rw [← Array.length_toList, he, List.length_map]
  have z := dd.len
  refine PySem.W.kdl_call (kdl_raw dd.sm dd.ex hdt) (I.ok.hd hc) ho (by omega) fun h' tk acc' c' kp e it => ?_
  have eb := acc_keys he it
  have rv : Vals (kRefs ks) acc'.toList := by rw [eb, kRefs_eq]; exact vals_refs _
  have hz : (kRefs ks).length ≤ sizeLine := by unfold kRefs; rw [List.length_map]; exact z
  refine ⟨.ref s.heap.objs.size, _, I.laid (t' := tk) (o := .lst (kRefs ks)) kp (Nat.le_refl _) ?_, rfl, q _ (I.hok.fresh (Nat.le_refl _))⟩
  exact ⟨hz, acc'.toList, c', rv, by rw [Array.toArray_toList]; exact e⟩
end
end Wl
/-! Expressions: what may be shared; readings by the evaluator. -/
namespace Wl
open PySem PySem.Spec PyProof.Rows L2

theorem Res.bind_ok {α β : Type} {x : Res α} {f : α → Row → Res β} {b : β} {r : Row} (h : x.bind f = .ok b r) : ∃ a r1, x = .ok a r1 ∧ f a r1 = .ok b r := by
  cases x with
  | ok a r1 => exact ⟨a, r1, rfl, h⟩
  | ex e r1 => cases h
  | no => cases h
theorem Res.of_ok {α : Type} {x : Option α} {r r' : Row} {a : α} (h : Res.of x r = .ok a r') : x = some a ∧ r = r' := by
  cases x with
  | none => cases h
  | some b => cases h; exact ⟨rfl, rfl⟩
theorem asB_ok {d : D} {r r' : Row} {b : Bool} (h : asB d r = .ok b r') : d = .bl b ∧ r = r' := by
  cases d <;> first | (cases h; exact ⟨rfl, rfl⟩) | cases h

/-- the slots whose things the value may share -/
def isV : IE → Bool
  | .var _ => true
  | _ => false
def al : IE → List Nat
  | .var i => [i]
  | .op _ a b => (if isV a then [] else al a) ++ (if isV b then [] else al b)
  | .ite _ a b => al a ++ al b
  | .one a => al a
  | .cons a b => al a ++ al b
  | .star a b => (if isV a then [] else al a) ++ al b
  | .tup l => al l
  | .lst l => al l
  | .idx a _ => if isV a then [] else al a
  | .dget a _ => if isV a then [] else al a
  | .slc a _ _ => if isV a then [] else al a
  | .call _ as => al as
  | .callv _ as => al as
  | .blt _ a => if isV a then [] else al a
  | .srtK a => if isV a then [] else al a
  | .minK _ a => if isV a then [] else al a
  | .get1 o _ => if isV o then [] else al o
  | .get2 o _ z => (if isV o then [] else al o) ++ al z
  | .dic _ k v => al k ++ al v
  | .itL a => if isV a then [] else al a
  | .itE a => if isV a then [] else al a
  | .itZ a b => (if isV a then [] else al a) ++ (if isV b then [] else al b)
  | .itK a => if isV a then [] else al a
  | .itI a => if isV a then [] else al a
  | .comp fr _ _ _ _ _ e => al e ++ fr
  | .revL a => if isV a then [] else al a
  | .rev _ a => if isV a then [] else al a
  | .alt a b => al a ++ al b
  | _ => []
def alC (a : IE) : List Nat := if isV a then [] else al a

/-- its top is masked only where it is a slot's own -/
def TopC (aR : AR) (H : Hp) (Z : Addr → Prop) (σ : L2.St) (env : Env) (ie : IE) (d : D) (v : V) : Prop :=
  Rep aR H (Mk Z σ env (alC ie)) d v ∨ ∃ i a dd, ie = .var i ∧ env[i]? = some (.ow dd) ∧ σ[i]? = some (some (.ref a)) ∧ v = .ref a
/-! ### the readings -/
section
variable (aR : AR) (K : PySem.W.Frag) (F : Fns)
def tEv (ie : IE) : TE := fun σ H Q => ∃ Z H0 env r, Ok aR K Z H0 σ H env r ∧ ∃ d r', ev F ie env r = .ok d r' ∧
  ∀ v H', Ext aR H H' → RowOk aR K H' r' → Rep aR H' (Mk Z σ env (al ie)) d v → Q v H'
/-- its top may be an owned one -/
def tEvC (ie : IE) : TE := fun σ H Q => ∃ Z H0 env r, Ok aR K Z H0 σ H env r ∧ ∃ d r', ev F ie env r = .ok d r' ∧
  ∀ v H', Ext aR H H' → RowOk aR K H' r' → RepC aR H' (Mk Z σ env (alC ie)) d v → TopC aR H' Z σ env ie d v → Q v H'
def tEvT (ie : IE) : TT := fun σ H Q => ∃ Z H0 env r, Ok aR K Z H0 σ H env r ∧ ∃ b r', ev F ie env r = .ok (.bl b) r' ∧
  ∀ H', Ext aR H H' → RowOk aR K H' r' → Q b H'
def tEvA (ie : IE) : TA := fun σ H Q => ∃ Z H0 env r, Ok aR K Z H0 σ H env r ∧ ∃ l r', ev F ie env r = .ok (.tup l) r' ∧
  ∀ vs H', Ext aR H H' → RowOk aR K H' r' → Reps aR H' (Mk Z σ env (al ie)) l vs → Q vs H'
/-- a new thing: nothing leans on it -/
def tEvF (ie : IE) : TE := fun σ H Q => ∃ Z H0 env r, Ok aR K Z H0 σ H env r ∧ ∃ d r', ev F ie env r = .ok d r' ∧
  ∀ p H', Ext aR H H' → RowOk aR K H' r' → Fr0 H p → Ow aR H' (Mk (fun a => Z a ∨ a = p) σ env (al ie)) p d → Q (.ref p) H'
end

section
variable {X : Cx} {e a b : Expr} {t t' ta tb : TE} {pos : Pos}
theorem PE.imp (h : PE X e t) (w : ∀ σ H Q, t' σ H Q → t σ H Q) : PE X e t' := ⟨fun pins s σ H Q I q => h.run pins s σ H Q I (w σ H Q q)⟩
theorem PT.imp {t t' : TT} (h : PT X e t) (w : ∀ σ H Q, t' σ H Q → t σ H Q) : PT X e t' := ⟨fun pins s σ H Q I q => h.run pins s σ H Q I (w σ H Q q)⟩
theorem PA.imp {es : List Expr} {t t' : TA} (h : PA X es t) (w : ∀ σ H Q, t' σ H Q → t σ H Q) : PA X es t' := ⟨fun pos pins s σ H Q I q => h.run pos pins s σ H Q I (w σ H Q q)⟩
theorem PS.imp {st : Stmt} {t t' : TS} (h : PS X st t) (w : ∀ D σ H, t' D σ H → t D σ H) : PS X st t' := ⟨fun pins s σ H D I q => h.run pins s σ H D I (w D σ H q)⟩
theorem PSs.imp {st : List Stmt} {t t' : TS} (h : PSs X st t) (w : ∀ D σ H, t' D σ H → t D σ H) : PSs X st t' := ⟨fun pins s σ H D I q => h.run pins s σ H D I (w D σ H q)⟩
theorem OpR.imp {f : Value → Value → Sem Value} {r r' : R2} (h : OpR X f r) (w : ∀ x y H Q, r' x y H Q → r x y H Q) : OpR X f r' := fun pins s σ H x y v u Q I rx ry q => h pins s σ H x y v u Q I rx ry (w x y H Q q)
end

section
variable {aR : AR} {K : PySem.W.Frag} {F : Fns} {Z : Addr → Prop} {H0 H : Hp} {σ : L2.St} {env : Env} {r : Row}
/-- evaluated, the result handed on -/
theorem evC_to {ie : IE} {d : D} {r' : Row} {Q : VK} (ok : Ok aR K Z H0 σ H env r) (e : ev F ie env r = .ok d r')
    (h : ∀ v H', Ext aR H H' → RowOk aR K H' r' → Ok aR K Z H0 σ H' env r' → RepC aR H' (Mk Z σ env (alC ie)) d v → Q v H') : tEvC aR K F ie σ H Q :=
  ⟨Z, H0, env, r, ok, d, r', e, fun v H' x ro rp _ => h v H' x ro (ok.grow x ro) rp⟩
theorem evC_top {ie : IE} {d : D} {r' : Row} {Q : VK} (ok : Ok aR K Z H0 σ H env r) (e : ev F ie env r = .ok d r')
    (h : ∀ v H', Ext aR H H' → RowOk aR K H' r' → Ok aR K Z H0 σ H' env r' → RepC aR H' (Mk Z σ env (alC ie)) d v → TopC aR H' Z σ env ie d v → Q v H') : tEvC aR K F ie σ H Q :=
  ⟨Z, H0, env, r, ok, d, r', e, fun v H' x ro rp tp => h v H' x ro (ok.grow x ro) rp tp⟩
theorem ev_to {ie : IE} {d : D} {r' : Row} {Q : VK} (ok : Ok aR K Z H0 σ H env r) (e : ev F ie env r = .ok d r')
    (h : ∀ v H', Ext aR H H' → RowOk aR K H' r' → Ok aR K Z H0 σ H' env r' → Rep aR H' (Mk Z σ env (al ie)) d v → Q v H') : tEv aR K F ie σ H Q :=
  ⟨Z, H0, env, r, ok, d, r', e, fun v H' x ro rp => h v H' x ro (ok.grow x ro) rp⟩
theorem evT_to {ie : IE} {b : Bool} {r' : Row} {Q : Bool → Hp → Prop} (ok : Ok aR K Z H0 σ H env r) (e : ev F ie env r = .ok (.bl b) r')
    (h : ∀ H', Ext aR H H' → RowOk aR K H' r' → Ok aR K Z H0 σ H' env r' → Q b H') : tEvT aR K F ie σ H Q :=
  ⟨Z, H0, env, r, ok, b, r', e, fun H' x ro => h H' x ro (ok.grow x ro)⟩
/-- two operands -/
theorem two_to {a b : IE} {x y : D} {r1 r2 : Row} {Q : VK} {rr : R2} (ok : Ok aR K Z H0 σ H env r) (e1 : ev F a env r = .ok x r1) (e2 : ev F b env r1 = .ok y r2)
    (h : ∀ v u H', Ext aR H H' → RowOk aR K H' r2 → Ok aR K Z H0 σ H' env r2 → RepC aR H' (Mk Z σ env (alC a)) x v → RepC aR H' (Mk Z σ env (alC b)) y u → rr v u H' Q) :
    tOp rr (tEvC aR K F a) (tEvC aR K F b) σ H Q :=
  evC_to ok e1 fun v H1 x1 ro1 ok1 rp1 => evC_to ok1 e2 fun u H2 x2 ro2 ok2 rp2 => h v u H2 (x1.trans x2) ro2 ok2 (rp1.ext x2 (.inl ok.zr)) rp2
theorem Mk.lft {e1 e2 : List Nat} {a : Addr} (m : Mk Z σ env (e1 ++ e2) a) : Mk Z σ env e1 a := m.more (fun i h => List.mem_append_left _ h)
theorem Mk.rgt {e1 e2 : List Nat} {a : Addr} (m : Mk Z σ env (e1 ++ e2) a) : Mk Z σ env e2 a := m.more (fun i h => List.mem_append_right _ h)
end

/-! ### operators -/
def oM : Op → Operator → Bool
  | .add, .Add => true
  | .sub, .Sub => true
  | .mul, .Mult => true
  | .fdiv, .FloorDiv => true
  | .mod, .Mod => true
  | .addB, .Add => true
  | _, _ => false
theorem iop_fdivW {X : Cx} : OpR X (inplaceOp .FloorDiv) (rI CDivW fun i j => .int (i / j)) := opI fun i j t u s Q E hc q =>
  PyProof.Rows.ifloordiv_int (fun a => by have := hc.1; omega) (by rw [Int.fdiv_eq_ediv_of_nonneg i (by have := hc.1; omega)]; exact q) (Or.inl (PyProof.noPylong_of_log2 hc.2))
theorem cdivW {i j : Int} (h1 : 0 < j) (h2 : j < 18446744073709551616) : CDivW i j := by
  refine L2.wide_div (b := 64) h1 ?_ (by decide) (by decide)
  have : (2 : Nat) ^ 64 = 18446744073709551616 := rfl
  omega
/-- a number and a truth -/
def rIB : R2 := fun x y H Q => ∃ i b, x = V.int i ∧ y = V.bl b ∧ Q (V.int (i + if b = true then 1 else 0)) H
theorem op_addB {X : Cx} : OpR X (binaryOp .Add) rIB := fun pins s σ H x y v u Q I rx ry ⟨i, b, ex, ey, q⟩ => by
  subst ex; subst ey
  obtain ⟨t, rfl⟩ := rx
  obtain rfl := ry
  exact PySem.add_int_bool ⟨V.int _, H, Inv.tok I (s.toks + 1), ⟨s.toks, rfl⟩, q⟩
def rOp (K : PySem.W.Frag) : Op → R2
  | .add => fun x y H Q => rI0 (fun i j => .int (i + j)) x y H Q ∨ rCat x y H Q ∨ rCatS2 K x y H Q
  | .sub => rI0 fun i j => .int (i - j)
  | .mul => fun x y H Q => rI CMul (fun i j => .int (i * j)) x y H Q ∨ rRep x y H Q ∨ rRepW K x y H Q
  | .fdiv => rI CDivW fun i j => .int (i / j)
  | .mod => rI (fun _ j => 0 < j) fun i j => .int (i % j)
  | .addB => rIB
theorem op_all {X : Cx} : ∀ {o : Op} {p : Operator}, oM o p = true → OpR X (binaryOp p) (rOp X.K o)
  | .add, .Add, _ => op_add.or (op_cat.or op_catS2)
  | .sub, .Sub, _ => op_sub
  | .mul, .Mult, _ => op_mul.or (op_rep.or op_repW)
  | .fdiv, .FloorDiv, _ => op_fdivW
  | .mod, .Mod, _ => op_mod
  | .addB, .Add, _ => op_addB
theorem SZ_eq : SZ = sizeLine := by rw [sizeLine_eq]; rfl
section
variable {aR : AR} {K : PySem.W.Frag} {H : Hp} {Z Z1 Z2 : Addr → Prop} {v u : V}
/-- a new list, tuple -/
theorem rep_newT {p : Addr} {o : Obj} {l : List D} {vs : List V} (zk : ∀ a, Z a → ∃ o, H a = some o) (hp : H p = none) (hd : o.dict = none) (h : Reps aR H Z l vs) : Rep aR (upd H p (.frz o (.tup vs))) Z (.tup l) (.ref p) :=
  ⟨p, vs, rfl, ⟨o, hd, upd_same⟩, fun z => let ⟨o, e⟩ := zk p z; (by rw [hp] at e; cases e), h.mono fun a o e _ n => ⟨by rw [upd_ne (ne_of_none e hp)]; exact e, n⟩⟩
theorem rep_newL {p : Addr} {l : List D} {vs : List V} (zk : ∀ a, Z a → ∃ o, H a = some o) (hp : H p = none) (h : Reps aR H Z l vs) : Rep aR (upd H p (.lst vs)) Z (.lst l) (.ref p) :=
  ⟨p, vs, rfl, upd_same, fun z => let ⟨o, e⟩ := zk p z; (by rw [hp] at e; cases e), h.mono fun a o e _ n => ⟨by rw [upd_ne (ne_of_none e hp)]; exact e, n⟩⟩
theorem reps_flat {l : List D} {vs : List V} (h : Reps aR H Z l vs) : ∀ n, Reps aR H Z (List.replicate n l).flatten (List.replicate n vs).flatten
  | 0 => rfl
  | n + 1 => by
    rw [List.replicate_succ, List.replicate_succ, List.flatten_cons, List.flatten_cons]
    exact h.append (reps_flat h n)
/-- what an operator hands back -/
theorem op_reads {o : Op} {x y d : D} {Q : VK} (zk : ∀ a, Z a → ∃ o, H a = some o) (l1 : ∀ a, Z a → Z1 a) (l2 : ∀ a, Z a → Z2 a) (e : opD o x y = some d) (h1 : RepC aR H Z1 x v) (h2 : RepC aR H Z2 y u)
    (nr : ∀ r, Rep aR H Z d r → Q r H) (nw : ∀ p o, H p = none → Rep aR (upd H p o) Z d (.ref p) → Q (.ref p) (upd H p o)) : rOp K o v u H Q := by
  unfold opD at e
  split at e
  · cases e
    cases h1; cases h2
    exact .inl ⟨_, _, rfl, rfl, nr _ rfl⟩
  · split at e
    · cases e
      rename_i hz
      obtain ⟨a, vs, rfl, ha, na, ra⟩ := h1
      obtain ⟨b, us, rfl, hb, nb, rb⟩ := h2
      refine .inr (.inl ⟨a, b, vs, us, rfl, rfl, ha, hb, by rw [ra.length, rb.length, ← SZ_eq]; exact hz, fun p hp => nw p _ hp ?_⟩)
      exact rep_newL zk hp ((ra.mono (Le.less l1)).append (rb.mono (Le.less l2)))
    · cases e
  · rename_i x y
    split at e
    · cases e
      rename_i hz
      have h1' := Rep.mono (d := .tup _) (Le.less l1) h1
      have h2' := Rep.mono (d := .tup _) (Le.less l2) h2
      obtain ⟨a, vs, rfl, ha, na, ra⟩ := id h1'
      obtain ⟨b, us, rfl, hb, nb, rb⟩ := id h2'
      refine .inr (.inr ⟨a, b, vs, us, rfl, rfl, ha.of, hb.of, by rw [ra.length, rb.length, ← SZ_eq]; exact hz, fun q => nr _ ?_, fun q1 q2 => nr _ ?_, fun _ _ p o hp hd => nw p _ hp ?_⟩)
      · have hx := ra.length
        rw [q] at hx
        have := List.eq_nil_of_length_eq_zero hx.symm
        rw [this]
        exact h2'
      · have hy := rb.length
        rw [q2] at hy
        have := List.eq_nil_of_length_eq_zero hy.symm
        rw [this, List.append_nil]
        exact h1'
      · exact rep_newT zk hp hd (ra.append rb)
    · cases e
  · cases e
    cases h1; cases h2
    exact ⟨_, _, rfl, rfl, nr _ rfl⟩
  · split at e
    · cases e
      rename_i hz
      cases h1; cases h2
      simp only [Bool.or_eq_true, Bool.and_eq_true, decide_eq_true_eq] at hz
      exact .inl ⟨_, _, rfl, rfl, hz, nr _ rfl⟩
    · cases e
  · split at e
    · cases e
      rename_i hz
      simp only [Bool.and_eq_true, decide_eq_true_eq] at hz
      obtain ⟨a, vs, rfl, ha, na, ra⟩ := h1
      cases h2
      refine .inr (.inl ⟨a, _, vs, rfl, rfl, ha, by omega, by omega, ?_, fun p hp => nw p _ hp ?_⟩)
      · rw [ra.length, sizeLine_eq]
        have h3 : Int.toNat ‹Int› ≤ 4096 := by omega
        exact Nat.le_trans (Nat.mul_le_mul hz.2 h3) (by decide)
      · exact rep_newL zk hp (reps_flat (ra.mono (Le.less l1)) _)
    · cases e
  · rename_i x k
    split at e
    · cases e
      rename_i hz
      simp only [Bool.and_eq_true, decide_eq_true_eq] at hz
      have h1' := Rep.mono (d := .tup x) (Le.less l1) h1
      obtain ⟨a, vs, rfl, ha, na, ra⟩ := id h1'
      cases h2
      have hl := ra.length
      refine .inr (.inr ⟨a, _, vs, rfl, rfl, ha.of, hz.1.1, hz.1.2, by omega, fun q => nr _ ?_, fun _ _ p o hp hd => nw p _ hp (rep_newT zk hp hd (reps_flat ra _))⟩)
      rcases q with q | q
      · rw [q] at hl
        have := List.eq_nil_of_length_eq_zero hl.symm
        subst this
        have e0 : (List.replicate k.toNat ([] : List D)).flatten = [] := by simp
        rw [e0]
        exact h1'
      · subst q
        have e0 : (List.replicate (1 : Int).toNat x).flatten = x := by
          show (List.replicate 1 x).flatten = x
          simp
        rw [e0]
        exact h1'
    · cases e
  · split at e
    · cases e
      rename_i hz
      simp only [Bool.and_eq_true, decide_eq_true_eq] at hz
      cases h1; cases h2
      exact ⟨_, _, rfl, rfl, cdivW hz.1 hz.2, nr _ rfl⟩
    · cases e
  · split at e
    · cases e
      rename_i hz
      cases h1; cases h2
      exact ⟨_, _, rfl, rfl, hz, nr _ rfl⟩
    · cases e
  · cases e
    cases h1; cases h2
    exact ⟨_, _, rfl, rfl, nr _ rfl⟩
  · cases e
end
end Wl
/-! Expressions, construct by construct. -/
namespace Wl
open PySem PySem.Spec PyProof.Rows L2

section
variable {X : Cx} {aR : AR} {F : Fns} {ea eb ec : Expr} {a b c d : IE} {pos : Pos}

theorem c_of {e : Expr} {ie : IE} (h : PE X e (tEv aR X.K F ie)) (hv : isV ie = false) : PE X e (tEvC aR X.K F ie) :=
  PE.imp h fun σ H Q ⟨Z, H0, env, r, ok, d, r', e1, q⟩ => ⟨Z, H0, env, r, ok, d, r', e1, fun v H' x ro rp => q v H' x ro (by
    have : alC ie = al ie := by unfold alC; rw [hv]; rfl
    rw [this]
    exact rp.c (.inl ok.zr)) (.inl (by
    have : alC ie = al ie := by unfold alC; rw [hv]; rfl
    rw [this]
    exact rp))⟩

/-! ### names, constants -/
theorem st_var {Z : Addr → Prop} {H0 H : Hp} {σ : L2.St} {env : Env} {r : Row} {i : Nat} {dd : D} (ok : Ok aR X.K Z H0 σ H env r) (e : rd env i = some dd) :
    ∃ v, σ[i]? = some (some v) ∧ Rep aR H (Mk Z σ env [i]) dd v ∧ RepC aR H (Mk Z σ env []) dd v ∧ TopC aR H Z σ env (.var i) dd v := by
  unfold rd at e
  split at e
  · cases e
    rename_i h
    obtain ⟨v, e1, rp⟩ := ok.fz i _ h
    exact ⟨v, e1, rp.mono (Mk.le0 H), rp.c ok.mr, .inl rp⟩
  · cases e
    rename_i h
    obtain ⟨a, e1, nz, n0, o⟩ := ok.ow i _ h
    refine ⟨_, e1, ?_, o.c (fun q => nz (by rw [q]; exact ok.zr)), .inr ⟨i, a, _, rfl, h, e1, rfl⟩⟩
    refine (o.mono (Mk.le0 H) fun _ q _ => q).rep fun m => ?_
    rcases m with m | ⟨j, d', h1, h2, h3⟩
    · exact nz m
    · exact h3 (by rw [ok.dis j i _ _ a h1 h h2 e1]; exact List.mem_singleton.mpr rfl)
  · cases e
theorem v_var {i : Nat} {x : Str} {pos : Pos} (hN : X.N[i]? = some x) (hv : Vis X.env.scope x) (hd : (x == ("__debug__" : Str)) = false) (hcd : (x == ("__classdict__" : Str)) = false) : PE X (.Name x pos) (tEv aR X.K F (.var i)) :=
  PE.imp (pe_var hN hv hd hcd) fun σ H Q ⟨Z, H0, env, r, ok, dd, r', e, q⟩ => by
    obtain ⟨e1, rfl⟩ := Res.of_ok e
    obtain ⟨v, h1, h2, _, _⟩ := st_var (X := X) ok e1
    exact ⟨v, h1, q v H .refl ok.row h2⟩
theorem v_varC {i : Nat} {x : Str} {pos : Pos} (hN : X.N[i]? = some x) (hv : Vis X.env.scope x) (hd : (x == ("__debug__" : Str)) = false) (hcd : (x == ("__classdict__" : Str)) = false) : PE X (.Name x pos) (tEvC aR X.K F (.var i)) :=
  PE.imp (pe_var hN hv hd hcd) fun σ H Q ⟨Z, H0, env, r, ok, dd, r', e, q⟩ => by
    obtain ⟨e1, rfl⟩ := Res.of_ok e
    obtain ⟨v, h1, _, h3, h4⟩ := st_var (X := X) ok e1
    exact ⟨v, h1, q v H .refl ok.row h3 h4⟩
theorem v_int {n : Int} {j : Nat} : PE X (.Constant (.int n) j pos) (tEv aR X.K F (.int n)) :=
  PE.imp pe_int fun σ H Q ⟨Z, H0, env, r, ok, dd, r', e, q⟩ => by cases e; exact q _ H .refl ok.row rfl
theorem v_bl {n : Bool} {j : Nat} : PE X (.Constant (.bool n) j pos) (tEv aR X.K F (.bl n)) :=
  PE.imp pe_bl fun σ H Q ⟨Z, H0, env, r, ok, dd, r', e, q⟩ => by cases e; exact q _ H .refl ok.row rfl
theorem v_non {j : Nat} : PE X (.Constant .none j pos) (tEv aR X.K F .non) :=
  PE.imp pe_non fun σ H Q ⟨Z, H0, env, r, ok, dd, r', e, q⟩ => by cases e; exact q _ H .refl ok.row rfl
theorem v_str {x : Str} {j : Nat} : PE X (.Constant (.str x) j pos) (tEv aR X.K F (.str x)) :=
  PE.imp pe_str fun σ H Q ⟨Z, H0, env, r, ok, dd, r', e, q⟩ => by cases e; exact q _ H .refl ok.row rfl
theorem v_gint {x : Str} {n : Int} {t : Tok} (hg : Gl X x) (hm : X.mg x = some (.int n t)) (hd : (x == ("__debug__" : Str)) = false) : PE X (.Name x pos) (tEv aR X.K F (.gint x n)) :=
  PE.imp (pe_glob hg hm (v := .int n) ⟨t, rfl⟩ hd) fun σ H Q ⟨Z, H0, env, r, ok, dd, r', e, q⟩ => by cases e; exact q _ H .refl ok.row rfl

/-! ### operators -/
theorem bind2 {x : Res D} {f : D → Row → Res D} {g : D → D → Row → Res D} {dd : D} {r' : Row} {y : Row → Res D} (h : (x.bind fun u r => (y r).bind fun w r => g u w r) = .ok dd r') :
    ∃ u r1 w r2, x = .ok u r1 ∧ y r1 = .ok w r2 ∧ g u w r2 = .ok dd r' := by
  obtain ⟨u, r1, e1, h⟩ := Res.bind_ok h
  obtain ⟨w, r2, e2, h⟩ := Res.bind_ok h
  exact ⟨u, r1, w, r2, e1, e2, h⟩
theorem v_op {o : Op} {p : Operator} (hm : oM o p = true) (ha : PE X ea (tEvC aR X.K F a)) (hb : PE X eb (tEvC aR X.K F b)) : PE X (.BinOp ea p eb pos) (tEv aR X.K F (.op o a b)) :=
  PE.imp (pe_op (op_all hm) ha hb) fun σ H Q ⟨Z, H0, env, r, ok, dd, r', e, q⟩ => by
    obtain ⟨u, r1, w, r2, e1, e2, e3⟩ := bind2 (f := fun _ _ => .no) e
    obtain ⟨e4, rfl⟩ := Res.of_ok e3
    refine two_to ok e1 e2 fun v1 v2 H' x ro ok' rp1 rp2 => ?_
    refine op_reads (Z := Mk Z σ env (al (.op o a b))) (fun z m => let ⟨o, h, _⟩ := ok'.mkk z m; ⟨o, h⟩) (fun z m => Mk.lft m) (fun z m => Mk.rgt m) e4 rp1 rp2 (fun v rp => q v H' x ro rp) fun p o hp rp => ?_
    exact q _ _ (x.trans (.new hp)) (ro.keep fun z o' e' => by rw [upd_ne (ne_of_none e' hp)]; exact e') rp
theorem v_neg (ha : PE X ea (tEvC aR X.K F a)) : PE X (.UnaryOp .USub ea pos) (tEv aR X.K F (.neg a)) :=
  PE.imp (pe_un un_neg ha) fun σ H Q ⟨Z, H0, env, r, ok, dd, r', e, q⟩ => by
    obtain ⟨u, r1, e1, e⟩ := Res.bind_ok e
    split at e
    · cases e
      refine evC_to ok e1 fun v H' x ro ok' rp => ?_
      cases rp
      exact ⟨_, rfl, q _ H' x ro rfl⟩
    · cases e
/-! ### comparisons -/
theorem ints_of0 {aR : AR} {H : Hp} {Z : Addr → Prop} : ∀ {l : List D} {ns : List Int} {vs : List V}, intsD l = some ns → Reps aR H Z l vs → vs = ns.map V.int
  | [], _, _, e, h => by cases e; cases h; rfl
  | .int i :: l, _, _, e, ⟨v, r, e1, h1, h2⟩ => by
    unfold intsD at e
    obtain ⟨ns, e2, rfl⟩ := Option.map_eq_some_iff.mp e
    have e3 := ints_of0 e2 h2
    cases h1
    rw [e1, e3]; rfl
  | .non :: _, _, _, e, _ => by cases e
  | .bl _ :: _, _, _, e, _ => by cases e
  | .str _ :: _, _, _, e, _ => by cases e
  | .tup _ :: _, _, _, e, _ => by cases e
  | .lst _ :: _, _, _, e, _ => by cases e
  | .dct _ _ _ :: _, _, _, e, _ => by cases e
  | .row :: _, _, _, e, _ => by cases e
  | .fn _ :: _, _, _, e, _ => by cases e
theorem lexLt_eq : ∀ ns ms : List Int, HT.lexLt ns ms = lexI ns ms
  | [], [] => rfl
  | [], _ :: _ => rfl
  | _ :: _, [] => rfl
  | x :: xs, y :: ys => by
    unfold HT.lexLt lexI
    rw [lexLt_eq xs ys]
theorem lexLe_go (ns ms : List Int) : ∀ (k i : Nat), i + k = min ns.length ms.length → Ob.lexAt (fun j => decide (ns.getD j 0 = ms.getD j 0)) (fun j => decide (ns.getD j 0 ≤ ms.getD j 0)) (decide (ns.length ≤ ms.length)) i k = !lexI (ms.drop i) (ns.drop i)
  | 0, i, h => by
    rw [Ob.lexAt_zero]
    by_cases c : ns.length ≤ ms.length
    · rw [decide_eq_true c, List.drop_of_length_le (show ns.length ≤ i by omega)]
      cases ms.drop i <;> rfl
    · rw [decide_eq_false c, List.drop_of_length_le (show ms.length ≤ i by omega), List.drop_eq_getElem_cons (show i < ns.length by omega)]
      rfl
  | k + 1, i, h => by
    have h1 : i < ns.length := by omega
    have h2 : i < ms.length := by omega
    rw [Ob.lexAt_succ, lexLe_go ns ms k (i + 1) (by omega), List.drop_eq_getElem_cons h1, List.drop_eq_getElem_cons h2]
    have g1 : ns.getD i 0 = ns[i] := by rw [List.getD_eq_getElem?_getD, List.getElem?_eq_getElem h1]; rfl
    have g2 : ms.getD i 0 = ms[i] := by rw [List.getD_eq_getElem?_getD, List.getElem?_eq_getElem h2]; rfl
    rw [g1, g2]
    show _ = !(if ms[i] = ns[i] then lexI (ms.drop (i + 1)) (ns.drop (i + 1)) else decide (ms[i] < ns[i]))
    by_cases c : ns[i] = ms[i]
    · rw [if_pos (by simpa using c), if_pos c.symm]
    · rw [if_neg (by simpa using c), if_neg (fun z => c z.symm)]
      by_cases c2 : ns[i] ≤ ms[i]
      · rw [decide_eq_true c2, decide_eq_false (by omega)]; rfl
      · rw [decide_eq_false c2, decide_eq_true (by omega)]; rfl
theorem lexLe_eq (ns ms : List Int) : Ob.lexAt (fun j => decide (ns.getD j 0 = ms.getD j 0)) (fun j => decide (ns.getD j 0 ≤ ms.getD j 0)) (decide (ns.length ≤ ms.length)) 0 (min ns.length ms.length) = !lexI ms ns := by
  have := lexLe_go ns ms (min ns.length ms.length) 0 (by omega)
  simpa using this
def cM : Cm → CmpOp → Bool
  | .eq, .Eq => true
  | .ne, .NotEq => true
  | .lt, .Lt => true
  | .le, .LtE => true
  | .gt, .Gt => true
  | .ge, .GtE => true
  | _, _ => false
def rCm (K : PySem.W.Frag) : Cm → R2
  | .eq => rEqD K
  | .ne => rNeD K
  | .lt => fun x y H Q => rI0 (fun i j => .bl (decide (i < j))) x y H Q ∨ rLtT K x y H Q
  | .le => fun x y H Q => rI0 (fun i j => .bl (decide (i ≤ j))) x y H Q ∨ rLeT K x y H Q
  | .gt => rI0 fun i j => .bl (decide (j < i))
  | .ge => rI0 fun i j => .bl (decide (j ≤ i))
theorem cm_all (hu : X.A.units + 64 < cLine) : ∀ {o : Cm} {p : CmpOp}, cM o p = true → OpR X (compareOp p) (rCm X.K o)
  | .eq, .Eq, _ => op_eqD hu
  | .ne, .NotEq, _ => op_neD hu
  | .lt, .Lt, _ => op_lt.or (op_ltT (by omega))
  | .le, .LtE, _ => op_le.or (op_leT (by omega))
  | .gt, .Gt, _ => op_gt
  | .ge, .GtE, _ => op_ge
theorem cM_in {o : Cm} {p : CmpOp} (h : cM o p = true) (e : Expr) : behindInMarks p e = false := by
  cases o <;> cases p <;> first | exact nobehind e (by decide) (by decide) | cases h

mutual
def toPy : D → PyData
  | .non => .none
  | .bl b => .bool b
  | .int i => .int i
  | .str s => .str s
  | .tup l => .tuple (toPys l)
  | .lst l => .list (toPys l)
  | .dct _ _ _ => .dict []
  | .row => .dict []
  | .fn _ => .dict []
def toPys : List D → List PyData
  | [] => []
  | d :: ds => toPy d :: toPys ds
end
mutual
theorem sh_dp {K : PySem.W.Frag} {H : Hp} {Z : Addr → Prop} : ∀ (n : Nat) (d : D) (v : V), D.sh n d = true → Rep aR H Z d v → Dp K H v (toPy d)
  | _, .non, _, _, h => by cases h; exact .non
  | _, .bl b, _, _, h => by cases h; exact .bl b
  | _, .int b, _, _, h => by cases h; exact .int b
  | _, .str b, _, _, h => by cases h; exact .str b
  | 0, .tup l, _, s, _ => by simp [D.sh] at s
  | 0, .lst l, _, s, _ => by simp [D.sh] at s
  | n + 1, .tup l, _, s, h => by
    obtain ⟨a, vs, rfl, h1, _, h2⟩ := h
    exact .tup h1.of (shs_dp n l vs (by simpa [D.sh] using s) h2)
  | n + 1, .lst l, _, s, h => by
    obtain ⟨a, vs, rfl, h1, _, h2⟩ := h
    exact .lst (.of h1) (shs_dp n l vs (by simpa [D.sh] using s) h2)
  | 0, .dct _ _ _, _, s, _ => by simp [D.sh] at s
  | _ + 1, .dct _ _ _, _, s, _ => by simp [D.sh] at s
  | 0, .row, _, s, _ => by simp [D.sh] at s
  | 0, .fn _, _, s, _ => by simp [D.sh] at s
  | _ + 1, .row, _, s, _ => by simp [D.sh] at s
  | _ + 1, .fn _, _, s, _ => by simp [D.sh] at s
theorem shs_dp {K : PySem.W.Frag} {H : Hp} {Z : Addr → Prop} : ∀ (n : Nat) (d : List D) (v : List V), D.shs n d = true → Reps aR H Z d v → DpAll K H v (toPys d)
  | _, [], _, _, h => by cases h; exact .nil
  | n, d :: ds, _, s, h => by
    obtain ⟨v, r, rfl, h1, h2⟩ := h
    simp only [D.shs, Bool.and_eq_true] at s
    exact .cons (sh_dp n d v s.1 h1) (shs_dp n ds r s.2 h2)
end
theorem sh_dpC {K : PySem.W.Frag} {H : Hp} {Z : Addr → Prop} {n : Nat} : ∀ {d : D} {v : V}, D.sh n d = true → RepC aR H Z d v → Dp K H v (toPy d)
  | .non, _, _, h => by cases h; exact .non
  | .bl b, _, _, h => by cases h; exact .bl b
  | .int b, _, _, h => by cases h; exact .int b
  | .str b, _, _, h => by cases h; exact .str b
  | .tup l, v, s, h => sh_dp n (.tup l) v s h
  | .lst l, _, s, h => by
    obtain ⟨a, vs, rfl, h1, _, h2⟩ := h
    cases n with
    | zero => simp [D.sh] at s
    | succ n => exact .lst (.of h1) (shs_dp n l vs (by simpa [D.sh] using s) h2)
  | .dct _ _ _, _, s, _ => by cases n <;> simp [D.sh] at s
  | .row, _, s, _ => by cases n <;> simp [D.sh] at s
  | .fn _, _, s, _ => by cases n <;> simp [D.sh] at s
mutual
theorem sh_can : ∀ (n : Nat) (d : D), D.sh n d = true → (toPy d).canLay0 = true ∧ (toPy d).depth ≤ n
  | _, .non, _ => by simp [toPy, PyData.canLay0, PyData.depth]
  | _, .bl _, _ => by simp [toPy, PyData.canLay0, PyData.depth]
  | _, .int _, _ => by simp [toPy, PyData.canLay0, PyData.depth]
  | n, .str s, h => by
    have h' : PyData.strOk s = true := by cases n <;> simpa [D.sh] using h
    simp [toPy, PyData.canLay0, PyData.depth, h']
  | 0, .tup l, s => by simp [D.sh] at s
  | 0, .lst l, s => by simp [D.sh] at s
  | n + 1, .tup l, s => by
    have h := shs_can n l (by simpa [D.sh] using s)
    simp only [toPy, PyData.canLay0, PyData.depth]
    exact ⟨h.1, by omega⟩
  | n + 1, .lst l, s => by
    have h := shs_can n l (by simpa [D.sh] using s)
    simp only [toPy, PyData.canLay0, PyData.depth]
    exact ⟨h.1, by omega⟩
  | 0, .dct _ _ _, s => by simp [D.sh] at s
  | _ + 1, .dct _ _ _, s => by simp [D.sh] at s
  | 0, .row, s => by simp [D.sh] at s
  | 0, .fn _, s => by simp [D.sh] at s
  | _ + 1, .row, s => by simp [D.sh] at s
  | _ + 1, .fn _, s => by simp [D.sh] at s
theorem shs_can : ∀ (n : Nat) (d : List D), D.shs n d = true → PyData.canLayAll0 (toPys d) = true ∧ PyData.depthAll (toPys d) ≤ n
  | _, [], _ => by simp [toPys, PyData.canLayAll0, PyData.depthAll]
  | n, d :: ds, s => by
    simp only [D.shs, Bool.and_eq_true] at s
    have h1 := sh_can n d s.1
    have h2 := shs_can n ds s.2
    simp only [toPys, PyData.canLayAll0, PyData.depthAll, Bool.and_eq_true]
    exact ⟨⟨h1.1, h2.1⟩, by omega⟩
end
theorem sh_shaped {n : Nat} {d : D} (h : D.sh n d = true) (hn : n ≤ 64) : SeqAt.shaped (toPy d) = true := by
  have := sh_can n d h
  show ((toPy d).canLay0 && decide ((toPy d).depth ≤ 64)) = true
  rw [Bool.and_eq_true]
  exact ⟨this.1, decide_eq_true (by omega)⟩
theorem sh_no {n : Nat} {t : Bool} {ks vs : List D} : D.sh n (.dct t ks vs) ≠ true := by cases n <;> simp [D.sh]
theorem sh_no2 {n : Nat} : D.sh n .row ≠ true := by cases n <;> simp [D.sh]
theorem sh_no3 {n k : Nat} : D.sh n (.fn k) ≠ true := by cases n <;> simp [D.sh]
mutual
theorem beq_py : ∀ (x y : D) (n m : Nat), D.sh n x = true → D.sh m y = true → PyData.eqv (toPy x) (toPy y) = D.beq x y
  | .dct _ _ _, _, _, _, h, _ => absurd h sh_no
  | .row, _, _, _, h, _ => absurd h sh_no2
  | .fn _, _, _, _, h, _ => absurd h sh_no3
  | _, .dct _ _ _, _, _, _, h => absurd h sh_no
  | _, .row, _, _, _, h => absurd h sh_no2
  | _, .fn _, _, _, _, h => absurd h sh_no3
  | .tup x, .tup y, n, m, hx, hy => by
    cases n with
    | zero => simp [D.sh] at hx
    | succ n =>
      cases m with
      | zero => simp [D.sh] at hy
      | succ m =>
        simp only [toPy, PyData.eqv, D.beq]
        exact beqs_py x y n m (by simpa [D.sh] using hx) (by simpa [D.sh] using hy)
  | .lst x, .lst y, n, m, hx, hy => by
    cases n with
    | zero => simp [D.sh] at hx
    | succ n =>
      cases m with
      | zero => simp [D.sh] at hy
      | succ m =>
        simp only [toPy, PyData.eqv, D.beq]
        exact beqs_py x y n m (by simpa [D.sh] using hx) (by simpa [D.sh] using hy)
  | .tup _, .lst _, _, _, _, _ => by simp only [toPy, PyData.eqv, D.beq]
  | .lst _, .tup _, _, _, _, _ => by simp only [toPy, PyData.eqv, D.beq]
  | .tup _, .non, _, _, _, _ => by simp only [toPy, PyData.eqv, D.beq]
  | .tup _, .bl _, _, _, _, _ => by simp only [toPy, PyData.eqv, D.beq]
  | .tup _, .int _, _, _, _, _ => by simp only [toPy, PyData.eqv, D.beq]
  | .tup _, .str _, _, _, _, _ => by simp only [toPy, PyData.eqv, D.beq]
  | .lst _, .non, _, _, _, _ => by simp only [toPy, PyData.eqv, D.beq]
  | .lst _, .bl _, _, _, _, _ => by simp only [toPy, PyData.eqv, D.beq]
  | .lst _, .int _, _, _, _, _ => by simp only [toPy, PyData.eqv, D.beq]
  | .lst _, .str _, _, _, _, _ => by simp only [toPy, PyData.eqv, D.beq]
  | .non, .tup _, _, _, _, _ => by simp only [toPy, PyData.eqv, D.beq]
  | .bl _, .tup _, _, _, _, _ => by simp only [toPy, PyData.eqv, D.beq]
  | .int _, .tup _, _, _, _, _ => by simp only [toPy, PyData.eqv, D.beq]
  | .str _, .tup _, _, _, _, _ => by simp only [toPy, PyData.eqv, D.beq]
  | .non, .lst _, _, _, _, _ => by simp only [toPy, PyData.eqv, D.beq]
  | .bl _, .lst _, _, _, _, _ => by simp only [toPy, PyData.eqv, D.beq]
  | .int _, .lst _, _, _, _, _ => by simp only [toPy, PyData.eqv, D.beq]
  | .str _, .lst _, _, _, _, _ => by simp only [toPy, PyData.eqv, D.beq]
  | .non, .non, _, _, _, _ => by simp only [toPy, PyData.eqv, D.beq]
  | .non, .bl _, _, _, _, _ => by simp only [toPy, PyData.eqv, D.beq]
  | .non, .int _, _, _, _, _ => by simp only [toPy, PyData.eqv, D.beq]
  | .non, .str _, _, _, _, _ => by simp only [toPy, PyData.eqv, D.beq]
  | .bl _, .non, _, _, _, _ => by simp only [toPy, PyData.eqv, D.beq]
  | .bl _, .bl _, _, _, _, _ => by simp only [toPy, PyData.eqv, D.beq]
  | .bl _, .int _, _, _, _, _ => by simp only [toPy, PyData.eqv, D.beq]
  | .bl _, .str _, _, _, _, _ => by simp only [toPy, PyData.eqv, D.beq]
  | .int _, .non, _, _, _, _ => by simp only [toPy, PyData.eqv, D.beq]
  | .int _, .bl _, _, _, _, _ => by simp only [toPy, PyData.eqv, D.beq]
  | .int _, .int _, _, _, _, _ => by simp only [toPy, PyData.eqv, D.beq]
  | .int _, .str _, _, _, _, _ => by simp only [toPy, PyData.eqv, D.beq]
  | .str _, .non, _, _, _, _ => by simp only [toPy, PyData.eqv, D.beq]
  | .str _, .bl _, _, _, _, _ => by simp only [toPy, PyData.eqv, D.beq]
  | .str _, .int _, _, _, _, _ => by simp only [toPy, PyData.eqv, D.beq]
  | .str _, .str _, _, _, _, _ => by simp only [toPy, PyData.eqv, D.beq]
theorem beqs_py : ∀ (x y : List D) (n m : Nat), D.shs n x = true → D.shs m y = true → PyData.eqvAll (toPys x) (toPys y) = D.beqs x y
  | [], [], _, _, _, _ => by simp only [toPys, PyData.eqvAll, D.beqs]
  | [], _ :: _, _, _, _, _ => by simp only [toPys, PyData.eqvAll, D.beqs]
  | _ :: _, [], _, _, _, _ => by simp only [toPys, PyData.eqvAll, D.beqs]
  | x :: xs, y :: ys, n, m, hx, hy => by
    simp only [D.shs, Bool.and_eq_true] at hx hy
    simp only [toPys, PyData.eqvAll, D.beqs]
    rw [beq_py x y n m hx.1 hy.1, beqs_py xs ys n m hx.2 hy.2]
end
end
section
variable {X : Cx} {aR : AR} {F : Fns} {ea eb ec : Expr} {a b c d : IE} {pos : Pos}
theorem cm_reads {K : PySem.W.Frag} {H : Hp} {Z1 Z2 : Addr → Prop} {c : Cm} {x y : D} {v u : V} {k : Bool} {Q : VK} (e : cmD c x y = some k) (h1 : RepC aR H Z1 x v) (h2 : RepC aR H Z2 y u) (q : Q (.bl k) H) : rCm K c v u H Q := by
  unfold cmD at e
  split at e
  · cases e; cases h1; cases h2; exact .inl ⟨_, _, rfl, rfl, q⟩
  · cases e; cases h1; cases h2; exact .inl ⟨_, _, rfl, rfl, q⟩
  · cases e; cases h1; cases h2; exact ⟨_, _, rfl, rfl, q⟩
  · cases e; cases h1; cases h2; exact ⟨_, _, rfl, rfl, q⟩
  · obtain ⟨ns, e1, e2⟩ := Option.bind_eq_some_iff.mp e
    obtain ⟨ms, e3, rfl⟩ := Option.map_eq_some_iff.mp e2
    obtain ⟨p, vs, rfl, g1, g2, g3⟩ := h1
    obtain ⟨p', vs', rfl, k1, k2, k3⟩ := h2
    have hv := (ints_of0 e1 g3)
    have hv' := (ints_of0 e3 k3)
    subst hv hv'
    exact .inr ⟨_, _, _, _, rfl, rfl, g1.of, k1.of, by rw [lexLt_eq]; exact q⟩
  · obtain ⟨ns, e1, e2⟩ := Option.bind_eq_some_iff.mp e
    obtain ⟨ms, e3, rfl⟩ := Option.map_eq_some_iff.mp e2
    obtain ⟨p, vs, rfl, g1, g2, g3⟩ := h1
    obtain ⟨p', vs', rfl, k1, k2, k3⟩ := h2
    have hv := (ints_of0 e1 g3)
    have hv' := (ints_of0 e3 k3)
    subst hv hv'
    exact .inr ⟨_, _, _, _, rfl, rfl, g1.of, k1.of, by rw [lexLe_eq]; exact q⟩
  · split at e
    · rename_i hs
      simp only [Bool.and_eq_true] at hs
      cases e
      exact ⟨_, _, sh_dpC hs.1 h1, sh_dpC hs.2 h2, sh_shaped hs.1 (by decide), sh_shaped hs.2 (by decide), by rw [beq_py _ _ 32 32 hs.1 hs.2]; exact q⟩
    · cases e
  · split at e
    · rename_i hs
      simp only [Bool.and_eq_true] at hs
      cases e
      exact ⟨_, _, sh_dpC hs.1 h1, sh_dpC hs.2 h2, sh_shaped hs.1 (by decide), sh_shaped hs.2 (by decide), by rw [beq_py _ _ 32 32 hs.1 hs.2]; exact q⟩
    · cases e
  · cases e
theorem map_ok {α β : Type} {x : Option α} {f : α → β} {r r' : Row} {y : β} (h : Res.of (x.map f) r = .ok y r') : ∃ k, x = some k ∧ y = f k ∧ r = r' := by
  obtain ⟨h', rfl⟩ := Res.of_ok h
  obtain ⟨k, h1, h2⟩ := Option.map_eq_some_iff.mp h'
  exact ⟨k, h1, h2.symm, rfl⟩
/-- by its value and its test at once -/
structure PB (X : Cx) (e : Expr) (t : TE) (u : TT) : Prop where
  v : PE X e t
  t : PT X e u
theorem v_cmp {o : Cm} {p : CmpOp} (hu : X.A.units + 64 < cLine) (hm : cM o p = true) (ha : PE X ea (tEvC aR X.K F a)) (hb : PE X eb (tEvC aR X.K F b)) :
    PB X (.Compare ea [p] [eb] pos) (tEv aR X.K F (.cmp o a b)) (tEvT aR X.K F (.cmp o a b)) := by
  refine ⟨PE.imp (pe_cmpR (cm_all hu hm) ha hb (cM_in hm eb)) fun σ H Q ⟨Z, H0, env, r, ok, dd, r', e, q⟩ => ?_, PT.imp (pt_cmpR (cm_all hu hm) ha hb (cM_in hm eb)) fun σ H Q ⟨Z, H0, env, r, ok, dd, r', e, q⟩ => ?_⟩
  · obtain ⟨u, r1, w, r2, e1, e2, e3⟩ := bind2 (f := fun _ _ => .no) e
    obtain ⟨k, e4, rfl, rfl⟩ := map_ok e3
    exact two_to ok e1 e2 fun v1 v2 H' x ro ok' rp1 rp2 => cm_reads e4 rp1 rp2 (q _ H' x ro rfl)
  · obtain ⟨u, r1, w, r2, e1, e2, e3⟩ := bind2 (f := fun _ _ => .no) e
    obtain ⟨k, e4, e5, rfl⟩ := map_ok e3
    cases e5
    exact two_to ok e1 e2 fun v1 v2 H' x ro ok' rp1 rp2 => cm_reads e4 rp1 rp2 ⟨_, rfl, q H' x ro⟩
end
end Wl
/-! Expressions, further. -/
namespace Wl
open PySem PySem.Spec PyProof.Rows L2

section
variable {X : Cx} {aR : AR} {F : Fns} {ea eb ec : Expr} {a b c d : IE} {pos : Pos}

theorem v_chain {o o' : Cm} {p p' : CmpOp} (hu : X.A.units + 64 < cLine) (hm : cM o p = true) (hm' : cM o' p' = true) (ha : PE X ea (tEvC aR X.K F a)) (hb : PE X eb (tEvC aR X.K F b)) (hc : PE X ec (tEvC aR X.K F c)) :
    PB X (.Compare ea [p, p'] [eb, ec] pos) (tEv aR X.K F (.chain o o' a b c)) (tEvT aR X.K F (.chain o o' a b c)) := by
  have hl : lastMarks [p, p'] [eb, ec] = false := cM_in hm' ec
  have go : ∀ (Z : Addr → Prop) (H0 H : Hp) (σ : L2.St) (env : Env) (r : Row) (dd : D) (r' : Row) (Q : VK), Ok aR X.K Z H0 σ H env r → ev F (.chain o o' a b c) env r = .ok dd r' →
      (∀ k H', dd = .bl k → Ext aR H H' → RowOk aR X.K H' r' → Q (.bl k) H') → tChain (rCm X.K o) (rCm X.K o') (tEvC aR X.K F a) (tEvC aR X.K F b) (tEvC aR X.K F c) σ H Q := by
    intro Z H0 H σ env r dd r' Q ok e q
    obtain ⟨u, r1, w, r2, e1, e2, e3⟩ := bind2 (f := fun _ _ => .no) e
    obtain ⟨k, r3, e4, e5⟩ := Res.bind_ok e3
    obtain ⟨e4', rfl⟩ := Res.of_ok e4
    refine evC_to ok e1 fun v1 H1 x1 ro1 ok1 rp1 => evC_to ok1 e2 fun v2 H2 x2 ro2 ok2 rp2 => cm_reads e4' (rp1.ext x2 (.inl ok.zr)) rp2 ⟨k, rfl, ?_⟩
    cases k with
    | false =>
      cases e5
      exact q _ H2 rfl (x1.trans x2) ro2
    | true =>
      rw [if_pos rfl] at e5
      rw [if_pos rfl]
      obtain ⟨z, r4, e6, e7⟩ := Res.bind_ok e5
      obtain ⟨k', e8, e9, rfl⟩ := map_ok e7
      exact evC_to ok2 e6 fun v3 H3 x3 ro3 ok3 rp3 => cm_reads e8 (rp2.ext x3 (.inl ok.zr)) rp3 (q _ H3 e9 ((x1.trans x2).trans x3) ro3)
  refine ⟨PE.imp (pe_chain (cm_all hu hm) (cm_all hu hm') ha hb hc hl) fun σ H Q ⟨Z, H0, env, r, ok, dd, r', e, q⟩ => go Z H0 H σ env r dd r' Q ok e fun k H' ek x ro => q _ H' x ro (by rw [ek]; rfl),
    PT.imp (pt_chain (cm_all hu hm) (cm_all hu hm') ha hb hc hl) fun σ H Q ⟨Z, H0, env, r, ok, dd, r', e, q⟩ => go Z H0 H σ env r _ r' _ ok e fun k H' ek x ro => ?_⟩
  cases ek
  exact ⟨_, rfl, q H' x ro⟩
theorem non_iff {H : Hp} {Z : Addr → Prop} : ∀ {x : D} {v : V}, RepC aR H Z x v → isNon x = decide (v = .non)
  | .non, _, h => by cases h; rfl
  | .bl _, _, h => by cases h; rfl
  | .int _, _, h => by cases h; rfl
  | .str _, _, h => by cases h; rfl
  | .row, _, h => by cases h; rfl
  | .fn _, _, h => by obtain ⟨g, _, e⟩ := h; subst e; rfl
  | .tup _, _, ⟨a, vs, e, _⟩ => by subst e; rfl
  | .lst _, _, ⟨a, vs, e, _⟩ => by subst e; rfl
  | .dct false _ _, _, ⟨a, vs, e, _⟩ => by subst e; rfl
  | .dct true _ _, _, ⟨a, o, bs, us, e, _⟩ => by subst e; rfl
theorem v_isN {n : Bool} {j : Nat} {pos' : Pos} (ha : PE X ea (tEvC aR X.K F a)) :
    PB X (.Compare ea [if n = true then .IsNot else .Is] [.Constant .none j pos'] pos) (tEv aR X.K F (.isN n a)) (tEvT aR X.K F (.isN n a)) := by
  cases n with
  | false =>
    refine ⟨PE.imp (pe_cmp (pc_isN ha)) fun σ H Q ⟨Z, H0, env, r, ok, dd, r', e, q⟩ => ?_, PT.imp (pt_cmp (pc_isN ha)) fun σ H Q ⟨Z, H0, env, r, ok, dd, r', e, q⟩ => ?_⟩
    · obtain ⟨u, r1, e1, e2⟩ := Res.bind_ok e
      refine evC_to ok e1 fun v H' x ro ok' rp => ?_
      injection e2 with e3 e4
      subst e3 e4
      exact q _ H' x ro (by rw [non_iff rp]; rfl)
    · obtain ⟨u, r1, e1, e2⟩ := Res.bind_ok e
      refine evC_to ok e1 fun v H' x ro ok' rp => ?_
      injection e2 with e3 e4
      subst e4
      injection e3 with e3
      have e3 : isNon u = dd := e3
      exact ⟨_, rfl, by rw [← non_iff rp, e3]; exact q H' x ro⟩
  | true =>
    refine ⟨PE.imp (pe_cmp (pc_notN ha)) fun σ H Q ⟨Z, H0, env, r, ok, dd, r', e, q⟩ => ?_, PT.imp (pt_cmp (pc_notN ha)) fun σ H Q ⟨Z, H0, env, r, ok, dd, r', e, q⟩ => ?_⟩
    · obtain ⟨u, r1, e1, e2⟩ := Res.bind_ok e
      refine evC_to ok e1 fun v H' x ro ok' rp => ?_
      injection e2 with e3 e4
      subst e3 e4
      exact q _ H' x ro (by rw [non_iff rp]; rfl)
    · obtain ⟨u, r1, e1, e2⟩ := Res.bind_ok e
      refine evC_to ok e1 fun v H' x ro ok' rp => ?_
      injection e2 with e3 e4
      subst e4
      injection e3 with e3
      have e3 : (!isNon u) = dd := e3
      exact ⟨_, rfl, by rw [← non_iff rp, e3]; exact q H' x ro⟩

/-! ### in -/
theorem flat_v {K : PySem.W.Frag} {H : Hp} {Z : Addr → Prop} : ∀ {x : D} {v : V}, x.flat = true → RepC aR H Z x v → flatV v = true
  | .non, _, _, h => by cases h; rfl
  | .bl _, _, _, h => by cases h; rfl
  | .int _, _, _, h => by cases h; rfl
  | .str _, _, _, h => by cases h; rfl
  | .row, _, s, _ => by simp [D.flat] at s
  | .fn _, _, s, _ => by simp [D.flat] at s
  | .tup _, _, s, _ => by simp [D.flat] at s
  | .lst _, _, s, _ => by simp [D.flat] at s
  | .dct _ _ _, _, s, _ => by simp [D.flat] at s
theorem flat_eq {K : PySem.W.Frag} {H : Hp} {Z Z' : Addr → Prop} : ∀ {x y : D} {v u : V}, x.flat = true → y.flat = true → RepC aR H Z x v → RepC aR H Z' y u → eqV v u = D.beq x y := by
  intro x y v u f g h h'
  cases x <;> first | (simp [D.flat] at f; done) | (cases y <;> first | (simp [D.flat] at g; done) | (cases h; cases h'; simp [eqV, D.beq]))
theorem in_flat {K : PySem.W.Frag} {H : Hp} {Z Z' : Addr → Prop} {x : D} {v : V} (f : x.flat = true) (h : RepC aR H Z x v) : ∀ {l : List D} {vs : List V}, l.all D.flat = true → Reps aR H Z' l vs →
    vs.all flatV = true ∧ inV v vs = inDs x l
  | [], _, _, h' => by cases h'; exact ⟨rfl, rfl⟩
  | y :: l, _, g, ⟨u, r, e, h1, h2⟩ => by
    subst e
    simp only [List.all_cons, Bool.and_eq_true] at g
    have i := in_flat (K := K) f h g.2 h2
    have e1 : RepC aR H Z' y u := by cases y <;> first | exact h1 | simp [D.flat] at g
    refine ⟨by rw [List.all_cons, i.1, flat_v (K := K) g.1 e1]; rfl, ?_⟩
    have e2 := flat_eq (K := K) g.1 f e1 h
    show (eqV u v || inV v r) = (D.beq y x || inDs x l)
    rw [i.2, e2]
theorem any_py {x : D} (n : Nat) (hx : D.sh n x = true) : ∀ {l : List D} (m : Nat), D.shs m l = true → ((toPys l).any fun z => PyData.eqv z (toPy x)) = inDs x l
  | [], _, _ => rfl
  | y :: l, m, h => by
    simp only [D.shs, Bool.and_eq_true] at h
    show (PyData.eqv (toPy y) (toPy x) || (toPys l).any _) = (D.beq y x || inDs x l)
    rw [any_py n hx m h.2, beq_py y x m n h.1 hx]
def rInA (K : PySem.W.Frag) (n : Bool) : R2 := if n = true then fun x y H Q => rNotInD K x y H Q ∨ rIn K true x y H Q else fun x y H Q => rInD K x y H Q ∨ rIn K false x y H Q
theorem in_all (hu : X.A.units + 65 < cLine) (n : Bool) : OpR X (compareOp (if n = true then .NotIn else .In)) (rInA X.K n) := by
  cases n with
  | false => exact (op_inD hu).or op_in_seq
  | true => exact (op_notInD hu).or op_notIn_seq
theorem in_reads {K : PySem.W.Frag} {H : Hp} {Z1 Z2 : Addr → Prop} {n : Bool} {x y : D} {v u : V} {k : Bool} {Q : VK} (e : inSD x y = some k) (h1 : RepC aR H Z1 x v) (h2 : RepC aR H Z2 y u) (q : Q (.bl (if n = true then !k else k)) H) : rInA K n v u H Q := by
  unfold inSD at e
  split at e
  · split at e
    · rename_i l hs
      simp only [Bool.and_eq_true] at hs
      cases e
      have sl : D.sh 32 (.lst l) = true := by simp only [D.sh]; exact hs.2
      have d1 := sh_dpC (K := K) hs.1 h1
      have d2 := sh_dpC (K := K) sl h2
      have s1 := sh_shaped hs.1 (by decide)
      have s2 := sh_shaped sl (by decide)
      simp only [toPy] at d2 s2
      have ea := any_py 32 hs.1 31 hs.2
      cases n with
      | false => exact .inl ⟨_, _, d1, d2, s1, s2, by rw [ea]; exact q⟩
      | true => exact .inl ⟨_, _, d1, d2, s1, s2, by rw [ea]; exact q⟩
    · cases e
  · split at e
    · rename_i l hs
      simp only [Bool.and_eq_true] at hs
      cases e
      obtain ⟨a, vs, rfl, ha, na, ra⟩ := h2
      have i := in_flat (K := K) hs.1 h1 hs.2 ra
      cases n with
      | false => exact .inr ⟨a, vs, rfl, .inr ha.of, flat_v (K := K) hs.1 h1, i.1, by rw [if_neg Bool.false_ne_true, i.2]; exact q⟩
      | true => exact .inr ⟨a, vs, rfl, .inr ha.of, flat_v (K := K) hs.1 h1, i.1, by rw [if_pos rfl, i.2]; exact q⟩
    · cases e
  · cases e
theorem v_inS {n : Bool} (hu : X.A.units + 65 < cLine) (hb' : behindInMarks (if n = true then .NotIn else .In) eb = false) (ha : PE X ea (tEvC aR X.K F a)) (hb : PE X eb (tEvC aR X.K F b)) :
    PB X (.Compare ea [if n = true then .NotIn else .In] [eb] pos) (tEv aR X.K F (.inS n a b)) (tEvT aR X.K F (.inS n a b)) := by
  refine ⟨PE.imp (pe_cmpR (in_all hu n) ha hb hb') fun σ H Q ⟨Z, H0, env, r, ok, dd, r', e, q⟩ => ?_, PT.imp (pt_cmpR (in_all hu n) ha hb hb') fun σ H Q ⟨Z, H0, env, r, ok, dd, r', e, q⟩ => ?_⟩
  · obtain ⟨u, r1, w, r2, e1, e2, e3⟩ := bind2 (f := fun _ _ => .no) e
    obtain ⟨k, e4, rfl, rfl⟩ := map_ok e3
    exact two_to ok e1 e2 fun v1 v2 H' x ro ok' rp1 rp2 => in_reads e4 rp1 rp2 (q _ H' x ro rfl)
  · obtain ⟨u, r1, w, r2, e1, e2, e3⟩ := bind2 (f := fun _ _ => .no) e
    obtain ⟨k, e4, e5, rfl⟩ := map_ok e3
    cases e5
    exact two_to ok e1 e2 fun v1 v2 H' x ro ok' rp1 rp2 => in_reads e4 rp1 rp2 ⟨_, rfl, q H' x ro⟩

/-! ### dicts -/
theorem key_v {K : PySem.W.Frag} {H : Hp} {Z : Addr → Prop} : ∀ {x : D} {v : V}, x.key = true → RepC aR H Z x v → ∃ k : Key, v = kV k ∧ x = keyD k
  | .int i, _, _, h => by cases h; exact ⟨.inl i, rfl, rfl⟩
  | .str i, _, _, h => by cases h; exact ⟨.inr i, rfl, rfl⟩
  | .non, _, s, _ => by simp [D.key] at s
  | .bl _, _, s, _ => by simp [D.key] at s
  | .row, _, s, _ => by simp [D.key] at s
  | .fn _, _, s, _ => by simp [D.key] at s
  | .tup _, _, s, _ => by simp [D.key] at s
  | .lst _, _, s, _ => by simp [D.key] at s
  | .dct _ _ _, _, s, _ => by simp [D.key] at s
theorem same_key : ∀ (k j : Key), D.same (keyD k) (keyD j) = decide (k = j)
  | .inl a, .inl b => by rw [key_ll]; simp [keyD, D.same]
  | .inr a, .inr b => by
    rw [key_rr]; simp only [keyD, D.same]
    by_cases h : a = b
    · subst h; simp
    · rw [decide_eq_false h]; exact beq_eq_false_iff_ne.mpr h
  | .inl a, .inr b => by rw [key_lr]; simp [keyD, D.same]
  | .inr a, .inl b => by rw [key_rl]; simp [keyD, D.same]
theorem look_of {κ : Type} [DecidableEq κ] {H : Hp} {Z : Addr → Prop} (g : κ → D) (hg : ∀ k j, D.same (g k) (g j) = decide (k = j)) (k : κ) : ∀ {kvs : List (κ × V)} {vs : List D}, Reps aR H Z vs (kvs.map (·.2)) →
    (lookD (g k) (kvs.map fun p => g p.1) vs = none ∧ valV kvs k = none) ∨ ∃ d v, lookD (g k) (kvs.map fun p => g p.1) vs = some d ∧ valV kvs k = some v ∧ Rep aR H Z d v
  | [], [], _ => .inl ⟨rfl, rfl⟩
  | [], _ :: _, h => by obtain ⟨_, _, e, _⟩ := h; cases e
  | p :: kvs, [], h => by cases h
  | p :: kvs, d :: vs, ⟨v, r, e, h1, h2⟩ => by
    rw [List.map_cons] at e
    injection e with e1 e2
    subst e1 e2
    rw [List.map_cons]
    unfold lookD
    rw [hg]
    by_cases q : p.1 = k
    · rw [decide_eq_true q, if_pos rfl, valV_pos q]
      exact .inr ⟨d, p.2, rfl, rfl, h1⟩
    · rw [decide_eq_false q, if_neg Bool.false_ne_true, valV_neg q]
      exact look_of g hg k h2
theorem look_ofN {H : Hp} {Z : Addr → Prop} {k : NestedKey} (hk : okK k) : ∀ {kvs : List (NestedKey × V)} {vs : List D}, (∀ p ∈ kvs, okK p.1) → Reps aR H Z vs (kvs.map (·.2)) →
    (lookD (nkD k) (kvs.map fun p => nkD p.1) vs = none ∧ valV kvs k = none) ∨ ∃ d v, lookD (nkD k) (kvs.map fun p => nkD p.1) vs = some d ∧ valV kvs k = some v ∧ Rep aR H Z d v
  | [], [], _, _ => .inl ⟨rfl, rfl⟩
  | [], _ :: _, _, h => by obtain ⟨_, _, e, _⟩ := h; cases e
  | p :: kvs, [], _, h => by cases h
  | p :: kvs, d :: vs, ho, ⟨v, r, e, h1, h2⟩ => by
    rw [List.map_cons] at e
    injection e with e1 e2
    subst e1 e2
    rw [List.map_cons]
    unfold lookD
    rw [same_dec (ho p List.mem_cons_self).2.1 hk.2.1]
    by_cases q : p.1 = k
    · rw [decide_eq_true q, if_pos rfl, valV_pos q]
      exact .inr ⟨d, p.2, rfl, rfl, h1⟩
    · rw [decide_eq_false q, if_neg Bool.false_ne_true, valV_neg q]
      exact look_ofN hk (fun z hz => ho z (List.mem_cons_of_mem _ hz)) h2
/-- the keys stand where they are told to -/
theorem kn_of {H : Hp} {Z : Addr → Prop} {kvs : List (NestedKey × V)} {xs : List (NestedKey × Addr × Value)} (pr : Paired (fun p q => p.1 = q.1 ∧ RelV p.2 q.2.2) kvs xs) (h : Reps aR H Z (kvs.map fun p => nkD p.1) (xs.map fun p => V.ref p.2.1)) : KN H kvs xs := by
  induction pr with
  | nil => exact .nil
  | @cons p q ps qs h1 t ih =>
    rw [List.map_cons, List.map_cons] at h
    obtain ⟨v, r, e, g1, g2⟩ := h
    injection e with e1 e2
    subst e1 e2
    exact .cons ⟨h1.1, rep_kat _ _ g1, h1.2⟩ (ih g2)
theorem keys_ok {kvs : List (NestedKey × V)} {xs : List (NestedKey × Addr × Value)} (pr : Paired (fun p q => p.1 = q.1 ∧ RelV p.2 q.2.2) kvs xs) (h : ∀ x ∈ xs, okK x.1) : ∀ p ∈ kvs, okK p.1 := by
  induction pr with
  | nil => intro p hp; cases hp
  | @cons p q ps qs h1 t ih =>
    intro z hz
    rcases List.mem_cons.mp hz with rfl | hz
    · rw [h1.1]; exact h q List.mem_cons_self
    · exact ih (fun x hx => h x (List.mem_cons_of_mem _ hx)) z hz
/-- a key of a dict of tuples -/
theorem keyT_v {H : Hp} {Z : Addr → Prop} {k : D} {u : V} (hk : k.keyT = true) (h : RepC aR H Z k u) : ∃ kk b, k = nkD kk ∧ okK kk ∧ u = .ref b ∧ KAt H kk u ∧ Rep aR H Z k u := by
  obtain ⟨e, ok⟩ := keyT_nk hk
  cases k with
  | tup l =>
    have rp : Rep aR H Z (.tup l) u := h
    obtain ⟨b, us, eb, _⟩ := id rp
    exact ⟨dNk (.tup l), b, e.symm, ok, eb, rep_kat _ _ (by rw [e]; exact rp), rp⟩
  | _ => simp [D.keyT] at hk
/-- what a dict tells of a key -/
theorem dget_of {K : PySem.W.Frag} {H : Hp} {Z1 Z2 : Addr → Prop} {t : Bool} {ks vs : List D} {k : D} {v u : V} (hk : keyOk t k = true) (h1 : RepC aR H Z1 (.dct t ks vs) v) (h2 : RepC aR H Z2 k u) :
    ∃ a, v = .ref a ∧ IsX H a ∧ ((lookD k ks vs = none ∧ XGet H a u none) ∨ ∃ d w, lookD k ks vs = some d ∧ XGet H a u (some w) ∧ Rep aR H Z1 d w) := by
  cases t with
  | false =>
    obtain ⟨a, kvs, rfl, ha, na, rfl, ra⟩ := h1
    obtain ⟨kk, rfl, rfl⟩ := key_v (K := K) (by simpa [keyOk] using hk) h2
    refine ⟨a, rfl, .inl ⟨kvs, ha⟩, ?_⟩
    rcases look_of keyD same_key kk ra with ⟨e1, e2⟩ | ⟨d, w, e1, e2, rp⟩
    · exact .inl ⟨e1, .inl ⟨kvs, kk, ha, rfl, e2.symm⟩⟩
    · exact .inr ⟨d, w, e1, .inl ⟨kvs, kk, ha, rfl, e2.symm⟩, rp⟩
  | true =>
    obtain ⟨a, o, bs, us, rfl, ha, na, ⟨xs, kvs, dd, pr, rfl, rfl, rfl⟩, rb, ra⟩ := h1
    obtain ⟨kk, b, rfl, ok, rfl, ka, _⟩ := keyT_v (by simpa [keyOk] using hk) h2
    have kn := kn_of pr rb
    refine ⟨a, rfl, .inr ⟨o, xs, ha, dd⟩, ?_⟩
    rcases look_ofN ok (keys_ok pr dd.ok) ra with ⟨e1, e2⟩ | ⟨d, w, e1, e2, rp⟩
    · exact .inl ⟨e1, .inr ⟨o, kvs, xs, kk, b, ha, dd, kn, rfl, ok, ka, e2.symm⟩⟩
    · exact .inr ⟨d, w, e1, .inr ⟨o, kvs, xs, kk, b, ha, dd, kn, rfl, ok, ka, e2.symm⟩, rp⟩
/-- a dict, by its data -/
theorem isX_of {H : Hp} {Z : Addr → Prop} {t : Bool} {ks vs : List D} {v : V} (h : RepC aR H Z (.dct t ks vs) v) : ∃ p, v = .ref p ∧ IsX H p := by
  cases t with
  | false => obtain ⟨p, kvs, rfl, ha, _⟩ := h; exact ⟨p, rfl, .inl ⟨kvs, ha⟩⟩
  | true => obtain ⟨p, o, bs, us, rfl, ha, _, ⟨xs, kvs, dd, _⟩, _⟩ := h; exact ⟨p, rfl, .inr ⟨o, xs, ha, dd⟩⟩
theorem v_inD {n : Bool} (hu : X.A.units + 64 < cLine) (hb' : behindInMarks (if n = true then .NotIn else .In) eb = false) (ha : PE X ea (tEvC aR X.K F a)) (hb : PE X eb (tEvC aR X.K F b)) :
    PB X (.Compare ea [if n = true then .NotIn else .In] [eb] pos) (tEv aR X.K F (.inD n a b)) (tEvT aR X.K F (.inD n a b)) := by
  have go : ∀ (Z : Addr → Prop) (H0 H : Hp) (σ : L2.St) (env : Env) (r : Row) (dd : D) (r' : Row) (Q : VK), Ok aR X.K Z H0 σ H env r → ev F (.inD n a b) env r = .ok dd r' →
      (∀ k H', dd = .bl k → Ext aR H H' → RowOk aR X.K H' r' → Q (.bl k) H') → (if n = true then tXNotIn (tEvC aR X.K F a) (tEvC aR X.K F b) σ H Q else tXIn (tEvC aR X.K F a) (tEvC aR X.K F b) σ H Q) := by
    intro Z H0 H σ env r dd r' Q ok e q
    obtain ⟨u, r1, w, r2, e1, e2, e3⟩ := bind2 (f := fun _ _ => .no) e
    split at e3
    · rename_i t ks vs
      split at e3
      · rename_i hk
        injection e3 with e4 e5
        subst e5
        have fin : ∀ v1 H1, Ext aR H H1 → RowOk aR X.K H1 r1 → Ok aR X.K Z H0 σ H1 env r1 → RepC aR H1 (Mk Z σ env (alC a)) u v1 → tEvC aR X.K F b σ H1 fun v2 H2 => ∃ p o, v2 = .ref p ∧ XGet H2 p v1 o ∧ Q (.bl (if n = true then !o.isSome else o.isSome)) H2 :=
          fun v1 H1 x1 ro1 ok1 rp1 => evC_to ok1 e2 fun v2 H2 x2 ro2 ok2 rp2 => by
            obtain ⟨p, rfl, _, g⟩ := dget_of (K := X.K) hk rp2 (rp1.ext x2 (.inl ok.zr))
            rcases g with ⟨g1, g2⟩ | ⟨d, w', g1, g2, _⟩
            · exact ⟨p, _, rfl, g2, q _ H2 (by rw [← e4, g1]; cases n <;> rfl) (x1.trans x2) ro2⟩
            · exact ⟨p, _, rfl, g2, q _ H2 (by rw [← e4, g1]; cases n <;> rfl) (x1.trans x2) ro2⟩
        cases n with
        | false => exact evC_to ok e1 fin
        | true => exact evC_to ok e1 fin
      · cases e3
    · cases e3
  cases n with
  | false =>
    exact ⟨PE.imp (pe_cmp (pc_xin hu ha hb) hb') fun σ H Q ⟨Z, H0, env, r, ok, dd, r', e, q⟩ => go Z H0 H σ env r dd r' Q ok e fun k H' ek x ro => q _ H' x ro (by rw [ek]; rfl),
      PT.imp (pt_cmp (pc_xin hu ha hb) hb') fun σ H Q ⟨Z, H0, env, r, ok, dd, r', e, q⟩ => go Z H0 H σ env r _ r' _ ok e fun k H' ek x ro => by cases ek; exact ⟨_, rfl, q H' x ro⟩⟩
  | true =>
    exact ⟨PE.imp (pe_cmp (pc_xnotin hu ha hb) hb') fun σ H Q ⟨Z, H0, env, r, ok, dd, r', e, q⟩ => go Z H0 H σ env r dd r' Q ok e fun k H' ek x ro => q _ H' x ro (by rw [ek]; rfl),
      PT.imp (pt_cmp (pc_xnotin hu ha hb) hb') fun σ H Q ⟨Z, H0, env, r, ok, dd, r', e, q⟩ => go Z H0 H σ env r _ r' _ ok e fun k H' ek x ro => by cases ek; exact ⟨_, rfl, q H' x ro⟩⟩
theorem v_dget {i : IE} {ei : Expr} (hu : X.A.units + 64 < cLine) (hs : NoSl ei) (ha : PE X ea (tEvC aR X.K F a)) (hi : PE X ei (tEvC aR X.K F i)) : PE X (.Subscript ea ei pos) (tEv aR X.K F (.dget a i)) :=
  PE.imp (pe_xget hu ha hi hs) fun σ H Q ⟨Z, H0, env, r, ok, dd, r', e, q⟩ => by
    obtain ⟨u, r1, w, r2, e1, e2, e3⟩ := bind2 (f := fun _ _ => .no) e
    refine evC_to ok e1 fun v1 H1 x1 ro1 ok1 rp1 => evC_to ok1 e2 fun v2 H2 x2 ro2 ok2 rp2 => ?_
    split at e3
    · split at e3
      · rename_i hk
        obtain ⟨e4, rfl⟩ := Res.of_ok e3
        obtain ⟨p, rfl, _, g⟩ := dget_of (K := X.K) hk (rp1.ext x2 (.inl ok.zr)) rp2
        rcases g with ⟨g1, g2⟩ | ⟨d, w', g1, g2, rp⟩
        · rw [g1] at e4; cases e4
        · rw [g1] at e4; cases e4
          exact ⟨p, w', rfl, g2, q _ H2 (x1.trans x2) ro2 rp⟩
      · cases e3
    · cases e3
theorem v_get1 {o k : IE} {eo ek : Expr} {apos cpos : Pos} (hu : X.A.units + 64 < cLine) (m : M1 X eo "get" apos ek cpos) (ho : PE X eo (tEvC aR X.K F o)) (hk : PE X ek (tEvC aR X.K F k)) :
    PE X (.Call (.Attribute eo "get" apos) [ek] [] cpos) (tEv aR X.K F (.get1 o k)) :=
  PE.imp (pe_xget1 hu ho hk m) fun σ H Q ⟨Z, H0, env, r, ok, dd, r', e, q⟩ => by
    obtain ⟨u, r1, w, r2, e1, e2, e3⟩ := bind2 (f := fun _ _ => .no) e
    refine evC_to ok e1 fun v1 H1 x1 ro1 ok1 rp1 => ?_
    split at e3
    · rename_i t ks vs
      split at e3
      · rename_i hk
        have pre : ∃ p, v1 = .ref p ∧ IsX H1 p := isX_of rp1
        obtain ⟨p, rfl, hd⟩ := pre
        refine ⟨p, rfl, hd, evC_to ok1 e2 fun v2 H2 x2 ro2 ok2 rp2 => ?_⟩
        cases e3
        obtain ⟨p', e', _, g⟩ := dget_of (K := X.K) hk (rp1.ext x2 (.inl ok.zr)) rp2
        cases e'
        rcases g with ⟨g1, g2⟩ | ⟨d, w', g1, g2, rp⟩
        · exact ⟨_, g2, q _ H2 (x1.trans x2) ro2 (by rw [g1]; rfl)⟩
        · exact ⟨_, g2, q _ H2 (x1.trans x2) ro2 (by rw [g1]; exact rp)⟩
      · cases e3
    · cases e3
theorem v_get2 {o k z : IE} {eo ek ez : Expr} {apos cpos : Pos} (hu : X.A.units + 64 < cLine) (m : M2 X eo "get" apos ek ez cpos) (ho : PE X eo (tEvC aR X.K F o)) (hk : PE X ek (tEvC aR X.K F k)) (hz : PE X ez (tEv aR X.K F z)) :
    PE X (.Call (.Attribute eo "get" apos) [ek, ez] [] cpos) (tEv aR X.K F (.get2 o k z)) :=
  PE.imp (pe_xget2 hu ho hk hz m) fun σ H Q ⟨Z, H0, env, r, ok, dd, r', e, q⟩ => by
    obtain ⟨u, r1, w, r2, e1, e2, e3⟩ := bind2 (f := fun _ _ => .no) e
    obtain ⟨z', r3, ez, e3⟩ := Res.bind_ok e3
    refine evC_to ok e1 fun v1 H1 x1 ro1 ok1 rp1 => ?_
    split at e3
    · rename_i t ks vs heq
      split at e3
      · rename_i hk
        have pre : ∃ p, v1 = .ref p ∧ IsX H1 p := isX_of rp1
        obtain ⟨p, rfl, hd⟩ := pre
        refine ⟨p, rfl, hd, evC_to ok1 e2 fun v2 H2 x2 ro2 ok2 rp2 => ev_to ok2 ez fun v3 H3 x3 ro3 ok3 rp3 => ?_⟩
        cases e3
        obtain ⟨p', e', _, g⟩ := dget_of (K := X.K) hk (rp1.ext (x2.trans x3) (.inl ok.zr)) (rp2.ext x3 (.inl ok.zr))
        cases e'
        rcases g with ⟨g1, g2⟩ | ⟨d, w', g1, g2, rp⟩
        · exact ⟨_, g2, q _ H3 ((x1.trans x2).trans x3) ro3 (by rw [g1]; exact rp3.mono (Le.less fun z m => Mk.rgt m))⟩
        · exact ⟨_, g2, q _ H3 ((x1.trans x2).trans x3) ro3 (by rw [g1]; exact rp.mono (Le.less fun z m => Mk.lft m))⟩
      · cases e3
    · cases e3
end
end Wl
/-! Expressions: logic, displays, subscripts, calls. -/
namespace Wl
open PySem PySem.Spec PyProof.Rows L2

section
variable {X : Cx} {aR : AR} {F : Fns} {ea eb ec : Expr} {a b c d : IE} {pos : Pos}

/-! ### logic -/
theorem asB_b {x : D} {r r' : Row} {k : Bool} (h : asB x r = .ok k r') : x = .bl k ∧ r' = r := by
  obtain ⟨h1, h2⟩ := asB_ok h
  exact ⟨h1, h2.symm⟩
theorem v_not (ha : PB X ea (tEv aR X.K F a) (tEvT aR X.K F a)) : PB X (.UnaryOp .Not ea pos) (tEv aR X.K F (.not a)) (tEvT aR X.K F (.not a)) := by
  refine ⟨PE.imp (pe_not ha.v) fun σ H Q ⟨Z, H0, env, r, ok, dd, r', e, q⟩ => ?_, PT.imp (pt_not ha.t) fun σ H Q ⟨Z, H0, env, r, ok, dd, r', e, q⟩ => ?_⟩
  · obtain ⟨u, r1, e1, e2⟩ := Res.bind_ok e
    obtain ⟨k, r2, e3, e4⟩ := Res.bind_ok e2
    obtain ⟨rfl, rfl⟩ := asB_b e3
    cases e4
    exact ev_to ok e1 fun v H' x ro ok' rp => by cases rp; exact ⟨k, rfl, q _ H' x ro rfl⟩
  · obtain ⟨u, r1, e1, e2⟩ := Res.bind_ok e
    obtain ⟨k, r2, e3, e4⟩ := Res.bind_ok e2
    obtain ⟨rfl, rfl⟩ := asB_b e3
    cases e4
    exact evT_to ok e1 fun H' x ro ok' => q H' x ro
/-- a boolean operator's whole: value, test -/
structure PBW (X : Cx) (e : Expr) (t : TE) (u : TT) : Prop where
  v : PE X e t
  w : PW X e u
theorem PBW.pb {e : Expr} {t : TE} {u : TT} (h : PBW X e t u) : PB X e t u := ⟨h.v, h.w.pt⟩
theorem v_one {op : BoolOp} (ha : PB X ea (tEv aR X.K F a) (tEvT aR X.K F a)) : PBW X (.BoolOp op [ea] pos) (tEv aR X.K F (.one a)) (tEvT aR X.K F (.one a)) := by
  refine ⟨pe_one ha.v, ?_⟩
  cases op with
  | And => exact pw_and1 ha.t
  | Or => exact pw_or1 ha.t
theorem v_and {e1 e2 : Expr} {es : List Expr} (ha : PB X e1 (tEv aR X.K F a) (tEvT aR X.K F a)) (hb : PBW X (.BoolOp .And (e2 :: es) pos) (tEv aR X.K F b) (tEvT aR X.K F b)) :
    PBW X (.BoolOp .And (e1 :: e2 :: es) pos) (tEv aR X.K F (.and a b)) (tEvT aR X.K F (.and a b)) := by
  refine ⟨PE.imp (pe_and ha.v hb.v) fun σ H Q ⟨Z, H0, env, r, ok, dd, r', e, q⟩ => ?_, ⟨fun wh pins s σ H Q I ⟨Z, H0, env, r, ok, dd, r', e, q⟩ => (pw_and ha.t hb.w).run wh pins s σ H Q I ?_⟩⟩
  · obtain ⟨u, r1, e1, e2⟩ := Res.bind_ok e
    obtain ⟨k, r2, e3, e4⟩ := Res.bind_ok e2
    obtain ⟨rfl, rfl⟩ := asB_b e3
    refine ev_to ok e1 fun v H' x ro ok' rp => ?_
    cases rp
    refine ⟨k, rfl, ?_⟩
    cases k with
    | false => cases e4; exact q _ H' x ro rfl
    | true =>
      obtain ⟨y, r3, e5, e6⟩ := Res.bind_ok e4
      obtain ⟨k', r4, e7, e8⟩ := Res.bind_ok e6
      obtain ⟨rfl, rfl⟩ := asB_b e7
      cases e8
      exact ev_to ok' e5 fun v H2 x2 ro2 ok2 rp2 => by cases rp2; exact q _ H2 (x.trans x2) ro2 rfl
  · obtain ⟨u, r1, e1, e2⟩ := Res.bind_ok e
    obtain ⟨k, r2, e3, e4⟩ := Res.bind_ok e2
    obtain ⟨rfl, rfl⟩ := asB_b e3
    refine evT_to ok e1 fun H' x ro ok' => ?_
    cases k with
    | false => cases e4; exact q H' x ro
    | true =>
      obtain ⟨y, r3, e5, e6⟩ := Res.bind_ok e4
      obtain ⟨k', r4, e7, e8⟩ := Res.bind_ok e6
      obtain ⟨rfl, rfl⟩ := asB_b e7
      cases e8
      exact evT_to ok' e5 fun H2 x2 ro2 ok2 => q H2 (x.trans x2) ro2
theorem v_or {e1 e2 : Expr} {es : List Expr} (ha : PB X e1 (tEv aR X.K F a) (tEvT aR X.K F a)) (hb : PBW X (.BoolOp .Or (e2 :: es) pos) (tEv aR X.K F b) (tEvT aR X.K F b)) :
    PBW X (.BoolOp .Or (e1 :: e2 :: es) pos) (tEv aR X.K F (.or a b)) (tEvT aR X.K F (.or a b)) := by
  refine ⟨PE.imp (pe_or ha.v hb.v) fun σ H Q ⟨Z, H0, env, r, ok, dd, r', e, q⟩ => ?_, ⟨fun wh pins s σ H Q I ⟨Z, H0, env, r, ok, dd, r', e, q⟩ => (pw_or ha.t hb.w).run wh pins s σ H Q I ?_⟩⟩
  · obtain ⟨u, r1, e1, e2⟩ := Res.bind_ok e
    obtain ⟨k, r2, e3, e4⟩ := Res.bind_ok e2
    obtain ⟨rfl, rfl⟩ := asB_b e3
    refine ev_to ok e1 fun v H' x ro ok' rp => ?_
    cases rp
    refine ⟨k, rfl, ?_⟩
    cases k with
    | true => cases e4; exact q _ H' x ro rfl
    | false =>
      obtain ⟨y, r3, e5, e6⟩ := Res.bind_ok e4
      obtain ⟨k', r4, e7, e8⟩ := Res.bind_ok e6
      obtain ⟨rfl, rfl⟩ := asB_b e7
      cases e8
      exact ev_to ok' e5 fun v H2 x2 ro2 ok2 rp2 => by cases rp2; exact q _ H2 (x.trans x2) ro2 rfl
  · obtain ⟨u, r1, e1, e2⟩ := Res.bind_ok e
    obtain ⟨k, r2, e3, e4⟩ := Res.bind_ok e2
    obtain ⟨rfl, rfl⟩ := asB_b e3
    refine evT_to ok e1 fun H' x ro ok' => ?_
    cases k with
    | true => cases e4; exact q H' x ro
    | false =>
      obtain ⟨y, r3, e5, e6⟩ := Res.bind_ok e4
      obtain ⟨k', r4, e7, e8⟩ := Res.bind_ok e6
      obtain ⟨rfl, rfl⟩ := asB_b e7
      cases e8
      exact evT_to ok' e5 fun H2 x2 ro2 ok2 => q H2 (x.trans x2) ro2
theorem v_ite (hc : PT X ec (tEvT aR X.K F c)) (ha : PE X ea (tEv aR X.K F a)) (hb : PE X eb (tEv aR X.K F b)) : PE X (.IfExp ec ea eb pos) (tEv aR X.K F (.ite c a b)) :=
  PE.imp (pe_ifExp hc ha hb) fun σ H Q ⟨Z, H0, env, r, ok, dd, r', e, q⟩ => by
    obtain ⟨u, r1, e1, e2⟩ := Res.bind_ok e
    obtain ⟨k, r2, e3, e4⟩ := Res.bind_ok e2
    obtain ⟨rfl, rfl⟩ := asB_b e3
    refine evT_to ok e1 fun H' x ro ok' => ?_
    cases k with
    | true => exact ev_to ok' e4 fun v H2 x2 ro2 ok2 rp => q _ H2 (x.trans x2) ro2 (rp.mono (Le.less fun z m => Mk.lft m))
    | false => exact ev_to ok' e4 fun v H2 x2 ro2 ok2 rp => q _ H2 (x.trans x2) ro2 (rp.mono (Le.less fun z m => Mk.rgt m))
/-- a value that is a bool, as a test -/
theorem v_b (ha : PE X ea (tEv aR X.K F a)) (he : ∀ whole, isTrue ea X.env whole = (do let v ← whole; standAt ea.pos; holding [v] (truthy v))) : PB X ea (tEv aR X.K F a) (tEvT aR X.K F a) :=
  ⟨ha, PT.imp (pt_val ha he) fun σ H Q ⟨Z, H0, env, r, ok, dd, r', e, q⟩ => ev_to ok e fun v H' x ro ok' rp => by cases rp; exact ⟨dd, rfl, q H' x ro⟩⟩

/-! ### lists of arguments, displays -/
theorem evA_to {Z : Addr → Prop} {H0 H : Hp} {σ : L2.St} {env : Env} {r : Row} {K : PySem.W.Frag} {ie : IE} {l : List D} {r' : Row} {Q : List V → Hp → Prop} (ok : Ok aR K Z H0 σ H env r) (e : ev F ie env r = .ok (.tup l) r')
    (h : ∀ v H', Ext aR H H' → RowOk aR K H' r' → Ok aR K Z H0 σ H' env r' → Reps aR H' (Mk Z σ env (al ie)) l v → Q v H') : tEvA aR K F ie σ H Q :=
  ⟨Z, H0, env, r, ok, l, r', e, fun v H' x ro rp => h v H' x ro (ok.grow x ro) rp⟩
theorem a_nil : PA X [] (tEvA aR X.K F .nil) := PA.imp pa_nil fun σ H Q ⟨Z, H0, env, r, ok, l, r', e, q⟩ => by
  injection e with e1 e2
  subst e2
  injection e1 with e1
  subst e1
  exact q [] H .refl ok.row rfl
theorem a_cons {es : List Expr} (ha : PE X ea (tEv aR X.K F a)) (hb : PA X es (tEvA aR X.K F b)) (hs : starEach (ea :: es) X.env = (false, eval ea X.env) :: starEach es X.env) : PA X (ea :: es) (tEvA aR X.K F (.cons a b)) :=
  PA.imp (pa_cons ha hb hs) fun σ H Q ⟨Z, H0, env, r, ok, l, r', e, q⟩ => by
    obtain ⟨u, r1, w, r2, e1, e2, e3⟩ := bind2 (f := fun _ _ => .no) e
    split at e3
    · cases e3
      refine ev_to ok e1 fun v1 H1 x1 ro1 ok1 rp1 => evA_to ok1 e2 fun v2 H2 x2 ro2 ok2 rp2 => q _ H2 (x1.trans x2) ro2 ⟨v1, v2, rfl, ?_, rp2.mono (Le.less fun z m => Mk.rgt m)⟩
      exact (rp1.mono (x2.le (.inl ok.zr))).mono (Le.less fun z m => Mk.lft m)
    · cases e3
theorem a_star {es : List Expr} {p : Pos} (ha : PE X ea (tEvC aR X.K F a)) (hb : PA X es (tEvA aR X.K F b)) : PA X (.Starred ea p :: es) (tEvA aR X.K F (.star a b)) :=
  PA.imp (StX.pa_star ha hb) fun σ H Q ⟨Z, H0, env, r, ok, l, r', e, q⟩ => by
    obtain ⟨u, r1, w, r2, e1, e2, e3⟩ := bind2 (f := fun _ _ => .no) e
    refine evC_to ok e1 fun v1 H1 x1 ro1 ok1 rp1 => ?_
    split at e3
    · cases e3
      obtain ⟨p, vs, rfl, h1, n1, rp1⟩ := rp1
      exact ⟨p, vs, rfl, .inl h1.of, evA_to ok1 e2 fun v2 H2 x2 ro2 ok2 rp2 => q _ H2 (x1.trans x2) ro2
        (((rp1.mono (x2.le (.inl ok.zr))).mono (Le.less fun z m => Mk.lft m)).append (rp2.mono (Le.less fun z m => Mk.rgt m)))⟩
    · cases e3
      obtain ⟨p, vs, rfl, h1, n1, rp1⟩ := rp1
      exact ⟨p, vs, rfl, .inr (.of h1), evA_to ok1 e2 fun v2 H2 x2 ro2 ok2 rp2 => q _ H2 (x1.trans x2) ro2
        (((rp1.mono (x2.le (.inl ok.zr))).mono (Le.less fun z m => Mk.lft m)).append (rp2.mono (Le.less fun z m => Mk.rgt m)))⟩
    · cases e3
theorem keep_new {H : Hp} {p : Addr} {o : HO} (hp : H p = none) : ∀ z o', H z = some o' → (upd H p o) z = some o' := fun z o' e' => by rw [upd_ne (ne_of_none e' hp)]; exact e'
theorem v_tup {es : List Expr} {x1 : Nat} (h : PA X es (tEvA aR X.K F a)) : PE X (.Tuple es x1 pos) (tEv aR X.K F (.tup a)) :=
  PE.imp (pe_tupS h) fun σ H Q ⟨Z, H0, env, r, ok, dd, r', e, q⟩ => by
    obtain ⟨u, r1, e1, e2⟩ := Res.bind_ok e
    split at e2
    · split at e2
      · rename_i hz
        cases e2
        refine evA_to ok e1 fun v H' x ro ok' rp => ⟨by rw [rp.length, ← SZ_eq]; exact hz, fun p o hp hd => q _ _ (x.trans (.new hp)) (ro.keep (keep_new hp)) ?_⟩
        exact rep_newT (fun z m => let ⟨o, h, _⟩ := ok'.mkk z m; ⟨o, h⟩) hp hd rp
      · cases e2
    · cases e2
/-! ### subscripts -/
theorem at_of {K : PySem.W.Frag} {H : Hp} {Z : Addr → Prop} {l : List D} {vs : List V} {k : Int} {d : D} (h : Reps aR H Z l vs) (e : atD l k = some d) : ∃ v, atI vs k = some v ∧ Rep aR H Z d v := by
  unfold atD atI at e
  unfold atI
  rw [h.length]
  cases q : ixN l.length k with
  | none => rw [q] at e; cases e
  | some j =>
    rw [q] at e
    exact h.get (i := j) e
theorem v_idx {i : IE} {ei : Expr} (hs : PlainIx ei) (ha : PE X ea (tEvC aR X.K F a)) (hi : PE X ei (tEvC aR X.K F i)) : PE X (.Subscript ea ei pos) (tEv aR X.K F (.idx a i)) :=
  PE.imp (pe_ix ix_seq ha hi hs) fun σ H Q ⟨Z, H0, env, r, ok, dd, r', e, q⟩ => by
    obtain ⟨u, r1, w, r2, e1, e2, e3⟩ := bind2 (f := fun _ _ => .no) e
    refine two_to ok e1 e2 fun v1 v2 H' x ro ok' rp1 rp2 => ?_
    split at e3
    · obtain ⟨e4, rfl⟩ := Res.of_ok e3
      obtain ⟨p, vs, rfl, h1, n1, rp⟩ := rp1
      cases rp2
      obtain ⟨v, e5, rp'⟩ := at_of (K := X.K) rp e4
      exact .inl ⟨p, vs, _, v, rfl, rfl, .of h1, e5, q _ H' x ro rp'⟩
    · obtain ⟨e4, rfl⟩ := Res.of_ok e3
      obtain ⟨p, vs, rfl, h1, n1, rp⟩ := rp1
      cases rp2
      obtain ⟨v, e5, rp'⟩ := at_of (K := X.K) rp e4
      exact .inr (.inl ⟨p, vs, _, v, rfl, rfl, h1.of, e5, q _ H' x ro rp'⟩)
    · cases e3
theorem cut_of {H : Hp} {Z : Addr → Prop} {l : List D} {vs : List V} (h : Reps aR H Z l vs) (lo hi : Option Int) : Reps aR H Z (cutD l lo hi) (cutV vs lo hi) := by
  unfold cutD cutV
  rw [h.length]
  exact (h.drop _).take _
structure POi (X : Cx) (o : Option Expr) (t : TO) : Prop where
  p : PO X o t
def tEvO (aR : AR) (K : PySem.W.Frag) (F : Fns) (ie : IE) : TO := fun σ H Q => ∃ Z H0 env r, Ok aR K Z H0 σ H env r ∧ ∃ d r' i, ev F ie env r = .ok d r' ∧ partD d = some i ∧
  ∀ H', Ext aR H H' → RowOk aR K H' r' → Q i H'
theorem PO.imp {o : Option Expr} {t t' : TO} (h : PO X o t) (w : ∀ σ H Q, t' σ H Q → t σ H Q) : PO X o t' := ⟨fun pins s σ H Q I q => h.run pins s σ H Q I (w σ H Q q)⟩
theorem o_none : PO X none (tEvO aR X.K F .non) := PO.imp po_none fun σ H Q ⟨Z, H0, env, r, ok, d, r', i, e, p, q⟩ => by
  cases e
  cases p
  exact q H .refl ok.row
theorem v_slc {lo hi : IE} {el eh : Option Expr} {p2 : Pos} (ha : PE X ea (tEvC aR X.K F a)) (hl : PO X el (tEvO aR X.K F lo)) (hh : PO X eh (tEvO aR X.K F hi)) :
    PE X (.Subscript ea (.Slice el eh none p2) pos) (tEv aR X.K F (.slc a lo hi)) :=
  PE.imp (pe_slice (sl_list.or sl_tupS) ha hl hh) fun σ H Q ⟨Z, H0, env, r, ok, dd, r', e, q⟩ => by
    obtain ⟨u, r1, e1, e⟩ := Res.bind_ok e
    obtain ⟨y, r2, e2, e⟩ := Res.bind_ok e
    obtain ⟨z, r3, e3, e⟩ := Res.bind_ok e
    split at e
    · rename_i i j h1 h2
      refine evC_to ok e1 fun v1 H1 x1 ro1 ok1 rp1 => ⟨Z, H0, env, r1, ok1, y, r2, i, e2, h1, fun H2 x2 ro2 => ⟨Z, H0, env, r2, ok1.grow x2 ro2, z, r3, j, e3, h2, fun H3 x3 ro3 => ?_⟩⟩
      have ok3 := (ok1.grow x2 ro2).grow x3 ro3
      have rp := rp1.ext (x2.trans x3) (.inl ok.zr)
      have xx := x1.trans (x2.trans x3)
      have zk : ∀ z, Mk Z σ env (al (.slc a lo hi)) z → ∃ o, H3 z = some o := fun z m => let ⟨o, h, _⟩ := ok3.mkk z m; ⟨o, h⟩
      split at e
      · cases e
        have rp' : Rep aR H3 (Mk Z σ env (alC a)) _ _ := rp
        obtain ⟨p, vs, rfl, h1, n1, rps⟩ := id rp'
        refine .inr ⟨p, vs, rfl, h1.of, fun hw => q _ H3 xx ro3 ?_, fun _ p' o hp hd => q _ _ (xx.trans (.new hp)) (ro3.keep (keep_new hp)) (rep_newT zk hp hd (cut_of rps _ _))⟩
        have he : ∀ l : List D, vs.length = l.length → cutD l i j = l := fun l hl => by
          unfold cutD
          rw [hl] at hw
          rw [show cutIx l.length 0 i = 0 from hw.1, show cutIx l.length l.length j = l.length from hw.2]
          simp
        rw [he _ rps.length]
        exact rp'
      · cases e
        obtain ⟨p, vs, rfl, h1, n1, rps⟩ := rp
        exact .inl ⟨p, vs, rfl, .of h1, fun p' hp => q _ _ (xx.trans (.new hp)) (ro3.keep (keep_new hp)) (rep_newL zk hp (cut_of rps _ _))⟩
      · cases e
    · cases e
end
end Wl
/-! Calls; new things; iterables; comprehensions. -/
namespace Wl
open PySem PySem.Spec PyProof.Rows L2

/-! ### errors -/
/-- what the context lets out -/
def EX (X : Cx) : XK := fun cls d H => ∃ E : XK, Takes X (fun cls d _ H => E cls d H) ∧ E cls d H
theorem takes_EX {X : Cx} : Takes X (fun cls d _ H => EX X cls d H) := fun u s' ⟨a, B, sI, pins, σ, H, cls, d, e, I, nb, up, sky, na, os, ag, E, tk, w⟩ => tk u s' ⟨a, B, sI, pins, σ, H, cls, d, e, I, nb, up, sky, na, os, ag, w⟩
def argV : D → V → Prop
  | .non, v => v = .non
  | .int i, v => v = .int i
  | _, _ => False
/-- an error that flies: its class, its field -/
def ExcAt (aR : AR) (H : Hp) (e : Ex) (cls : Value) (d : Option Addr) : Prop := ∃ (C : Addr) (fo : Option Str), aR.ea e.cls = some (C, fo) ∧ cls = .ref C ∧ match fo with
  | none => d = none
  | some f => ∃ (dd : Addr) (v : V), d = some dd ∧ H dd = some (.xd [(f, v)]) ∧ argV e.arg v
/-- a def's promise, by a function of data -/
def spOf (aR : AR) (K : PySem.W.Frag) (np : Nat) (G : List D → Row → Res D) : Sp := fun vs H Q E => vs.length = np ∧ ∃ Z ds r, Z aR ∧ (∀ a, Z a → ∃ o, H a = some o ∧ lk o) ∧ RowOk aR K H r ∧ Reps aR H Z ds vs ∧
  ((∃ d r', G ds r = .ok d r' ∧ ∀ v H', Ext aR H H' → RowOk aR K H' r' → Rep aR H' Z d v → Q v H') ∨
   ∃ e r', G ds r = .ex e r' ∧ ∀ cls d H', Ext aR H H' → RowOk aR K H' r' → ExcAt aR H' e cls d → E cls d H')
/-- what is raised, followed -/
def tRz (aR : AR) (K : PySem.W.Frag) (F : Fns) (E0 : XK) (ie : IE) : L2.St → Hp → Prop := fun σ H => ∃ Z H0 env r, Ok aR K Z H0 σ H env r ∧ ∃ e r', rx F ie env r = some (e, r') ∧
  ∀ cls d H', Ext aR H H' → RowOk aR K H' r' → ExcAt aR H' e cls d → E0 cls d H'
def tRx (aR : AR) (K : PySem.W.Frag) (F : Fns) (E0 : XK) (ie : IE) : TE := fun σ H _ => tRz aR K F E0 ie σ H
def tRxA (aR : AR) (K : PySem.W.Frag) (F : Fns) (E0 : XK) (ie : IE) : TA := fun σ H _ => tRz aR K F E0 ie σ H
def tRxS (aR : AR) (K : PySem.W.Frag) (F : Fns) (E0 : XK) (ie : IE) : TS := fun _ σ H => tRz aR K F E0 ie σ H
theorem rz_no {X : Cx} {aR : AR} {F : Fns} {E0 : XK} {e : Expr} {ie : IE} (h : ∀ env r, rx F ie env r = none) : PE X e (tRx aR X.K F E0 ie) := ⟨fun pins s σ H Q I ⟨Z, H0, env, r, ok, ex, r', e, q⟩ => by rw [h] at e; cases e⟩
theorem rzA_no {X : Cx} {aR : AR} {F : Fns} {E0 : XK} {es : List Expr} {ie : IE} (h : ∀ env r, rx F ie env r = none) : PA X es (tRxA aR X.K F E0 ie) := ⟨fun pos pins s σ H Q I ⟨Z, H0, env, r, ok, ex, r', e, q⟩ => by rw [h] at e; cases e⟩
theorem PA.or {X : Cx} {es : List Expr} {t u : TA} (h1 : PA X es t) (h2 : PA X es u) : PA X es (fun σ H Q => t σ H Q ∨ u σ H Q) := ⟨fun pos pins s σ H Q I q => q.elim (h1.run pos pins s σ H Q I) (h2.run pos pins s σ H Q I)⟩
theorem PE.or2 {X : Cx} {e : Expr} {t u : TE} (h1 : PE X e t) (h2 : PE X e u) : PE X e (fun σ H Q => t σ H Q ∨ u σ H Q) := ⟨fun pins s σ H Q I q => q.elim (h1.run pins s σ H Q I) (h2.run pins s σ H Q I)⟩

section
variable {X : Cx} {aR : AR} {F : Fns} {ea eb ec : Expr} {a b c d : IE} {pos : Pos}
theorem rz_to {Z : Addr → Prop} {H0 H H1 : Hp} {σ : L2.St} {env : Env} {r1 r' : Row} {E0 : XK} {ex : Ex} (ok : Ok aR X.K Z H0 σ H1 env r1) (x : Ext aR H H1) (e : rx F a env r1 = some (ex, r'))
    (q : ∀ cls d H', Ext aR H H' → RowOk aR X.K H' r' → ExcAt aR H' ex cls d → E0 cls d H') : tRz aR X.K F E0 a σ H1 := ⟨Z, H0, env, r1, ok, ex, r', e, fun cls d H' x' => q cls d H' (x.trans x')⟩
theorem x_alt (h1 : PE X ea (tRx aR X.K F (EX X) a)) (h2 : PE X ea (tRx aR X.K F (EX X) b)) : PE X ea (tRx aR X.K F (EX X) (.alt a b)) :=
  PE.imp (PE.or2 h1 h2) fun σ H Q ⟨Z, H0, env, r, ok, ex, r', e, q⟩ => by
    unfold rx at e
    split at e
    · exact .inr ⟨Z, H0, env, r, ok, ex, r', e, q⟩
    · exact .inl ⟨Z, H0, env, r, ok, ex, r', e, q⟩
theorem xa_cons {es : List Expr} (ha : PE X ea (tEv aR X.K F a)) (hx : PE X ea (tRx aR X.K F (EX X) a)) (hb : PA X es (tEvA aR X.K F b)) (hy : PA X es (tRxA aR X.K F (EX X) b)) (hs : starEach (ea :: es) X.env = (false, eval ea X.env) :: starEach es X.env) : PA X (ea :: es) (tRxA aR X.K F (EX X) (.cons a b)) :=
  PA.imp (PA.or (pa_cons ha hy hs) (pa_cons hx hb hs)) fun σ H Q ⟨Z, H0, env, r, ok, ex, r', e, q⟩ => by
    unfold rx at e
    split at e
    · rename_i d r1 e1
      exact .inl (ev_to ok e1 fun v H1 x1 ro1 ok1 _ => rz_to ok1 x1 e q)
    · exact .inr ⟨Z, H0, env, r, ok, ex, r', e, q⟩

theorem v_call0 {k f np : Nat} {g : Addr} {fd : FuncData} {ps : List Str} {x : Str} {p : Pos} {es : List Expr} {t : TA} (hf : FnOk X.prog X.w X.K X.mg X.base (L2.CX X.prog X.w) k g fd ps (spOf aR X.K np (F f)))
    (hr : Room k X.A) (hg : Gl X x) (hm : X.mg x = some (.ref g)) (hk : PySem.W.keepIn X.K (.ref g) = true) (hb : Binds X.K fd ps []) (ha : PA X (ea :: es) t) (hdb : (x == ("__debug__" : Str)) = false)
    (he : starEach (ea :: es) X.env = (false, eval ea X.env) :: starEach es X.env) (hpl : (backTo pos (starEach es X.env)).any (·.1) = false) :
    PE X (.Call (.Name x p) (ea :: es) [] pos) (fun σ H Q => t σ H fun vs H1 => spOf aR X.K np (F f) vs H1 Q (EX X)) :=
  PE.imp (pe_call hf hr hg hm hk hb .nil (passes_call takes_EX fun _ _ _ _ h => h) ha hdb he hpl) fun σ H Q q => by
    show t σ H fun vs H1 => spOf aR X.K np (F f) (vs ++ []) H1 Q (EX X)
    have e0 : (fun (vs : List V) (H1 : Hp) => spOf aR X.K np (F f) (vs ++ []) H1 Q (EX X)) = fun vs H1 => spOf aR X.K np (F f) vs H1 Q (EX X) := by
      funext vs H1
      rw [List.append_nil]
    rw [e0]
    exact q
theorem sp_ok {f np : Nat} {Z : Addr → Prop} {l : List D} {vs : List V} {H : Hp} {Q : VK} {E : XK} {r r' : Row} {d : D} (hlen : ∀ l r, F f l r ≠ .no → l.length = np) (zr : Z aR) (zk : ∀ a, Z a → ∃ o, H a = some o ∧ lk o) (ro : RowOk aR X.K H r) (rp : Reps aR H Z l vs) (e : F f l r = .ok d r')
    (q : ∀ v H', Ext aR H H' → RowOk aR X.K H' r' → Rep aR H' Z d v → Q v H') : spOf aR X.K np (F f) vs H Q E :=
  ⟨by rw [rp.length]; exact hlen _ _ (by rw [e]; intro z; cases z), Z, l, r, zr, zk, ro, rp, .inl ⟨d, r', e, q⟩⟩
theorem sp_ex {f np : Nat} {Z : Addr → Prop} {l : List D} {vs : List V} {H : Hp} {Q : VK} {E : XK} {r r' : Row} {ex : Ex} (hlen : ∀ l r, F f l r ≠ .no → l.length = np) (zr : Z aR) (zk : ∀ a, Z a → ∃ o, H a = some o ∧ lk o) (ro : RowOk aR X.K H r) (rp : Reps aR H Z l vs) (e : F f l r = .ex ex r')
    (q : ∀ cls d H', Ext aR H H' → RowOk aR X.K H' r' → ExcAt aR H' ex cls d → E cls d H') : spOf aR X.K np (F f) vs H Q E :=
  ⟨by rw [rp.length]; exact hlen _ _ (by rw [e]; intro z; cases z), Z, l, r, zr, zk, ro, rp, .inr ⟨ex, r', e, q⟩⟩
theorem v_call {k f np : Nat} {g : Addr} {fd : FuncData} {ps : List Str} {x : Str} {p : Pos} {es : List Expr} (hf : FnOk X.prog X.w X.K X.mg X.base (L2.CX X.prog X.w) k g fd ps (spOf aR X.K np (F f))) (hlen : ∀ l r, F f l r ≠ .no → l.length = np)
    (hr : Room k X.A) (hg : Gl X x) (hm : X.mg x = some (.ref g)) (hk : PySem.W.keepIn X.K (.ref g) = true) (hb : Binds X.K fd ps []) (ha : PA X (ea :: es) (tEvA aR X.K F a)) (hdb : (x == ("__debug__" : Str)) = false)
    (he : starEach (ea :: es) X.env = (false, eval ea X.env) :: starEach es X.env) (hpl : (backTo pos (starEach es X.env)).any (·.1) = false) :
    PE X (.Call (.Name x p) (ea :: es) [] pos) (tEv aR X.K F (.call f a)) :=
  PE.imp (v_call0 hf hr hg hm hk hb ha hdb he hpl) fun σ H Q ⟨Z, H0, env, r, ok, dd, r', e, q⟩ => by
    obtain ⟨u, r1, e1, e2⟩ := Res.bind_ok e
    split at e2
    · exact evA_to ok e1 fun vs H' x ro ok' rp => sp_ok hlen ok'.mr ok'.mkk ro rp e2 fun v H2 x2 ro2 rp2 => q v H2 (x.trans x2) ro2 rp2
    · cases e2
theorem x_call {k f np : Nat} {g : Addr} {fd : FuncData} {ps : List Str} {x : Str} {p : Pos} {es : List Expr} (hf : FnOk X.prog X.w X.K X.mg X.base (L2.CX X.prog X.w) k g fd ps (spOf aR X.K np (F f))) (hlen : ∀ l r, F f l r ≠ .no → l.length = np)
    (hr : Room k X.A) (hg : Gl X x) (hm : X.mg x = some (.ref g)) (hk : PySem.W.keepIn X.K (.ref g) = true) (hb : Binds X.K fd ps []) (ha : PA X (ea :: es) (tEvA aR X.K F a)) (hx : PA X (ea :: es) (tRxA aR X.K F (EX X) a)) (hdb : (x == ("__debug__" : Str)) = false)
    (he : starEach (ea :: es) X.env = (false, eval ea X.env) :: starEach es X.env) (hpl : (backTo pos (starEach es X.env)).any (·.1) = false) :
    PE X (.Call (.Name x p) (ea :: es) [] pos) (tRx aR X.K F (EX X) (.call f a)) :=
  PE.imp (PE.or2 (v_call0 hf hr hg hm hk hb ha hdb he hpl) (v_call0 hf hr hg hm hk hb hx hdb he hpl)) fun σ H Q ⟨Z, H0, env, r, ok, ex, r', e, q⟩ => by
    unfold rx at e
    split at e
    · rename_i l r1 e1
      split at e
      · rename_i ex2 r2 e2
        cases e
        exact .inl (evA_to ok e1 fun vs H' x ro ok' rp => sp_ex hlen ok'.mr ok'.mkk ro rp e2 fun cls d H2 x2 => q cls d H2 (x.trans x2))
      · cases e
    · cases e
    · exact .inr ⟨Z, H0, env, r, ok, ex, r', e, q⟩
/-- a def that a slot holds -/
theorem v_callv0 {i k : Nat} {g : Addr} {x : Str} {p : Pos} {es : List Expr} {t : TA} (hN : X.N[i]? = some x) (hv : Vis X.env.scope x) (hdb : (x == ("__debug__" : Str)) = false) (hcd : (x == ("__classdict__" : Str)) = false)
    (hf : ∃ (kk np : Nat) (fd : FuncData) (ps : List Str), PySem.W.keepIn X.K (.ref g) = true ∧ Binds X.K fd ps [] ∧ FnOk X.prog X.w X.K X.mg X.base (L2.CX X.prog X.w) kk g fd ps (spOf aR X.K np (F k)) ∧ Room kk X.A ∧ ∀ l r, F k l r ≠ .no → l.length = np)
    (ha : PA X (ea :: es) t) (he : starEach (ea :: es) X.env = (false, eval ea X.env) :: starEach es X.env) (hpl : (backTo pos (starEach es X.env)).any (·.1) = false) :
    ∃ np, (∀ l r, F k l r ≠ .no → l.length = np) ∧ PE X (.Call (.Name x p) (ea :: es) [] pos) (fun σ H Q => σ[i]? = some (some (.ref g)) ∧ t σ H fun vs H1 => spOf aR X.K np (F k) vs H1 Q (EX X)) := by
  obtain ⟨kk, np, fd, ps, h1, h2, h3, h4, h5⟩ := hf
  refine ⟨np, h5, PE.imp (pe_callL (i := i) h3 h4 hN hv h1 h2 .nil (passes_call takes_EX fun _ _ _ _ h => h) ha hdb hcd he hpl) fun σ H Q q => ⟨q.1, ?_⟩⟩
  have e0 : (fun (vs : List V) (H1 : Hp) => spOf aR X.K np (F k) (vs ++ []) H1 Q (EX X)) = fun vs H1 => spOf aR X.K np (F k) vs H1 Q (EX X) := by
    funext vs H1
    rw [List.append_nil]
  rw [e0]
  exact q.2
theorem isFn_some {s : Option Sl} {k : Nat} (h : isFn s = some k) : s = some (.fz (.fn k)) := by
  unfold isFn at h
  split at h
  · cases h; rfl
  · cases h
section
variable {i : Nat} {x : Str} {p : Pos} {es : List Expr} (hN : X.N[i]? = some x) (hv : Vis X.env.scope x) (hdb : (x == ("__debug__" : Str)) = false) (hcd : (x == ("__classdict__" : Str)) = false)
    (hf : ∀ k g, aR.fa k = some g → ∃ (kk np : Nat) (fd : FuncData) (ps : List Str), PySem.W.keepIn X.K (.ref g) = true ∧ Binds X.K fd ps [] ∧ FnOk X.prog X.w X.K X.mg X.base (L2.CX X.prog X.w) kk g fd ps (spOf aR X.K np (F k)) ∧ Room kk X.A ∧ ∀ l r, F k l r ≠ .no → l.length = np)
    (ha : PA X (ea :: es) (tEvA aR X.K F a)) (he : starEach (ea :: es) X.env = (false, eval ea X.env) :: starEach es X.env) (hpl : (backTo pos (starEach es X.env)).any (·.1) = false)
include hN hv hdb hcd hf ha he hpl
theorem v_callv : PE X (.Call (.Name x p) (ea :: es) [] pos) (tEv aR X.K F (.callv i a)) := by
  refine ⟨fun pins s σ H Q I ⟨Z, H0, env, r, ok, dd, r', e, q⟩ => ?_⟩
  obtain ⟨u, r1, e1, e2⟩ := Res.bind_ok e
  split at e2
  · rename_i l k hk
    obtain ⟨v, h1, g, h2, rfl⟩ := ok.fz i _ (isFn_some hk)
    obtain ⟨np, hl, P⟩ := v_callv0 (F := F) (pos := pos) hN hv hdb hcd (hf k g h2) ha he hpl
    exact P.run pins s σ H Q I ⟨h1, evA_to ok e1 fun vs H' x ro ok' rp => sp_ok hl ok'.mr ok'.mkk ro rp e2 fun v H2 x2 ro2 rp2 => q v H2 (x.trans x2) ro2 rp2⟩
  · cases e2
theorem x_callv : PE X (.Call (.Name x p) (ea :: es) [] pos) (tRx aR X.K F (EX X) (.callv i a)) := by
  refine ⟨fun pins s σ H Q I ⟨Z, H0, env, r, ok, ex, r', e, q⟩ => ?_⟩
  unfold rx at e
  split at e
  · rename_i l r1 k e1 hk
    split at e
    · rename_i ex2 r2 e2
      cases e
      obtain ⟨v, h1, g, h2, rfl⟩ := ok.fz i _ (isFn_some hk)
      obtain ⟨np, hl, P⟩ := v_callv0 (F := F) (pos := pos) hN hv hdb hcd (hf k g h2) ha he hpl
      exact P.run pins s σ H Q I ⟨h1, evA_to ok e1 fun vs H' x ro ok' rp => sp_ex hl ok'.mr ok'.mkk ro rp e2 fun cls d H2 x2 => q cls d H2 (x.trans x2)⟩
    · cases e
  · cases e
end
/-- a def as a value -/
theorem v_fnv {k : Nat} {g : Addr} {x : Str} {p : Pos} (hg : Gl X x) (hm : X.mg x = some (.ref g)) (hfa : aR.fa k = some g) (hdb : (x == ("__debug__" : Str)) = false) : PE X (.Name x p) (tEv aR X.K F (.fnv k)) :=
  PE.imp (C8.pe_gc (v := .ref g) hg ⟨_, hm, rfl⟩ hdb) fun σ H Q ⟨Z, H0, env, r, ok, dd, r', e, q⟩ => by
    cases e
    exact q _ H .refl ok.row ⟨g, hfa, rfl⟩

/-! ### built-in functions of one thing -/
theorem pa_1 {t : TE} (ha : PE X ea t) (hs : starEach [ea] X.env = (false, eval ea X.env) :: starEach [] X.env) : PA X [ea] (tCons t tNil) := pa_cons ha pa_nil hs
/-- what such a function's rule asks, from the data -/
def Red (aR : AR) (f : Bf) (r : List V → Hp → VK → Prop) : Prop := ∀ (H : Hp) (Z : Addr → Prop) (x d : D) (v : V) (Q : VK), (∀ a, Z a → ∃ o, H a = some o ∧ lk o) → bfD f x = some d → RepC aR H Z x v →
  (∀ u, Rep aR H Z d u → Q u H) → (∀ p o, H p = none → Rep aR (upd H p o) Z d (.ref p) → Q (.ref p) (upd H p o)) → r [v] H Q
theorem v_bltF {f : Bf} {id : String} {x : Str} {p : Pos} {r : List V → Hp → VK → Prop} (hc : CallR X (.builtin id) r) (red : Red aR f r) (hg : Gl X x) (hm : X.mg x = none) (hv : bootBuiltins x = some (.builtin id)) (hn : x ≠ "__name__") (hdb : (x == ("__debug__" : Str)) = false)
    (ha : PE X ea (tEvC aR X.K F a)) (hs : starEach [ea] X.env = (false, eval ea X.env) :: starEach [] X.env) : PE X (.Call (.Name x p) [ea] [] pos) (tEv aR X.K F (.blt f a)) :=
  PE.imp (pe_callB hc hg hm hv (pa_1 ha hs) hn hdb hs rfl) fun σ H Q ⟨Z, H0, env, r, ok, dd, r', e, q⟩ => by
    obtain ⟨u, r1, e1, e2⟩ := Res.bind_ok e
    obtain ⟨e3, rfl⟩ := Res.of_ok e2
    refine evC_to ok e1 fun v H' x ro ok' rp => ?_
    exact red H' (Mk Z σ env (alC a)) u dd v Q ok'.mkk e3 rp (fun w rp' => q w H' x ro rp') fun p o hp rp' => q _ _ (x.trans (.new hp)) (ro.keep (keep_new hp)) rp'
theorem v_bltT {f : Bf} {T : String} {x : Str} {p : Pos} {r : List V → Hp → VK → Prop} (hc : CallR X (.type T) r) (red : Red aR f r) (hg : Gl X x) (hm : X.mg x = none) (hv : bootBuiltins x = some (.type T)) (hn : x ≠ "__name__") (hdb : (x == ("__debug__" : Str)) = false)
    (ha : PE X ea (tEvC aR X.K F a)) (hs : starEach [ea] X.env = (false, eval ea X.env) :: starEach [] X.env) : PE X (.Call (.Name x p) [ea] [] pos) (tEv aR X.K F (.blt f a)) :=
  PE.imp (pe_callTy hc hg hm hv (pa_1 ha hs) hn hdb hs rfl) fun σ H Q ⟨Z, H0, env, r, ok, dd, r', e, q⟩ => by
    obtain ⟨u, r1, e1, e2⟩ := Res.bind_ok e
    obtain ⟨e3, rfl⟩ := Res.of_ok e2
    refine evC_to ok e1 fun v H' x ro ok' rp => ?_
    exact red H' (Mk Z σ env (alC a)) u dd v Q ok'.mkk e3 rp (fun w rp' => q w H' x ro rp') fun p o hp rp' => q _ _ (x.trans (.new hp)) (ro.keep (keep_new hp)) rp'

theorem ints_of {H : Hp} {Z : Addr → Prop} : ∀ {l : List D} {ns : List Int} {vs : List V}, intsD l = some ns → Reps aR H Z l vs → vs = ns.map V.int ∧ l = ns.map D.int
  | [], _, _, e, h => by cases e; cases h; exact ⟨rfl, rfl⟩
  | .int i :: l, _, _, e, ⟨v, r, e1, h1, h2⟩ => by
    unfold intsD at e
    obtain ⟨ns, e2, rfl⟩ := Option.map_eq_some_iff.mp e
    obtain ⟨e3, e4⟩ := ints_of e2 h2
    cases h1
    exact ⟨by rw [e1, e3]; rfl, by rw [e4]; rfl⟩
  | .non :: _, _, _, e, _ => by cases e
  | .bl _ :: _, _, _, e, _ => by cases e
  | .str _ :: _, _, _, e, _ => by cases e
  | .tup _ :: _, _, _, e, _ => by cases e
  | .lst _ :: _, _, _, e, _ => by cases e
  | .dct _ _ _ :: _, _, _, e, _ => by cases e
  | .row :: _, _, _, e, _ => by cases e
  | .fn _ :: _, _, _, e, _ => by cases e
theorem bls_of {H : Hp} {Z : Addr → Prop} : ∀ {l : List D} {ns : List Bool} {vs : List V}, blsD l = some ns → Reps aR H Z l vs → vs = ns.map V.bl
  | [], _, _, e, h => by cases e; cases h; rfl
  | .bl i :: l, _, _, e, ⟨v, r, e1, h1, h2⟩ => by
    unfold blsD at e
    obtain ⟨ns, e2, rfl⟩ := Option.map_eq_some_iff.mp e
    have e3 := bls_of e2 h2
    cases h1
    rw [e1, e3]; rfl
  | .non :: _, _, _, e, _ => by cases e
  | .int _ :: _, _, _, e, _ => by cases e
  | .str _ :: _, _, _, e, _ => by cases e
  | .tup _ :: _, _, _, e, _ => by cases e
  | .lst _ :: _, _, _, e, _ => by cases e
  | .dct _ _ _ :: _, _, _, e, _ => by cases e
  | .row :: _, _, _, e, _ => by cases e
  | .fn _ :: _, _, _, e, _ => by cases e
theorem reps_ints {H : Hp} {Z : Addr → Prop} : ∀ (ns : List Int), Reps aR H Z (ns.map D.int) (ns.map V.int)
  | [] => rfl
  | n :: ns => ⟨.int n, _, rfl, rfl, reps_ints ns⟩
theorem reps_keys {H : Hp} {Z : Addr → Prop} : ∀ (ns : List Key), Reps aR H Z (ns.map keyD) (ns.map kV)
  | [] => rfl
  | .inl n :: ns => ⟨.int n, _, rfl, rfl, reps_keys ns⟩
  | .inr n :: ns => ⟨.str n, _, rfl, rfl, reps_keys ns⟩
theorem ins_perm (x : Int) : ∀ l : List Int, (insI x l).Perm (x :: l)
  | [] => .refl _
  | y :: l => by
    unfold insI
    split
    · exact .refl _
    · exact ((ins_perm x l).cons y).trans (.swap x y l)
theorem sort_perm : ∀ l : List Int, (sortI l).Perm l
  | [] => .refl _
  | x :: l => (ins_perm x _).trans ((sort_perm l).cons x)
theorem ins_pw (x : Int) : ∀ l : List Int, l.Pairwise (· ≤ ·) → (insI x l).Pairwise (· ≤ ·)
  | [], _ => by simp [insI]
  | y :: l, h => by
    unfold insI
    rw [List.pairwise_cons] at h
    split
    · rename_i hxy
      refine List.pairwise_cons.mpr ⟨fun z hz => ?_, List.pairwise_cons.mpr h⟩
      rcases List.mem_cons.mp hz with rfl | hz
      · exact hxy
      · exact Int.le_trans hxy (h.1 z hz)
    · rename_i hxy
      refine List.pairwise_cons.mpr ⟨fun z hz => ?_, ins_pw x l h.2⟩
      rcases List.mem_cons.mp ((ins_perm x l).mem_iff.mp hz) with rfl | hz
      · omega
      · exact h.1 z hz
theorem sort_pw : ∀ l : List Int, (sortI l).Pairwise (· ≤ ·)
  | [] => .nil
  | x :: l => ins_pw x _ (sort_pw l)
theorem sort_unique {l m : List Int} (p : l.Perm m) (h1 : l.Pairwise (· ≤ ·)) (h2 : m.Pairwise (· ≤ ·)) : l = m :=
  p.eq_of_pairwise (fun _ _ _ _ => Int.le_antisymm) h1 h2
theorem min_of : ∀ {ns : List Int} {m : Int}, minO ns = some m → m ∈ ns ∧ ∀ y ∈ ns, m ≤ y
  | x :: r, m, h => by
    unfold minO at h
    cases e : minO r with
    | none =>
      rw [e] at h; cases h
      cases r with
      | nil => simp
      | cons y r => unfold minO at e; split at e <;> cases e
    | some k =>
      rw [e] at h
      obtain ⟨h1, h2⟩ := min_of e
      have h : (if x ≤ k then x else k) = m := Option.some.inj h
      subst h
      split
      · exact ⟨by simp, fun y hy => by
          rcases List.mem_cons.mp hy with rfl | hy
          · omega
          · have := h2 y hy; omega⟩
      · exact ⟨by simp [h1], fun y hy => by
          rcases List.mem_cons.mp hy with rfl | hy
          · omega
          · exact h2 y hy⟩
theorem max_of : ∀ {ns : List Int} {m : Int}, maxO ns = some m → m ∈ ns ∧ ∀ y ∈ ns, y ≤ m
  | x :: r, m, h => by
    unfold maxO at h
    cases e : maxO r with
    | none =>
      rw [e] at h; cases h
      cases r with
      | nil => simp
      | cons y r => unfold maxO at e; split at e <;> cases e
    | some k =>
      rw [e] at h
      obtain ⟨h1, h2⟩ := max_of e
      have h : (if k ≤ x then x else k) = m := Option.some.inj h
      subst h
      split
      · exact ⟨by simp, fun y hy => by
          rcases List.mem_cons.mp hy with rfl | hy
          · omega
          · have := h2 y hy; omega⟩
      · exact ⟨by simp [h1], fun y hy => by
          rcases List.mem_cons.mp hy with rfl | hy
          · omega
          · exact h2 y hy⟩

theorem red_len {K : PySem.W.Frag} : Red aR .len (fun xs H Q => ∃ p ys, xs = [.ref p] ∧ (SqL K H p ys ∨ SqT K H p ys) ∧ Q (.int ys.length) H) := by
  intro H Z x d v Q zk' e rp q _
  have zk : ∀ a, Z a → ∃ o, H a = some o := fun a z => let ⟨o, h, _⟩ := zk' a z; ⟨o, h⟩
  cases x <;> simp [bfD] at e
  · subst e
    obtain ⟨p, vs, rfl, h1, n1, rp⟩ := rp
    exact ⟨p, vs, rfl, .inr h1.of, q _ (by rw [rp.length]; rfl)⟩
  · subst e
    obtain ⟨p, vs, rfl, h1, n1, rp⟩ := rp
    exact ⟨p, vs, rfl, .inl (.of h1), q _ (by rw [rp.length]; rfl)⟩
theorem red_sorted {K : PySem.W.Frag} : Red aR .sorted (rSortedI K) := by
  intro H Z x d v Q zk' e rp _ q
  have zk : ∀ a, Z a → ∃ o, H a = some o := fun a z => let ⟨o, h, _⟩ := zk' a z; ⟨o, h⟩
  cases x <;> simp [bfD] at e
  obtain ⟨ns, e1, rfl⟩ := e
  obtain ⟨p, vs, rfl, h1, n1, rp⟩ := rp
  obtain ⟨rfl, rfl⟩ := ints_of e1 rp
  refine ⟨p, ns, rfl, .of h1, fun ns' p' hp hw hn => q p' _ hn ?_⟩
  have : ns' = sortI ns := sort_unique (hp.trans (sort_perm ns).symm) hw (sort_pw ns)
  subst this
  exact rep_newL zk hn (reps_ints _)
theorem red_tuple {K : PySem.W.Frag} : Red aR .tuple (fun xs H Q => ∃ p ys, xs = [.ref p] ∧ ((SqL K H p ys ∧ NewT H ys Q) ∨ (SqT K H p ys ∧ Q (.ref p) H))) := by
  intro H Z x d v Q zk' e rp q1 q2
  have zk : ∀ a, Z a → ∃ o, H a = some o := fun a z => let ⟨o, h, _⟩ := zk' a z; ⟨o, h⟩
  cases x <;> simp [bfD] at e
  · subst e
    have rp0 := rp
    obtain ⟨p, vs, rfl, h1, n1, rp⟩ := rp
    exact ⟨p, vs, rfl, .inr ⟨h1.of, q1 _ rp0⟩⟩
  · subst e
    obtain ⟨p, vs, rfl, h1, n1, rp⟩ := rp
    exact ⟨p, vs, rfl, .inl ⟨.of h1, fun l o hl hd => q2 l _ hl (rep_newT zk hl hd rp)⟩⟩
theorem red_list {K : PySem.W.Frag} : Red aR .list (fun xs H Q => ∃ p ys, xs = [.ref p] ∧ (SqL K H p ys ∨ SqT K H p ys) ∧ ∀ l, H l = none → Q (.ref l) (upd H l (.lst ys))) := by
  intro H Z x d v Q zk' e rp q1 q2
  have zk : ∀ a, Z a → ∃ o, H a = some o := fun a z => let ⟨o, h, _⟩ := zk' a z; ⟨o, h⟩
  cases x <;> simp [bfD] at e
  · subst e
    obtain ⟨p, vs, rfl, h1, n1, rp⟩ := rp
    exact ⟨p, vs, rfl, .inr h1.of, fun l hl => q2 l _ hl (rep_newL zk hl rp)⟩
  · subst e
    obtain ⟨p, vs, rfl, h1, n1, rp⟩ := rp
    exact ⟨p, vs, rfl, .inl (.of h1), fun l hl => q2 l _ hl (rep_newL zk hl rp)⟩
theorem red_sum {K : PySem.W.Frag} : Red aR .sum (rSum K) := by
  intro H Z x d v Q zk' e rp q _
  have zk : ∀ a, Z a → ∃ o, H a = some o := fun a z => let ⟨o, h, _⟩ := zk' a z; ⟨o, h⟩
  cases x <;> simp [bfD] at e
  obtain ⟨ns, e1, rfl⟩ := e
  obtain ⟨p, vs, rfl, h1, n1, rp⟩ := rp
  obtain ⟨rfl, rfl⟩ := ints_of e1 rp
  exact ⟨p, ns, rfl, .of h1, q _ rfl⟩
theorem red_min {K : PySem.W.Frag} : Red aR .min (rMin K) := by
  intro H Z x d v Q zk' e rp q _
  have zk : ∀ a, Z a → ∃ o, H a = some o := fun a z => let ⟨o, h, _⟩ := zk' a z; ⟨o, h⟩
  cases x <;> first | (cases e; done) | skip
  have e : (intsD _).bind (fun ns => (minO ns).map D.int) = some d := e
  obtain ⟨ns, e1, e3⟩ := Option.bind_eq_some_iff.mp e
  obtain ⟨m, e2, rfl⟩ := Option.map_eq_some_iff.mp e3
  obtain ⟨p, vs, rfl, h1, n1, rp⟩ := rp
  obtain ⟨rfl, rfl⟩ := ints_of e1 rp
  obtain ⟨m1, m2⟩ := min_of e2
  exact ⟨p, ns, rfl, .of h1, List.length_pos_of_mem m1, fun m' h1 h2 => q _ (by rw [show m' = m from Int.le_antisymm (h2 _ m1) (m2 _ h1)]; rfl)⟩
theorem red_max {K : PySem.W.Frag} : Red aR .max (rMax K) := by
  intro H Z x d v Q zk' e rp q _
  have zk : ∀ a, Z a → ∃ o, H a = some o := fun a z => let ⟨o, h, _⟩ := zk' a z; ⟨o, h⟩
  cases x <;> first | (cases e; done) | skip
  have e : (intsD _).bind (fun ns => (maxO ns).map D.int) = some d := e
  obtain ⟨ns, e1, e3⟩ := Option.bind_eq_some_iff.mp e
  obtain ⟨m, e2, rfl⟩ := Option.map_eq_some_iff.mp e3
  obtain ⟨p, vs, rfl, h1, n1, rp⟩ := rp
  obtain ⟨rfl, rfl⟩ := ints_of e1 rp
  obtain ⟨m1, m2⟩ := max_of e2
  exact ⟨p, ns, rfl, .of h1, List.length_pos_of_mem m1, fun m' h1 h2 => q _ (by rw [show m' = m from Int.le_antisymm (m2 _ h1) (h2 _ m1)]; rfl)⟩
theorem red_any {K : PySem.W.Frag} : Red aR .any (rAny K) := by
  intro H Z x d v Q zk' e rp q _
  have zk : ∀ a, Z a → ∃ o, H a = some o := fun a z => let ⟨o, h, _⟩ := zk' a z; ⟨o, h⟩
  cases x <;> simp [bfD] at e
  obtain ⟨ns, e1, rfl⟩ := e
  obtain ⟨p, vs, rfl, h1, n1, rp⟩ := rp
  have := bls_of e1 rp
  subst this
  exact ⟨p, ns, rfl, .of h1, q _ rfl⟩
theorem red_all {K : PySem.W.Frag} : Red aR .all (rAll K) := by
  intro H Z x d v Q zk' e rp q _
  have zk : ∀ a, Z a → ∃ o, H a = some o := fun a z => let ⟨o, h, _⟩ := zk' a z; ⟨o, h⟩
  cases x <;> simp [bfD] at e
  obtain ⟨ns, e1, rfl⟩ := e
  obtain ⟨p, vs, rfl, h1, n1, rp⟩ := rp
  have := bls_of e1 rp
  subst this
  exact ⟨p, ns, rfl, .of h1, q _ rfl⟩
theorem red_int : Red aR .int (fun xs H Q => (∃ i, xs = [.int i] ∧ Q (.int i) H) ∨ ∃ k, xs = [.bl k] ∧ Q (.int (if k then 1 else 0)) H) := by
  intro H Z x d v Q zk' e rp q _
  have zk : ∀ a, Z a → ∃ o, H a = some o := fun a z => let ⟨o, h, _⟩ := zk' a z; ⟨o, h⟩
  cases x <;> simp [bfD] at e
  subst e
  cases rp
  exact .inl ⟨_, rfl, q _ rfl⟩
theorem cr_lenK : CallR X (.builtin "len") (fun xs H Q => ∃ a kvs, xs = [.ref a] ∧ Rd H a (.dK kvs) ∧ Q (.int kvs.length) H) := by
  intro pins s σ H xs us Q I r h
  obtain ⟨a, kvs, rfl, hd, q⟩ := h
  obtain ⟨u, rfl, rx⟩ := vals1 r
  obtain rfl : u = Value.ref a := rx
  exact d_len I hd fun t s' I' => ⟨.int _, H, I', ⟨_, rfl⟩, q⟩
theorem red_lenD : Red aR .lenD (fun xs H Q => (∃ a kvs, xs = [.ref a] ∧ Rd H a (.dK kvs) ∧ Q (.int kvs.length) H)) := by
  intro H Z x d v Q zk' e rp q _
  cases x <;> first | (cases e; done) | skip
  rename_i t ks vs
  cases t with
  | true => cases e
  | false =>
    obtain ⟨a, kvs, rfl, h1, n1, rfl, rp⟩ := rp
    cases e
    exact ⟨a, kvs, rfl, h1, q _ (by rw [List.length_map]; rfl)⟩
def rListDA (K : PySem.W.Frag) : List V → Hp → VK → Prop := fun xs H Q => (∃ (a : Addr) (kvs : List (Key × V)), xs = [.ref a] ∧ Rd H a (.dK kvs) ∧ ∀ p, H p = none → Q (.ref p) (upd H p (.lst (kvs.map fun kv => kV kv.1)))) ∨
  (∃ d o ks, xs = [V.ref d] ∧ Rd H d (exO d o) ∧ DicO d o ks ∧ ∀ p, H p = none → Q (.ref p) (upd H p (.lst (kRefs ks))))
theorem cr_listD (hc : X.calm = true) : CallR X (.type "list") (rListDA X.K) := by
  intro pins s σ H xs us Q I r h
  rcases h with h | h
  · exact call_listD hc pins s σ H xs us Q I r h
  · exact call_list_X hc pins s σ H xs us Q I r h
theorem red_listD {K : PySem.W.Frag} : Red aR .listD (rListDA K) := by
  intro H Z x d v Q zk' e rp _ q
  have zk : ∀ a, Z a → ∃ o, H a = some o := fun a z => let ⟨o, h, _⟩ := zk' a z; ⟨o, h⟩
  cases x <;> first | (cases e; done) | skip
  rename_i t ks vs
  cases e
  cases t with
  | true =>
    obtain ⟨a, o, bs, us, rfl, h1, n1, ⟨xs, kvs, dd, pr, rfl, rfl, rfl⟩, rb, rp⟩ := rp
    exact .inr ⟨a, o, xs, rfl, h1, dd, fun p hp => q p _ hp (rep_newL zk hp rb)⟩
  | false =>
    obtain ⟨a, kvs, rfl, h1, n1, rfl, rp⟩ := rp
    refine .inl ⟨a, kvs, rfl, h1, fun p hp => q p _ hp (rep_newL zk hp ?_)⟩
    have h := reps_keys (aR := aR) (H := H) (Z := Z) (kvs.map (·.1))
    rw [List.map_map, List.map_map] at h
    exact h
end
end Wl
/-! Slots stored, wiped; targets; iterables; comprehensions. -/
namespace Wl
open PySem PySem.Spec PyProof.Rows L2

section
variable {aR : AR} {K : PySem.W.Frag} {Z : Addr → Prop} {H0 H H' : Hp} {σ : L2.St} {env : Env} {r r' : Row} {ex : List Nat}
/-- a slot is stored, read only -/
theorem own_set {i : Nat} {o : Option V} {s : Sl} (hs : ∀ d, s ≠ .ow d) {a : Addr} (m : Own (σ.set i o) (env.set i s) ex a) : Own σ env ex a := by
  obtain ⟨j, d, h1, h2, h3⟩ := m
  by_cases q : i = j
  · subst q
    by_cases l : i < env.length
    · rw [List.getElem?_set_self l] at h1
      exact absurd (Option.some.inj h1) (hs d)
    · rw [List.getElem?_eq_none (by simpa using l)] at h1; cases h1
  · rw [List.getElem?_set_ne q] at h1 h2
    exact ⟨j, d, h1, h2, h3⟩
theorem mk_set {i : Nat} {o : Option V} {s : Sl} (hs : ∀ d, s ≠ .ow d) {a : Addr} (m : Mk Z (σ.set i o) (env.set i s) ex a) : Mk Z σ env ex a := m.imp id (own_set hs)
theorem Ok.setF {i : Nat} {o : Option V} {s : Sl} (h : Ok aR K Z H0 σ H env r) (hs : ∀ d, s ≠ .ow d) (hv : ∀ d, s = .fz d → ∃ v, o = some v ∧ Rep aR H (Mk Z σ env []) d v) : Ok aR K Z H0 (σ.set i o) H (env.set i s) r := by
  have l : Le H (Mk Z σ env []) H (Mk Z (σ.set i o) (env.set i s) []) := Le.less fun a => mk_set hs
  refine ⟨by simp [h.len], h.row, h.zr, h.zk, fun j d e => ?_, fun j d e => ?_, fun j k d d' a e1 e2 e3 e4 => ?_, h.ext, h.sc⟩
  · by_cases q : i = j
    · subst q
      have li : i < env.length := by
        by_cases l : i < env.length
        · exact l
        · rw [List.getElem?_eq_none (by simpa using l)] at e; cases e
      rw [List.getElem?_set_self li] at e
      obtain ⟨v, rfl, rp⟩ := hv d (Option.some.inj e)
      exact ⟨v, by rw [List.getElem?_set_self (by rw [h.len]; exact li)], rp.mono l⟩
    · rw [List.getElem?_set_ne q] at e ⊢
      obtain ⟨v, e1, rp⟩ := h.fz j d e
      exact ⟨v, e1, rp.mono l⟩
  · by_cases q : i = j
    · subst q
      by_cases li : i < env.length
      · rw [List.getElem?_set_self li] at e
        exact absurd (Option.some.inj e) (hs d)
      · rw [List.getElem?_eq_none (by simpa using li)] at e; cases e
    · rw [List.getElem?_set_ne q] at e ⊢
      obtain ⟨a, e1, nz, n0, o⟩ := h.ow j d e
      exact ⟨a, e1, nz, n0, o.mono l fun _ q _ => q⟩
  · have ne : ∀ {j : Nat} {d : D}, (env.set i s)[j]? = some (.ow d) → i ≠ j := fun {j d} e q => by
      subst q
      by_cases li : i < env.length
      · rw [List.getElem?_set_self li] at e
        exact absurd (Option.some.inj e) (hs d)
      · rw [List.getElem?_eq_none (by simpa using li)] at e; cases e
    have n1 := ne e1
    have n2 := ne e2
    rw [List.getElem?_set_ne n1] at e1 e3
    rw [List.getElem?_set_ne n2] at e2 e4
    exact h.dis j k d d' a e1 e2 e3 e4
/-- a new thing is stored, one's own -/
theorem Ok.setO {i : Nat} {p : Addr} {d : D} (h : Ok aR K Z H0 σ H env r) (hi : i < env.length) (nz : ¬ Z p) (n0 : Fr0 H0 p) (np : ¬ Own σ env [] p) (o : Ow aR H (fun a => Mk Z σ env [] a ∨ a = p) p d)
    (hn : ∀ (j : Nat) (e : D), env[j]? = some (.fz e) → ∃ v, σ[j]? = some (some v) ∧ Rep aR H (fun a => Mk Z σ env [] a ∨ a = p) e v)
    (hm : ∀ (j : Nat) (e : D), env[j]? = some (.ow e) → ∃ a, σ[j]? = some (some (.ref a)) ∧ Ow aR H (fun a => Mk Z σ env [] a ∨ a = p) a e) :
    Ok aR K Z H0 (σ.set i (some (.ref p))) H (env.set i (.ow d)) r := by
  have sub : ∀ a, Mk Z (σ.set i (some (.ref p))) (env.set i (.ow d)) [] a → Mk Z σ env [] a ∨ a = p := fun a m => by
    rcases m with m | ⟨j, e, h1, h2, h3⟩
    · exact .inl (.inl m)
    · by_cases q : i = j
      · subst q
        rw [List.getElem?_set_self (by rw [h.len]; exact hi)] at h2
        cases h2
        exact .inr rfl
      · rw [List.getElem?_set_ne q] at h1 h2
        exact .inl (.inr ⟨j, e, h1, h2, h3⟩)
  have l : Le H (fun a => Mk Z σ env [] a ∨ a = p) H (Mk Z (σ.set i (some (.ref p))) (env.set i (.ow d)) []) := Le.less sub
  refine ⟨by simp [h.len], h.row, h.zr, h.zk, fun j e q => ?_, fun j e q => ?_, fun j k e e' a e1 e2 e3 e4 => ?_, h.ext, h.sc⟩
  · by_cases c : i = j
    · subst c
      rw [List.getElem?_set_self hi] at q
      cases q
    · rw [List.getElem?_set_ne c] at q ⊢
      obtain ⟨v, e1, rp⟩ := hn j e q
      exact ⟨v, e1, rp.mono l⟩
  · by_cases c : i = j
    · subst c
      rw [List.getElem?_set_self hi] at q
      cases q
      exact ⟨p, by rw [List.getElem?_set_self (by rw [h.len]; exact hi)], nz, n0, o.mono l fun _ q _ => q⟩
    · rw [List.getElem?_set_ne c] at q ⊢
      obtain ⟨a, e1, nz', n0', _⟩ := h.ow j e q
      obtain ⟨a', e1', o'⟩ := hm j e q
      rw [e1] at e1'; cases e1'
      exact ⟨a, e1, nz', n0', o'.mono l fun _ q _ => q⟩
  · by_cases c1 : i = j
    · by_cases c2 : i = k
      · omega
      · subst c1
        rw [List.getElem?_set_self (by rw [h.len]; exact hi)] at e3
        rw [List.getElem?_set_ne c2] at e2 e4
        cases e3
        exact absurd ⟨k, e', e2, e4, by simp⟩ np
    · by_cases c2 : i = k
      · subst c2
        rw [List.getElem?_set_self (by rw [h.len]; exact hi)] at e4
        rw [List.getElem?_set_ne c1] at e1 e3
        cases e4
        exact absurd ⟨j, e, e1, e3, by simp⟩ np
      · rw [List.getElem?_set_ne c1] at e1 e3
        rw [List.getElem?_set_ne c2] at e2 e4
        exact h.dis j k e e' a e1 e2 e3 e4
/-- slots are made read only -/
theorem frz1_fz {s : Sl} {d : D} (h : frz1 s = .fz d) : s = .fz d ∨ s = .ow d := by
  cases s <;> simp [frz1] at h <;> simp [h]
theorem frz1_ow {s : Sl} {d : D} (h : frz1 s = .ow d) : False := by
  cases s <;> simp [frz1] at h
theorem get_mod {i j : Nat} : (env.modify i frz1)[j]? = if i = j then env[j]?.map frz1 else env[j]? := by
  rw [List.getElem?_modify]
  split <;> simp_all
theorem Ok.frz1 {i : Nat} (h : Ok aR K Z H0 σ H env r) : Ok aR K Z H0 σ H (env.modify i Wl.frz1) r := by
  have back : ∀ {j : Nat} {d : D}, (env.modify i Wl.frz1)[j]? = some (.ow d) → i ≠ j ∧ env[j]? = some (.ow d) := fun {j d} e => by
    rw [get_mod] at e
    split at e
    · obtain ⟨s, e1, e2⟩ := Option.map_eq_some_iff.mp e
      exact (frz1_ow e2).elim
    · exact ⟨‹_›, e⟩
  have sub : ∀ a, Mk Z σ (env.modify i Wl.frz1) [] a → Mk Z σ env [] a := fun a m => by
    rcases m with m | ⟨j, e, h1, h2, h3⟩
    · exact .inl m
    · exact .inr ⟨j, e, (back h1).2, h2, h3⟩
  have l : Le H (Mk Z σ env []) H (Mk Z σ (env.modify i Wl.frz1) []) := Le.less sub
  refine ⟨by simp [h.len], h.row, h.zr, h.zk, fun j d e => ?_, fun j d e => ?_, fun j k d d' a e1 e2 e3 e4 => h.dis j k d d' a (back e1).2 (back e2).2 e3 e4, h.ext, h.sc⟩
  · rw [get_mod] at e
    split at e
    · rename_i q
      subst q
      obtain ⟨s, e1, e2⟩ := Option.map_eq_some_iff.mp e
      rcases frz1_fz e2 with rfl | rfl
      · obtain ⟨v, e3, rp⟩ := h.fz i d e1
        exact ⟨v, e3, rp.mono l⟩
      · obtain ⟨a, e3, nz, n0, o⟩ := h.ow i d e1
        refine ⟨_, e3, (o.mono l fun _ q _ => q).rep fun m => ?_⟩
        rcases m with m | ⟨j, e', h1, h2, h3⟩
        · exact nz m
        · have b := back h1
          exact b.1 (h.dis i j d e' a e1 b.2 e3 h2)
    · obtain ⟨v, e1, rp⟩ := h.fz j d e
      exact ⟨v, e1, rp.mono l⟩
  · obtain ⟨a, e1, nz, n0, o⟩ := h.ow j d (back e).2
    exact ⟨a, e1, nz, n0, o.mono l fun _ q _ => q⟩
theorem Ok.frz : ∀ (fz : List Nat) {env : Env}, Ok aR K Z H0 σ H env r → Ok aR K Z H0 σ H (frz env fz) r
  | [], _, h => h
  | i :: is, _, h => Ok.frz is h.frz1
theorem frz_back : ∀ (fz : List Nat) {env : Env} {j : Nat} {d : D}, (frz env fz)[j]? = some (.ow d) → j ∉ fz ∧ env[j]? = some (.ow d)
  | [], _, _, _, e => ⟨by simp, e⟩
  | i :: is, env, j, d, e => by
    obtain ⟨h1, h2⟩ := frz_back is (env := env.modify i Wl.frz1) e
    rw [get_mod] at h2
    split at h2
    · obtain ⟨s, e1, e2⟩ := Option.map_eq_some_iff.mp h2
      exact (frz1_ow e2).elim
    · rename_i q
      exact ⟨by simp only [List.mem_cons, not_or]; exact ⟨fun z => q z.symm, h1⟩, h2⟩
theorem frz_length : ∀ (fz : List Nat) (env : Env), (frz env fz).length = env.length
  | [], _ => rfl
  | i :: is, env => by
    show (frz (env.modify i Wl.frz1) is).length = _
    rw [frz_length is, List.length_modify]
/-- behind the freezing of fz nothing of the ex ⊆ fz is masked -/
theorem mk_frz {fz : List Nat} (hs : ∀ i ∈ ex, i ∈ fz) {a : Addr} (m : Mk Z σ (frz env fz) [] a) : Mk Z σ env ex a := by
  rcases m with m | ⟨j, d, h1, h2, _⟩
  · exact .inl m
  · obtain ⟨n, h⟩ := frz_back fz h1
    exact .inr ⟨j, d, h, h2, fun q => n (hs j q)⟩

/-! ### wiping -/
theorem wipe_get : ∀ (vs : List Nat) (σ : L2.St) (i : Nat), (wipe σ vs)[i]? = if i ∈ vs ∧ i < σ.length then some none else σ[i]?
  | [], σ, i => by simp [wipe]
  | v :: vs, σ, i => by
    unfold wipe
    by_cases q : v = i
    · subst q
      by_cases l : v < σ.length
      · rw [List.getElem?_set_self (by rw [wipe_length]; exact l), if_pos ⟨by simp, l⟩]
      · rw [List.getElem?_eq_none (by rw [List.length_set, wipe_length]; omega), if_neg (fun z => l z.2), List.getElem?_eq_none (by omega)]
    · rw [List.getElem?_set_ne q, wipe_get vs]
      have : i ∈ v :: vs ↔ i ∈ vs := by simp only [List.mem_cons]; exact ⟨fun z => z.resolve_left (fun y => q y.symm), .inr⟩
      simp only [this]
theorem wipeE_length : ∀ (vs : List Nat) (env : Env), (wipeE env vs).length = env.length
  | [], _ => rfl
  | v :: vs, env => by show ((wipeE env vs).set v .un).length = _; rw [List.length_set, wipeE_length vs]
theorem wipeE_get : ∀ (vs : List Nat) (env : Env) (i : Nat), (wipeE env vs)[i]? = if i ∈ vs ∧ i < env.length then some .un else env[i]?
  | [], σ, i => by simp [wipeE]
  | v :: vs, env, i => by
    show ((wipeE env vs).set v .un)[i]? = _
    have hl : (wipeE env vs).length = env.length := wipeE_length vs env
    by_cases q : v = i
    · subst q
      by_cases l : v < env.length
      · rw [List.getElem?_set_self (by rw [hl]; exact l), if_pos ⟨by simp, l⟩]
      · rw [List.getElem?_eq_none (by rw [List.length_set, hl]; omega), if_neg (fun z => l z.2), List.getElem?_eq_none (by omega)]
    · rw [List.getElem?_set_ne q, wipeE_get vs]
      have : i ∈ v :: vs ↔ i ∈ vs := by simp only [List.mem_cons]; exact ⟨fun z => z.resolve_left (fun y => q y.symm), .inr⟩
      simp only [this]
theorem noOwn_at {l : List Nat} (h : noOwn env l = true) {i : Nat} (hi : i ∈ l) {d : D} : env[i]? ≠ some (.ow d) := fun e => by
  have := List.all_eq_true.mp h i hi
  rw [e] at this
  simp [isOw] at this
theorem Ok.wipe {tg : List Nat} (h : Ok aR K Z H0 σ H env r) (hn : noOwn env tg = true) : Ok aR K Z H0 (wipe σ tg) H (wipeE env tg) r := by
  have back : ∀ {j : Nat} {s : Sl}, (wipeE env tg)[j]? = some s → s ≠ .un → j ∉ tg ∧ env[j]? = some s := fun {j s} e hs => by
    rw [wipeE_get] at e
    split at e
    · exact absurd (Option.some.inj e).symm hs
    · rename_i q
      have li := (List.getElem?_eq_some_iff.mp e).1
      exact ⟨fun z => q ⟨z, li⟩, e⟩
  have same : ∀ {j : Nat}, j ∉ tg → (L2.wipe σ tg)[j]? = σ[j]? := fun {j} n => by rw [wipe_get, if_neg (fun z => n z.1)]
  have sub : ∀ a, Mk Z (L2.wipe σ tg) (wipeE env tg) [] a → Mk Z σ env [] a := fun a m => by
    rcases m with m | ⟨j, e, h1, h2, h3⟩
    · exact .inl m
    · obtain ⟨n, e1⟩ := back h1 (by simp)
      rw [same n] at h2
      exact .inr ⟨j, e, e1, h2, h3⟩
  have l : Le H (Mk Z σ env []) H (Mk Z (L2.wipe σ tg) (wipeE env tg) []) := Le.less sub
  refine ⟨by rw [wipe_length, wipeE_length, h.len], h.row, h.zr, h.zk, fun j d e => ?_, fun j d e => ?_, fun j k d d' a e1 e2 e3 e4 => ?_, h.ext, h.sc⟩
  · obtain ⟨n, e1⟩ := back e (by simp)
    obtain ⟨v, e2, rp⟩ := h.fz j d e1
    exact ⟨v, by rw [same n]; exact e2, rp.mono l⟩
  · obtain ⟨n, e1⟩ := back e (by simp)
    obtain ⟨a, e2, nz, n0, o⟩ := h.ow j d e1
    exact ⟨a, by rw [same n]; exact e2, nz, n0, o.mono l fun _ q _ => q⟩
  · obtain ⟨n1, e1⟩ := back e1 (by simp)
    obtain ⟨n2, e2⟩ := back e2 (by simp)
    rw [same n1] at e3
    rw [same n2] at e4
    exact h.dis j k d d' a e1 e2 e3 e4
end
end Wl
/-! Targets, iterables, comprehensions. -/
namespace Wl
open PySem PySem.Spec PyProof.Rows L2

/-- a tuple that is only read: its object need not be known -/
def RepW (aR : AR) (H : Hp) (Z : Addr → Prop) : D → V → Prop
  | .tup l, v => ∃ a vs, v = .ref a ∧ Rd H a (.tup vs) ∧ ¬ Z a ∧ Reps aR H Z l vs
  | d, v => Rep aR H Z d v
def RepI (wk : Bool) (aR : AR) (H : Hp) (Z : Addr → Prop) (d : D) (v : V) : Prop := if wk = true then RepW aR H Z d v else Rep aR H Z d v
theorem Rep.w {aR : AR} {H : Hp} {Z : Addr → Prop} : ∀ {d : D} {v : V}, Rep aR H Z d v → RepW aR H Z d v
  | .tup _, _, ⟨a, vs, e, h1, n, h2⟩ => ⟨a, vs, e, h1.rd, n, h2⟩
  | .non, _, h => h
  | .bl _, _, h => h
  | .int _, _, h => h
  | .str _, _, h => h
  | .row, _, h => h
  | .fn _, _, h => h
  | .lst _, _, h => h
  | .dct _ _ _, _, h => h
theorem Rep.i {wk : Bool} {aR : AR} {H : Hp} {Z : Addr → Prop} {d : D} {v : V} (h : Rep aR H Z d v) : RepI wk aR H Z d v := by
  unfold RepI
  split
  · exact h.w
  · exact h
theorem RepI.w {wk : Bool} {aR : AR} {H : Hp} {Z : Addr → Prop} {d : D} {v : V} (h : RepI wk aR H Z d v) : RepW aR H Z d v := by
  unfold RepI at h
  split at h
  · exact h
  · exact h.w
theorem RepI.of {wk wk' : Bool} {aR : AR} {H : Hp} {Z : Addr → Prop} {d : D} {v : V} (h : RepI wk aR H Z d v) (l : wk = true → wk' = true) : RepI wk' aR H Z d v := by
  cases wk with
  | false => exact Rep.i (show Rep aR H Z d v from h)
  | true => rw [l rfl]; exact h
theorem RepW.mono {aR : AR} {H H' : Hp} {Z Z' : Addr → Prop} (l : Le H Z H' Z') : ∀ {d : D} {v : V}, RepW aR H Z d v → RepW aR H' Z' d v
  | .tup _, _, ⟨a, vs, e, h1, n, h2⟩ => ⟨a, vs, e, (l.rd h1 n).1, (l.rd h1 n).2, h2.mono l⟩
  | .non, _, h => h
  | .bl _, _, h => h
  | .int _, _, h => h
  | .str _, _, h => h
  | .row, _, h => h
  | .fn _, _, h => h
  | .lst l', _, h => Rep.mono (d := .lst l') l h
  | .dct t ks vs, _, h => Rep.mono (d := .dct t ks vs) l h
theorem RepI.mono {wk : Bool} {aR : AR} {H H' : Hp} {Z Z' : Addr → Prop} (l : Le H Z H' Z') {d : D} {v : V} (h : RepI wk aR H Z d v) : RepI wk aR H' Z' d v := by
  cases wk with
  | false => exact Rep.mono l h
  | true => exact RepW.mono l h
/-! ### targets -/
def gs : List Nat → TGs
  | [] => gNil
  | i :: is => gCons (gName i) (gs is)
def gT (K : PySem.W.Frag) (sole : Bool) (tg : List Nat) : TG := if sole = true then gName (tg.headD 0) else gTup K tg.length (gs tg)
def sets (tg : List Nat) (xs : List V) (σ : L2.St) : L2.St := (tg.zip xs).foldl (fun s p => s.set p.1 (some p.2)) σ
def setsE (tg : List Nat) (l : List D) (env : Env) : Env := (tg.zip l).foldl (fun e p => st e p.1 false p.2) env
theorem gs_to : ∀ (tg : List Nat) (xs : List V) (σ : L2.St) (H : Hp) (Q : L2.St → Hp → Prop), xs.length = tg.length → Q (sets tg xs σ) H → gs tg xs σ H Q
  | [], [], _, _, _, _, q => ⟨rfl, q⟩
  | [], _ :: _, _, _, _, h, _ => by simp at h
  | _ :: _, [], _, _, _, h, _ => by simp at h
  | i :: is, x :: xs, σ, H, Q, h, q => ⟨x, xs, rfl, gs_to is xs (σ.set i (some x)) H Q (by simpa using h) q⟩
section
variable {aR : AR} {K : PySem.W.Frag} {Z : Addr → Prop} {H0 H H' : Hp} {σ : L2.St} {env : Env} {r r' : Row}
theorem Ok.sets : ∀ (tg : List Nat) (l : List D) (xs : List V) {σ : L2.St} {env : Env}, Ok aR K Z H0 σ H env r → Reps aR H (Mk Z σ env []) l xs → Ok aR K Z H0 (sets tg xs σ) H (setsE tg l env) r
  | [], l, xs, _, _, h, _ => by simp only [Wl.sets, setsE, List.zip_nil_left, List.foldl_nil]; exact h
  | i :: is, [], xs, _, _, h, hr => by
    cases hr
    simp only [Wl.sets, setsE, List.zip_nil_right, List.foldl_nil]; exact h
  | i :: is, d :: l, xs, σ, env, h, hr => by
    obtain ⟨v, ys, rfl, h1, h2⟩ := hr
    have h3 := h.setF (i := i) (o := some v) (s := .fz d) (by intro e q; cases q) (fun e q => ⟨v, rfl, by cases q; exact h1⟩)
    exact Ok.sets is l ys h3 (h2.mono (Le.less fun a => mk_set (by intro e q; cases q)))
theorem sets_length : ∀ (tg : List Nat) (xs : List V) (σ : L2.St), (Wl.sets tg xs σ).length = σ.length
  | [], _, _ => by simp [Wl.sets]
  | _ :: _, [], _ => by simp [Wl.sets]
  | i :: is, x :: xs, σ => by
    show (Wl.sets is xs (σ.set i (some x))).length = _
    rw [sets_length is xs, List.length_set]
theorem sets_get : ∀ (tg : List Nat) (xs : List V) (σ : L2.St) {j : Nat}, j ∉ tg → (Wl.sets tg xs σ)[j]? = σ[j]?
  | [], _, _, _, _ => by simp [Wl.sets]
  | _ :: _, [], _, _, _ => by simp [Wl.sets]
  | i :: is, x :: xs, σ, j, h => by
    show (Wl.sets is xs (σ.set i (some x)))[j]? = _
    rw [sets_get is xs _ (fun z => h (List.mem_cons_of_mem _ z)), List.getElem?_set_ne (fun z => h (by rw [← z]; exact List.mem_cons_self))]
theorem setsE_get : ∀ (tg : List Nat) (xs : List D) (env : Env) {j : Nat}, j ∉ tg → (setsE tg xs env)[j]? = env[j]?
  | [], _, _, _, _ => by simp [setsE]
  | _ :: _, [], _, _, _ => by simp [setsE]
  | i :: is, x :: xs, env, j, h => by
    show (setsE is xs (env.set i (.fz x)))[j]? = _
    rw [setsE_get is xs _ (fun z => h (List.mem_cons_of_mem _ z)), List.getElem?_set_ne (fun z => h (by rw [← z]; exact List.mem_cons_self))]
theorem wipe_sets (tg : List Nat) (xs : List V) (σ : L2.St) : wipe (Wl.sets tg xs (wipe σ tg)) tg = wipe σ tg := by
  apply List.ext_getElem?
  intro j
  rw [wipe_get, wipe_get, sets_length, wipe_length]
  by_cases q : j ∈ tg
  · by_cases l : j < σ.length
    · rw [if_pos ⟨q, l⟩, if_pos ⟨q, l⟩]
    · rw [if_neg (fun z => l z.2), if_neg (fun z => l z.2), List.getElem?_eq_none (by rw [sets_length, wipe_length]; omega), List.getElem?_eq_none (by omega)]
  · rw [if_neg (fun z => q z.1), if_neg (fun z => q z.1), sets_get tg xs _ q, wipe_get, if_neg (fun z => q z.1)]
/-- a target takes its thing -/
theorem gT_to {tg : List Nat} {sole : Bool} {d : D} {v : V} {env' : Env} {Q : L2.St → Hp → Prop} (h : Ok aR K Z H0 σ H env r) (e : bindT tg sole d env = some env') (rp : RepI (!sole) aR H (Mk Z σ env []) d v)
    (q : ∀ xs l, env' = setsE tg l env → Ok aR K Z H0 (Wl.sets tg xs σ) H env' r → Q (Wl.sets tg xs σ) H) : gT K sole tg v σ H Q := by
  unfold bindT at e
  split at e
  · cases e
    rename_i i
    have h3 := h.sets [i] [d] [v] (.one (show Rep aR H (Mk Z σ env []) d v from rp))
    exact q [v] [d] rfl h3
  · split at e
    · rename_i hl
      cases e
      obtain ⟨a, vs, rfl, h1, n1, rps⟩ := rp
      refine ⟨a, vs, rfl, .inl h1, by rw [rps.length, hl], gs_to tg vs σ H Q (by rw [rps.length, hl]) ?_⟩
      exact q vs _ rfl (h.sets tg _ vs rps)
    · cases e
  · cases e
end
section
variable {X : Cx}
theorem t_one {i : Nat} {x : Str} {pos : Pos} (hN : X.N.Nodup) (hi : X.N[i]? = some x) (hx : Loc X.env.scope x) (hf : X.fn x = true ∨ X.env.scope.names.lookup x = some .local) : PG X (.Name x pos) (gT X.K true [i]) := pg_name hN hi hx hf
theorem t_tup {es : List Expr} {k : Nat} {pos : Pos} {tg : List Nat} (hc : X.calm = true) (h : PGs X es (gs tg)) (hn : (assignEach es X.env).length = tg.length) (hst : (assignEach es X.env).findIdx? (·.1) = none) : PG X (.Tuple es k pos) (gT X.K false tg) :=
  pg_tup hc h hn hst
end

/-! ### iterables -/
def Dv (σ : L2.St) (env : Env) (dv : List Nat) (a : Addr) : Prop := ∃ i d, i ∈ dv ∧ env[i]? = some (.ow d) ∧ σ[i]? = some (some (.ref a))
def New (H H' : Hp) : Prop := H' = H ∨ ∃ T vs, H T = none ∧ H' = upd H T (.tup vs)
theorem New.keep {H H' : Hp} (n : New H H') : ∀ a o, H a = some o → H' a = some o := fun a o e => by
  rcases n with rfl | ⟨T, vs, h, rfl⟩
  · exact e
  · rw [upd_ne (ne_of_none e h)]; exact e
def ItOk (aR : AR) (Zm : Addr → Prop) (dv : Addr → Prop) (J : It) (l : List D) (Hs : Hp) (wk : Bool) : Prop :=
  ∃ (U : Addr → Prop) (Y : Nat → Hp → V → Hp → Prop), (∀ a, U a → a ≠ aR ∧ (¬ Zm a ∨ dv a)) ∧
    Walk J l.length (fun H => ∀ a o, U a → Hs a = some o → nt o = true → H a = some o) Y ∧
    ∀ i H x H' Z', i < l.length → Le Hs Zm H Z' → (∀ a, Z' a → ∃ o, H a = some o ∧ lk o) → Y i H x H' → New H H' ∧ ∃ d, l[i]? = some d ∧ RepI wk aR H' Z' d x
/-- the slots that an iterable stands on itself -/
def dvs : IE → List Nat
  | .itL (.var i) => [i]
  | .itE (.var i) => [i]
  | .itZ (.var i) (.var j) => [i, j]
  | .itZ (.var i) _ => [i]
  | .itZ _ (.var j) => [j]
  | .itK (.var i) => [i]
  | .itI (.var i) => [i]
  | .alt a b => dvs a ++ dvs b
  | _ => []
/-- its items are pairs that are only read -/
def wkI : IE → Bool
  | .itE _ => true
  | .itZ _ _ => true
  | .itI _ => true
  | .alt a b => wkI a || wkI b
  | _ => false
def tEvI (aR : AR) (K : PySem.W.Frag) (F : Fns) (ie : IE) : TI := fun σ H R => ∃ Z H0 env r, Ok aR K Z H0 σ H env r ∧ ∃ l r', ev F ie env r = .ok (.tup l) r' ∧
  ∀ J H', Ext aR H H' → RowOk aR K H' r' → ItOk aR (Mk Z σ env (al ie)) (Dv σ env (dvs ie)) J l H' (wkI ie) → R J H'
section
variable {X : Cx} {tg : Expr}
theorem PI.imp {e : Expr} {t t' : TI} (h : PI X tg e t) (w : ∀ σ H R, t' σ H R → t σ H R) : PI X tg e t' := ⟨fun pins s σ H R I q => h.run pins s σ H R I (w σ H R q)⟩
def iSeq (K : PySem.W.Frag) (tl : TE) : TI := fun σ H R => tl σ H fun x H1 => ∃ a, x = .ref a ∧ ((∃ xs, SqL K H1 a xs ∧ R (Itl K a) H1) ∨ ∃ xs, SqT K H1 a xs ∧ R (Itt K a) H1)
theorem pi_seq {l : Expr} {tl : TE} (hl : PE X l tl) : PI X tg l (iSeq X.K tl) := by
  refine ⟨fun pins s σ H R I h => ?_⟩
  refine thn (hl.run pins s σ H _ I h) fun v s1 ⟨x, H1, I1, r1, q1⟩ => ?_
  obtain ⟨a, e, q⟩ := q1
  subst e
  cases r1
  rcases q with ⟨xs, hq, q⟩ | ⟨xs, hq, q⟩
  · obtain ⟨its, rv, p, hz⟩ := I1.list hq
    refine wpAny_pyIter_list p.isList ?_
    refine ⟨s1.heap.objs.size, [s1.heap.objs.size], _, _, H1, rfl, I1.kept (t' := s1.toks) fun b o e => Heap.get?_push_of_some _ e, turn_list a _, ⟨_, Heap.get?_push_size _ rfl, rfl, rfl⟩, fun b hb => ?_, q⟩
    have e : b = s1.heap.objs.size := by simpa using hb
    subst e
    exact I1.fpOk (Nat.le_refl _) (I1.hok.fresh (Nat.le_refl _))
  · obtain ⟨its, rv, p, hz⟩ := I1.tuple hq
    refine wpAny_pyIter_tuple (show s1.heap.IsTuple a its.toArray from p) ?_
    refine ⟨s1.heap.objs.size, [s1.heap.objs.size], _, _, H1, rfl, I1.kept (t' := s1.toks) fun b o e => Heap.get?_push_of_some _ e, turn_tuple a _, ⟨_, Heap.get?_push_size _ rfl, rfl, rfl⟩, fun b hb => ?_, q⟩
    have e : b = s1.heap.objs.size := by simpa using hb
    subst e
    exact I1.fpOk (Nat.le_refl _) (I1.hok.fresh (Nat.le_refl _))
end
section
variable {X : Cx} {aR : AR} {F : Fns} {ea eb ec : Expr} {a b c d : IE} {pos : Pos} {tg : Expr}
/-- the top of what is walked -/
theorem top_of {H : Hp} {Z : Addr → Prop} {σ : L2.St} {env : Env} {ie : IE} {dd : D} {p : Addr} {zr : Z aR} (hL : (∃ l, dd = .lst l) ∨ (∃ l, dd = .tup l)) (h : RepC aR H (Mk Z σ env (alC ie)) dd (.ref p)) (t : TopC aR H Z σ env ie dd (.ref p)) :
    p ≠ aR ∧ (¬ Mk Z σ env (alC ie) p ∨ ∃ i d', ie = .var i ∧ env[i]? = some (.ow d') ∧ σ[i]? = some (some (.ref p))) := by
  have n1 : p ≠ aR := by
    rcases hL with ⟨l, rfl⟩ | ⟨l, rfl⟩
    · obtain ⟨a, vs, e, _, n, _⟩ := h; cases e; exact n
    · obtain ⟨a, vs, e, _, n, _⟩ := h; cases e; exact fun q => n (.inl (q ▸ zr))
  refine ⟨n1, ?_⟩
  rcases t with t | ⟨i, a, d', e1, e2, e3, e4⟩
  · rcases hL with ⟨l, rfl⟩ | ⟨l, rfl⟩
    · obtain ⟨a, vs, e, _, n, _⟩ := t; cases e; exact .inl n
    · obtain ⟨a, vs, e, _, n, _⟩ := t; cases e; exact .inl n
  · cases e4
    exact .inr ⟨i, d', e1, e2, e3⟩
theorem al_itL (a : IE) : al (.itL a) = alC a := by cases a <;> rfl
theorem xi_L (ha : PE X ea (tRx aR X.K F (EX X) a)) : PI X tg ea (fun σ H _ => tRz aR X.K F (EX X) (.itL a) σ H) := PI.imp (pi_seq ha) fun σ H R q => q
theorem xi_no {ie : IE} (h : ∀ env r, rx F ie env r = none) : PI X tg ea (fun σ H _ => tRz aR X.K F (EX X) ie σ H) := PI.imp (pi_seq (rz_no (F := F) (aR := aR) (E0 := EX X) h)) fun σ H R q => q
theorem i_L (ha : PE X ea (tEvC aR X.K F a)) : PI X tg ea (tEvI aR X.K F (.itL a)) :=
  PI.imp (pi_seq ha) fun σ H R ⟨Z, H0, env, r, ok, l, r', e, q⟩ => by
    obtain ⟨u, r1, e1, e2⟩ := Res.bind_ok e
    refine evC_top ok e1 fun v H' x ro ok' rp tp => ?_
    have dv_of : ∀ p, (∃ i d', a = .var i ∧ env[i]? = some (.ow d') ∧ σ[i]? = some (some (.ref p))) → Dv σ env (dvs (.itL a)) p := fun p ⟨i, d', h1, h2, h3⟩ => by subst h1; exact ⟨i, d', List.mem_singleton.mpr rfl, h2, h3⟩
    split at e2
    · cases e2
      obtain ⟨p, vs, rfl, h1, n1, rps⟩ := id rp
      obtain ⟨t1, t2⟩ := top_of (zr := ok.zr) (.inl ⟨_, rfl⟩) rp tp
      have hU : ∀ z, z = p → z ≠ aR ∧ (¬ Mk Z σ env (al (.itL a)) z ∨ Dv σ env (dvs (.itL a)) z) := fun z hz => by
        subst hz
        rw [al_itL]
        exact ⟨t1, t2.imp id (dv_of z)⟩
      refine ⟨p, rfl, .inl ⟨vs, .of h1, q _ H' x ro ⟨fun a => a = p, YAt vs, hU, ?_, fun i H2 y H3 Z' hi hle zk hy => ?_⟩⟩⟩
      · rw [← rps.length]
        exact walk_list.mono (fun H2 h2 => .of (h2 p _ rfl h1 rfl)) (fun _ _ _ _ _ _ y => y)
      · obtain ⟨rfl, hy⟩ := hy
        obtain ⟨dd, e3, rp3⟩ := rps.get' hy
        rw [al_itL] at hle
        exact ⟨.inl rfl, dd, e3, rp3.mono hle⟩
    · cases e2
      obtain ⟨p, vs, rfl, h1, n1, rps⟩ := id rp
      obtain ⟨t1, t2⟩ := top_of (zr := ok.zr) (.inr ⟨_, rfl⟩) rp tp
      have hU : ∀ z, z = p → z ≠ aR ∧ (¬ Mk Z σ env (al (.itL a)) z ∨ Dv σ env (dvs (.itL a)) z) := fun z hz => by
        subst hz
        rw [al_itL]
        exact ⟨t1, t2.imp id (dv_of z)⟩
      obtain ⟨ot, hot⟩ := h1.get
      refine ⟨p, rfl, .inr ⟨vs, h1.of, q _ H' x ro ⟨fun a => a = p, YAt vs, hU, ?_, fun i H2 y H3 Z' hi hle zk hy => ?_⟩⟩⟩
      · rw [← rps.length]
        exact walk_tup.mono (fun H2 h2 => .inl (.inr ⟨ot, h2 p _ rfl hot rfl⟩)) (fun _ _ _ _ _ _ y => y)
      · obtain ⟨rfl, hy⟩ := hy
        obtain ⟨dd, e3, rp3⟩ := rps.get' hy
        rw [al_itL] at hle
        exact ⟨.inl rfl, dd, e3, rp3.mono hle⟩
    · cases e2
theorem rng_len (lo : Int) (n : Nat) : (rngD lo n).length = n := by simp [rngD]
theorem rng_get {lo : Int} {n i : Nat} (h : i < n) : (rngD lo n)[i]? = some (.int (lo + (i : Nat))) := by simp [rngD, h]
theorem i_R1 {p : Pos} (hg : Gl X "range") (hm : X.mg "range" = none) (ha : PE X ea (tEvC aR X.K F a)) (hs : starEach [ea] X.env = (false, eval ea X.env) :: starEach [] X.env) : PI X tg (.Call (.Name "range" p) [ea] [] pos) (tEvI aR X.K F (.itR1 a)) :=
  PI.imp (pi_range1 hg hm (pa_1 ha hs) hs) fun σ H R ⟨Z, H0, env, r, ok, l, r', e, q⟩ => by
    obtain ⟨u, r1, e1, e2⟩ := Res.bind_ok e
    refine evC_to ok e1 fun v H' x ro ok' rp => ?_
    split at e2
    · split at e2
      · rename_i hk
        simp only [Bool.and_eq_true, small_iff, decide_eq_true_eq] at hk
        cases e2
        cases rp
        refine ⟨_, rfl, hk.1, hk.2, q _ H' x ro ⟨fun _ => False, YFn fun i => .int (0 + i), fun _ z => z.elim, ?_, fun i H2 y H3 Z' hi hle zk hy => ?_⟩⟩
        · rw [rng_len]
          exact walk_range.mono (fun _ _ => trivial) (fun _ _ _ _ _ _ y => y)
        · obtain ⟨rfl, rfl⟩ := hy
          rw [rng_len] at hi
          exact ⟨.inl rfl, _, rng_get hi, rfl⟩
      · cases e2
    · cases e2
theorem i_R2 {p : Pos} (hg : Gl X "range") (hm : X.mg "range" = none) (ha : PE X ea (tEvC aR X.K F a)) (hb : PE X eb (tEvC aR X.K F b)) (hs : starEach [ea, eb] X.env = [(false, eval ea X.env), (false, eval eb X.env)]) (hs2 : starEach [eb] X.env = [(false, eval eb X.env)]) :
    PI X tg (.Call (.Name "range" p) [ea, eb] [] pos) (tEvI aR X.K F (.itR2 a b)) :=
  PI.imp (pi_range2 hg hm (pa_cons ha (pa_1 hb hs2) (by rw [hs, hs2])) hs hs2) fun σ H R ⟨Z, H0, env, r, ok, l, r', e, q⟩ => by
    obtain ⟨u, r1, w, r2, e1, e2, e3⟩ := bind2 (f := fun _ _ => .no) e
    refine evC_to ok e1 fun v H1 x1 ro1 ok1 rp1 => evC_to ok1 e2 fun v2 H2 x2 ro2 ok2 rp2 => ?_
    split at e3
    · rename_i lo hi
      split at e3
      · rename_i hk
        simp only [Bool.and_eq_true, small_iff, decide_eq_true_eq] at hk
        cases e3
        cases rp1; cases rp2
        refine ⟨_, _, rfl, ⟨hk.1.1, hk.1.2, hk.2.1, hk.2.2⟩, q _ H2 (x1.trans x2) ro2 ⟨fun _ => False, YFn fun i => .int (lo + i), fun _ z => z.elim, ?_, fun i H2 y H3 Z' hii hle zk hy => ?_⟩⟩
        · rw [rng_len]
          exact walk_range.mono (fun _ _ => trivial) (fun _ _ _ _ _ _ y => y)
        · obtain ⟨rfl, rfl⟩ := hy
          rw [rng_len] at hii
          exact ⟨.inl rfl, _, rng_get hii, rfl⟩
      · cases e3
    · cases e3
end
end Wl
/-! enumerate of lists and tuples, zip. -/
namespace PySem
open Sem (wp)
open AutoSeq1 (wpAny_loadPart')
set_option maxHeartbeats 1000000 in
theorem wl_meets_enum1 {v : Value} {o : Obj} {H : Heap → Prop} (B : Begins v o H) :
    Meets (Builtin.«enumerate.__new__» ⟨[.type "enumerate", v], []⟩) (fun _ R s => H s.heap ∧
      R (.ok (.ret (.ref (s.heap.push o).objs.size))) { s with heap := (s.heap.push o).push { cls := .type "enumerate", data := .fields #[.none, .bool false, .ref s.heap.objs.size, rawInt 0, .none, .none] } }) :=
  .of_wp fun prog w A R s h => by
    obtain ⟨hp, g, d, tk, os⟩ := s; obtain ⟨h1, h⟩ := h
    have hsub := sub_enumerate
    have q1 : ∀ {A' : Around} {E : Value → Shared → Prop} {Q : Value → Shared → Prop}, Q (.ref hp.objs.size) ⟨hp.push o, g, d, tk, os⟩ → wpAny (model prog w) A' (pyIter v) Q E ⟨hp, g, d, tk, os⟩ :=
      fun q => B.iter prog w _ _ ⟨hp, g, d, tk, os⟩ _ h1 q
    wp_walk using q1
    refine wpAny_stack_any fun st => wpAny_pure ?_
    split
    · rename_i c _ _ _ _ _
      cases (c == Value.type "enumerate")
      · wp_walk using q1
        exact ⟨_, rfl, h⟩
      · wp_walk using q1
        exact ⟨_, rfl, h⟩
    · wp_walk using q1
      exact ⟨_, rfl, h⟩
section
variable {prog : Program} {w : World} {A : Around} {E : Value → Shared → Prop} {s : Shared}
theorem wl_enum_begins {v : Value} {o : Obj} {H : Heap → Prop} {Q : Value → Shared → Prop} (B : Begins v o H) (h1 : H s.heap)
    (h : ∀ h', IsEnum h' (s.heap.objs.size + 1) s.heap.objs.size 0 .none → h'.get? s.heap.objs.size = some o → h'.objs.size = s.heap.objs.size + 2 →
      (∀ b o, s.heap.get? b = some o → h'.get? b = some o) → Q (.ref (s.heap.objs.size + 1)) { s with heap := h' }) :
    wpAny (model prog w) A (call (.type "enumerate") [v]) Q E s := by
  refine callType_new F.called_enumerate (by decide) (F.typeCall_enumerate_1 _) (F.newCall_enumerate_1 _) (fun obj => F.args_object_init_2 obj _) F.entry_enumerate_new
    (wl_meets_enum1 B) ⟨h1, ?_⟩
  have hz : (s.heap.push o).objs.size = s.heap.objs.size + 1 := Heap.size_push ..
  show _ ∧ _
  rw [hz]
  have he : IsEnum ((s.heap.push o).push { cls := .type "enumerate", data := .fields #[.none, .bool false, .ref s.heap.objs.size, rawInt 0, .none, .none] }) (s.heap.objs.size + 1) s.heap.objs.size 0 .none := by
    have := Heap.get?_push_size (s.heap.push o) (o := { cls := .type "enumerate", data := .fields #[.none, .bool false, .ref s.heap.objs.size, rawInt 0, .none, .none] }) rfl
    rw [hz] at this; exact this
  refine ⟨⟨_, he, rfl⟩, h _ he (Heap.get?_push_of_some _ (Heap.get?_push_size _ B.free)) (by rw [Heap.size_push, hz]) fun b o x => Heap.get?_push_of_some _ (Heap.get?_push_of_some _ x)⟩
end
end PySem
namespace Wl
open PySem PySem.Spec PyProof.Rows L2
/-- enumerate(tuple) -/
def IteT (K : PySem.W.Frag) (a : Addr) : It :=
  ⟨fun i H => ∃ (xs : List V) (x : V), SqT K H a xs ∧ xs[i]? = some x, fun i H v H' => ∃ T x, v = .ref T ∧ H T = none ∧ H' = upd H T (.tup [.int (i : Nat), x]) ∧ ∀ xs, SqT K H a xs → xs[i]? = some x, fun i H => ∃ xs : List V, SqT K H a xs ∧ xs.length = i⟩
theorem turn_enumT {P : Program} {w : World} {K : PySem.W.Frag} {elts : List Expr} {kk : Nat} {tpos : Pos} (a e it : Addr) (hai : a ≠ it) (hae : e ≠ a) :
    Turn P w K (.Tuple elts kk tpos) (IteT K a) [e, it] e (fun i h => (∃ old, IsEnum h e it ((i : Nat) : Int) old) ∧ h.IsTupleIter it a i ∧ e ≠ it) where
  mem := by simp
  obj := fun i h st b hb => by
    obtain ⟨⟨old, he⟩, ⟨o, ho, hc, hd⟩, _⟩ := st
    have e' : b = e ∨ b = it := by simpa using hb
    rcases e' with z | z
    · rw [z]; exact ⟨_, he, fun v q => nomatch q⟩
    · rw [z]; exact ⟨o, ho, fun v q => by rw [hd] at q; cases q⟩
  keep := fun i h h' st k => let ⟨⟨old, he⟩, hi, hne⟩ := st; ⟨⟨old, k e (by simp) _ he⟩, hi.at fun o q => k it (by simp) o q, hne⟩
  item := by
    intro X hP hw hK hc i pins s σ H E I hf st hg
    subst hP hw hK
    obtain ⟨⟨old, he⟩, hit, hne⟩ := st
    obtain ⟨xs, x, hq, hx⟩ := hg
    obtain ⟨its, rv, p, hz⟩ := I.tuple hq
    obtain ⟨u, hu, ru⟩ := rv.get hx
    have hel : e < s.heap.objs.size := Heap.lt_size he
    have hil : it < s.heap.objs.size := by obtain ⟨_, q, _⟩ := hit; exact Heap.lt_size q
    have hii : i < its.toArray.size := by
      have := (List.getElem?_eq_some_iff.mp hu).1
      simpa using this
    have D := Draws.tuple (prog := X.prog) (w := X.w) (A := X.A.in1) (show X.A.in1.handled = none from I.ok.hd hc) it a hai its.toArray
    refine wpAny_pyNext_enum_itemD D he ⟨hit, show s.heap.IsTuple a its.toArray from p⟩ hii hne (by simp; exact ⟨hne, hae⟩) fun y h' tk hy ho hit' hT hsz hk => ?_
    have ey : y = u := by
      have h2 : its.toArray[i]? = some u := by simpa using hu
      rw [h2] at hy
      exact (Option.some.inj hy).symm
    subst ey
    refine ⟨_, rfl, wpAny_letOwnedTupleGo_enum (s := { s with heap := h', toks := tk + 1 }) ho fun h'' he' sb => ?_⟩
    have hT2 : h''.get? s.heap.objs.size = some { cls := .type "tuple", data := .seq #[.int i tk, y] } := (sb.2 _ (Nat.ne_of_gt hel)).trans hT
    have new : ObjOk X.prog X.w (upd H s.heap.objs.size (.tup [.int (i : Nat), x])) h'' s.heap.objs.size (.tup [.int (i : Nat), x]) :=
      ⟨by show 2 ≤ sizeLine; decide, [.int i tk, y], .cons ⟨_, rfl⟩ (.cons ru .nil), ⟨_, hT2, rfl, _, rfl⟩⟩
    have I1 : Inv X pins σ (upd H s.heap.objs.size (.tup [.int (i : Nat), x])) { s with heap := h'', toks := tk + 1 } :=
      I.turnedNew (ch := [e, it]) (fun b ob hb q => (sb.2 b (fun z => hb (by simp [z]))).trans (hk b ob (fun z => hb (by simp [z])) (fun z => hb (by simp [z])) q)) hf (Nat.le_refl _) new
    refine ⟨.ref s.heap.objs.size, _, I1, rfl, ⟨_, x, rfl, I.hok.fresh (Nat.le_refl _), rfl, fun ys hy => by rw [I.tuple_inj hy hq]; exact hx⟩, ⟨⟨y, ?_⟩, hit'.1.at fun o q => (sb.2 it (Ne.symm hne)).trans q, hne⟩, fun b hb => ?_⟩
    · have e1 : ((i + 1 : Nat) : Int) = (i : Int) + 1 := by omega
      rw [e1]; exact he'
    · have hb' : b < s.heap.objs.size := by
        have e' : b = e ∨ b = it := by simpa using hb
        rcases e' with z | z
        · rw [z]; exact hel
        · rw [z]; exact hil
      rw [upd_ne (Nat.ne_of_lt hb')]
      exact (hf b hb).1
  done := by
    intro X hP hw hK hc i pins s σ H E I hf st hg
    subst hP hw hK
    obtain ⟨⟨old, he⟩, hit, hne⟩ := st
    obtain ⟨xs, hq, hx⟩ := hg
    obtain ⟨its, rv, p, hz⟩ := I.tuple hq
    obtain ⟨f0, f1, f2, f3, f4, f5⟩ := hf it (by simp)
    have hl := rv.length
    have D := Draws.tuple (prog := X.prog) (w := X.w) (A := X.A.in1) (show X.A.in1.handled = none from I.ok.hd hc) it a hai its.toArray
    have ei : its.toArray.size = i := by rw [List.size_toArray, ← hl]; exact hx
    refine wpAny_pyNext_enum_endD D he ⟨by rw [ei]; exact hit, show s.heap.IsTuple a its.toArray from p⟩ fun h' eb => ⟨rfl, I.turned (t' := s.toks) (fun b o hb q => eb b o hb q) f0 f1 f3 f4 f5⟩
  self := fun A i s Q E st h => let ⟨⟨_, he⟩, _⟩ := st; wpAny_pyIter_enum he h
/-- zip(tuple, list) -/
def ItzM (K : PySem.W.Frag) (a b : Addr) : It :=
  ⟨fun i H => ∃ (xs ys : List V) (x y : V), SqT K H a xs ∧ SqL K H b ys ∧ xs[i]? = some x ∧ ys[i]? = some y, fun i H v H' => ∃ T x y, v = .ref T ∧ H T = none ∧ H' = upd H T (.tup [x, y]) ∧ (∀ xs, SqT K H a xs → xs[i]? = some x) ∧ ∀ ys, SqL K H b ys → ys[i]? = some y,
    fun i H => ∃ xs ys : List V, SqT K H a xs ∧ SqL K H b ys ∧ i ≤ xs.length ∧ i ≤ ys.length ∧ (i = xs.length ∨ i = ys.length)⟩
theorem turn_zipM {P : Program} {w : World} {K : PySem.W.Frag} {elts : List Expr} {kk : Nat} {tpos : Pos} (a b z TI TO i1 i2 : Addr) (ha : a ≠ i1) (hb : b ≠ i2) (S : ZipSep2 z TI TO i1 i2 [i1, a] [i2, b]) :
    Turn P w K (.Tuple elts kk tpos) (ItzM K a b) [z, TI, TO, i1, i2] z (fun i h => IsZip h z TI TO .none ∧ IsTupOf2 h TI (.ref i1) (.ref i2) ∧ (∃ x y, IsTupOf2 h TO x y) ∧ h.IsTupleIter i1 a i ∧ h.IsListIter i2 b i) where
  mem := by simp
  obj := fun i h st c hc => by
    obtain ⟨h1, h2, ⟨x, y, h3⟩, ⟨o4, h4, c4, d4⟩, ⟨o5, h5, c5, d5⟩⟩ := st
    simp only [List.mem_cons, List.not_mem_nil, or_false] at hc
    rcases hc with e | e | e | e | e
    · rw [e]; exact ⟨_, h1, fun v q => nomatch q⟩
    · rw [e]; exact ⟨_, h2, fun v q => nomatch q⟩
    · rw [e]; exact ⟨_, h3, fun v q => nomatch q⟩
    · rw [e]; exact ⟨o4, h4, fun v q => by rw [d4] at q; cases q⟩
    · rw [e]; exact ⟨o5, h5, fun v q => by rw [d5] at q; cases q⟩
  keep := fun i h h' st k => let ⟨h1, h2, ⟨x, y, h3⟩, h4, h5⟩ := st; ⟨k z (by simp) _ h1, k TI (by simp) _ h2, ⟨x, y, k TO (by simp) _ h3⟩, h4.at fun o q => k i1 (by simp) o q, h5.at fun o q => k i2 (by simp) o q⟩
  item := by
    intro X hP hw hK hc i pins s σ H E I hf st hg
    subst hP hw hK
    obtain ⟨h1, h2, ⟨x0, y0, h3⟩, h4, h5⟩ := st
    obtain ⟨xs, ys, x, y, hq1, hq2, hx, hy⟩ := hg
    obtain ⟨its, rv, p, hz⟩ := I.tuple hq1
    obtain ⟨its2, rv2, p2, hz2⟩ := I.list hq2
    obtain ⟨u, hu, ru⟩ := rv.get hx
    obtain ⟨u2, hu2, ru2⟩ := rv2.get hy
    have D1 := Draws.tuple (prog := X.prog) (w := X.w) (A := X.A.in1) (show X.A.in1.handled = none from I.ok.hd hc) i1 a ha its.toArray
    have D2 := Draws.list (prog := X.prog) (w := X.w) (A := X.A.in1) (show X.A.in1.handled = none from I.ok.hd hc) i2 b hb its2.toArray
    have n1 : i < its.toArray.size := by have := (List.getElem?_eq_some_iff.mp hu).1; simpa using this
    have n2 : i < its2.toArray.size := by have := (List.getElem?_eq_some_iff.mp hu2).1; simpa using this
    refine wpAny_pyNext_zipD2_item S D1 D2 h1 h2 h3 ⟨h4, show s.heap.IsTuple a its.toArray from p⟩ ⟨h5, p2.isList⟩ n1 n2 fun x1 x2 h' tk e1 e2 hzz hTO hs1 hs2 hT hsz hk => ?_
    have ex : x1 = u := by
      have h6 : its.toArray[i]? = some u := by simpa using hu
      rw [h6] at e1; exact (Option.some.inj e1).symm
    have ey : x2 = u2 := by
      have h6 : its2.toArray[i]? = some u2 := by simpa using hu2
      rw [h6] at e2; exact (Option.some.inj e2).symm
    subst ex; subst ey
    have lt : ∀ c ∈ [z, TI, TO, i1, i2], c < s.heap.objs.size := fun c hc => by
      simp only [List.mem_cons, List.not_mem_nil, or_false] at hc
      obtain ⟨o4, g4, _⟩ := h4
      obtain ⟨o5, g5, _⟩ := h5
      rcases hc with e | e | e | e | e <;> rw [e]
      · exact Heap.lt_size h1
      · exact Heap.lt_size h2
      · exact Heap.lt_size h3
      · exact Heap.lt_size g4
      · exact Heap.lt_size g5
    refine ⟨_, rfl, wpAny_letOwnedTupleGo_zip (s := { s with heap := h', toks := tk }) hzz fun h'' hz' sb => ?_⟩
    have nz : s.heap.objs.size ≠ z := Nat.ne_of_gt (lt z (by simp))
    have hT2 : h''.get? s.heap.objs.size = some { cls := .type "tuple", data := .seq #[x1, x2] } := (sb.2 _ nz).trans hT
    have new : ObjOk X.prog X.w (upd H s.heap.objs.size (.tup [x, y])) h'' s.heap.objs.size (.tup [x, y]) :=
      ⟨by show 2 ≤ sizeLine; decide, [x1, x2], .cons ru (.cons ru2 .nil), ⟨_, hT2, rfl, _, rfl⟩⟩
    have I1 : Inv X pins σ (upd H s.heap.objs.size (.tup [x, y])) { s with heap := h'', toks := tk } :=
      I.turnedNew (ch := [z, TO, i1, i2]) (fun c ob hc q => (sb.2 c (fun e => hc (by simp [e]))).trans (hk c ob (fun e => hc (by simp [e])) (fun e => hc (by simp [e])) (fun e => hc (by simp [e])) (fun e => hc (by simp [e])) q)) (fun c hc => hf c (by
        simp only [List.mem_cons, List.not_mem_nil, or_false] at hc ⊢
        rcases hc with e | e | e | e
        · exact .inl e
        · exact .inr (.inr (.inl e))
        · exact .inr (.inr (.inr (.inl e)))
        · exact .inr (.inr (.inr (.inr e))))) (Nat.le_refl _) new
    have i1z : i1 ≠ z := fun e => S.zf1 (by simp [e])
    have i2z : i2 ≠ z := fun e => S.zf2 (by simp [e])
    have i1T : TI ≠ i1 := S.TIi1
    have i2T : TI ≠ i2 := S.TIi2
    refine ⟨.ref s.heap.objs.size, _, I1, rfl, ⟨_, x, y, rfl, I.hok.fresh (Nat.le_refl _), rfl, fun zs hzs => by rw [I.tuple_inj hzs hq1]; exact hx, fun zs hzs => by rw [I.list_inj hzs hq2]; exact hy⟩,
      ⟨hz', (sb.2 TI S.TIz).trans (hk TI _ S.TIz S.TITO i1T i2T h2), ⟨x1, x2, (sb.2 TO S.TOz).trans hTO⟩, hs1.1.at fun o q => (sb.2 i1 i1z).trans q, hs2.1.at fun o q => (sb.2 i2 i2z).trans q⟩, fun c hc => ?_⟩
    rw [upd_ne (Nat.ne_of_lt (lt c hc))]
    exact (hf c hc).1
  done := by
    intro X hP hw hK hc i pins s σ H E I hf st hg
    subst hP hw hK
    obtain ⟨h1, h2, ⟨x0, y0, h3⟩, h4, h5⟩ := st
    obtain ⟨xs, ys, hq1, hq2, l1, l2, l3⟩ := hg
    obtain ⟨its, rv, p, hz⟩ := I.tuple hq1
    obtain ⟨its2, rv2, p2, hz2⟩ := I.list hq2
    have e1 := rv.length
    have e2 := rv2.length
    have D1 := Draws.tuple (prog := X.prog) (w := X.w) (A := X.A.in1) (show X.A.in1.handled = none from I.ok.hd hc) i1 a ha its.toArray
    have D2 := Draws.list (prog := X.prog) (w := X.w) (A := X.A.in1) (show X.A.in1.handled = none from I.ok.hd hc) i2 b hb its2.toArray
    refine wpAny_pyNext_zipD2_end S D1 D2 h1 h2 h3 ⟨h4, show s.heap.IsTuple a its.toArray from p⟩ ⟨h5, p2.isList⟩ (by rw [List.size_toArray]; omega) (by rw [List.size_toArray]; omega) (by rw [List.size_toArray, List.size_toArray]; omega) fun h' tk hk => ⟨rfl, ?_⟩
    exact I.turnedL (ch := [z, TO, i1, i2]) (fun c o nc q => hk c o (fun e => nc (by simp [e])) (fun e => nc (by simp [e])) (fun e => nc (by simp [e])) (fun e => nc (by simp [e])) q) (fun c hc => hf c (by
        simp only [List.mem_cons, List.not_mem_nil, or_false] at hc ⊢
        rcases hc with e | e | e | e
        · exact .inl e
        · exact .inr (.inr (.inl e))
        · exact .inr (.inr (.inr (.inl e)))
        · exact .inr (.inr (.inr (.inr e)))))
  self := fun A i s Q E st h => wpAny_pyIter_zip st.1 h
section
variable {X : Cx}
def iZipM (K : PySem.W.Frag) (ta : TA) : TI := fun σ H R => ta σ H fun vs H1 => ∃ a b xs ys, vs = [V.ref a, V.ref b] ∧ SqT K H1 a xs ∧ SqL K H1 b ys ∧ R (ItzM K a b) H1
theorem pi_zipM {e e2 : Expr} {ta : TA} {p pos tpos : Pos} {elts : List Expr} {kk : Nat} (hg : Gl X "zip") (hm : X.mg "zip" = none) (ha : PA X [e, e2] ta) (hs : starEach [e, e2] X.env = (false, eval e X.env) :: starEach [e2] X.env) (hs2 : (backTo pos (starEach [e2] X.env)).any (·.1) = false) :
    PI X (.Tuple elts kk tpos) (.Call (.Name "zip" p) [e, e2] [] pos) (iZipM X.K ta) := by
  refine ⟨fun pins s σ H R I h => ?_⟩
  refine Call_ (ld_blt I hg hm PyProof.Rows.boot_zip (PyProof.Rows.callWith_type1 (thn (ha.run pos pins s σ H _ I h) fun us s1 ⟨vs, H1, I1, r1, q1⟩ => ?_) hs hs2))
  obtain ⟨a, b, xs, ys, rfl, hq1, hq2, q⟩ := q1
  obtain ⟨u, u2, rfl, ra, rb⟩ : ∃ u u2, us = [u, u2] ∧ RelV (V.ref a) u ∧ RelV (V.ref b) u2 := by
    cases r1 with
    | cons ra r1 =>
      cases r1 with
      | cons rb r1 =>
        cases r1
        exact ⟨_, _, rfl, ra, rb⟩
  obtain rfl : u = Value.ref a := ra
  obtain rfl : u2 = Value.ref b := rb
  obtain ⟨its, rv, p', hz⟩ := I1.tuple hq1
  obtain ⟨its2, rv2, p2, hz2⟩ := I1.list hq2
  have hal : a < s1.heap.objs.size := p'.lt
  have hbl : b < s1.heap.objs.size := by obtain ⟨o, g, _⟩ := p2.isList; exact Heap.lt_size g
  refine zip_begins2 (begins_tuple a its.toArray) (begins_list b its2.toArray) (show s1.heap.IsTuple a its.toArray from p') p2.isList fun h' hz' hTI hTO hi1 hi2 hsz hk => wpAny_pyIter_zip hz' ?_
  have I2 : Inv X pins σ H1 { s1 with heap := h' } := I1.kept (t' := s1.toks) hk
  have S := zip_sep2 (N := s1.heap.objs.size) (fp1 := [a]) (fp2 := [b]) (fun c hc => by rw [List.mem_singleton.mp hc]; exact hal) (fun c hc => by rw [List.mem_singleton.mp hc]; exact hbl)
  refine ⟨s1.heap.objs.size + 4, [s1.heap.objs.size + 4, s1.heap.objs.size + 2, s1.heap.objs.size + 3, s1.heap.objs.size, s1.heap.objs.size + 1], _, _, H1, rfl, I2, turn_zipM a b _ _ _ _ _ (Nat.ne_of_lt hal) (Nat.ne_of_lt (Nat.lt_succ_of_lt hbl)) S, ⟨hz', hTI, ⟨_, _, hTO⟩, ⟨_, hi1, rfl, rfl⟩, ⟨_, hi2, rfl, rfl⟩⟩, fun c hc => ?_, q⟩
  have hle : s1.heap.objs.size ≤ c := by
    simp only [List.mem_cons, List.not_mem_nil, or_false] at hc
    rcases hc with z | z | z | z | z <;> rw [z]
    · exact Nat.le_add_right _ _
    · exact Nat.le_add_right _ _
    · exact Nat.le_add_right _ _
    · exact Nat.le_refl _
    · exact Nat.le_add_right _ _
  exact I1.fpOk hle (I1.hok.fresh hle)
end
end Wl
/-! enumerate, zip as iterables; comprehensions; the rest of the expressions. -/
namespace Wl
open PySem PySem.Spec PyProof.Rows L2

theorem walk_enumT {K : PySem.W.Frag} {a : Addr} {xs : List V} : Walk (IteT K a) xs.length (fun H => SqT K H a xs) (YPair (fun i => some (.int (i : Nat))) (fun i => xs[i]?)) := by
  refine ⟨fun i _ hi q => ⟨xs, xs[i], q, by simp [hi]⟩, fun _ q => ⟨xs, q, rfl⟩, fun i H v H' _ q y => ?_⟩
  obtain ⟨T, x, h1, h2, h3, h4⟩ := y
  exact ⟨T, .int (i : Nat), x, h1, h2, h3, rfl, h4 xs q⟩
section
variable {X : Cx} {aR : AR} {F : Fns} {ea eb ec : Expr} {a b c d : IE} {pos : Pos}
def iEnumA (K : PySem.W.Frag) (ta : TE) : TI := fun σ H R => tCons ta tNil σ H fun vs H1 => ∃ x, vs = [x] ∧ ∃ a, x = .ref a ∧ ((∃ xs, SqL K H1 a xs ∧ R (Ite K a) H1) ∨ ∃ xs, SqT K H1 a xs ∧ R (IteT K a) H1)
theorem pi_enumA {e : Expr} {ta : TE} {p pos tpos : Pos} {elts : List Expr} {kk : Nat} (hg : Gl X "enumerate") (hm : X.mg "enumerate" = none) (ha : PE X e ta) (hs : starEach [e] X.env = [(false, eval e X.env)]) :
    PI X (.Tuple elts kk tpos) (.Call (.Name "enumerate" p) [e] [] pos) (iEnumA X.K ta) := by
  refine ⟨fun pins s σ H R I h => ?_⟩
  refine Call_ (ld_blt I hg hm boot_enumerate (PyProof.Rows.callWith_type1 (thn ((pa_1 (X := X) ha hs).run pos pins s σ H _ I h) fun us s1 ⟨vs, H1, I1, r1, q1⟩ => ?_) hs rfl))
  obtain ⟨x, rfl, a, rfl, q⟩ := q1
  obtain ⟨u, rfl, r⟩ := vals1 r1
  obtain rfl : u = Value.ref a := r
  rcases q with ⟨xs, hq, q⟩ | ⟨xs, hq, q⟩
  · obtain ⟨its, rv, p', hz⟩ := I1.list hq
    refine call_enumerate_list p'.isList fun h' he hit hsz hk => wpAny_pyIter_enum he ?_
    have I2 : Inv X pins σ H1 { s1 with heap := h' } := I1.kept (t' := s1.toks) hk
    refine ⟨s1.heap.objs.size + 1, [s1.heap.objs.size + 1, s1.heap.objs.size], _, _, H1, rfl, I2, turn_enum a (s1.heap.objs.size + 1) s1.heap.objs.size, ⟨⟨.none, he⟩, hit, Nat.succ_ne_self _⟩, fun b hb => ?_, q⟩
    have e' : b = s1.heap.objs.size + 1 ∨ b = s1.heap.objs.size := by simpa using hb
    have hle : s1.heap.objs.size ≤ b := by
      rcases e' with z | z
      · rw [z]; exact Nat.le_add_right _ _
      · rw [z]; exact Nat.le_refl _
    exact I1.fpOk hle (I1.hok.fresh hle)
  · obtain ⟨its, rv, p', hz⟩ := I1.tuple hq
    have hal : a < s1.heap.objs.size := p'.lt
    refine wl_enum_begins (begins_tuple a its.toArray) (show s1.heap.IsTuple a its.toArray from p') fun h' he hit hsz hk => wpAny_pyIter_enum he ?_
    have I2 : Inv X pins σ H1 { s1 with heap := h' } := I1.kept (t' := s1.toks) hk
    refine ⟨s1.heap.objs.size + 1, [s1.heap.objs.size + 1, s1.heap.objs.size], _, _, H1, rfl, I2, turn_enumT a (s1.heap.objs.size + 1) s1.heap.objs.size (Nat.ne_of_lt hal) (Nat.ne_of_gt (Nat.lt_succ_of_lt hal)), ⟨⟨.none, he⟩, ⟨_, hit, rfl, rfl⟩, Nat.succ_ne_self _⟩, fun b hb => ?_, q⟩
    have e' : b = s1.heap.objs.size + 1 ∨ b = s1.heap.objs.size := by simpa using hb
    have hle : s1.heap.objs.size ≤ b := by
      rcases e' with z | z
      · rw [z]; exact Nat.le_add_right _ _
      · rw [z]; exact Nat.le_refl _
    exact I1.fpOk hle (I1.hok.fresh hle)
theorem enu_len : ∀ (i : Nat) (l : List D), (enuD i l).length = l.length
  | _, [] => rfl
  | i, _ :: l => by simp [enuD, enu_len (i + 1) l]
theorem enu_get : ∀ (i : Nat) (l : List D) {j : Nat} {d : D}, l[j]? = some d → (enuD i l)[j]? = some (.tup [.int ((i + j : Nat) : Int), d])
  | _, [], _, _, h => by simp at h
  | i, x :: l, 0, d, h => by simp at h; subst h; simp [enuD]
  | i, x :: l, j + 1, d, h => by
    have := enu_get (i + 1) l (j := j) (by simpa using h)
    simp only [enuD, List.getElem?_cons_succ]
    rw [this, show i + 1 + j = i + (j + 1) by omega]
theorem zip_len : ∀ (l m : List D), (zipD l m).length = min l.length m.length
  | [], _ => by simp [zipD]
  | _ :: _, [] => by simp [zipD]
  | _ :: l, _ :: m => by simp [zipD, zip_len l m]
theorem zip_get : ∀ (l m : List D) {j : Nat} {d e : D}, l[j]? = some d → m[j]? = some e → (zipD l m)[j]? = some (.tup [d, e])
  | [], _, _, _, _, h, _ => by simp at h
  | _ :: _, [], _, _, _, _, h => by simp at h
  | x :: l, y :: m, 0, _, _, h, h' => by simp at h h'; subst h h'; simp [zipD]
  | x :: l, y :: m, j + 1, _, _, h, h' => by simp only [zipD, List.getElem?_cons_succ]; exact zip_get l m (by simpa using h) (by simpa using h')
/-- a new pair -/
theorem pair_rep {H H' : Hp} {Z' : Addr → Prop} {T : Addr} {x y : V} {d e : D} (zk : ∀ a, Z' a → ∃ o, H a = some o) (hT : H T = none) (e1 : H' = upd H T (.tup [x, y])) (h1 : Rep aR H Z' d x) (h2 : Rep aR H Z' e y) : RepI true aR H' Z' (.tup [d, e]) (.ref T) := by
  subst e1
  have hr : Reps aR H Z' [d, e] [x, y] := ⟨x, _, rfl, h1, ⟨y, _, rfl, h2, rfl⟩⟩
  exact ⟨T, _, rfl, .inl upd_same, fun z => let ⟨o, e⟩ := zk T z; (by rw [hT] at e; cases e), hr.mono fun a o e _ n => ⟨by rw [upd_ne (ne_of_none e hT)]; exact e, n⟩⟩
theorem al_itE (a : IE) : al (.itE a) = alC a := by cases a <;> rfl
theorem i_E {p tpos : Pos} {elts : List Expr} {kk : Nat} (hg : Gl X "enumerate") (hm : X.mg "enumerate" = none) (ha : PE X ea (tEvC aR X.K F a)) (hs : starEach [ea] X.env = [(false, eval ea X.env)]) :
    PI X (.Tuple elts kk tpos) (.Call (.Name "enumerate" p) [ea] [] pos) (tEvI aR X.K F (.itE a)) :=
  PI.imp (pi_enumA hg hm ha hs) fun σ H R ⟨Z, H0, env, r, ok, l, r', e, q⟩ => by
    obtain ⟨u, r1, e1, e2⟩ := Res.bind_ok e
    refine evC_top ok e1 fun v H' x ro ok' rp tp => ?_
    have dv_of : ∀ p, (∃ i d', a = .var i ∧ env[i]? = some (.ow d') ∧ σ[i]? = some (some (.ref p))) → Dv σ env (dvs (.itE a)) p := fun p ⟨i, d', h1, h2, h3⟩ => by subst h1; exact ⟨i, d', List.mem_singleton.mpr rfl, h2, h3⟩
    refine ⟨v, rfl, ?_⟩
    split at e2
    · cases e2
      obtain ⟨p, vs, rfl, h1, n1, rps⟩ := id rp
      obtain ⟨t1, t2⟩ := top_of (zr := ok.zr) (.inl ⟨_, rfl⟩) rp tp
      have hU : ∀ z, z = p → z ≠ aR ∧ (¬ Mk Z σ env (al (.itE a)) z ∨ Dv σ env (dvs (.itE a)) z) := fun z hz => by
        subst hz
        rw [al_itE]
        exact ⟨t1, t2.imp id (dv_of z)⟩
      refine ⟨p, rfl, .inl ⟨vs, .of h1, q _ H' x ro ⟨fun a => a = p, YPair (fun i => some (.int (i : Nat))) (fun i => vs[i]?), hU, ?_, fun i H2 y H3 Z' hi hle zk hy => ?_⟩⟩⟩
      · rw [enu_len, ← rps.length]
        exact walk_enum.mono (fun H2 h2 => .of (h2 p _ rfl h1 rfl)) (fun _ _ _ _ _ _ y => y)
      · obtain ⟨T, y1, y2, rfl, hT, e3, g1, g2⟩ := hy
        cases g1
        obtain ⟨dd, e4, rp3⟩ := rps.get' g2
        rw [al_itE] at hle
        refine ⟨.inr ⟨T, _, hT, e3⟩, _, ?_, pair_rep (fun a z => let ⟨o, h, _⟩ := zk a z; ⟨o, h⟩) hT e3 (d := .int (i : Nat)) rfl (rp3.mono hle)⟩
        rw [enu_get 0 _ e4, Nat.zero_add]
    · cases e2
      obtain ⟨p, vs, rfl, h1, n1, rps⟩ := id rp
      obtain ⟨t1, t2⟩ := top_of (zr := ok.zr) (.inr ⟨_, rfl⟩) rp tp
      have hU : ∀ z, z = p → z ≠ aR ∧ (¬ Mk Z σ env (al (.itE a)) z ∨ Dv σ env (dvs (.itE a)) z) := fun z hz => by
        subst hz
        rw [al_itE]
        exact ⟨t1, t2.imp id (dv_of z)⟩
      obtain ⟨ot, hot⟩ := h1.get
      refine ⟨p, rfl, .inr ⟨vs, h1.of, q _ H' x ro ⟨fun a => a = p, YPair (fun i => some (.int (i : Nat))) (fun i => vs[i]?), hU, ?_, fun i H2 y H3 Z' hi hle zk hy => ?_⟩⟩⟩
      · rw [enu_len, ← rps.length]
        exact walk_enumT.mono (fun H2 h2 => .inl (.inr ⟨ot, h2 p _ rfl hot rfl⟩)) (fun _ _ _ _ _ _ y => y)
      · obtain ⟨T, y1, y2, rfl, hT, e3, g1, g2⟩ := hy
        cases g1
        obtain ⟨dd, e4, rp3⟩ := rps.get' g2
        rw [al_itE] at hle
        refine ⟨.inr ⟨T, _, hT, e3⟩, _, ?_, pair_rep (fun a z => let ⟨o, h, _⟩ := zk a z; ⟨o, h⟩) hT e3 (d := .int (i : Nat)) rfl (rp3.mono hle)⟩
        rw [enu_get 0 _ e4, Nat.zero_add]
    · cases e2
end
end Wl
/-! Comprehensions. -/
namespace Wl
open PySem PySem.Spec PyProof.Rows L2

section
variable {aR : AR} {K : PySem.W.Frag} {Z : Addr → Prop} {H0 H H' : Hp} {σ : L2.St} {env : Env} {r r' : Row} {ex : List Nat}
/-- a reserved list is written -/
theorem Ok.updZ {p : Addr} {vs us : List V} (h : Ok aR K Z H0 σ H env r) (zp : Z p) (np : p ≠ aR) (h0 : Fr0 H0 p) (e : H p = some (.lst vs)) : Ok aR K Z H0 σ (upd H p (.lst us)) env r := by
  have l : Le H (Mk Z σ env []) (upd H p (.lst us)) (Mk Z σ env []) := fun a o ea _ n => ⟨by rw [upd_ne (fun q => n (.inl (by rw [q]; exact zp)))]; exact ea, n⟩
  refine ⟨h.len, ?_, h.zr, fun a z => ?_, fun i d e => ?_, fun i d e => ?_, h.dis, h.ext.updN h0, h.sc⟩
  · exact h.row.upd e trivial np (h.scn h0)
  · by_cases q : a = p
    · subst q
      exact ⟨_, upd_same, trivial⟩
    · rw [upd_ne q]; exact h.zk a z
  · obtain ⟨v, e1, rp⟩ := h.fz i d e
    exact ⟨v, e1, rp.mono l⟩
  · obtain ⟨a, e1, nz, n0, o⟩ := h.ow i d e
    exact ⟨a, e1, nz, n0, o.mono l fun u eu _ => by rw [upd_ne (fun q => nz (by rw [q]; exact zp))]; exact eu⟩
theorem le_updZ {p : Addr} {o : HO} {M : Addr → Prop} (m : M p) : Le H M (upd H p o) M := fun a u e _ n => ⟨by rw [upd_ne (fun q => n (by rw [q]; exact m))]; exact e, n⟩
end

section
variable {X : Cx} {aR : AR} {F : Fns} {ea eb ec : Expr} {a b c d : IE} {pos : Pos}
/-- a clause's test -/
def tCd (aR : AR) (K : PySem.W.Frag) (F : Fns) (cd : Bool) (c : IE) : TT := if cd = true then tEvT aR K F c else tYes
theorem turn_ok {f : D → Row → Res (Option D)} {x : D} {xs acc res : List D} {r r' : Row} (h : turns f (x :: xs) acc r = .ok res r') :
    ∃ o r1, f x r = .ok o r1 ∧ ((o = none ∧ turns f xs acc r1 = .ok res r') ∨ ∃ y, o = some y ∧ acc.length < SZ ∧ turns f xs (acc ++ [y]) r1 = .ok res r') := by
  unfold turns at h
  obtain ⟨o, r1, e1, e2⟩ := Res.bind_ok h
  refine ⟨o, r1, e1, ?_⟩
  split at e2
  · exact .inl ⟨rfl, e2⟩
  · split at e2
    · exact .inr ⟨_, rfl, ‹_›, e2⟩
    · cases e2
/-- one turn's work -/
def compF (F : Fns) (tg : List Nat) (sole cd : Bool) (c e : IE) (env : Env) : D → Row → Res (Option D) := fun d r => match bindT tg sole d (wipeE env tg) with
  | none => .no
  | some env' => match cd with
    | false => (ev F e env' r).bind fun y r => .ok (some y) r
    | true => (ev F c env' r).bind fun k r => (asB k r).bind fun k r => if k then (ev F e env' r).bind fun y r => .ok (some y) r else .ok none r
/-- a comprehension's invariant -/
def CompInv (aR : AR) (K : PySem.W.Frag) (f : D → Row → Res (Option D)) (l acc : List D) (r' : Row) (P : Addr) (M Z2 : Addr → Prop) (H0 : Hp) (σ : L2.St) (env : Env) (H1 : Hp) (i : Nat) (H : Hp) : Prop :=
  ∃ accs vs ri, i ≤ l.length ∧ turns f (l.drop i) accs ri = .ok acc r' ∧ H P = some (.lst vs) ∧ Reps aR H M accs vs ∧ Ok aR K Z2 H0 σ H env ri ∧ Ext aR H1 H
theorem comp_reads {K : PySem.W.Frag} {fr tg : List Nat} {sole cd : Bool} {it c e : IE} (f1 : ∀ i ∈ al it, i ∈ fr) (f2 : ∀ i ∈ tg, i ∈ fr) (fw : wkI it = true → (!sole) = true) : ∀ (σ : L2.St) (Hs : Hp) (Q : VK), tEvF aR K F (.comp fr tg sole it cd c e) σ Hs Q →
    tLc (tEvI aR K F it) (gT K sole tg) (tCd aR K F cd c) (tEv aR K F e) tg σ Hs Q :=
  fun σ Hs Q ⟨Z, H0, env, r, okS, dd, r', e0, q⟩ => by
    obtain ⟨u, r1, e1, e2⟩ := Res.bind_ok e0
    split at e2
    · rename_i l
      split at e2
      · cases e2
      · rename_i hno
        have hno : noOwn env fr = true := by simpa using hno
        obtain ⟨acc, r2, e3, e4⟩ := Res.bind_ok e2
        have e3 : turns (compF F tg sole cd c e env) l [] r1 = .ok acc r2 := e3
        cases e4
        have not : noOwn env tg = true := List.all_eq_true.mpr fun i hi => List.all_eq_true.mp hno i (f2 i hi)
        refine ⟨Z, H0, env, r, okS, l, r1, e1, fun J H1 x1 ro1 ⟨U, Y, hU, hW, hY⟩ Da hD => ?_⟩
        have okH1 := okS.grow x1 ro1
        have nD : Da ≠ aR := fun z => by obtain ⟨b, eb, _⟩ := ro1; rw [z, eb] at hD; cases hD
        have hsD : Fr0 Hs Da := x1.dom Da (.of hD)
        have h0D : Fr0 H0 Da := okS.ext.dom Da hsD
        let Z2 : Addr → Prop := fun a => Z a ∨ a = Da
        have zD : Z2 Da := .inr rfl
        let M : Addr → Prop := Mk Z2 σ env (al (.comp fr tg sole it cd c e))
        have hDv : ∀ a, Dv σ env (dvs it) a → a ≠ Da := fun a ⟨i, d', _, h2, h3⟩ q => by
          obtain ⟨b, eb, _, _, o⟩ := okH1.ow i d' h2
          rw [h3] at eb; cases eb
          obtain ⟨o', eo, _⟩ := o.lk
          rw [q, hD] at eo; cases eo
        refine lc_it hW (CompInv aR K (compF F tg sole cd c e env) l acc r' Da M Z2 H0 σ env H1) ⟨[], [], r1, Nat.zero_le _, e3, upd_same, rfl, ?_, .new hD⟩ (fun i H hi p a o hu ea et => ?_) (fun i x H H' hi p y => ?_) (fun H p => ?_)
        · exact okH1.hide (.new hD) (ro1.keep (keep_new hD)) (.of hD) upd_same trivial
        · obtain ⟨_, _, _, _, _, _, _, _, k⟩ := p
          exact k a o (hU a hu).1 ea et
        · obtain ⟨accs, vs, ri, hil, et, hDl, rps, okH, k⟩ := p
          have hle : Le H1 (Mk Z σ env (al it)) H (Mk Z2 σ env []) := fun a o ea t n => by
            refine ⟨k a o (fun z => n (.inl (by rw [z]; exact okS.zr))) ea t, fun m => ?_⟩
            rcases m with (m | m) | ⟨j, d', h1, h2, _⟩
            · exact n (.inl m)
            · rw [m, hD] at ea; cases ea
            · by_cases q : j ∈ al it
              · exact noOwn_at hno (f1 j q) h1
              · exact n (.inr ⟨j, d', h1, h2, q⟩)
          obtain ⟨nw, d, ed, rpx⟩ := hY i H x H' (Mk Z2 σ env []) hi hle (fun a m => okH.mkk a m) y
          have extN : Ext aR H H' := .keep nw.keep
          have okH' := okH.grow extN (okH.row.keep nw.keep)
          have ed' : l.drop i = d :: l.drop (i + 1) := by
            obtain ⟨h1, h2⟩ := List.getElem?_eq_some_iff.mp ed
            rw [List.drop_eq_getElem_cons h1, h2]
          rw [ed'] at et
          obtain ⟨o, r3, et1, et2⟩ := turn_ok et
          have okW := okH'.wipe (tg := tg) not
          have subW : ∀ a, Mk Z2 (wipe σ tg) (wipeE env tg) [] a → Mk Z2 σ env [] a := fun a m => by
            rcases m with m | ⟨j, d', h1, h2, _⟩
            · exact .inl m
            · rw [wipeE_get] at h1
              split at h1
              · cases h1
              · rename_i q
                rw [wipe_get] at h2
                have lj := (List.getElem?_eq_some_iff.mp h1).1
                rw [if_neg (fun z => q ⟨z.1, lj⟩)] at h2
                exact .inr ⟨j, d', h1, h2, by simp⟩
          unfold compF at et1
          split at et1
          · cases et1
          · rename_i env' eb
            refine gT_to okW eb ((rpx.of fw).mono (Le.less subW)) fun xs ls ee ok2 => ⟨wipe_sets tg xs σ, ?_⟩
            have fin : ∀ (H4 : Hp) (r4 : Row) (dy : D) (y : V), Ext aR H' H4 → RowOk aR K H4 r4 → ev F e env' ri = .ok dy r4 ∨ True → Rep aR H4 (Mk Z2 (sets tg xs (wipe σ tg)) env' (al e)) dy y → accs.length < SZ → turns (compF F tg sole cd c e env) (l.drop (i + 1)) (accs ++ [dy]) r4 = .ok acc r' →
                ∃ ac, H4 Da = some (.lst ac) ∧ ac.length < sizeLine ∧ CompInv aR K (compF F tg sole cd c e env) l acc r' Da M Z2 H0 σ env H1 (i + 1) (upd H4 Da (.lst (ac ++ [y]))) := by
              intro H4 r4 dy y x4 ro4 _ rpy hz et4
              have xD : H4 Da = some (.lst vs) := x4 Da _ nD (nw.keep Da _ hDl) rfl
              have ok4 := (okH.grow extN (okH.row.keep nw.keep)).grow x4 ro4
              refine ⟨vs, xD, by rw [rps.length, ← SZ_eq]; exact hz, accs ++ [dy], vs ++ [y], r4, hi, et4, upd_same, ?_, ok4.updZ zD nD h0D xD, ((k.trans extN).trans x4).updN (.of hD)⟩
              · have l1 : Le H M (upd H4 Da (.lst (vs ++ [y]))) M := ((extN.trans x4).le (.inl (.inl okS.zr))).trans (le_updZ (.inl zD))
                refine (rps.mono l1).append (.one ?_)
                have l2 : Le H4 (Mk Z2 (sets tg xs (wipe σ tg)) env' (al e)) H4 M := Le.less fun a m => by
                  rcases m with m | ⟨j, d', h1, h2, h3⟩
                  · exact .inl m
                  · have nf : j ∉ fr := fun z => h3 (List.mem_append_right _ z)
                    have ntg : j ∉ tg := fun z => nf (f2 j z)
                    refine .inr ⟨j, d', ?_, ?_, fun z => h3 (List.mem_append_left _ z)⟩
                    · rw [ee, setsE_get tg ls _ ntg, wipeE_get, if_neg (fun z => ntg z.1)]
                      exact h1
                    · rw [sets_get tg xs _ ntg, wipe_get, if_neg (fun z => ntg z.1)]
                      exact h2
                exact rpy.mono (l2.trans (le_updZ (.inl zD)))
            cases cd with
            | false =>
              obtain ⟨dy, r4, e5, e6⟩ := Res.bind_ok et1
              cases e6
              rcases et2 with ⟨z, _⟩ | ⟨y', ey, hz, et3⟩
              · cases z
              · cases ey
                unfold tCd
                rw [if_neg Bool.false_ne_true]
                unfold tYes
                refine iteT ?_
                exact ev_to ok2 e5 fun y H4 x4 ro4 ok4 rp4 => fin H4 _ dy y x4 ro4 (.inr trivial) rp4 hz et3
            | true =>
              obtain ⟨kd, r4, e5, e6⟩ := Res.bind_ok et1
              obtain ⟨kb, r5, e7, e8⟩ := Res.bind_ok e6
              obtain ⟨rfl, rfl⟩ := asB_b e7
              refine evT_to ok2 e5 fun H3 x3 ro3 ok3 => ?_
              cases kb with
              | false =>
                cases e8
                rw [if_neg Bool.false_ne_true]
                rcases et2 with ⟨_, et3⟩ | ⟨y', ey, _⟩
                · have ok4 := (okH.grow extN (okH.row.keep nw.keep)).grow x3 ro3
                  exact ⟨accs, vs, _, hi, et3, x3 Da _ nD (nw.keep Da _ hDl) rfl, rps.mono ((extN.trans x3).le (.inl (.inl okS.zr))), ok4, (k.trans extN).trans x3⟩
                · cases ey
              | true =>
                rw [if_pos rfl] at e8 ⊢
                obtain ⟨dy, r6, e9, e10⟩ := Res.bind_ok e8
                cases e10
                rcases et2 with ⟨z, _⟩ | ⟨y', ey, hz, et3⟩
                · cases z
                · cases ey
                  exact ev_to ok3 e9 fun y H4 x4 ro4 ok4 rp4 => fin H4 _ dy y (x3.trans x4) ro4 (.inr trivial) rp4 hz et3
        · obtain ⟨accs, vs, ri, hil, et, hDl, rps, okH, k⟩ := p
          rw [List.drop_length] at et
          cases et
          exact q Da H (x1.trans k) okH.row hsD ⟨vs, hDl, rps⟩
    · cases e2
theorem v_compF {elt tgx iter : Expr} {ifs : List Expr} {scope : Scope} {own : List (Str × Nat)} {fr tg : List Nat} {sole cd : Bool} {it c e : IE} (hc : X.calm = true) (hN : X.N.Nodup)
    (hi : PI X tgx iter (tEvI aR X.K F it)) (ok : BlkOk X.N X.env.scope scope own) (hown : own.map (·.2) = tg)
    (hg : ∀ (s : Shared) (H : Hp) (C : Addr) (cl : List (Str × Addr)) (fp : List Addr), PG (X.blk s H scope (compEnvC scope cl C X.env) fp) tgx (gT X.K sole tg))
    (ht : ∀ (s : Shared) (H : Hp) (C : Addr) (cl : List (Str × Addr)) (fp : List Addr), PTs (X.blk s H scope (compEnvC scope cl C X.env) fp) ifs (tCd aR X.K F cd c))
    (he : ∀ (s : Shared) (H : Hp) (C : Addr) (cl : List (Str × Addr)) (fp : List Addr), PE (X.blk s H scope (compEnvC scope cl C X.env) fp) elt (tEv aR X.K F e))
    (hs : ∀ x, foldedSetIterable iter X.env x = pure x) (f1 : ∀ i ∈ al it, i ∈ fr) (f2 : ∀ i ∈ tg, i ∈ fr) (fw : wkI it = true → (!sole) = true) :
    PE X (.ListComp elt [⟨tgx, iter, ifs, 0⟩] scope pos) (tEvF aR X.K F (.comp fr tg sole it cd c e)) := by
  have h := pe_lc (pos := pos) hc hN hi ok hg ht he hs
  rw [hown] at h
  exact PE.imp h (comp_reads f1 f2 fw)
end
end Wl
/-! The rest of the expressions; new things. -/
namespace Wl
open PySem PySem.Spec PyProof.Rows L2

section
variable {X : Cx} {aR : AR} {F : Fns} {ea eb ec : Expr} {a b c d : IE} {pos : Pos}
/-! ### zip -/
theorem PI.or0 {X : Cx} {tg e : Expr} {t u : TI} (h1 : PI X tg e t) (h2 : PI X tg e u) : PI X tg e (fun σ H Q => t σ H Q ∨ u σ H Q) := ⟨fun pins s σ H Q I q => q.elim (h1.run pins s σ H Q I) (h2.run pins s σ H Q I)⟩
theorem al_itZ (a b : IE) : al (.itZ a b) = alC a ++ alC b := by cases a <;> cases b <;> rfl
theorem dvs_l {a b : IE} {i : Nat} (h : a = .var i) : i ∈ dvs (.itZ a b) := by subst h; cases b <;> simp [dvs]
theorem dvs_r {a b : IE} {i : Nat} (h : b = .var i) : i ∈ dvs (.itZ a b) := by subst h; cases a <;> simp [dvs]
theorem i_Z {p tpos : Pos} {elts : List Expr} {kk : Nat} (hg : Gl X "zip") (hm : X.mg "zip" = none) (ha : PE X ea (tEvC aR X.K F a)) (hb : PE X eb (tEvC aR X.K F b))
    (hs : starEach [ea, eb] X.env = (false, eval ea X.env) :: starEach [eb] X.env) (hs2 : starEach [eb] X.env = [(false, eval eb X.env)]) :
    PI X (.Tuple elts kk tpos) (.Call (.Name "zip" p) [ea, eb] [] pos) (tEvI aR X.K F (.itZ a b)) :=
  PI.imp (PI.or0 (RZ.pi_zipA hg hm (pa_cons ha (pa_1 hb hs2) hs) hs (by rw [hs2]; rfl)) (pi_zipM hg hm (pa_cons ha (pa_1 hb hs2) hs) hs (by rw [hs2]; rfl))) fun σ H R ⟨Z, H0, env, r, ok, l, r', e, q⟩ => by
    obtain ⟨u, r1, w, r2, e1, e2, e3⟩ := bind2 (f := fun _ _ => .no) e
    by_cases hmix : ∃ l m, u = .tup l ∧ w = .lst m
    · right
      obtain ⟨l1, l2, rfl, rfl⟩ := hmix
      cases e3
      refine evC_top ok e1 fun v1 H1 x1 ro1 ok1 rp1 tp1 => evC_top ok1 e2 fun v2 H2 x2 ro2 ok2 rp2 tp2 => ?_
      have rp1' := rp1.ext x2 (.inl ok.zr)
      have tp1' : TopC aR H2 Z σ env a (.tup l1) v1 := tp1.imp (fun h => h.mono (x2.le (.inl ok.zr))) id
      obtain ⟨p1, vs1, rfl, h1, n1, rps1⟩ := id rp1'
      obtain ⟨p2, vs2, rfl, h2, n2, rps2⟩ := id rp2
      obtain ⟨t1, t2⟩ := top_of (zr := ok.zr) (.inr ⟨_, rfl⟩) rp1' tp1'
      obtain ⟨t3, t4⟩ := top_of (zr := ok.zr) (.inl ⟨_, rfl⟩) rp2 tp2
      have hU : ∀ z, (z = p1 ∨ z = p2) → z ≠ aR ∧ (¬ Mk Z σ env (al (.itZ a b)) z ∨ Dv σ env (dvs (.itZ a b)) z) := fun z hz => by
        rw [al_itZ]
        rcases hz with hz | hz
        · subst hz
          exact ⟨t1, t2.imp (fun n m => n (Mk.lft m)) fun ⟨i, d', g1, g2, g3⟩ => ⟨i, d', dvs_l g1, g2, g3⟩⟩
        · subst hz
          exact ⟨t3, t4.imp (fun n m => n (Mk.rgt m)) fun ⟨i, d', g1, g2, g3⟩ => ⟨i, d', dvs_r g1, g2, g3⟩⟩
      have hW : Walk (ItzM X.K p1 p2) (min vs1.length vs2.length) (fun H => SqT X.K H p1 vs1 ∧ SqL X.K H p2 vs2) (YPair (fun i => vs1[i]?) (fun i => vs2[i]?)) := by
        refine ⟨fun i _ hi q => ?_, fun _ q => ⟨vs1, vs2, q.1, q.2, by omega, by omega, by omega⟩, fun i H v H' _ q y => ?_⟩
        · have h1 : i < vs1.length := by omega
          have h2 : i < vs2.length := by omega
          exact ⟨vs1, vs2, vs1[i], vs2[i], q.1, q.2, by simp [h1], by simp [h2]⟩
        · obtain ⟨T, x, z, h1, h2, h3, h4, h5⟩ := y
          exact ⟨T, x, z, h1, h2, h3, h4 vs1 q.1, h5 vs2 q.2⟩
      obtain ⟨o1, ho1⟩ := h1.get
      refine ⟨p1, p2, vs1, vs2, rfl, h1.of, .of h2, q _ H2 (x1.trans x2) ro2 ⟨fun a => a = p1 ∨ a = p2, YPair (fun i => vs1[i]?) (fun i => vs2[i]?), hU, ?_, fun i H3 y H4 Z' hi hle zk hy => ?_⟩⟩
      · rw [zip_len, ← rps1.length, ← rps2.length]
        exact hW.mono (fun H3 h3 => ⟨.inl (.inr ⟨o1, h3 p1 _ (.inl rfl) ho1 rfl⟩), .of (h3 p2 _ (.inr rfl) h2 rfl)⟩) (fun _ _ _ _ _ _ y => y)
      · obtain ⟨T, y1, y2, rfl, hT, e4, g1, g2⟩ := hy
        obtain ⟨d1, e5, rp5⟩ := rps1.get' g1
        obtain ⟨d2, e6, rp6⟩ := rps2.get' g2
        rw [al_itZ] at hle
        exact ⟨.inr ⟨T, _, hT, e4⟩, _, zip_get _ _ e5 e6, pair_rep (fun a z => let ⟨o, h, _⟩ := zk a z; ⟨o, h⟩) hT e4 ((rp5.mono (Le.less fun z m => Mk.lft m)).mono hle) ((rp6.mono (Le.less fun z m => Mk.rgt m)).mono hle)⟩
    left
    refine evC_top ok e1 fun v1 H1 x1 ro1 ok1 rp1 tp1 => evC_top ok1 e2 fun v2 H2 x2 ro2 ok2 rp2 tp2 => ?_
    have rp1' := rp1.ext x2 (.inl ok.zr)
    have tp1' : TopC aR H2 Z σ env a u v1 := tp1.imp (fun h => h.mono (x2.le (.inl ok.zr))) id
    split at e3
    · cases e3
      obtain ⟨p1, vs1, rfl, h1, n1, rps1⟩ := id rp1'
      obtain ⟨p2, vs2, rfl, h2, n2, rps2⟩ := id rp2
      obtain ⟨t1, t2⟩ := top_of (zr := ok.zr) (.inl ⟨_, rfl⟩) rp1' tp1'
      obtain ⟨t3, t4⟩ := top_of (zr := ok.zr) (.inl ⟨_, rfl⟩) rp2 tp2
      have hU : ∀ z, (z = p1 ∨ z = p2) → z ≠ aR ∧ (¬ Mk Z σ env (al (.itZ a b)) z ∨ Dv σ env (dvs (.itZ a b)) z) := fun z hz => by
        rw [al_itZ]
        rcases hz with hz | hz
        · subst hz
          exact ⟨t1, t2.imp (fun n m => n (Mk.lft m)) fun ⟨i, d', g1, g2, g3⟩ => ⟨i, d', dvs_l g1, g2, g3⟩⟩
        · subst hz
          exact ⟨t3, t4.imp (fun n m => n (Mk.rgt m)) fun ⟨i, d', g1, g2, g3⟩ => ⟨i, d', dvs_r g1, g2, g3⟩⟩
      refine ⟨p1, p2, vs1, vs2, rfl, .inl ⟨.of h1, .of h2, q _ H2 (x1.trans x2) ro2 ⟨fun a => a = p1 ∨ a = p2, YPair (fun i => vs1[i]?) (fun i => vs2[i]?), hU, ?_, fun i H3 y H4 Z' hi hle zk hy => ?_⟩⟩⟩
      · refine (walk_zip (n := _) (by rw [zip_len, ← rps1.length, ← rps2.length])).mono (fun H3 h3 => ⟨.of (h3 p1 _ (.inl rfl) h1 rfl), .of (h3 p2 _ (.inr rfl) h2 rfl)⟩) (fun _ _ _ _ _ _ y => y)
      · obtain ⟨T, y1, y2, rfl, hT, e4, g1, g2⟩ := hy
        obtain ⟨d1, e5, rp5⟩ := rps1.get' g1
        obtain ⟨d2, e6, rp6⟩ := rps2.get' g2
        rw [al_itZ] at hle
        exact ⟨.inr ⟨T, _, hT, e4⟩, _, zip_get _ _ e5 e6, pair_rep (fun a z => let ⟨o, h, _⟩ := zk a z; ⟨o, h⟩) hT e4 ((rp5.mono (Le.less fun z m => Mk.lft m)).mono hle) ((rp6.mono (Le.less fun z m => Mk.rgt m)).mono hle)⟩
    · cases e3
      obtain ⟨p1, vs1, rfl, h1, n1, rps1⟩ := id rp1'
      obtain ⟨p2, vs2, rfl, h2, n2, rps2⟩ := id rp2
      obtain ⟨t1, t2⟩ := top_of (zr := ok.zr) (.inr ⟨_, rfl⟩) rp1' tp1'
      obtain ⟨t3, t4⟩ := top_of (zr := ok.zr) (.inr ⟨_, rfl⟩) rp2 tp2
      have hU : ∀ z, (z = p1 ∨ z = p2) → z ≠ aR ∧ (¬ Mk Z σ env (al (.itZ a b)) z ∨ Dv σ env (dvs (.itZ a b)) z) := fun z hz => by
        rw [al_itZ]
        rcases hz with hz | hz
        · subst hz
          exact ⟨t1, t2.imp (fun n m => n (Mk.lft m)) fun ⟨i, d', g1, g2, g3⟩ => ⟨i, d', dvs_l g1, g2, g3⟩⟩
        · subst hz
          exact ⟨t3, t4.imp (fun n m => n (Mk.rgt m)) fun ⟨i, d', g1, g2, g3⟩ => ⟨i, d', dvs_r g1, g2, g3⟩⟩
      have hW : Walk (RZ.ItzT X.K p1 p2) (min vs1.length vs2.length) (fun H => SqT X.K H p1 vs1 ∧ SqT X.K H p2 vs2) (YPair (fun i => vs1[i]?) (fun i => vs2[i]?)) := by
        refine ⟨fun i _ hi q => ?_, fun _ q => ⟨vs1, vs2, q.1, q.2, by omega⟩, fun i H v H' _ q y => ?_⟩
        · have h1 : i < vs1.length := by omega
          have h2 : i < vs2.length := by omega
          exact ⟨vs1, vs2, vs1[i], vs2[i], q.1, q.2, by simp [h1], by simp [h2]⟩
        · obtain ⟨T, x, z, h1, h2, h3, h4, h5⟩ := y
          exact ⟨T, x, z, h1, h2, h3, h4 vs1 q.1, h5 vs2 q.2⟩
      obtain ⟨o1, ho1⟩ := h1.get
      obtain ⟨o2, ho2⟩ := h2.get
      refine ⟨p1, p2, vs1, vs2, rfl, .inr ⟨h1.of, h2.of, q _ H2 (x1.trans x2) ro2 ⟨fun a => a = p1 ∨ a = p2, YPair (fun i => vs1[i]?) (fun i => vs2[i]?), hU, ?_, fun i H3 y H4 Z' hi hle zk hy => ?_⟩⟩⟩
      · rw [zip_len, ← rps1.length, ← rps2.length]
        exact hW.mono (fun H3 h3 => ⟨.inl (.inr ⟨o1, h3 p1 _ (.inl rfl) ho1 rfl⟩), .inl (.inr ⟨o2, h3 p2 _ (.inr rfl) ho2 rfl⟩)⟩) (fun _ _ _ _ _ _ y => y)
      · obtain ⟨T, y1, y2, rfl, hT, e4, g1, g2⟩ := hy
        obtain ⟨d1, e5, rp5⟩ := rps1.get' g1
        obtain ⟨d2, e6, rp6⟩ := rps2.get' g2
        rw [al_itZ] at hle
        exact ⟨.inr ⟨T, _, hT, e4⟩, _, zip_get _ _ e5 e6, pair_rep (fun a z => let ⟨o, h, _⟩ := zk a z; ⟨o, h⟩) hT e4 ((rp5.mono (Le.less fun z m => Mk.lft m)).mono hle) ((rp6.mono (Le.less fun z m => Mk.rgt m)).mono hle)⟩
    · exact absurd ⟨_, _, rfl, rfl⟩ hmix
    · cases e3

/-! ### isinstance -/
def tyN : Ty → String
  | .int => "int"
  | .bool => "bool"
  | .tuple => "tuple"
  | .list => "list"
  | .str => "str"
def tyD : D → Value
  | .non => .type "NoneType"
  | .bl _ => .type "bool"
  | .int _ => .type "int"
  | .str _ => .type "str"
  | .tup _ => .type "tuple"
  | .dct _ _ _ => .type "dict"
  | _ => .type "list"
theorem is_of {K : PySem.W.Frag} {H : Hp} {Z : Addr → Prop} {t : Ty} : ∀ {x : D} {v : V} {k : Bool}, isD t x = some k → RepC aR H Z x v → TyX K H v (tyD x) ∧ PySem.W.kitOne K (tyD x) (.type (tyN t)) = some k
  | .non, _, k, e, h => by
    cases h; cases e
    exact ⟨.base .non, by cases t <;> exact kit_ty (by decide +kernel)⟩
  | .bl _, _, k, e, h => by
    cases h; cases e
    exact ⟨.base (.bl _), by cases t <;> exact kit_ty (by decide +kernel)⟩
  | .int _, _, k, e, h => by
    cases h; cases e
    exact ⟨.base (.int _), by cases t <;> exact kit_ty (by decide +kernel)⟩
  | .str _, _, k, e, h => by
    cases h; cases e
    exact ⟨.base (.str _), by cases t <;> exact kit_ty (by decide +kernel)⟩
  | .tup _, _, k, e, ⟨a, vs, e1, h1, _⟩ => by
    subst e1; cases e
    obtain ⟨o, ho⟩ := h1.get
    exact ⟨.fTuple ho, by cases t <;> exact kit_ty (by decide +kernel)⟩
  | .lst _, _, k, e, ⟨a, vs, e1, h1, _⟩ => by
    subst e1; cases e
    exact ⟨.base (.lst h1), by cases t <;> exact kit_ty (by decide +kernel)⟩
  | .dct false _ _, _, k, e, ⟨a, kvs, e1, h1, _⟩ => by
    subst e1; cases e
    rcases h1 with h1 | ⟨o, h1⟩
    · exact ⟨.base (.dK h1), by cases t <;> exact kit_ty (by decide +kernel)⟩
    · exact ⟨.fDict h1, by cases t <;> exact kit_ty (by decide +kernel)⟩
theorem pe_ty {x : Str} {T : String} {p : Pos} (hg : Gl X x) (hm : X.mg x = none) (hv : bootBuiltins x = some (.type T)) (hn : x ≠ "__name__") (hd : (x == ("__debug__" : Str)) = false) : PE X (.Name x p) (tC (.ty T)) := pe_bltn hg hm hv rfl hn hd
def tyS : Ty → Str
  | .int => "int"
  | .bool => "bool"
  | .tuple => "tuple"
  | .list => "list"
  | .str => "str"
theorem ty_boot : ∀ t : Ty, bootBuiltins (tyS t) = some (.type (tyN t)) := by intro t; cases t <;> decide +kernel
theorem ty_n1 : ∀ t : Ty, tyS t ≠ "__name__" := by intro t; cases t <;> decide
theorem ty_n2 : ∀ t : Ty, (tyS t == ("__debug__" : Str)) = false := by intro t; cases t <;> decide
theorem v_isi {t : Ty} {p p2 : Pos} (hg : Gl X "isinstance") (hm : X.mg "isinstance" = none) (hg2 : Gl X (tyS t)) (hm2 : X.mg (tyS t) = none) (ha : PE X ea (tEvC aR X.K F a))
    (hs : starEach [ea, .Name (tyS t) p2] X.env = (false, eval ea X.env) :: starEach [.Name (tyS t) p2] X.env) : PE X (.Call (.Name "isinstance" p) [ea, .Name (tyS t) p2] [] pos) (tEv aR X.K F (.isi t a)) :=
  PE.imp (pe_callB call_isi hg hm PyProof.Rows.boot_isinstance (pa_cons ha (pa_1 (pe_ty hg2 hm2 (ty_boot t) (ty_n1 t) (ty_n2 t)) rfl) hs) (by decide) (by decide) hs rfl) fun σ H Q ⟨Z, H0, env, r, ok, dd, r', e, q⟩ => by
    obtain ⟨u, r1, e1, e2⟩ := Res.bind_ok e
    obtain ⟨k, e4, rfl, rfl⟩ := map_ok e2
    refine evC_to ok e1 fun v H' x ro ok' rp => ?_
    obtain ⟨h1, h2⟩ := is_of (K := X.K) e4 rp
    exact ⟨v, .ty (tyN t), _, _, k, rfl, .ty _, h1, h2, q _ H' x ro rfl⟩
theorem v_isi2 {t t' : Ty} {p p2 p3 p4 : Pos} {kk : Nat} (hg : Gl X "isinstance") (hm : X.mg "isinstance" = none) (hg2 : Gl X (tyS t)) (hm2 : X.mg (tyS t) = none) (hg3 : Gl X (tyS t')) (hm3 : X.mg (tyS t') = none) (ha : PE X ea (tEvC aR X.K F a))
    (hs : starEach [ea, .Tuple [.Name (tyS t) p2, .Name (tyS t') p3] kk p4] X.env = (false, eval ea X.env) :: starEach [.Tuple [.Name (tyS t) p2, .Name (tyS t') p3] kk p4] X.env) :
    PE X (.Call (.Name "isinstance" p) [ea, .Tuple [.Name (tyS t) p2, .Name (tyS t') p3] kk p4] [] pos) (tEv aR X.K F (.isi2 t t' a)) :=
  PE.imp (pe_callB call_isiT hg hm PyProof.Rows.boot_isinstance (pa_cons ha (pa_1 (pe_tup (pa_cons (pe_ty hg2 hm2 (ty_boot t) (ty_n1 t) (ty_n2 t)) (pa_1 (pe_ty hg3 hm3 (ty_boot t') (ty_n1 t') (ty_n2 t')) rfl))) rfl) hs) (by decide) (by decide) hs rfl) fun σ H Q ⟨Z, H0, env, r, ok, dd, r', e, q⟩ => by
    obtain ⟨u, r1, e1, e2⟩ := Res.bind_ok e
    obtain ⟨e3, rfl⟩ := Res.of_ok e2
    obtain ⟨k, e4, e5⟩ := Option.bind_eq_some_iff.mp e3
    obtain ⟨k', e6, rfl⟩ := Option.map_eq_some_iff.mp e5
    refine evC_to ok e1 fun v H' x ro ok' rp => ?_
    refine ⟨by show 2 ≤ sizeLine; decide, fun T hT => ?_⟩
    have l : Le H' (Mk Z σ env (alC a)) (upd H' T (.tup [.ty (tyN t), .ty (tyN t')])) (Mk Z σ env (alC a)) := fun z o e _ n => ⟨by rw [upd_ne (ne_of_none e hT)]; exact e, n⟩
    have rp' : RepC aR (upd H' T (.tup [.ty (tyN t), .ty (tyN t')])) (Mk Z σ env (alC a)) u v := rp.ext (.new hT) (.inl ok.zr)
    obtain ⟨h1, h2⟩ := is_of (K := X.K) e4 rp'
    obtain ⟨_, h2'⟩ := is_of (K := X.K) e6 rp'
    refine ⟨v, T, [.ty (tyN t), .ty (tyN t')], _, [.type (tyN t), .type (tyN t')], k || k', rfl, upd_same, .cons (.ty _) (.cons (.ty _) .nil), h1, ?_, q _ _ (x.trans (.new hT)) (ro.keep (keep_new hT)) rfl⟩
    unfold PySem.W.kitAny
    rw [h2]
    cases k with
    | true => rfl
    | false =>
      unfold PySem.W.kitAny
      rw [h2']
      cases k' <;> rfl

/-! ### tuple(range(n)), min, max of two -/
theorem v_tupR {p p2 pos2 : Pos} (hc : X.calm = true) (hg : Gl X "tuple") (hm : X.mg "tuple" = none) (hg2 : Gl X "range") (hm2 : X.mg "range" = none) (ha : PE X ea (tEvC aR X.K F a)) (hs : starEach [ea] X.env = (false, eval ea X.env) :: starEach [] X.env) :
    PE X (.Call (.Name "tuple" p) [.Call (.Name "range" p2) [ea] [] pos2] [] pos) (tEv aR X.K F (.tupR a)) :=
  PE.imp (pe_tupRgS hc hg hm (prg_1 hg2 hm2 ha hs)) fun σ H Q ⟨Z, H0, env, r, ok, dd, r', e, q⟩ => by
    obtain ⟨u, r1, e1, e2⟩ := Res.bind_ok e
    refine evC_to ok e1 fun v H' x ro ok' rp => ?_
    split at e2
    · rename_i k
      split at e2
      · rename_i hk
        simp only [Bool.and_eq_true, small_iff, decide_eq_true_eq] at hk
        cases e2
        cases rp
        refine ⟨k, rfl, ⟨by omega, by omega, hk.1.1, hk.1.2, by have := hk.2; unfold SZ at this; omega⟩, fun p o hp hd => q _ _ (x.trans (.new hp)) (ro.keep (keep_new hp)) ?_⟩
        refine rep_newT (fun z m => let ⟨o, h, _⟩ := ok'.mkk z m; ⟨o, h⟩) hp hd ?_
        have : ∀ n : Nat, Reps aR H' (Mk Z σ env (al (.tupR a))) (rngD 0 n) ((List.range n).map fun i => V.int (0 + (i : Nat))) := fun n => by
          have h := reps_ints (aR := aR) (H := H') (Z := Mk Z σ env (al (.tupR a))) ((List.range n).map fun (i : Nat) => (0 : Int) + i)
          rw [List.map_map, List.map_map] at h
          exact h
        unfold rgV
        rw [show (k - 0).toNat = k.toNat by omega]
        exact this _
      · cases e2
    · cases e2
theorem v_min2 {p : Pos} (hc : X.calm = true) (hg : Gl X "min") (hm : X.mg "min" = none) (ha : PE X ea (tEvC aR X.K F a)) (hb : PE X eb (tEvC aR X.K F b)) (hs : starEach [ea, eb] X.env = (false, eval ea X.env) :: starEach [eb] X.env) (hs2 : starEach [eb] X.env = [(false, eval eb X.env)]) :
    PE X (.Call (.Name "min" p) [ea, eb] [] pos) (tEv aR X.K F (.blt2 .min a b)) :=
  PE.imp (pe_callB (call_min2 hc) hg hm PyProof.Rows.boot_min (pa_cons ha (pa_1 hb hs2) hs) (by decide) (by decide) hs (by rw [hs2]; rfl)) fun σ H Q ⟨Z, H0, env, r, ok, dd, r', e, q⟩ => by
    obtain ⟨u, r1, w, r2, e1, e2, e3⟩ := bind2 (f := fun _ _ => .no) e
    refine evC_to ok e1 fun v1 H1 x1 ro1 ok1 rp1 => evC_to ok1 e2 fun v2 H2 x2 ro2 ok2 rp2 => ?_
    split at e3
    · cases e3
      cases rp1; cases rp2
      exact ⟨_, _, rfl, q _ H2 (x1.trans x2) ro2 rfl⟩
    · rename_i h; cases h
    · cases e3
theorem v_max2 {p : Pos} (hc : X.calm = true) (hg : Gl X "max") (hm : X.mg "max" = none) (ha : PE X ea (tEvC aR X.K F a)) (hb : PE X eb (tEvC aR X.K F b)) (hs : starEach [ea, eb] X.env = (false, eval ea X.env) :: starEach [eb] X.env) (hs2 : starEach [eb] X.env = [(false, eval eb X.env)]) :
    PE X (.Call (.Name "max" p) [ea, eb] [] pos) (tEv aR X.K F (.blt2 .max a b)) :=
  PE.imp (pe_callB (call_max2 hc) hg hm PyProof.Rows.boot_max (pa_cons ha (pa_1 hb hs2) hs) (by decide) (by decide) hs (by rw [hs2]; rfl)) fun σ H Q ⟨Z, H0, env, r, ok, dd, r', e, q⟩ => by
    obtain ⟨u, r1, w, r2, e1, e2, e3⟩ := bind2 (f := fun _ _ => .no) e
    refine evC_to ok e1 fun v1 H1 x1 ro1 ok1 rp1 => evC_to ok1 e2 fun v2 H2 x2 ro2 ok2 rp2 => ?_
    split at e3
    · rename_i h; cases h
    · cases e3
      cases rp1; cases rp2
      exact ⟨_, _, rfl, q _ H2 (x1.trans x2) ro2 rfl⟩
    · cases e3
end
end Wl
/-! New things, owned by whoever takes them. -/
namespace Wl
open PySem PySem.Spec PyProof.Rows L2

section
variable {aR : AR} {K : PySem.W.Frag} {Z : Addr → Prop} {H0 H H' : Hp} {σ : L2.St} {env : Env} {r r' : Row} {ex : List Nat}
theorem mk_or {p a : Addr} : Mk (fun a => Z a ∨ a = p) σ env ex a ↔ Mk Z σ env ex a ∨ a = p := by
  constructor
  · rintro ((m | m) | m)
    · exact .inl (.inl m)
    · exact .inr m
    · exact .inl (.inr m)
  · rintro ((m | m) | m)
    · exact .inl (.inl m)
    · exact .inr m
    · exact .inl (.inr m)
theorem le_new {p : Addr} {o : HO} (hp : H p = none) : Le H (Mk Z σ env ex) (upd H p o) (Mk (fun a => Z a ∨ a = p) σ env ex) := fun a u e _ n => by
  have ne : a ≠ p := ne_of_none e hp
  exact ⟨by rw [upd_ne ne]; exact e, fun m => (mk_or.mp m).elim n ne⟩
theorem ow_newL {p : Addr} {l : List D} {vs : List V} (hp : H p = none) (h : Reps aR H (Mk Z σ env ex) l vs) : Ow aR (upd H p (.lst vs)) (Mk (fun a => Z a ∨ a = p) σ env ex) p (.lst l) := ⟨vs, upd_same, h.mono (le_new hp)⟩
theorem start_free {p : Addr} {Hs : Hp} (ok : RowOk aR K H r) (x : Ext aR Hs H) (hp : H p = none) : Fr0 Hs p := x.dom p (.of hp)
end
section
variable {X : Cx} {aR : AR} {F : Fns} {ea eb ec : Expr} {a b c d : IE} {pos : Pos}
/-- a new thing, as any value -/
theorem fF_pt {K : PySem.W.Frag} {ie : IE} {σ : L2.St} {H : Hp} {Q : VK} : tEv aR K F ie σ H Q → tEvF aR K F ie σ H Q :=
  fun ⟨Z, H0, env, r, ok, d, r', e1, q⟩ => ⟨Z, H0, env, r, ok, d, r', e1, fun p H' x ro hp o => q _ H' x ro (by
    refine (o.mono (Le.less fun a m => mk_or.mpr (.inl m)) fun _ q _ => q).rep fun m => ?_
    obtain ⟨o', e', l⟩ := ok.mkk p m
    exact hp.ne e' (nt_lk l) rfl)⟩
theorem f_of {e : Expr} {ie : IE} (h : PE X e (tEvF aR X.K F ie)) : PE X e (tEv aR X.K F ie) := PE.imp h fun σ H Q => fF_pt
theorem f_lst {es : List Expr} (h : PA X es (tEvA aR X.K F a)) : PE X (.List es pos) (tEvF aR X.K F (.lst a)) :=
  PE.imp (pe_lst h) fun σ H Q ⟨Z, H0, env, r, ok, dd, r', e, q⟩ => by
    obtain ⟨u, r1, e1, e2⟩ := Res.bind_ok e
    split at e2
    · split at e2
      · rename_i hz
        cases e2
        exact evA_to ok e1 fun v H' x ro ok' rp => ⟨by rw [rp.length, ← SZ_eq]; exact hz, fun p hp => q _ _ (x.trans (.new hp)) (ro.keep (keep_new hp)) (start_free ro x hp) (ow_newL hp rp)⟩
      · cases e2
    · cases e2
theorem f_list {p : Pos} (hg : Gl X "list") (hm : X.mg "list" = none) (ha : PE X ea (tEvC aR X.K F a)) (hs : starEach [ea] X.env = (false, eval ea X.env) :: starEach [] X.env) : PE X (.Call (.Name "list" p) [ea] [] pos) (tEvF aR X.K F (.blt .list a)) :=
  PE.imp (pe_callTy call_list_of hg hm PyProof.Rows.boot_list (pa_1 ha hs) (by decide) (by decide) hs rfl) fun σ H Q ⟨Z, H0, env, r, ok, dd, r', e, q⟩ => by
    obtain ⟨u, r1, e1, e2⟩ := Res.bind_ok e
    obtain ⟨e3, rfl⟩ := Res.of_ok e2
    refine evC_to ok e1 fun v H' x ro ok' rp => ?_
    have fin : ∀ l vs, dd = .lst l → Reps aR H' (Mk Z σ env (al (.blt .list a))) l vs → ∀ p, H' p = none → Q (.ref p) (upd H' p (.lst vs)) := fun l vs ed rp p hp => by
      subst ed
      exact q _ _ (x.trans (.new hp)) (ro.keep (keep_new hp)) (start_free ro x hp) (ow_newL hp rp)
    have ea : al (.blt .list a) = alC a := by cases a <;> rfl
    cases u <;> simp [bfD] at e3
    · obtain ⟨p, vs, rfl, h1, n1, rps⟩ := rp
      exact ⟨p, vs, rfl, .inr h1.of, fin _ vs e3.symm (by rw [ea]; exact rps)⟩
    · obtain ⟨p, vs, rfl, h1, n1, rps⟩ := rp
      exact ⟨p, vs, rfl, .inl (.of h1), fin _ vs e3.symm (by rw [ea]; exact rps)⟩
theorem f_sorted {p : Pos} (hg : Gl X "sorted") (hm : X.mg "sorted" = none) (ha : PE X ea (tEvC aR X.K F a)) (hs : starEach [ea] X.env = (false, eval ea X.env) :: starEach [] X.env) : PE X (.Call (.Name "sorted" p) [ea] [] pos) (tEvF aR X.K F (.blt .sorted a)) :=
  PE.imp (pe_callB cr_sortedI hg hm PyProof.Rows.boot_sorted (pa_1 ha hs) (by decide) (by decide) hs rfl) fun σ H Q ⟨Z, H0, env, r, ok, dd, r', e, q⟩ => by
    obtain ⟨u, r1, e1, e2⟩ := Res.bind_ok e
    obtain ⟨e3, rfl⟩ := Res.of_ok e2
    refine evC_to ok e1 fun v H' x ro ok' rp => ?_
    cases u <;> simp [bfD] at e3
    obtain ⟨ns, e4, rfl⟩ := e3
    obtain ⟨p, vs, rfl, h1, n1, rps⟩ := rp
    obtain ⟨rfl, rfl⟩ := ints_of e4 rps
    refine ⟨p, ns, rfl, .of h1, fun ns' p' hp hw hn => ?_⟩
    have : ns' = sortI ns := sort_unique (hp.trans (sort_perm ns).symm) hw (sort_pw ns)
    subst this
    exact q _ _ (x.trans (.new hn)) (ro.keep (keep_new hn)) (start_free ro x hn) (ow_newL hn (reps_ints _))
theorem f_listD {p : Pos} (hc : X.calm = true) (hg : Gl X "list") (hm : X.mg "list" = none) (ha : PE X ea (tEvC aR X.K F a)) (hs : starEach [ea] X.env = (false, eval ea X.env) :: starEach [] X.env) : PE X (.Call (.Name "list" p) [ea] [] pos) (tEvF aR X.K F (.blt .listD a)) :=
  PE.imp (pe_callTy (cr_listD hc) hg hm PyProof.Rows.boot_list (pa_1 ha hs) (by decide) (by decide) hs rfl) fun σ H Q ⟨Z, H0, env, r, ok, dd, r', e, q⟩ => by
    obtain ⟨u, r1, e1, e2⟩ := Res.bind_ok e
    obtain ⟨e3, rfl⟩ := Res.of_ok e2
    refine evC_to ok e1 fun v H' x ro ok' rp => ?_
    cases u <;> simp [bfD] at e3
    subst e3
    rename_i t ks vs
    cases t with
    | true =>
      obtain ⟨p, o, bs, us, rfl, h1, n1, ⟨xs, kvs, dd, pr, rfl, rfl, rfl⟩, rb, rps⟩ := rp
      have ea : al (.blt .listD a) = alC a := by cases a <;> rfl
      exact .inr ⟨p, o, xs, rfl, h1, dd, fun p' hn => q _ _ (x.trans (.new hn)) (ro.keep (keep_new hn)) (start_free ro x hn) (ow_newL hn (by rw [ea]; exact rb))⟩
    | false =>
      obtain ⟨p, kvs, rfl, h1, n1, rfl, rps⟩ := rp
      refine .inl ⟨p, kvs, rfl, h1, fun p' hn => q _ _ (x.trans (.new hn)) (ro.keep (keep_new hn)) (start_free ro x hn) (ow_newL hn ?_)⟩
      have h := reps_keys (aR := aR) (H := H') (Z := Mk Z σ env (al (.blt .listD a))) (kvs.map (·.1))
      rw [List.map_map, List.map_map] at h
      exact h
/-- xs + ys, xs * n -/
theorem f_op {o : Op} {p : Operator} (hm : oM o p = true) (ho : o = .add ∨ o = .mul) (ha : PE X ea (tEvC aR X.K F a)) (hb : PE X eb (tEvC aR X.K F b)) : PE X (.BinOp ea p eb pos) fun σ H Q => ∃ Z H0 env r, Ok aR X.K Z H0 σ H env r ∧ ∃ d r', ev F (.op o a b) env r = .ok d r' ∧ isL d = true ∧
    ∀ p H', Ext aR H H' → RowOk aR X.K H' r' → Fr0 H p → Ow aR H' (Mk (fun a => Z a ∨ a = p) σ env (al (.op o a b))) p d → Q (.ref p) H' :=
  PE.imp (pe_op (op_all hm) ha hb) fun σ H Q ⟨Z, H0, env, r, ok, dd, r', e, hl, q⟩ => by
    obtain ⟨u, r1, w, r2, e1, e2, e3⟩ := bind2 (f := fun _ _ => .no) e
    obtain ⟨e4, rfl⟩ := Res.of_ok e3
    refine two_to ok e1 e2 fun v1 v2 H' x ro ok' rp1 rp2 => ?_
    have fin : ∀ l vs, dd = .lst l → Reps aR H' (Mk Z σ env (al (.op o a b))) l vs → ∀ p, H' p = none → Q (.ref p) (upd H' p (.lst vs)) := fun l vs ed rp p hp => by
      subst ed
      exact q _ _ (x.trans (.new hp)) (ro.keep (keep_new hp)) (start_free ro x hp) (ow_newL hp rp)
    unfold opD at e4
    split at e4
    · cases e4; cases hl
    · split at e4
      · cases e4
        rename_i hz
        obtain ⟨a, vs, rfl, ha, na, ra⟩ := rp1
        obtain ⟨b, us, rfl, hb, nb, rb⟩ := rp2
        refine .inr (.inl ⟨a, b, vs, us, rfl, rfl, ha, hb, by rw [ra.length, rb.length, ← SZ_eq]; exact hz, fin _ _ rfl ?_⟩)
        exact (ra.mono (Le.less fun z m => Mk.lft m)).append (rb.mono (Le.less fun z m => Mk.rgt m))
      · cases e4
    · split at e4
      · cases e4; cases hl
      · cases e4
    · cases e4; cases hl
    · split at e4
      · cases e4; cases hl
      · cases e4
    · split at e4
      · cases e4
        rename_i hz
        simp only [Bool.and_eq_true, decide_eq_true_eq] at hz
        obtain ⟨a, vs, rfl, ha, na, ra⟩ := rp1
        cases rp2
        refine .inr (.inl ⟨a, _, vs, rfl, rfl, ha, by omega, by omega, ?_, fin _ _ rfl (reps_flat (ra.mono (Le.less fun z m => Mk.lft m)) _)⟩)
        rw [ra.length, sizeLine_eq]
        have h3 : Int.toNat ‹Int› ≤ 4096 := by omega
        exact Nat.le_trans (Nat.mul_le_mul hz.2 h3) (by decide)
      · cases e4
    · split at e4
      · cases e4; cases hl
      · cases e4
    · split at e4
      · cases e4; cases hl
      · cases e4
    · split at e4
      · cases e4; cases hl
      · cases e4
    · cases e4; cases hl
    · cases e4
/-! ### dict displays -/
theorem f_dic0 {t : Bool} : PE X (.Dict [] [] pos) (tEvF aR X.K F (.dic0 t)) := by
  cases t with
  | false =>
    exact PE.imp pe_dnewK fun σ H Q ⟨Z, H0, env, r, ok, dd, r', e, q⟩ => by
      cases e
      exact fun p hp => q p _ (.new hp) (ok.row.keep (keep_new hp)) (.of hp) ⟨[], upd_same, rfl, rfl⟩
  | true =>
    exact PE.imp pe_xnew fun σ H Q ⟨Z, H0, env, r, ok, dd, r', e, q⟩ => by
      cases e
      exact fun p o hp hd => q p _ (.new hp) (ok.row.keep (keep_new hp)) (.of hp) ⟨o, [], [], upd_same, ⟨[], [], hd, .nil, rfl, rfl, rfl⟩, rfl, rfl⟩
/-- {k: v}, the key a tuple -/
theorem pe_dispX (hu : X.A.units + 64 < cLine) {tk tv : TE} (hk : PE X ea tk) (hv : PE X eb tv) : PE X (.Dict [some ea] [eb] pos) (fun σ H Q => ∀ p o, H p = none → DicO p o [] → tk σ (upd H p (exO p o)) fun x H1 => tv σ H1 fun y H2 =>
    H2 p = some (exO p o) ∧ ∃ (k : NestedKey) (b : Addr), x = .ref b ∧ okK k ∧ KAt H2 k x ∧ ∀ o' u, RelV y u → DicO p o' (storedH [] k b u) → Q (.ref p) (upd H2 p (exO p o'))) := by
  refine ⟨fun pins s σ H Q I q => ?_⟩
  have hn := I.hok.fresh (Nat.le_refl s.heap.objs.size)
  have I1 := I.laid (a := s.heap.objs.size) (o := exO s.heap.objs.size { cls := .type "dict", data := .dict #[] }) (h' := s.heap.push { cls := .type "dict", data := .dict #[] }) (t' := s.toks) (fun _ _ q => Heap.get?_push_of_some _ q) (Nat.le_refl _) (exO_new (Heap.get?_push_size _ rfl))
  have d0 := dic_empty (a := s.heap.objs.size) (beq_eq_false_iff_ne.mpr (Ne.symm (Nat.ne_of_lt I.big)))
  rw [arm_eval_Dict]
  refine wpAny_bind (wpAny_standAt ?_)
  rw [zip_pairTrees [some ea] [eb] X.env pos rfl rfl, dictDisplay_pairs _ (by simp [pairTrees]) (by simp [pairTrees])]
  refine wpAny_bind ?_
  unfold subDict
  refine wpAny_bind (wpAny_alloc ?_)
  refine wpAny_bind (wpAny_holding ?_)
  rw [if_pos (by simp [pairTrees])]
  refine wpAny_bind (pairTrees_cons_walk (thn (hk.run pins _ σ _ _ I1 (q _ _ hn d0)) fun u s1 ⟨x, H1, I2, rx, q1⟩ => thn (hv.run pins s1 σ H1 _ I2 q1) fun w2 s2 ⟨y, H2, I3, ry, e, k, b, ex, okk, eb, q2⟩ => pairTrees_nil_walk ?_))
  subst ex
  cases (show u = Value.ref b from rx)
  have dd := dic_at (P := X.prog) (w := X.w) I3.hok (.of e) d0 .nil
  refine wpAny_holding ?_
  refine wpAny_bind ?_
  rw [List.forIn_cons]
  refine wpAny_bind (wpAny_bind (wpAny_dictSet_heap (hsz := Nat.zero_le _) (knd := nestedKind X.prog X.w) (show X.A.units + 8 < cLine by omega) ⟨kat_is I3.hok _ _ _ eb rfl, okk.2.2⟩ dd fun h' dd' hs => wpAny_pure ?_))
  dsimp only
  rw [List.forIn_nil]
  obtain ⟨q', es, ep, hq, h2, h3, h4, _, h5⟩ := dd'
  have hks := storedH_keys (xs := []) (b := b) (u := w2) okk (fun _ z => (by cases z))
  refine wpAny_pure (wpAny_pure (wpAny_pure (wpAny_pure ⟨.ref s.heap.objs.size, _, d_write (ob := exO s.heap.objs.size q') I3 (by rw [e]; exact True.intro) hs ⟨q', hq⟩ (exO_new hq), rfl, q2 q' w2 ry ⟨h2, ⟨es, ep, h3, ?_⟩, h5, hks, ?_, d0.sm⟩⟩)))
  · rw [h4, ent_eq hks]
  · have := storedH_len ([] : List (NestedKey × Addr × Value)) k b w2
    rw [sizeLine_eq]
    simp at this
    omega
theorem f_dic (ha : PE X ea (tEvC aR X.K F a)) (hb : PE X eb (tEv aR X.K F b)) : PE X (.Dict [some ea] [eb] pos) (tEvF aR X.K F (.dic false a b)) :=
  PE.imp (pe_disp (pps_cons ha hb pps_nil) rfl rfl (by simp) (by simp)) fun σ H Q ⟨Z, H0, env, r, ok, dd, r', e, q⟩ => by
    obtain ⟨u, r1, w, r2, e1, e2, e3⟩ := bind2 (f := fun _ _ => .no) e
    split at e3
    · rename_i hk
      cases e3
      have hk : u.key = true := by simpa [keyOk] using hk
      intro p hp
      have np : p ≠ aR := fun z => by obtain ⟨b, eb, _⟩ := ok.row; rw [z, eb] at hp; cases hp
      have h0 : Fr0 H0 p := ok.ext.dom p (.of hp)
      have ok0 : Ok aR X.K (fun a => Z a ∨ a = p) H0 σ (upd H p (.dK [])) env r := ok.hide (.new hp) (ok.row.keep (keep_new hp)) (.of hp) upd_same trivial
      refine evC_to ok0 e1 fun v1 H1 x1 ro1 ok1 rp1 => ev_to ok1 e2 fun v2 H2 x2 ro2 ok2 rp2 => ?_
      obtain ⟨k, rfl, rfl⟩ := key_v (K := X.K) hk rp1
      have hp2 : H2 p = some (.dK []) := x2 p _ np (x1 p _ np upd_same rfl) rfl
      refine ⟨hp2, [(k, v2)], rfl, by simp, ?_⟩
      have mz : Mk (fun a => Z a ∨ a = p) σ env (al (.dic false a b)) p := .inl (.inr rfl)
      refine q p _ (((Ext.new hp).trans (x1.trans x2)).updN (.of hp)) (ro2.upd hp2 trivial np (ok.scn h0)) (.of hp) ⟨[(k, v2)], upd_same, rfl, .one ((rp2.mono (Le.less fun z m => Mk.rgt m)).mono (le_updZ mz))⟩
    · cases e3
theorem f_dicT (hu : X.A.units + 64 < cLine) (ha : PE X ea (tEvC aR X.K F a)) (hb : PE X eb (tEv aR X.K F b)) : PE X (.Dict [some ea] [eb] pos) (tEvF aR X.K F (.dic true a b)) :=
  PE.imp (pe_dispX hu ha hb) fun σ H Q ⟨Z, H0, env, r, ok, dd, r', e, q⟩ => by
    obtain ⟨u, r1, w, r2, e1, e2, e3⟩ := bind2 (f := fun _ _ => .no) e
    split at e3
    · rename_i hk
      cases e3
      have hk : u.keyT = true := by simpa [keyOk] using hk
      intro p o hp hd
      have np : p ≠ aR := fun z => by obtain ⟨b, eb, _⟩ := ok.row; rw [z, eb] at hp; cases hp
      have h0 : Fr0 H0 p := ok.ext.dom p (.of hp)
      have lko : lk (exO p o) := by
        obtain ⟨es, ep, e, _⟩ := hd.dat
        exact ⟨p, o, es, ep, rfl, e⟩
      have ok0 : Ok aR X.K (fun a => Z a ∨ a = p) H0 σ (upd H p (exO p o)) env r := ok.hide (.new hp) (ok.row.keep (keep_new hp)) (.of hp) upd_same lko
      refine evC_to ok0 e1 fun v1 H1 x1 ro1 ok1 rp1 => ev_to ok1 e2 fun v2 H2 x2 ro2 ok2 rp2 => ?_
      have rp1' := rp1.ext x2 (.inl ok0.zr)
      obtain ⟨kk, b', rfl, okk, rfl, ka, rk⟩ := keyT_v hk rp1'
      have hp2 : H2 p = some (exO p o) := x2 p _ np (x1 p _ np upd_same rfl) rfl
      refine ⟨hp2, kk, b', rfl, okk, ka, fun o' uu hr ddn => ?_⟩
      have mz : Mk (fun a => Z a ∨ a = p) σ env (al (.dic true a b)) p := .inl (.inr rfl)
      have lz : Le H2 (Mk (fun a => Z a ∨ a = p) σ env (alC a)) H2 (Mk (fun a => Z a ∨ a = p) σ env (al (.dic true a b))) := Le.less fun z m => by
        rcases m with m | ⟨j, d, g1, g2, g3⟩
        · exact .inl m
        · refine .inr ⟨j, d, g1, g2, fun hj => g3 (List.mem_append_left _ ?_)⟩
          unfold alC at hj
          split at hj
          · cases hj
          · exact hj
      refine q p _ (((Ext.new hp).trans (x1.trans x2)).updN (.of hp)) (ro2.upd hp2 lko np (ok.scn h0)) (.of hp) ⟨o', [.ref b'], [v2], upd_same, ⟨[(kk, b', uu)], [(kk, v2)], ddn, .cons ⟨rfl, hr⟩ .nil, rfl, rfl, rfl⟩, .one ((rk.mono lz).mono (le_updZ mz)), .one ((rp2.mono (Le.less fun z m => Mk.rgt m)).mono (le_updZ mz))⟩
    · cases e3
theorem f_dicB {t : Bool} (hu : X.A.units + 64 < cLine) (ha : PE X ea (tEvC aR X.K F a)) (hb : PE X eb (tEv aR X.K F b)) : PE X (.Dict [some ea] [eb] pos) (tEvF aR X.K F (.dic t a b)) := by
  cases t with
  | false => exact f_dic ha hb
  | true => exact f_dicT hu ha hb
end
end Wl
/-! Statements. -/
namespace Wl
open PySem PySem.Spec PyProof.Rows L2

/-- how a statement's end is told -/
def EndOk (aR : AR) (K : PySem.W.Frag) (E0 : XK) (Z : Addr → Prop) (H0 : Hp) (σ : L2.St) (env : Env) (H : Hp) (E : Ends) : Fl → Row → Prop
  | .nx env', r' => ∀ σ' H', Ok aR K Z H0 σ' H' env' r' → Le H (Mk Z σ env []) H' (Mk Z σ' env' []) → E.nx σ' H'
  | .bk env', r' => ∀ σ' H', Ok aR K Z H0 σ' H' env' r' → Le H (Mk Z σ env []) H' (Mk Z σ' env' []) → E.bk σ' H'
  | .ct env', r' => ∀ σ' H', Ok aR K Z H0 σ' H' env' r' → Le H (Mk Z σ env []) H' (Mk Z σ' env' []) → E.ct σ' H'
  | .rt d, r' => ∀ v H', Ext aR H0 H' → RowOk aR K H' r' → Rep aR H' Z d v → E.rt v H'
  | .rs e, r' => ∀ cls d H', Ext aR H0 H' → RowOk aR K H' r' → ExcAt aR H' e cls d → E0 cls d H'
def tEvS (aR : AR) (K : PySem.W.Frag) (F : Fns) (E0 : XK) (s : IS) : TS := fun E σ H => ∃ Z H0 env r, Ok aR K Z H0 σ H env r ∧ ∃ f r', evS F s env r = .ok f r' ∧ EndOk aR K E0 Z H0 σ env H E f r'
section
variable {aR : AR} {K : PySem.W.Frag} {Z : Addr → Prop} {H0 H H' : Hp} {σ σ' : L2.St} {env env' : Env} {r r' : Row} {ex : List Nat} {E0 : XK}
theorem Ok.le (ok : Ok aR K Z H0 σ H env r) (x : Ext aR H H') : Le H (Mk Z σ env []) H' (Mk Z σ env []) := x.le ok.mr
/-- from a later state on -/
theorem EndOk.from {E : Ends} {f : Fl} (l : Le H (Mk Z σ env []) H' (Mk Z σ' env' [])) (h : EndOk aR K E0 Z H0 σ env H E f r) : EndOk aR K E0 Z H0 σ' env' H' E f r := by
  cases f with
  | nx e => exact fun σ2 H2 ok l2 => h σ2 H2 ok (l.trans l2)
  | bk e => exact fun σ2 H2 ok l2 => h σ2 H2 ok (l.trans l2)
  | ct e => exact fun σ2 H2 ok l2 => h σ2 H2 ok (l.trans l2)
  | rt d => exact h
  | rs e => exact h
theorem evS_to {F : Fns} {s : IS} {f : Fl} {E : Ends} (ok : Ok aR K Z H0 σ H env r) (e : evS F s env r = .ok f r') (h : EndOk aR K E0 Z H0 σ env H E f r') : tEvS aR K F E0 s E σ H := ⟨Z, H0, env, r, ok, f, r', e, h⟩
end
section
variable {X : Cx} {aR : AR} {F : Fns} {ea eb ec : Expr} {a b c d : IE} {pos : Pos} {st : Stmt} {rest : List Stmt} {s t : IS}
theorem s_nil : PSs X [] (tEvS aR X.K F (EX X) .nil) := PSs.imp pss_nil fun E σ H ⟨Z, H0, env, r, ok, f, r', e, q⟩ => by
  cases e
  exact q σ H ok .refl
theorem s_cons (h1 : PS X st (tEvS aR X.K F (EX X) s)) (h2 : PSs X rest (tEvS aR X.K F (EX X) t)) : PSs X (st :: rest) (tEvS aR X.K F (EX X) (.cons s t)) := PSs.imp (pss_cons h1 h2) fun E σ H ⟨Z, H0, env, r, ok, f, r', e, q⟩ => by
  obtain ⟨f1, r1, e1, e2⟩ := Res.bind_ok e
  refine evS_to ok e1 ?_
  cases f1 with
  | nx env1 => exact fun σ1 H1 ok1 l1 => evS_to ok1 e2 (q.from l1)
  | bk env1 => cases e2; exact q
  | ct env1 => cases e2; exact q
  | rt d => cases e2; exact q
  | rs e => cases e2; exact q
theorem s_pass : PS X (.Pass pos) (tEvS aR X.K F (EX X) .pass) := PS.imp ps_pass fun E σ H ⟨Z, H0, env, r, ok, f, r', e, q⟩ => by
  cases e
  exact q σ H ok .refl
theorem s_brk : PS X (.Break pos) (tEvS aR X.K F (EX X) .brk) := PS.imp ps_break fun E σ H ⟨Z, H0, env, r, ok, f, r', e, q⟩ => by
  cases e
  exact q σ H ok .refl
theorem s_cnt : PS X (.Continue pos) (tEvS aR X.K F (EX X) .cnt) := PS.imp ps_continue fun E σ H ⟨Z, H0, env, r, ok, f, r', e, q⟩ => by
  cases e
  exact q σ H ok .refl
theorem s_die : PS X st (tEvS aR X.K F (EX X) .die) := PS.imp ps_never fun E σ H ⟨Z, H0, env, r, ok, f, r', e, q⟩ => by cases e
theorem Res.fl_ok {α : Type} {x : Res α} {y : Option (Ex × Row)} {f : α → Row → Res Fl} {g : Fl} {r : Row} (h : Res.fl x y f = .ok g r) : (∃ a r1, x = .ok a r1 ∧ f a r1 = .ok g r) ∨ ∃ e, y = some (e, r) ∧ g = .rs e := by
  cases x with
  | ok a r1 => exact .inl ⟨a, r1, rfl, h⟩
  | no => cases h
  | ex e r1 =>
    cases y with
    | none => cases h
    | some p =>
      cases h
      exact .inr ⟨p.1, rfl, rfl⟩
theorem PS.or2 {X : Cx} {st : Stmt} {t u : TS} (h1 : PS X st t) (h2 : PS X st u) : PS X st (fun D σ H => t D σ H ∨ u D σ H) := ⟨fun pins s σ H D I q => q.elim (h1.run pins s σ H D I) (h2.run pins s σ H D I)⟩
theorem rxS_of {K : PySem.W.Frag} {E0 : XK} {Z : Addr → Prop} {H0 H : Hp} {σ : L2.St} {env : Env} {r r' : Row} {E : Ends} {ex : Ex} (ok : Ok aR K Z H0 σ H env r) (e : rx F a env r = some (ex, r')) (q : EndOk aR K E0 Z H0 σ env H E (.rs ex) r') : tRz aR K F E0 a σ H := ⟨Z, H0, env, r, ok, ex, r', e, fun cls d H' x => q cls d H' (ok.ext.trans x)⟩
theorem s_ret (ha : PE X ea (tEv aR X.K F a)) (hx : PE X ea (tRx aR X.K F (EX X) a)) : PS X (.Return (some ea) pos) (tEvS aR X.K F (EX X) (.ret a)) := PS.imp (PS.or2 (ps_ret ha) (ps_ret hx)) fun E σ H ⟨Z, H0, env, r, ok, f, r', e, q⟩ => by
  rcases Res.fl_ok e with ⟨d, r1, e1, e2⟩ | ⟨ex, e1, rfl⟩
  · cases e2
    exact .inl (ev_to ok e1 fun v H' x ro ok' rp => q v H' ok'.ext ro (rp.mono (Le.less fun z m => .inl m)))
  · exact .inr (rxS_of ok e1 q)
theorem s_ret0 : PS X (.Return none pos) (tEvS aR X.K F (EX X) .ret0) := PS.imp ps_retN fun E σ H ⟨Z, H0, env, r, ok, f, r', e, q⟩ => by
  cases e
  exact q _ H ok.ext ok.row rfl
theorem s_exp (ha : PE X ea (tEv aR X.K F a)) (hx : PE X ea (tRx aR X.K F (EX X) a)) (hs : swapsWith ea none pos.line X.env = pure false) : PS X (.Expr ea pos) (tEvS aR X.K F (EX X) (.exp a)) := PS.imp (PS.or2 (ps_expr ha hs) (ps_expr hx hs)) fun E σ H ⟨Z, H0, env, r, ok, f, r', e, q⟩ => by
  rcases Res.fl_ok e with ⟨d, r1, e1, e2⟩ | ⟨ex, e1, rfl⟩
  · cases e2
    exact .inl (ev_to ok e1 fun v H' x ro ok' rp => q σ H' ok' (ok.le x))
  · exact .inr (rxS_of ok e1 q)
theorem s_ite {ta tb : List Stmt} (hc : PT X ec (tEvT aR X.K F c)) (ha : PSs X ta (tEvS aR X.K F (EX X) s)) (hb : PSs X tb (tEvS aR X.K F (EX X) t)) : PS X (.If ec ta tb pos) (tEvS aR X.K F (EX X) (.ite c s t)) := PS.imp (ps_if hc ha hb) fun E σ H ⟨Z, H0, env, r, ok, f, r', e, q⟩ => by
  obtain ⟨u, r1, e1, e2⟩ := Res.bind_ok e
  obtain ⟨k, r2, e3, e4⟩ := Res.bind_ok e2
  obtain ⟨rfl, rfl⟩ := asB_b e3
  refine evT_to ok e1 fun H' x ro ok' => ?_
  cases k with
  | true => exact iteT (evS_to ok' e4 (q.from (ok.le x)))
  | false => exact iteF (evS_to ok' e4 (q.from (ok.le x)))

/-- an error raised -/
theorem s_raise0 {k : Nat} {C : Addr} (hc : X.calm = true) (he : PMk X ea (fun _ H Q => Q (.ref C) none H)) (hk : aR.ea k = some (C, none)) : PS X (.Raise (some ea) none pos) (tEvS aR X.K F (EX X) (.raise0 k)) :=
  PS.imp (ps_raise hc takes_EX he) fun E σ H ⟨Z, H0, env, r, ok, f, r', e, q⟩ => by
    cases e
    exact q _ _ H ok.ext ok.row ⟨C, none, hk, rfl, rfl⟩
theorem s_raise1 {k : Nat} {C : Addr} {fl : Str} {te : TE} (hc : X.calm = true) (he : ∀ te : TE, PE X eb te → PMk X ea (fun σ H Q => te σ H fun v H1 => ∀ dd, H1 dd = none → Q (.ref C) (some dd) (upd H1 dd (.xd [(fl, v)])))) (ha : PE X eb (tEv aR X.K F a)) (hk : aR.ea k = some (C, some fl)) : PS X (.Raise (some ea) none pos) (tEvS aR X.K F (EX X) (.raise1 k a)) :=
  PS.imp (ps_raise hc takes_EX (he _ ha)) fun E σ H ⟨Z, H0, env, r, ok, f, r', e, q⟩ => by
    obtain ⟨d, r1, e1, e2⟩ := Res.bind_ok e
    split at e2
    · rename_i hd
      cases e2
      refine ev_to ok e1 fun v H' x ro ok' rp => fun dd hn => q _ _ _ (ok'.ext.trans (.new hn)) (ro.keep (keep_new hn)) ⟨C, some fl, hk, rfl, dd, v, rfl, upd_same, ?_⟩
      cases d <;> first | (cases hd; done) | exact rp
    · cases e2
/-! ### assignments -/
theorem mk_frz0 {Z : Addr → Prop} {σ : L2.St} {env : Env} (fz : List Nat) {x : Addr} (m : Mk Z σ (frz env fz) [] x) : Mk Z σ env [] x := mk_frz (ex := []) (fun _ z => nomatch z) m
/-- a slot takes a value: behind it -/
theorem le_setF {Z : Addr → Prop} {H : Hp} {σ : L2.St} {env : Env} {i : Nat} {o : Option V} {dd : D} : Le H (Mk Z σ env []) H (Mk Z (σ.set i o) (env.set i (.fz dd)) []) := Le.less fun a m => mk_set (by intro e q; cases q) m
theorem s_asgF {i : Nat} {fz : List Nat} (h : PS X st (tAsg (tEv aR X.K F a) (gName i))) (hx : PS X st (tRxS aR X.K F (EX X) a)) (hz : ∀ j ∈ al a, j ∈ fz) : PS X st (tEvS aR X.K F (EX X) (.asg fz i false a)) := PS.imp (PS.or2 h hx) fun E σ H ⟨Z, H0, env, r, ok, f, r', e, q⟩ => by
  rcases Res.fl_ok e with ⟨d, r1, e1, e2⟩ | ⟨ex, e1, rfl⟩
  case inr => exact .inr (rxS_of ok e1 q)
  rw [if_neg (by simp)] at e2
  cases e2
  left
  refine ev_to ok e1 fun v H' xx ro ok' rp => ?_
  have ok2 := ok'.frz fz
  have rp2 := rp.mono (Le.less fun z m => mk_frz hz m)
  have ok3 := ok2.setF (i := i) (o := some v) (s := .fz d) (by intro e q; cases q) (fun e q => ⟨v, rfl, by cases q; exact rp2⟩)
  exact q _ H' ok3 (((ok.le xx).trans (Le.less fun z m => mk_frz0 fz m)).trans le_setF)
/-- a new thing is taken -/
theorem ok_take {K : PySem.W.Frag} {Z : Addr → Prop} {H0 H H' : Hp} {σ : L2.St} {env : Env} {r r' : Row} {i p : Nat} {dd : D} {fz : List Nat} {ex : List Nat} (ok : Ok aR K Z H0 σ H env r) (hi : i < env.length) (x : Ext aR H H') (ro : RowOk aR K H' r') (hp : Fr0 H p) (hz : ∀ j ∈ ex, j ∈ fz)
    (o : Ow aR H' (Mk (fun a => Z a ∨ a = p) σ env ex) p dd) : Ok aR K Z H0 (σ.set i (some (.ref p))) H' ((frz env fz).set i (.ow dd)) r' := by
  have np : p ≠ aR := fun z => by obtain ⟨b, eb, _⟩ := ok.row; exact hp.ne eb rfl z.symm
  obtain ⟨oo, eo, lo⟩ := o.lk
  have okh := (ok.frz fz).hide x ro hp eo lo
  refine ((ok.frz fz).grow x ro).setO (by rw [frz_length]; exact hi) (fun z => ?_) ?_ (fun m => ?_) ?_ (fun j e q => ?_) (fun j e q => ?_)
  · obtain ⟨o', e', l⟩ := ok.zk p z
    exact hp.ne e' (nt_lk l) rfl
  · exact ok.ext.dom p hp
  · obtain ⟨o', e', l⟩ := (ok.frz fz).mkk (ex := []) p (.inr m)
    exact hp.ne e' (nt_lk l) rfl
  · refine o.mono (Le.less fun z m => ?_) fun _ q _ => q
    rcases m with m | m
    · exact mk_or.mpr (.inl (mk_frz hz m))
    · exact mk_or.mpr (.inr m)
  · obtain ⟨v, h1, h2⟩ := okh.fz j e q
    exact ⟨v, h1, h2.mono (Le.less fun z m => mk_or.mpr m)⟩
  · obtain ⟨v, h1, _, _, h2⟩ := okh.ow j e q
    exact ⟨v, h1, h2.mono (Le.less fun z m => mk_or.mpr m) fun _ q _ => q⟩
theorem le_take {K : PySem.W.Frag} {Z : Addr → Prop} {H0 H H' : Hp} {σ : L2.St} {env : Env} {r : Row} {i p : Nat} {dd : D} {fz : List Nat} (ok : Ok aR K Z H0 σ H env r) (x : Ext aR H H') (hp : Fr0 H p) : Le H (Mk Z σ env []) H' (Mk Z (σ.set i (some (.ref p))) ((frz env fz).set i (.ow dd)) []) := fun a o e t n => by
  refine ⟨x a o (fun z => n (by rw [z]; exact ok.mr)) e t, fun m => ?_⟩
  rcases m with m | ⟨j, d', h1, h2, _⟩
  · exact n (.inl m)
  · by_cases q : i = j
    · subst q
      have li := (List.getElem?_eq_some_iff.mp h2).1
      rw [List.length_set] at li
      rw [List.getElem?_set_self li] at h2
      cases h2
      exact hp.ne e t rfl
    · rw [List.getElem?_set_ne q] at h1 h2
      exact n (.inr ⟨j, d', (frz_back fz h1).2, h2, by simp⟩)
/-- what an expression that makes a new thing is read as, where its value is a list or dict -/
def tEvG (aR : AR) (K : PySem.W.Frag) (F : Fns) (ie : IE) : TE := fun σ H Q => ∃ Z H0 env r, Ok aR K Z H0 σ H env r ∧ ∃ d r', ev F ie env r = .ok d r' ∧ isL d = true ∧
  ∀ p H', Ext aR H H' → RowOk aR K H' r' → Fr0 H p → Ow aR H' (Mk (fun a => Z a ∨ a = p) σ env (al ie)) p d → Q (.ref p) H'
theorem g_of {ie : IE} (h : PE X ea (tEvF aR X.K F ie)) : PE X ea (tEvG aR X.K F ie) := PE.imp h fun σ H Q ⟨Z, H0, env, r, ok, d, r', e, _, q⟩ => ⟨Z, H0, env, r, ok, d, r', e, q⟩
theorem s_asgO {i : Nat} {fz : List Nat} (h : PS X st (tAsg (tEvG aR X.K F a) (gName i))) (hz : ∀ j ∈ al a, j ∈ fz) : PS X st (tEvS aR X.K F (EX X) (.asg fz i true a)) := PS.imp h fun E σ H ⟨Z, H0, env, r, ok, f, r', e, q⟩ => by
  rcases Res.fl_ok e with ⟨d, r1, e1, e2⟩ | ⟨ex, e1, _⟩
  case inr => cases e1
  split at e2
  · cases e2
  · rename_i hL
    cases e2
    have hL : isL d = true ∧ i < env.length := by simpa using hL
    refine ⟨Z, H0, env, r, ok, d, _, e1, hL.1, fun p H' xx ro hp o => ?_⟩
    exact q _ H' (ok_take ok hL.2 xx ro hp hz o) (le_take ok xx hp)

/-! ### several targets at once -/
def tPs (aR : AR) (K : PySem.W.Frag) (F : Fns) : List (Nat × Bool × IE) → TA
  | [] => tNil
  | (_, o, e) :: l => tCons (if o = true then tEvG aR K F e else tEv aR K F e) (tPs aR K F l)
theorem parA {K : PySem.W.Frag} {fz : List Nat} : ∀ (l : List (Nat × Bool × IE)) {Z Z1 : Addr → Prop} {H0 H : Hp} {σ σ' : L2.St} {env env' envf : Env} {r rf : Row} {Q : List V → Hp → Prop}, (∀ x ∈ l, ∀ j ∈ al x.2.2, j ∈ fz) →
    Ok aR K Z1 H0 σ H env r → Ok aR K Z H0 σ' H env' r → (∀ a ex, (∀ j ∈ ex, j ∈ fz) → Mk Z σ' env' [] a → Mk Z1 σ env ex a) → (∀ a, Z a → Z1 a) → evP F l env env' r = .ok envf rf →
    (∀ vs Hf, vs.length = l.length → Ok aR K Z H0 (sets (l.map (·.1)) vs σ') Hf envf rf → Le H (Mk Z σ' env' []) Hf (Mk Z (sets (l.map (·.1)) vs σ') envf []) → Q vs Hf) → tPs aR K F l σ H Q := by
  intro l
  induction l with
  | nil =>
    intro Z Z1 H0 H σ σ' env env' envf r rf Q hz ok ok' hb hzz e q
    cases e
    exact q [] H rfl (by simpa [sets] using ok') (by simpa [sets] using Le.refl)
  | cons x l ih =>
    obtain ⟨i, o, ie⟩ := x
    intro Z Z1 H0 H σ σ' env env' envf r rf Q hz ok ok' hb hzz e q
    obtain ⟨d, r1, e1, e2⟩ := Res.bind_ok e
    have hz1 : ∀ j ∈ al ie, j ∈ fz := hz (i, o, ie) List.mem_cons_self
    have hz2 : ∀ x ∈ l, ∀ j ∈ al x.2.2, j ∈ fz := fun x hx => hz x (List.mem_cons_of_mem _ hx)
    cases o with
    | false =>
      rw [if_neg (by simp)] at e2
      show (tCons (tEv aR K F ie) (tPs aR K F l)) σ H Q
      refine ev_to ok e1 fun v H1 x1 ro1 ok1 rp => ?_
      have okg := ok'.grow x1 ro1
      have rpg : Rep aR H1 (Mk Z σ' env' []) d v := rp.mono (Le.less fun a m => hb a _ hz1 m)
      have ok3 := okg.setF (i := i) (o := some v) (s := .fz d) (by intro e q; cases q) (fun e q => ⟨v, rfl, by cases q; exact rpg⟩)
      refine ih hz2 ok1 ok3 (fun a ex he m => hb a ex he (mk_set (by intro e q; cases q) m)) hzz e2 fun vs Hf hl okf lef => ?_
      exact q (v :: vs) Hf (by simp [hl]) okf (((ok'.le x1).trans le_setF).trans lef)
    | true =>
      split at e2
      · cases e2
      · rename_i hL
        have hL : isL d = true ∧ i < env'.length := by simpa using hL
        show (tCons (tEvG aR K F ie) (tPs aR K F l)) σ H Q
        refine ⟨Z1, H0, env, r, ok, d, r1, e1, hL.1, fun p H1 x1 ro1 hp ow => ?_⟩
        obtain ⟨oo, eo, lo⟩ := ow.lk
        have ok1 := ok.hide x1 ro1 hp eo lo
        have ok2 := ok_take (K := K) (fz := []) (ex := []) ok' hL.2 x1 ro1 hp (fun _ q => q) (ow.mono (Le.less fun a m => by
          rcases mk_or.mp m with m | m
          · exact mk_or.mpr (.inl (hb a _ hz1 m))
          · exact mk_or.mpr (.inr m)) fun _ q _ => q)
        refine ih (Z1 := fun a => Z1 a ∨ a = p) hz2 ok1 ok2 (fun a ex he m => ?_) (fun a z => .inl (hzz a z)) e2 fun vs Hf hl okf lef => ?_
        · rcases m with m | ⟨j, d', h1, h2, _⟩
          · exact .inl (.inl (hzz a m))
          · by_cases c : i = j
            · subst c
              have li := (List.getElem?_eq_some_iff.mp h2).1
              rw [List.length_set] at li
              rw [List.getElem?_set_self li] at h2
              cases h2
              exact .inl (.inr rfl)
            · rw [List.getElem?_set_ne c] at h1 h2
              exact mk_or.mpr (.inl (hb a ex he (.inr ⟨j, d', h1, h2, by simp⟩)))
        · exact q (.ref p :: vs) Hf (by simp [hl]) okf ((le_take (fz := []) ok' x1 hp).trans lef)
end
end Wl
/-! Statements that write. -/
namespace Wl
open PySem PySem.Spec PyProof.Rows L2

section
variable {aR : AR} {K : PySem.W.Frag} {Z : Addr → Prop} {H0 H H' : Hp} {σ : L2.St} {env : Env} {r r' : Row} {ex : List Nat}
theorem get_set_ow {i j : Nat} {d d' e : D} (e1 : env[i]? = some (.ow d)) (h : (env.set i (.ow d'))[j]? = some (.ow e)) : ∃ e', env[j]? = some (.ow e') := by
  by_cases c : i = j
  · subst c; exact ⟨d, e1⟩
  · rw [List.getElem?_set_ne c] at h; exact ⟨e, h⟩
theorem mk_updO {i : Nat} {d d' : D} (e1 : env[i]? = some (.ow d)) {a : Addr} (m : Mk Z σ (env.set i (.ow d')) ex a) : Mk Z σ env ex a := by
  rcases m with m | ⟨j, e, h1, h2, h3⟩
  · exact .inl m
  · obtain ⟨e', h⟩ := get_set_ow e1 h1
    exact .inr ⟨j, e', h, h2, h3⟩
/-- an owned thing is written -/
theorem Ok.updO {i p : Nat} {d d' : D} {o : HO} (h : Ok aR K Z H0 σ H env r) (e1 : env[i]? = some (.ow d)) (e2 : σ[i]? = some (some (.ref p))) (w : Ow aR (upd H p o) (Mk Z σ env []) p d') : Ok aR K Z H0 σ (upd H p o) (env.set i (.ow d')) r := by
  obtain ⟨p', e2', nz, n0, ow⟩ := h.ow i d e1
  rw [e2] at e2'; cases e2'
  have hi : i < env.length := (List.getElem?_eq_some_iff.mp e1).1
  have mp : Mk Z σ env [] p := .inr ⟨i, d, e1, e2, by simp⟩
  have l : Le H (Mk Z σ env []) (upd H p o) (Mk Z σ (env.set i (.ow d')) []) := (le_updZ mp).trans (Le.less fun a m => mk_updO e1 m)
  refine ⟨by simp [h.len], ?_, h.zr, fun a z => ?_, fun j e q => ?_, fun j e q => ?_, fun j k e e' a h1 h2 h3 h4 => ?_, h.ext.updN n0, h.sc⟩
  · obtain ⟨u', e', lo⟩ := ow.lk
    exact h.row.upd e' lo (fun q => nz (by rw [q]; exact h.zr)) (h.scn n0)
  · rw [upd_ne (fun q => nz (by rw [← q]; exact z))]; exact h.zk a z
  · have c : i ≠ j := fun c => by rw [← c, List.getElem?_set_self hi] at q; cases q
    rw [List.getElem?_set_ne c] at q
    obtain ⟨v, e3, rp⟩ := h.fz j e q
    exact ⟨v, e3, rp.mono l⟩
  · by_cases c : i = j
    · subst c
      rw [List.getElem?_set_self hi] at q
      cases q
      exact ⟨p, e2, nz, n0, w.mono (Le.less fun a m => mk_updO e1 m) fun _ q _ => q⟩
    · rw [List.getElem?_set_ne c] at q
      obtain ⟨a, e3, nz', n0', oo⟩ := h.ow j e q
      refine ⟨a, e3, nz', n0', oo.mono l fun u eu _ => ?_⟩
      rw [upd_ne (fun z => c (h.dis i j d e p e1 q e2 (by rw [← z]; exact e3)))]
      exact eu
  · obtain ⟨_, k1⟩ := get_set_ow e1 h1
    obtain ⟨_, k2⟩ := get_set_ow e1 h2
    exact h.dis j k _ _ a k1 k2 h3 h4
theorem le_updO {i p : Nat} {d d' : D} {o : HO} (e1 : env[i]? = some (.ow d)) (e2 : σ[i]? = some (some (.ref p))) : Le H (Mk Z σ env []) (upd H p o) (Mk Z σ (env.set i (.ow d')) []) :=
  (le_updZ (.inr ⟨i, d, e1, e2, by simp⟩)).trans (Le.less fun a m => mk_updO e1 m)
theorem mk_sets : ∀ (tg : List Nat) (l : List D) (xs : List V) {σ : L2.St} {env : Env} {a : Addr}, xs.length = l.length → Mk Z (sets tg xs σ) (setsE tg l env) [] a → Mk Z σ env [] a
  | [], _, _, _, _, _, _, m => by simpa [sets, setsE] using m
  | _ :: _, [], [], _, _, _, _, m => by simpa [sets, setsE] using m
  | _ :: _, [], _ :: _, _, _, _, h, _ => by simp at h
  | _ :: _, _ :: _, [], _, _, _, h, _ => by simp at h
  | i :: is, d :: l, x :: xs, σ, env, a, h, m => mk_set (i := i) (o := some x) (s := .fz d) (by intro e q; cases q) (mk_sets is l xs (σ := σ.set i (some x)) (env := env.set i (.fz d)) (by simpa using h) m)
/-- a target takes its thing, and what stood stands -/
theorem gT_to' {tg : List Nat} {sole : Bool} {d : D} {v : V} {env' : Env} {Q : L2.St → Hp → Prop} (h : Ok aR K Z H0 σ H env r) (e : bindT tg sole d env = some env') (rp : RepI (!sole) aR H (Mk Z σ env []) d v)
    (q : ∀ σ', Ok aR K Z H0 σ' H env' r → Le H (Mk Z σ env []) H (Mk Z σ' env' []) → Q σ' H) : gT K sole tg v σ H Q := by
  unfold bindT at e
  split at e
  · cases e
    rename_i i
    have h3 := h.sets [i] [d] [v] (.one (show Rep aR H (Mk Z σ env []) d v from rp))
    exact q _ h3 (Le.less fun a m => mk_sets [i] [d] [v] (by simp) m)
  · split at e
    · rename_i hl
      cases e
      obtain ⟨a, vs, rfl, h1, n1, rps⟩ := rp
      refine ⟨a, vs, rfl, .inl h1, by rw [rps.length, hl], gs_to tg vs σ H Q (by rw [rps.length, hl]) ?_⟩
      exact q _ (h.sets tg _ vs rps) (Le.less fun a m => mk_sets tg _ vs rps.length m)
    · cases e
  · cases e
end

section
variable {X : Cx} {aR : AR} {F : Fns} {ea eb ec : Expr} {a b c d : IE} {pos : Pos} {st : Stmt} {rest : List Stmt} {s t : IS}
theorem s_asgT {fz tg : List Nat} (h : PS X st (tAsg (tEv aR X.K F a) (gT X.K false tg))) (hz : ∀ j ∈ al a, j ∈ fz) : PS X st (tEvS aR X.K F (EX X) (.asgT fz tg a)) := PS.imp h fun E σ H ⟨Z, H0, env, r, ok, f, r', e, q⟩ => by
  obtain ⟨d, r1, e1, e2⟩ := Res.bind_ok e
  split at e2
  · rename_i env' eb
    cases e2
    refine ev_to ok e1 fun v H' xx ro ok' rp => ?_
    have ok2 := ok'.frz fz
    have rp2 := rp.mono (Le.less fun z m => mk_frz hz m)
    exact gT_to' ok2 eb rp2.i fun σ' ok3 l3 => q σ' H' ok3 (((ok.le xx).trans (Le.less fun z m => mk_frz0 fz m)).trans l3)
  · cases e2
/-- in place, on ints -/
def IpR (o : Op) (ti : TIp) : Prop := ∀ (a b : Int) (d : D) (H : Hp) (Q : VK), opD o (.int a) (.int b) = some d → (∀ n, d = .int n → Q (.int n) H) → ti (.int a) (.int b) H Q
theorem ip_all {X : Cx} : ∀ {o : Op} {p : Operator}, oM o p = true → ∃ ti, PIp X p ti ∧ IpR o ti
  | .add, .Add, _ => ⟨_, ip_add, fun a b d H Q e q => ⟨a, b, rfl, rfl, q _ (by cases e; rfl)⟩⟩
  | .sub, .Sub, _ => ⟨_, ip_sub, fun a b d H Q e q => ⟨a, b, rfl, rfl, q _ (by cases e; rfl)⟩⟩
  | .mul, .Mult, _ => ⟨_, iop_mul, fun a b d H Q e q => by
    simp only [opD] at e
    split at e
    · rename_i h
      cases e
      refine ⟨a, b, rfl, rfl, ?_, q _ rfl⟩
      have h : (-(2 ^ 64) < a ∧ a < 2 ^ 64) ∨ (-(2 ^ 64) < b ∧ b < 2 ^ 64) := by simpa using h
      exact h
    · cases e⟩
  | .fdiv, .FloorDiv, _ => ⟨_, iop_fdivW, fun a b d H Q e q => by
    simp only [opD] at e
    split at e
    · rename_i h
      cases e
      have h : 0 < b ∧ b < 18446744073709551616 := by simpa using h
      exact ⟨a, b, rfl, rfl, cdivW h.1 h.2, q _ rfl⟩
    · cases e⟩
  | .mod, .Mod, _ => ⟨_, iop_mod, fun a b d H Q e q => by
    simp only [opD] at e
    split at e
    · rename_i h
      cases e
      exact ⟨a, b, rfl, rfl, h, q _ rfl⟩
    · cases e⟩
  | .addB, .Add, _ => ⟨_, ip_add, fun a b d H Q e q => by
    simp only [opD] at e
    cases e⟩
theorem s_aug {o : Op} {p : Operator} {i : Nat} {x : Str} {pos' : Pos} (hN : X.N.Nodup) (hi : X.N[i]? = some x) (hx : Loc X.env.scope x) (hf : X.fn x = true ∨ X.env.scope.names.lookup x = some .local) (ho : oM o p = true)
    (ha : PE X ea (tEv aR X.K F a)) : PS X (.AugAssign (.Name x pos') p ea pos) (tEvS aR X.K F (EX X) (.aug o i a)) := by
  obtain ⟨ti, h1, h2⟩ := ip_all (X := X) ho
  refine PS.imp (ps_aug hN hi hx ha h1 hf) fun E σ H ⟨Z, H0, env, r, ok, f, r', e, q⟩ => ?_
  obtain ⟨d, r1, e1, e2⟩ := Res.bind_ok e
  obtain ⟨e1, rfl⟩ := Res.of_ok e1
  obtain ⟨y, r2, e3, e4⟩ := Res.bind_ok e2
  obtain ⟨n, m, rfl, rfl⟩ : ∃ n m, d = .int n ∧ y = .int m := by
    split at e4
    · exact ⟨_, _, rfl, rfl⟩
    · cases e4
  · obtain ⟨d2, r3, e5, e6⟩ := Res.bind_ok e4
    obtain ⟨e7, rfl⟩ := Res.of_ok e5
    cases e6
    have sv : σ[i]? = some (some (.int n)) := by
      unfold rd at e1
      split at e1
      · rename_i z
        cases e1
        obtain ⟨v, h, rp⟩ := ok.fz i _ z
        rw [h, show v = V.int n from rp]
      · rename_i z
        cases e1
        obtain ⟨_, _, _, _, w⟩ := ok.ow i _ z
        exact w.elim
      · cases e1
    refine ⟨_, sv, ev_to ok e3 fun v H' xx ro ok' rp => ?_⟩
    obtain rfl : v = V.int m := rp
    refine h2 n m d2 H' _ e7 fun k ek => ?_
    subst ek
    have ok3 := ok'.setF (i := i) (o := some (.int k)) (s := .fz (.int k)) (by intro e q; cases q) (fun e q => ⟨_, rfl, by cases q; rfl⟩)
    exact q _ H' ok3 ((ok.le xx).trans le_setF)
/-- what an owned slot's list is -/
theorem own_lst {K : PySem.W.Frag} {Z : Addr → Prop} {H0 H : Hp} {σ : L2.St} {env : Env} {r : Row} {i : Nat} {l : List D} (ok : Ok aR K Z H0 σ H env r) (h : env[i]? = some (.ow (.lst l))) : ∃ p vs, σ[i]? = some (some (.ref p)) ∧ H p = some (.lst vs) ∧ Reps aR H (Mk Z σ env []) l vs ∧ p ≠ aR := by
  obtain ⟨p, h1, nz, _, vs, h2, h3⟩ := ok.ow i _ h
  exact ⟨p, vs, h1, h2, h3, fun q => nz (by rw [q]; exact ok.zr)⟩
theorem s_app {fz : List Nat} {i : Nat} {x : Str} {p0 apos cpos : Pos} (hi : X.N[i]? = some x) (hv : Vis X.env.scope x) (hd : (x == ("__debug__" : Str)) = false) (hcd : (x == ("__classdict__" : Str)) = false) (ha : PE X ea (tEv aR X.K F a)) (hz : ∀ j ∈ al a, j ∈ fz)
    (m : M1 X (.Name x p0) "append" apos ea cpos) (hs : starEach [ea] X.env = [(false, eval ea X.env)])
    (hsw : swapsWith (.Call (.Attribute (.Name x p0) "append" apos) [ea] [] cpos) none pos.line X.env = pure false) :
    PS X (.Expr (.Call (.Attribute (.Name x p0) "append" apos) [ea] [] cpos) pos) (tEvS aR X.K F (EX X) (.app fz i a)) :=
  PS.imp (ps_expr (pe_bm PySem.F.plainAttrs_list PySem.F.slot_list_append PySem.F.type_list_append mt_append (pe_var hi hv hd hcd) (pa_cons ha pa_nil (by rw [hs]; rfl)) m.base m.few m.line (by rw [hs]; rfl) rfl) hsw) fun E σ H ⟨Z, H0, env, r, ok, f, r', e, q⟩ => by
    obtain ⟨d, r1, e1, e2⟩ := Res.bind_ok e
    split at e2
    · rename_i l hl
      split at e2
      · rename_i hsz
        cases e2
        obtain ⟨p, vs, h1, h2, h3, np⟩ := own_lst (ok.frz fz) hl
        refine ⟨.ref p, h1, .inl ⟨rfl, vs, .of h2⟩, ev_to ok e1 fun v H' xx ro ok' rp => ⟨p, vs, v, rfl, rfl, xx _ _ np h2 rfl, ?_, ?_⟩⟩
        · rw [h3.length, ← SZ_eq]; exact hsz
        · have okf := ok'.frz fz
          have h3' := h3.mono (xx.le (.inl ok.zr))
          have rpf := rp.mono (Le.less fun z m => mk_frz hz m)
          have mp : Mk Z σ (frz env fz) [] p := .inr ⟨i, _, hl, h1, by simp⟩
          have w : Ow aR (upd H' p (.lst (vs ++ [v]))) (Mk Z σ (frz env fz) []) p (.lst (l ++ [d])) := ⟨_, upd_same, (h3'.append (.one rpf)).mono (le_updZ mp)⟩
          exact q σ _ (okf.updO hl h1 w) (((ok.le xx).trans (Le.less fun z m => mk_frz0 fz m)).trans (le_updO hl h1))
      · cases e2
    · cases e2
theorem s_setL {fz : List Nat} {i : Nat} {k : IE} {ek : Expr} {x : Str} {p0 spos : Pos} (hi : X.N[i]? = some x) (hv : Vis X.env.scope x) (hd : (x == ("__debug__" : Str)) = false) (hcd : (x == ("__classdict__" : Str)) = false) (ha : PE X ea (tEv aR X.K F a)) (hk : PE X ek (tEvC aR X.K F k)) (hz : ∀ j ∈ al a, j ∈ fz)
    (h : ∀ {g : TG} {te : TE}, PE X ea te → PG X (.Subscript (.Name x p0) ek spos) g → PS X st (tAsg te g))
    (h' : ∀ v, assign (.Subscript (.Name x p0) ek spos) X.env v = (do
      let ov ← holding [v] (eval (.Name x p0) X.env)
      let iv ← holding [v, ov] (eval ek X.env)
      standAt spos
      holding [v, ov, iv] (setItem ov iv v)
      release [v, ov, iv] [])) : PS X st (tEvS aR X.K F (EX X) (.setL fz i k a)) :=
  PS.imp (h ha (pg_sub (pe_var hi hv hd hcd) hk set_list h')) fun E σ H ⟨Z, H0, env, r, ok, f, r', e, q⟩ => by
    obtain ⟨d, r1, e1, e2⟩ := Res.bind_ok e
    obtain ⟨y, r2, e3, e4⟩ := Res.bind_ok e2
    split at e4
    · rename_i l j hl
      split at e4
      · rename_i hsz
        cases e4
        have hsz : 0 ≤ j ∧ j < l.length := by simpa using hsz
        obtain ⟨p, vs, h1, h2, h3, np⟩ := own_lst (ok.frz fz) hl
        refine ev_to ok e1 fun v H1 x1 ro1 ok1 rp => ⟨.ref p, h1, evC_to ok1 e3 fun u H2 x2 ro2 ok2 rpk => ?_⟩
        obtain rfl : u = V.int j := rpk
        refine ⟨p, vs, j, j.toNat, rfl, rfl, x2 _ _ np (x1 _ _ np h2 rfl) rfl, ?_, ?_⟩
        · unfold ixN
          rw [h3.length, if_pos hsz.1, if_pos hsz.2]
        · have okf := ok2.frz fz
          have h3' := h3.mono ((x1.trans x2).le (.inl ok.zr))
          have rpf := (rp.mono (Le.less fun z m => mk_frz hz m)).mono (x2.le (.inl ok.zr))
          have mp : Mk Z σ (frz env fz) [] p := .inr ⟨i, _, hl, h1, by simp⟩
          have w : Ow aR (upd H2 p (.lst (vs.set j.toNat v))) (Mk Z σ (frz env fz) []) p (.lst (l.set j.toNat d)) := ⟨_, upd_same, (h3'.set j.toNat rpf).mono (le_updZ mp)⟩
          exact q σ _ (okf.updO hl h1 w) (((ok.le (x1.trans x2)).trans (Le.less fun z m => mk_frz0 fz m)).trans (le_updO hl h1))
      · cases e4
    · cases e4
end
end Wl
/-! Dicts written; loops; several targets. -/
namespace Wl
open PySem PySem.Spec PyProof.Rows L2

section
variable {aR : AR} {K : PySem.W.Frag} {Z : Addr → Prop} {H0 H H' : Hp} {σ : L2.St} {env : Env} {r r' : Row} {ex : List Nat}
theorem put_of {κ : Type} [DecidableEq κ] {H : Hp} {Z : Addr → Prop} (g : κ → D) (hg : ∀ k j, D.same (g k) (g j) = decide (k = j)) {k : κ} {d : D} {v : V} {kvs : List (κ × V)} {vs : List D} (h : Reps aR H Z vs (kvs.map (·.2))) (hd : Rep aR H Z d v) :
    (putD (g k) d (kvs.map fun p => g p.1) vs).1 = (putK kvs k v).map (fun p => g p.1) ∧ Reps aR H Z (putD (g k) d (kvs.map fun p => g p.1) vs).2 ((putK kvs k v).map (·.2)) := by
  have hany : ((kvs.map fun p => g p.1).any fun x => D.same x (g k)) = kvs.any fun kv => decide (kv.1 = k) := by
    rw [List.any_map]
    congr 1
    funext p
    exact hg p.1 k
  unfold putD putK
  rw [hany]
  by_cases c : (kvs.any fun kv => decide (kv.1 = k)) = true
  · rw [if_pos c, if_pos c]
    refine ⟨?_, ?_⟩
    · show _ = _
      rw [List.map_map]
      apply List.map_congr_left
      intro p _
      show g p.1 = g (if p.1 = k then (p.1, v) else p).1
      by_cases q : p.1 = k
      · rw [if_pos q]
      · rw [if_neg q]
    · clear c hany
      induction kvs generalizing vs with
      | nil => cases vs <;> rfl
      | cons p kvs ih =>
        cases vs with
        | nil => cases h
        | cons y vs =>
          obtain ⟨w, rr, e, h1, h2⟩ := h
          rw [List.map_cons] at e
          injection e with e1 e2
          subst e1 e2
          have ih := ih h2
          show Reps aR H Z (repD (g k) d (g p.1 :: kvs.map fun p => g p.1) (y :: vs)) _
          unfold repD
          rw [hg, List.map_cons, List.map_cons]
          refine ⟨_, _, rfl, ?_, ih⟩
          by_cases q : p.1 = k
          · rw [decide_eq_true q, if_pos rfl, if_pos q]; exact hd
          · rw [decide_eq_false q, if_neg Bool.false_ne_true, if_neg q]; exact h1
  · rw [if_neg c, if_neg c]
    refine ⟨by simp, ?_⟩
    rw [List.map_append]
    exact h.append (.one hd)
theorem put_ofN {H : Hp} {Z : Addr → Prop} {k : NestedKey} (hk : okK k) {d : D} {v : V} : ∀ {kvs : List (NestedKey × V)} {vs : List D}, (∀ p ∈ kvs, okK p.1) → Reps aR H Z vs (kvs.map (·.2)) → Rep aR H Z d v →
    (putD (nkD k) d (kvs.map fun p => nkD p.1) vs).1 = (putK kvs k v).map (fun p => nkD p.1) ∧ Reps aR H Z (putD (nkD k) d (kvs.map fun p => nkD p.1) vs).2 ((putK kvs k v).map (·.2)) := by
  intro kvs vs ho h hd
  have hany : ((kvs.map fun p => nkD p.1).any fun x => D.same x (nkD k)) = kvs.any fun kv => decide (kv.1 = k) := by
    rw [List.any_map]
    clear h
    induction kvs with
    | nil => rfl
    | cons p kvs ih =>
      rw [List.any_cons, List.any_cons, ih fun z hz => ho z (List.mem_cons_of_mem _ hz)]
      show (D.same (nkD p.1) (nkD k) || _) = _
      rw [same_dec (ho p List.mem_cons_self).2.1 hk.2.1]
  unfold putD putK
  rw [hany]
  by_cases c : (kvs.any fun kv => decide (kv.1 = k)) = true
  · rw [if_pos c, if_pos c]
    refine ⟨?_, ?_⟩
    · show _ = _
      rw [List.map_map]
      apply List.map_congr_left
      intro p _
      show nkD p.1 = nkD (if p.1 = k then (p.1, v) else p).1
      by_cases q : p.1 = k
      · rw [if_pos q]
      · rw [if_neg q]
    · clear c hany
      induction kvs generalizing vs with
      | nil => cases vs <;> rfl
      | cons p kvs ih =>
        cases vs with
        | nil => cases h
        | cons y vs =>
          obtain ⟨w, rr, e, h1, h2⟩ := h
          rw [List.map_cons] at e
          injection e with e1 e2
          subst e1 e2
          have ih := ih (fun z hz => ho z (List.mem_cons_of_mem _ hz)) h2
          show Reps aR H Z (repD (nkD k) d (nkD p.1 :: kvs.map fun p => nkD p.1) (y :: vs)) _
          unfold repD
          rw [same_dec (ho p List.mem_cons_self).2.1 hk.2.1, List.map_cons, List.map_cons]
          refine ⟨_, _, rfl, ?_, ih⟩
          by_cases q : p.1 = k
          · rw [decide_eq_true q, if_pos rfl, if_pos q]; exact hd
          · rw [decide_eq_false q, if_neg Bool.false_ne_true, if_neg q]; exact h1
  · rw [if_neg c, if_neg c]
    refine ⟨by simp, ?_⟩
    rw [List.map_append]
    exact h.append (.one hd)
mutual
theorem kat_rep {H : Hp} {Z : Addr → Prop} (zk : ∀ a, Z a → ∃ o, H a = some o ∧ lk o) : ∀ (k : NestedKey) (v : V), KAt H k v → Rep aR H Z (nkD k) v
  | .none, _, x => by simpa [nkD, Rep, KAt] using x
  | .num i, _, x => by simpa [nkD, Rep, KAt] using x
  | .text y, _, x => by simpa [nkD, Rep, KAt] using x
  | .tup ks, v, x => by
    obtain ⟨a, vs, e, h1, h2⟩ := x
    have : Rep aR H Z (.tup (nkDs ks)) v := ⟨a, vs, e, h1, fun z => by
      obtain ⟨o, eo, l⟩ := zk a z
      obtain ⟨ot, hot⟩ := h1.get
      rw [hot] at eo; cases eo
      exact l, kats_rep zk ks vs h2⟩
    simpa [nkD] using this
theorem kats_rep {H : Hp} {Z : Addr → Prop} (zk : ∀ a, Z a → ∃ o, H a = some o ∧ lk o) : ∀ (k : List NestedKey) (v : List V), KAts H k v → Reps aR H Z (nkDs k) v
  | [], _, x => by simpa [nkDs, Reps, KAts] using x
  | k :: ks, v, x => by
    obtain ⟨v, r, e, h1, h2⟩ := x
    have : Reps aR H Z (nkD k :: nkDs ks) _ := ⟨v, r, e, kat_rep zk k v h1, kats_rep zk ks r h2⟩
    simpa [nkDs] using this
end
theorem kn_reps {H : Hp} {Z : Addr → Prop} (zk : ∀ a, Z a → ∃ o, H a = some o ∧ lk o) {kvs : List (NestedKey × V)} {xs : List (NestedKey × Addr × Value)} (r : KN H kvs xs) : Reps aR H Z (kvs.map fun p => nkD p.1) (xs.map fun p => V.ref p.2.1) := by
  induction r with
  | nil => rfl
  | @cons p q ps qs h t ih => exact ⟨_, _, rfl, kat_rep zk _ _ h.2.1, ih⟩
/-- an owned dict takes a value -/
theorem dput_of {K : PySem.W.Frag} {H : Hp} {Z2 Z : Addr → Prop} {t : Bool} {ks vs : List D} {k d : D} {v u : V} {p : Addr} (hk : keyOk t k = true) (hl : ks.length < SZ) (h1 : Ow aR H Z p (.dct t ks vs)) (h2 : RepC aR H Z2 k u) (h3 : Rep aR H Z d v) (mp : Z p)
    (zk : ∀ a, Z a → ∃ o, H a = some o ∧ lk o) {R : Hp → Prop} (hR : ∀ o, Ow aR (upd H p o) Z p (.dct t (putD k d ks vs).1 (putD k d ks vs).2) → R (upd H p o)) : XPut H p u v R := by
  cases t with
  | false =>
    obtain ⟨kvs, ha, rfl, ra⟩ := h1
    obtain ⟨kk, rfl, rfl⟩ := key_v (K := K) (by simpa [keyOk] using hk) h2
    obtain ⟨q1, q2⟩ := put_of (k := kk) keyD same_key ra h3
    exact .inl ⟨kvs, kk, ha, rfl, by rw [← SZ_eq]; simpa using hl, hR _ ⟨_, upd_same, q1, q2.mono (le_updZ mp)⟩⟩
  | true =>
    obtain ⟨o, bs, us, ha, ⟨xs, kvs, dd, pr, rfl, rfl, rfl⟩, rb, ra⟩ := h1
    obtain ⟨kk, b, rfl, okk, rfl, ka, rk⟩ := keyT_v (by simpa [keyOk] using hk) h2
    have kn := kn_of pr rb
    obtain ⟨q1, q2⟩ := put_ofN okk (keys_ok pr dd.ok) ra h3
    have hx : xs.length = kvs.length := (Paired.length pr).symm
    refine .inr ⟨o, kvs, xs, kk, b, ha, dd, kn, rfl, okk, ka, by rw [hx, ← SZ_eq]; simpa using hl, fun o' uu hr ddn => hR _ ?_⟩
    have kn' := kn.put kk ka hr
    exact ⟨o', (storedH xs kk b uu).map fun p => V.ref p.2.1, (putK kvs kk v).map (·.2), upd_same, ⟨_, _, ddn, Paired.mapP kn' fun _ _ z => ⟨z.1, z.2.2⟩, q1, rfl, rfl⟩, by rw [q1]; exact (kn_reps zk kn').mono (le_updZ mp), q2.mono (le_updZ mp)⟩
end

theorem PS.or {X : Cx} {st : Stmt} {t u : TS} (h1 : PS X st t) (h2 : PS X st u) : PS X st (fun D σ H => t D σ H ∨ u D σ H) := ⟨fun pins s σ H D I q => q.elim (h1.run pins s σ H D I) (h2.run pins s σ H D I)⟩
section
variable {X : Cx} {aR : AR} {F : Fns} {ea eb ec : Expr} {a b c d : IE} {pos : Pos} {st : Stmt} {rest : List Stmt} {s t : IS}
theorem s_ext {fz : List Nat} {i : Nat} {x : Str} {p0 apos cpos : Pos} (hi : X.N[i]? = some x) (hv : Vis X.env.scope x) (hd : (x == ("__debug__" : Str)) = false) (hcd : (x == ("__classdict__" : Str)) = false) (ha : PE X ea (tEv aR X.K F a)) (hz : ∀ j ∈ al a, j ∈ fz)
    (m : M1 X (.Name x p0) "extend" apos ea cpos) (hs : starEach [ea] X.env = [(false, eval ea X.env)])
    (hsw : swapsWith (.Call (.Attribute (.Name x p0) "extend" apos) [ea] [] cpos) none pos.line X.env = pure false) :
    PS X (.Expr (.Call (.Attribute (.Name x p0) "extend" apos) [ea] [] cpos) pos) (tEvS aR X.K F (EX X) (.ext fz i a)) :=
  PS.imp (PS.or (ps_expr (pe_bm PySem.F.plainAttrs_list PySem.F.slot_list_extend PySem.F.type_list_extend mt_extend (pe_var hi hv hd hcd) (pa_cons ha pa_nil (by rw [hs]; rfl)) m.base m.few m.line (by rw [hs]; rfl) rfl) hsw)
    (ps_expr (pe_bm PySem.F.plainAttrs_list PySem.F.slot_list_extend PySem.F.type_list_extend mt_extT (pe_var hi hv hd hcd) (pa_cons ha pa_nil (by rw [hs]; rfl)) m.base m.few m.line (by rw [hs]; rfl) rfl) hsw)) fun E σ H ⟨Z, H0, env, r, ok, f, r', e, q⟩ => by
    obtain ⟨d, r1, e1, e2⟩ := Res.bind_ok e
    split at e2
    · rename_i l m hl
      split at e2
      · rename_i hsz
        cases e2
        obtain ⟨p, vs, h1, h2, h3, np⟩ := own_lst (ok.frz fz) hl
        refine .inl ⟨.ref p, h1, .inl ⟨rfl, vs, .of h2⟩, ev_to ok e1 fun v H' xx ro ok' rp => ?_⟩
        obtain ⟨p2, us, rfl, hu, nu, rps⟩ := rp
        refine ⟨p, p2, vs, us, rfl, rfl, xx _ _ np h2 rfl, hu, ?_, ?_⟩
        · rw [h3.length, rps.length, ← SZ_eq]; exact hsz
        · have okf := ok'.frz fz
          have h3' := h3.mono (xx.le (.inl ok.zr))
          have rpf := rps.mono (Le.less fun z m => mk_frz hz m)
          have mp : Mk Z σ (frz env fz) [] p := .inr ⟨i, _, hl, h1, by simp⟩
          have w : Ow aR (upd H' p (.lst (vs ++ us))) (Mk Z σ (frz env fz) []) p (.lst (l ++ m)) := ⟨_, upd_same, (h3'.append rpf).mono (le_updZ mp)⟩
          exact q σ _ (okf.updO hl h1 w) (((ok.le xx).trans (Le.less fun z m => mk_frz0 fz m)).trans (le_updO hl h1))
      · cases e2
    · rename_i l m hl
      split at e2
      · rename_i hsz
        cases e2
        obtain ⟨p, vs, h1, h2, h3, np⟩ := own_lst (ok.frz fz) hl
        refine .inr ⟨.ref p, h1, .inl ⟨rfl, vs, .of h2⟩, ev_to ok e1 fun v H' xx ro ok' rp => ?_⟩
        obtain ⟨p2, us, rfl, hu, nu, rps⟩ := rp
        refine ⟨p, p2, vs, us, rfl, rfl, xx _ _ np h2 rfl, hu.of, ?_, ?_⟩
        · rw [h3.length, rps.length, ← SZ_eq]; exact hsz
        · have okf := ok'.frz fz
          have h3' := h3.mono (xx.le (.inl ok.zr))
          have rpf := rps.mono (Le.less fun z m => mk_frz hz m)
          have mp : Mk Z σ (frz env fz) [] p := .inr ⟨i, _, hl, h1, by simp⟩
          have w : Ow aR (upd H' p (.lst (vs ++ us))) (Mk Z σ (frz env fz) []) p (.lst (l ++ m)) := ⟨_, upd_same, (h3'.append rpf).mono (le_updZ mp)⟩
          exact q σ _ (okf.updO hl h1 w) (((ok.le xx).trans (Le.less fun z m => mk_frz0 fz m)).trans (le_updO hl h1))
      · cases e2
    · cases e2
theorem s_setD {fz : List Nat} {i : Nat} {k : IE} {ek : Expr} {x : Str} {p0 pos' : Pos} (hu : X.A.units + 64 < cLine) (hi : X.N[i]? = some x) (hv : Vis X.env.scope x) (hd : (x == ("__debug__" : Str)) = false) (hcd : (x == ("__classdict__" : Str)) = false) (ha : PE X ea (tEv aR X.K F a)) (hk : PE X ek (tEvC aR X.K F k)) (hz : ∀ j ∈ al a, j ∈ fz)
    (hs : swapsWith ea (some (.Subscript (.Name x p0) ek pos')) pos.line X.env = pure false) : PS X (.Assign [.Subscript (.Name x p0) ek pos'] ea pos) (tEvS aR X.K F (EX X) (.setD fz i k a)) :=
  PS.imp (ps_xput hu (pe_var hi hv hd hcd) hk ha hs) fun E σ H ⟨Z, H0, env, r, ok, f, r', e, q⟩ => by
    obtain ⟨d, r1, e1, e2⟩ := Res.bind_ok e
    obtain ⟨y, r2, e3, e4⟩ := Res.bind_ok e2
    split at e4
    · rename_i t ks vs hl
      split at e4
      · rename_i hsz
        cases e4
        have hsz : keyOk t y = true ∧ ks.length < SZ := by simpa using hsz
        obtain ⟨p, h1, nz, _, h3⟩ := (ok.frz fz).ow i _ hl
        refine ev_to ok e1 fun v H1 x1 ro1 ok1 rp => ⟨.ref p, h1, evC_to ok1 e3 fun u H2 x2 ro2 ok2 rpk => ?_⟩
        have okf := ok2.frz fz
        have rpf := (rp.mono (Le.less fun z m => mk_frz hz m)).mono (x2.le (.inl ok.zr))
        have mp : Mk Z σ (frz env fz) [] p := .inr ⟨i, _, hl, h1, by simp⟩
        have h4 := h3.mono ((x1.trans x2).le (.inl ok.zr)) (fun o eo => (x1.trans x2) p o (fun z => nz (by rw [z]; exact ok.zr)) eo)
        exact ⟨p, rfl, dput_of (K := X.K) hsz.1 hsz.2 h4 rpk rpf mp okf.mkk fun o g2 => q σ _ (okf.updO hl h1 g2) (((ok.le (x1.trans x2)).trans (Le.less fun z m => mk_frz0 fz m)).trans (le_updO hl h1))⟩
      · cases e4
    · cases e4
theorem s_whl {tb : List Stmt} (hp : PassesOwn (model X.prog X.w) X.A X.env X.xe) (hc : PT X ec (tEvT aR X.K F c)) (hb : PSs X tb (tEvS aR X.K F (EX X) s)) : PS X (.While ec tb [] pos) (tEvS aR X.K F (EX X) (.whl c s)) :=
  PS.imp (ps_while hp hc hb) fun E σ H ⟨Z, H0, env, r, ok, f, r', e, q⟩ => by
    refine ⟨fun m σ' H' => ∃ env' rr, Ok aR X.K Z H0 σ' H' env' rr ∧ Le H (Mk Z σ env []) H' (Mk Z σ' env' []) ∧ whl (fun env r => (ev F c env r).bind asB) (evS F s) m env' rr = .ok f r', ⟨FUEL, env, r, ok, .refl, e⟩, ?_⟩
    rintro m σ1 H1 ⟨env1, r1, ok1, le1, e1⟩
    cases m with
    | zero => cases e1
    | succ m =>
      obtain ⟨k, r2, e2, e3⟩ := Res.bind_ok e1
      obtain ⟨u, r3, e4, e5⟩ := Res.bind_ok e2
      obtain ⟨rfl, rfl⟩ := asB_b e5
      refine evT_to ok1 e4 fun H2 x2 ro2 ok2 => ?_
      have le2 := le1.trans (ok1.le x2)
      cases k with
      | false =>
        rw [if_neg Bool.false_ne_true] at e3 ⊢
        cases e3
        exact q σ1 H2 ok2 le2
      | true =>
        rw [if_pos rfl] at e3 ⊢
        obtain ⟨g, r4, e6, e7⟩ := Res.bind_ok e3
        refine ⟨fun σ' H' => ∃ env' rr, Ok aR X.K Z H0 σ' H' env' rr ∧ Le H (Mk Z σ env []) H' (Mk Z σ' env' []) ∧ whl (fun env r => (ev F c env r).bind asB) (evS F s) m env' rr = .ok f r', fun σ' H' w => ⟨m, Nat.lt_succ_self m, w⟩, evS_to ok2 e6 ?_⟩
        cases g with
        | nx env3 => exact fun σ3 H3 ok3 l3 => ⟨env3, r4, ok3, le2.trans l3, e7⟩
        | ct env3 => exact fun σ3 H3 ok3 l3 => ⟨env3, r4, ok3, le2.trans l3, e7⟩
        | bk env3 =>
          cases e7
          exact fun σ3 H3 ok3 l3 => q σ3 H3 ok3 (le2.trans l3)
        | rt d =>
          cases e7
          exact q
        | rs e =>
          cases e7
          exact q
theorem s_forC {C : L2.St → Hp → Prop} {fz tg : List Nat} {sole : Bool} {it : IE} {tgx iter : Expr} {tb : List Stmt} (hp : PassesOwn (model X.prog X.w) X.A X.env X.xe) (hc : X.calm = true) (hi : PI X tgx iter fun σ H R => C σ H ∧ tEvI aR X.K F it σ H R) (hg : PG X tgx (gT X.K sole tg)) (hb : PSs X tb (tEvS aR X.K F (EX X) s))
    (hs : ∀ x, foldedSetIterable iter X.env x = pure x) (f1 : ∀ i ∈ al it, i ∈ fz) (f2 : ∀ i ∈ dvs it, i ∈ fz) (fw : wkI it = true → (!sole) = true) : PS X (.For tgx iter tb [] pos) (fun E σ H => C σ H ∧ tEvS aR X.K F (EX X) (.for_ fz tg sole it s) E σ H) :=
  PS.imp (ps_for hp hc hi hg hb hs) fun E σ H ⟨cc, Z, H0, env, r, ok, f, r', e, q⟩ => by
    obtain ⟨u, r1, e1, e2⟩ := Res.bind_ok e
    split at e2
    · rename_i l
      split at e2
      · rename_i hno
        have okf := ok.frz fz
        refine ⟨cc, Z, H0, frz env fz, r, okf, l, r1, e1, fun J H1 x1 ro1 ⟨U, Y, hU, hW, hY⟩ => ?_⟩
        have ok1 := okf.grow x1 ro1
        have sub : ∀ a, Mk Z σ (frz env fz) [] a → Mk Z σ (frz env fz) (al it) a := fun a m => by
          rcases m with m | ⟨j, d', h1, h2, _⟩
          · exact .inl m
          · exact .inr ⟨j, d', h1, h2, fun z => noOwn_at hno (f1 j z) h1⟩
        have nDv : ∀ a, ¬ Dv σ (frz env fz) (dvs it) a := fun a ⟨i, d', h1, h2, _⟩ => noOwn_at hno (f2 i h1) h2
        have le0 : Le H (Mk Z σ env []) H1 (Mk Z σ (frz env fz) []) := (ok.le x1).trans (Le.less fun z m => mk_frz0 fz m)
        refine for_it hW (fun i σ' H' => ∃ env' ri, i ≤ l.length ∧ Ok aR X.K Z H0 σ' H' env' ri ∧ Le H1 (Mk Z σ (frz env fz) []) H' (Mk Z σ' env' []) ∧ fors tg sole (evS F s) (l.drop i) env' ri = .ok f r') ⟨frz env fz, r1, Nat.zero_le _, ok1, .refl, e2⟩ (fun i σ2 H2 hi p a o hu ea et => ?_) (fun i x σ2 H2 H3 hi p y => ?_) (fun σ2 H2 p => ?_)
        · obtain ⟨_, _, _, _, k, _⟩ := p
          refine (k a o ea et fun m => ?_).1
          rcases (hU a hu).2 with n | n
          · exact n (sub a m)
          · exact nDv a n
        · obtain ⟨env2, r2, hil, ok2, k, et⟩ := p
          obtain ⟨nw, d, ed, rpx⟩ := hY i H2 x H3 (Mk Z σ2 env2 []) hi (fun a o ea t n => k a o ea t fun m => n (sub a m)) (fun a m => ok2.mkk a m) y
          have extN : Ext aR H2 H3 := .keep nw.keep
          have ok3 := ok2.grow extN (ok2.row.keep nw.keep)
          have ed' : l.drop i = d :: l.drop (i + 1) := by
            obtain ⟨h1, h2⟩ := List.getElem?_eq_some_iff.mp ed
            rw [List.drop_eq_getElem_cons h1, h2]
          rw [ed'] at et
          unfold fors at et
          split at et
          · cases et
          · rename_i env3 eb
            obtain ⟨g, r4, e6, e7⟩ := Res.bind_ok et
            refine gT_to' ok3 eb (rpx.of fw) fun σ4 ok4 l4 => evS_to ok4 e6 ?_
            have le4 := (k.trans (ok2.le extN)).trans l4
            cases g with
            | nx env5 => exact fun σ5 H5 ok5 l5 => ⟨env5, r4, hi, ok5, le4.trans l5, e7⟩
            | ct env5 => exact fun σ5 H5 ok5 l5 => ⟨env5, r4, hi, ok5, le4.trans l5, e7⟩
            | bk env5 =>
              cases e7
              exact fun σ5 H5 ok5 l5 => q σ5 H5 ok5 (le0.trans (le4.trans l5))
            | rt d =>
              cases e7
              exact q
            | rs e =>
              cases e7
              exact q
        · obtain ⟨env2, r2, hil, ok2, k, et⟩ := p
          rw [List.drop_length] at et
          cases et
          exact q σ2 H2 ok2 (le0.trans k)
      · cases e2
    · cases e2
theorem s_for {fz tg : List Nat} {sole : Bool} {it : IE} {tgx iter : Expr} {tb : List Stmt} (hp : PassesOwn (model X.prog X.w) X.A X.env X.xe) (hc : X.calm = true) (hi : PI X tgx iter (tEvI aR X.K F it)) (hg : PG X tgx (gT X.K sole tg)) (hb : PSs X tb (tEvS aR X.K F (EX X) s))
    (hs : ∀ x, foldedSetIterable iter X.env x = pure x) (f1 : ∀ i ∈ al it, i ∈ fz) (f2 : ∀ i ∈ dvs it, i ∈ fz) (fw : wkI it = true → (!sole) = true) : PS X (.For tgx iter tb [] pos) (tEvS aR X.K F (EX X) (.for_ fz tg sole it s)) :=
  PS.imp (s_forC (C := fun _ _ => True) hp hc (PI.imp hi fun σ H R q => q.2) hg hb hs f1 f2 fw) fun E σ H q => ⟨trivial, q⟩
/-! ### several targets -/
theorem s_par {fz : List Nat} {l : List (Nat × Bool × IE)} {ts : TS} (h : PS X st ts) (hz : ∀ x ∈ l, ∀ j ∈ al x.2.2, j ∈ fz)
    (w : ∀ (D : Ends) (σ : L2.St) (H : Hp), (∀ Q : List V → Hp → Prop, (∀ vs Hf, vs.length = l.length → D.nx (sets (l.map (·.1)) vs σ) Hf → (∀ p xs, Hf p = none → D.nx (sets (l.map (·.1)) vs σ) (upd Hf p (.tup xs))) → Q vs Hf) → tPs aR X.K F l σ H Q) → ts D σ H) : PS X st (tEvS aR X.K F (EX X) (.par fz l)) :=
  PS.imp h fun E σ H ⟨Z, H0, env, r, ok, f, r', e, q⟩ => by
    obtain ⟨envf, r1, e1, e2⟩ := Res.bind_ok e
    cases e2
    refine w E σ H fun Q hq => ?_
    refine parA (fz := fz) l hz ok (ok.frz fz) (fun a ex he m => mk_frz he m) (fun a z => z) e1 fun vs Hf hl okf lef => ?_
    have le1 : Le H (Mk Z σ env []) Hf (Mk Z (sets (l.map (·.1)) vs σ) envf []) := (Le.less fun z m => mk_frz0 fz m : Le H (Mk Z σ env []) H (Mk Z σ (frz env fz) [])).trans lef
    refine hq vs Hf hl (q _ _ okf le1) fun p xs hp => ?_
    have x2 : Ext aR Hf (upd Hf p (.tup xs)) := .new hp
    exact q _ _ (okf.grow x2 (okf.row.keep (keep_new hp))) (le1.trans (okf.le x2))
theorem len2 {α : Type} {vs : List α} (h : vs.length = 2) : ∃ v w, vs = [v, w] := by
  match vs, h with
  | [v, w], _ => exact ⟨v, w, rfl⟩
theorem len3 {α : Type} {vs : List α} (h : vs.length = 3) : ∃ v w u, vs = [v, w, u] := by
  match vs, h with
  | [v, w, u], _ => exact ⟨v, w, u, rfl⟩
theorem s_par2 {fz : List Nat} {x y : Nat × Bool × IE} (h : PS X st (tPar x.1 y.1 (tPs aR X.K F [x, y]))) (hz : ∀ z ∈ [x, y], ∀ j ∈ al z.2.2, j ∈ fz) : PS X st (tEvS aR X.K F (EX X) (.par fz [x, y])) :=
  s_par h hz fun D σ H k => k _ fun vs Hf hl hn _ => by
    obtain ⟨v, w, rfl⟩ := len2 hl
    exact ⟨v, w, rfl, hn⟩
theorem s_par3 {fz : List Nat} {x y z : Nat × Bool × IE} (h : PS X st (tPar3 x.1 y.1 z.1 (tPs aR X.K F [x, y, z]))) (hz : ∀ u ∈ [x, y, z], ∀ j ∈ al u.2.2, j ∈ fz) : PS X st (tEvS aR X.K F (EX X) (.par fz [x, y, z])) :=
  s_par h hz fun D σ H k => k _ fun vs Hf hl hn _ => by
    obtain ⟨v, w, u, rfl⟩ := len3 hl
    exact ⟨v, w, u, rfl, hn⟩
theorem s_parN {fz : List Nat} {l : List (Nat × Bool × IE)} (h : PS X st (tAsg (tTup (tPs aR X.K F l)) (gT X.K false (l.map (·.1))))) (hL : l.length ≤ SZ) (hz : ∀ u ∈ l, ∀ j ∈ al u.2.2, j ∈ fz) : PS X st (tEvS aR X.K F (EX X) (.par fz l)) :=
  s_par h hz fun D σ H k => k _ fun vs Hf hl hn ht => ⟨by rw [hl, ← SZ_eq]; exact hL, fun p hp => ⟨p, vs, rfl, .of upd_same, by rw [hl, List.length_map], gs_to _ vs σ _ _ (by rw [hl, List.length_map]) (ht p vs hp)⟩⟩
end
end Wl
/-! A set made of a list of ints; sorted of a set. -/
namespace Wl
open PySem PySem.Spec PyProof.Rows L2

abbrev sob (w : World) : Obj := { cls := .type "set", dict := none, data := .set #[] 0 (.fresh 0 0 (!w.params.followText "set-order")) }
section
variable {P : Program} {w : World} {A : Around} {E : Value → Shared → Prop} {s : Shared}
set_option maxHeartbeats 4000000 in
theorem set_of_list {l : Addr} {xs : Array Value} (ns : List Int) {Q : Value → Shared → Prop} (hA : A.handled = none) (hl : s.heap.IsList l xs) (hx : IntsAre xs.toList ns) (hb : ns.length + 1 < scanBound)
    (q : ∀ (g : Heap) (tk c : Nat), SetR w g s.heap.objs.size (fun j => decide (j ∈ ns)) c → c ≤ ns.length → (∀ b o, s.heap.get? b = some o → g.get? b = some o) → Q (.ref s.heap.objs.size) { s with heap := g, toks := tk }) :
    wpAny (model P w) A (call (.type "set") [.ref l]) Q E s := by
  have len : xs.size = ns.length := by rw [← Array.length_toList]; exact IntsAre.length hx
  obtain ⟨cc, tl, m1⟩ := F.called_set.mro
  have m2 := F.called_set.made
  have m3 := F.called_set.sub
  refine wpAny_call (codeAny_of_tree ?_)
  show wpAny _ _ (callAny (.type "set") _) _ _ _
  refine wpAny_pure ⟨Code.quiet_builtin _ (by decide +kernel), codeAny_builtin F.entry_type_call ?_⟩
  rw [Around.under_plain (weight_type_call_type "set" [.ref l] []) rfl]
  have m4 := F.called_set.notType
  have m5 := F.called_set.canCreate
  have m6 := F.typeCall_set_1 (.ref l)
  repeat (any_goals (first | assumption | wp_step))

  refine codeAny_mono (code_set_led1 (.ref l) (E := E) (Q₁ := fun v s1 => v = .ref s.heap.objs.size ∧ s1 = { s with heap := s.heap.push (sob w) }) ⟨rfl, rfl⟩) fun r s1 hr => ?_
  cases r with
  | error e => exact hr
  | ok fl => cases fl with
    | ret v =>
      obtain ⟨rfl, rfl⟩ := hr
      have at0 : (s.heap.push (sob w)).get? s.heap.objs.size = some (sob w) := Heap.get?_push_size _ rfl
      have ty0 : Shared.TypeIs { s with heap := s.heap.push (sob w) } (.ref s.heap.objs.size) "set" := ⟨_, at0, rfl⟩
      have i1 := F.called_set.init.lookup
      have i2 := F.called_set.init.bind (.ref s.heap.objs.size)
      repeat (any_goals (first | assumption | wp_step))

      refine codeAny_mono (codeAny_call_builtin (R := wants (fun r s2 => r = .none ∧ ∃ g tk c, s2 = { s with heap := g, toks := tk } ∧ SetR w g s.heap.objs.size (fun j => decide (j ∈ ns)) c ∧ c ≤ ns.length ∧
          ∀ b o, s.heap.get? b = some o → g.get? b = some o) E) F.called_set.init.plain F.entry_set_init (check_set_init_1 ty0 ?_)) fun r2 s2 h2 => ?_
      · obtain ⟨ol, lo, lc, nl, ld⟩ := hl
        obtain ⟨oc, od, oda, osl⟩ := ol
        simp only at lc ld
        subst lc; subst ld
        have lo1 : (s.heap.push (sob w)).get? l = some { cls := .type "list", dict := od, data := .seq xs nl, slots := osl } := Heap.get?_push_of_some _ lo
        have sub1 := F.sub_list_set
        have sub2 := F.sub_list_frozenset
        have ne1 : (Value.type "list" == Value.type "dict") = false := by decide
        have il : (s.heap.push (sob w)).IsList l xs := ⟨_, lo1, rfl, nl, rfl⟩
        unfold Builtin.«set.__init__» noKeywords Builtin.Frozenset.updateFrom
        generalize hPI : pyIter = PI
        wp_walk
        subst hPI

        refine wpAny_pyIter_list il ?_
        refine wpAny_bind (wpAny_runValue ?_)
        have lt0 : l < s.heap.objs.size := Heap.lt_size lo
        have hA3 : A.in1.in1.in1.handled = none := by simp [hA]
        have sz1 : (s.heap.push (sob w)).objs.size = s.heap.objs.size + 1 := Heap.size_push ..
        have ne2 : l ≠ (s.heap.push (sob w)).objs.size := by rw [sz1]; exact Nat.ne_of_lt (Nat.lt_succ_of_lt lt0)
        have ni : s.heap.objs.size ∉ [(s.heap.push (sob w)).objs.size, l] := by
          rw [sz1]
          intro z
          rcases List.mem_cons.mp z with z | z
          · exact absurd z (Nat.ne_of_lt (Nat.lt_succ_self _))
          · exact absurd (List.mem_singleton.mp z) (Nat.ne_of_gt lt0)
        have val : ∀ (i : Nat) (v : Value), xs[i]? = some v → ∃ k t, ns[i]? = some k ∧ v = .int k t := fun i v hv => by
          have hi : i < ns.length := by rw [← len]; exact (Array.getElem?_eq_some_iff.mp hv).1
          obtain ⟨t, e⟩ := PyProof.Rows.IntsAre.int_at hx i v (by rw [Array.getElem?_toList]; exact hv)
          refine ⟨ns[i], t, List.getElem?_eq_getElem hi, ?_⟩
          rw [e, List.getD_eq_getElem?_getD, List.getElem?_eq_getElem hi] <;> rfl
        refine set_update_ints ((Walks.list hA3 _ l ne2 xs).toS) s.heap.objs.size ni ns len hb val (xs.size - 0) 0 _ (by omega) (Nat.zero_le _) ⟨⟨_, Heap.get?_push_size _ rfl, rfl, rfl⟩, (il.push _)⟩ ?start ?fin
        case start =>
          have at1 : ((s.heap.push (sob w)).push { cls := .type "list_iterator", data := .fields #[.ref l, .int 0 0] }).get? s.heap.objs.size = some (sob w) := Heap.get?_push_of_some _ at0
          exact ⟨0, Nat.le_refl 0, setR_new_at at1⟩
        case fin =>
          intro s3 c3 mv hc hR
          obtain ⟨g3, gs3, d3, tk3, os3⟩ := s3
          obtain rfl : gs3 = s.gens := mv.gens
          obtain rfl : d3 = s.drawn := mv.drawn
          obtain rfl : os3 = s.os := mv.os
          show wpAny _ _ _ _ _ _
          refine wpAny_pure ?_
          show wpAny _ _ (ret Value.none) _ _ _
          rw [len] at hc
          refine wpAny_pure ⟨rfl, g3, tk3, c3, rfl, hR, hc, fun b o e => ?_⟩
          have lt3 : b < s.heap.objs.size := Heap.lt_size e
          refine mv.heap b o (fun z => ?_) (Heap.get?_push_of_some _ (Heap.get?_push_of_some _ e))
          rcases List.mem_cons.mp z with z | z
          · exact absurd z (Nat.ne_of_lt lt3)
          · rw [sz1] at z
            exact absurd (List.mem_singleton.mp z) (Nat.ne_of_lt (Nat.lt_succ_of_lt lt3))

      · cases r2 with
        | error e => exact h2
        | ok fl2 => cases fl2 with
          | ret r =>
            obtain ⟨rfl, g, tk, c, rfl, a1, a2, a3⟩ := h2
            repeat (any_goals (first | assumption | wp_step))
            exact q _ _ _ a1 a2 a3
          | _ => exact h2.elim
    | _ => exact hr.elim
end
theorem nodup_leI : ∀ {l m : List Int}, l.Nodup → (∀ x ∈ l, x ∈ m) → l.length ≤ m.length
  | [], m, _, _ => Nat.zero_le _
  | x :: l, m, h, hs => by
    rw [List.nodup_cons] at h
    have hx := hs x List.mem_cons_self
    have := nodup_leI (l := l) (m := m.erase x) h.2 fun z hz => (List.mem_erase_of_ne (fun e : z = x => h.1 (by rw [← e]; exact hz))).mpr (hs z (List.mem_cons_of_mem _ hz))
    have e := List.length_erase_of_mem hx
    have p : 0 < m.length := List.length_pos_iff.mpr (fun z => by rw [z] at hx; cases hx)
    rw [List.length_cons]
    omega
theorem setR_le {w : World} {h : Heap} {a : Addr} {ns : List Int} {c : Nat} (R : SetR w h a (fun j => decide (j ∈ ns)) c) (l : List Int) (k : ∀ j ∈ ns, j ∈ l) : c ≤ l.length := by
  obtain ⟨o, es, ep, t, ho, hx, hd, g, nd, hm, hb, hf, hn, _⟩ := R
  have := nodup_leI nd (m := l) fun x hx => k x (by have := (hm x).mpr hx; simpa using this)
  rw [List.length_map, Array.length_toList] at this
  omega
/-- set of a list or a tuple of ints -/
def rSetI (K : PySem.W.Frag) (w : World) : List V → Hp → VK → Prop := fun xs H Q => ∃ (l : Addr) (ns : List Int), xs = [V.ref l] ∧ (SqL K H l (ns.map V.int) ∨ SqT K H l (ns.map V.int)) ∧ ns.length < 4000 ∧
  ∀ p c, H p = none → c ≤ ns.length → (∀ l : List Int, (∀ j ∈ ns, j ∈ l) → c ≤ l.length) → Q (.ref p) (upd H p (SetO w p (fun j => decide (j ∈ ns)) c))
theorem cr_setI {X : Cx} (hc : X.calm = true) : CallR X (.type "set") (rSetI X.K X.w) := by
  intro pins s σ H xs us Q I r h
  obtain ⟨l, ns, rfl, hl, h64, q⟩ := h
  rw [Vals.ref1 r]
  have hn : H s.heap.objs.size = none := I.hok.fresh (Nat.le_refl _)
  have sb : ns.length + 1 < scanBound := by
    have : 4001 < scanBound := by decide
    omega
  rcases hl with hl | hl
  · obtain ⟨its, rv, pl, hz⟩ := I.list hl
    refine set_of_list (P := X.prog) (w := X.w) ns (I.ok.hd hc) pl.isList (by simpa using ints_of_vals rv) sb fun g tk c R hcn k => ?_
    exact ⟨.ref s.heap.objs.size, upd H s.heap.objs.size (SetO X.w s.heap.objs.size (fun j => decide (j ∈ ns)) c), I.laid (t' := tk) k (Nat.le_refl _) (setO_new R), rfl, q _ c hn hcn (setR_le R)⟩
  · obtain ⟨its, rv, pl, hz⟩ := I.tuple hl
    refine call_set_tupI (P := X.prog) (w := X.w) ns (I.ok.hd hc) pl (by simpa using ints_of_vals rv) sb fun g tk c R hcn k => ?_
    exact ⟨.ref s.heap.objs.size, upd H s.heap.objs.size (SetO X.w s.heap.objs.size (fun j => decide (j ∈ ns)) c), I.laid (t' := tk) k (Nat.le_refl _) (setO_new R), rfl, q _ c hn hcn (setR_le R)⟩
end Wl
/-! Further words: sorted(set(..)), is True, ranges, pops. -/
namespace Wl
open PySem PySem.Spec PyProof.Rows L2

/-! ### ascending, each once -/
theorem mem_insU {x y : Int} : ∀ {l : List Int}, y ∈ insU x l ↔ y = x ∨ y ∈ l
  | [] => by simp [insU]
  | z :: r => by
    unfold insU
    split
    · simp
    · split
      · rw [List.mem_cons, mem_insU, List.mem_cons]
        constructor
        · rintro (h | h | h) <;> simp [h]
        · rintro (h | h | h) <;> simp [h]
      · have : x = z := by omega
        subst this
        simp
theorem mem_ssetI {y : Int} : ∀ {l : List Int}, y ∈ ssetI l ↔ y ∈ l
  | [] => by simp [ssetI]
  | x :: r => by unfold ssetI; rw [mem_insU, mem_ssetI, List.mem_cons]
theorem insU_up (x : Int) : ∀ {l : List Int}, l.Pairwise (· < ·) → (insU x l).Pairwise (· < ·)
  | [], _ => List.pairwise_singleton _ _
  | y :: r, h => by
    rw [List.pairwise_cons] at h
    unfold insU
    split
    · rename_i c
      refine List.pairwise_cons.mpr ⟨fun z hz => ?_, List.pairwise_cons.mpr h⟩
      rcases List.mem_cons.mp hz with rfl | hz
      · exact c
      · have := h.1 z hz; omega
    · split
      · rename_i c
        refine List.pairwise_cons.mpr ⟨fun z hz => ?_, insU_up x h.2⟩
        rcases mem_insU.mp hz with rfl | hz
        · exact c
        · exact h.1 z hz
      · exact List.pairwise_cons.mpr h
theorem ssetI_up : ∀ l : List Int, (ssetI l).Pairwise (· < ·)
  | [] => .nil
  | x :: r => insU_up x (ssetI_up r)
theorem up_ext : ∀ {l m : List Int}, l.Pairwise (· < ·) → m.Pairwise (· < ·) → (∀ x, x ∈ l ↔ x ∈ m) → l = m
  | [], [], _, _, _ => rfl
  | [], y :: m, _, _, h => absurd ((h y).mpr List.mem_cons_self) (by simp)
  | x :: l, [], _, _, h => absurd ((h x).mp List.mem_cons_self) (by simp)
  | x :: l, y :: m, hl, hm, h => by
    rw [List.pairwise_cons] at hl hm
    have exy : x = y := by
      rcases List.mem_cons.mp ((h x).mp List.mem_cons_self) with e | e
      · exact e
      · rcases List.mem_cons.mp ((h y).mpr List.mem_cons_self) with e2 | e2
        · exact e2.symm
        · have := hm.1 x e; have := hl.1 y e2; omega
    subst exy
    congr 1
    refine up_ext hl.2 hm.2 fun z => ⟨fun hz => ?_, fun hz => ?_⟩
    · rcases List.mem_cons.mp ((h z).mp (List.mem_cons_of_mem _ hz)) with e | e
      · have := hl.1 z hz; omega
      · exact e
    · rcases List.mem_cons.mp ((h z).mpr (List.mem_cons_of_mem _ hz)) with e | e
      · have := hm.1 z hz; omega
      · exact e

section
variable {X : Cx} {aR : AR} {F : Fns} {ea eb ec : Expr} {a b c : IE} {pos : Pos} {tg : Expr}
theorem f_sset {p p2 pos2 : Pos} (hc : X.calm = true) (hg : Gl X "sorted") (hm : X.mg "sorted" = none) (hg2 : Gl X "set") (hm2 : X.mg "set" = none) (ha : PE X ea (tEvC aR X.K F a)) (hs : starEach [ea] X.env = (false, eval ea X.env) :: starEach [] X.env) :
    PE X (.Call (.Name "sorted" p) [.Call (.Name "set" p2) [ea] [] pos2] [] pos) (tEvF aR X.K F (.sset a)) :=
  PE.imp (pe_callB (cr_sortedSet hc) hg hm PyProof.Rows.boot_sorted (pa_1 (pe_callTy (cr_setI hc) hg2 hm2 PyProof.Rows.boot_set (pa_1 ha hs) (by decide) (by decide) hs rfl) rfl) (by decide) (by decide) rfl rfl) fun σ H Q ⟨Z, H0, env, r, ok, dd, r', e, q⟩ => by
    obtain ⟨u, r1, e1, e2⟩ := Res.bind_ok e
    refine evC_to ok e1 fun v H' x ro ok' rp => ?_
    split at e2
    · rename_i ns en
      split at e2
      · rename_i h64
        cases e2
        have key : ∃ l, v = .ref l ∧ (SqL X.K H' l (ns.map V.int) ∨ SqT X.K H' l (ns.map V.int)) := by
          cases u <;> first | (cases en; done) | skip
          · obtain ⟨p, vs, rfl, h1, n1, rps⟩ := rp
            obtain ⟨rfl, rfl⟩ := ints_of en rps
            exact ⟨p, rfl, .inr (h1.of)⟩
          · obtain ⟨p, vs, rfl, h1, n1, rps⟩ := rp
            obtain ⟨rfl, rfl⟩ := ints_of en rps
            exact ⟨p, rfl, .inl (.of h1)⟩
        obtain ⟨l, rfl, hl⟩ := key
        have h64 : ns.length < 64 ∨ ns.length < 4000 ∧ (ssetI ns).length < 64 := by simpa [fewI] using h64
        refine ⟨l, ns, rfl, hl, by omega, fun p c hp hcn hle => ?_⟩
        have hle := hle (ssetI ns) fun j hj => mem_ssetI.mpr hj
        refine ⟨p, _, c, rfl, upd_same, by omega, fun out p' up mem len hp' => ?_⟩
        have : out = ssetI ns := up_ext up (ssetI_up ns) fun y => by rw [mem, mem_ssetI]; simp
        subst this
        have x1 : Ext aR H' (upd H' p (SetO X.w p (fun j => decide (j ∈ ns)) c)) := .new hp
        have k1 := keep_new (o := SetO X.w p (fun j => decide (j ∈ ns)) c) hp
        exact q _ _ ((x.trans x1).trans (.new hp')) ((ro.keep k1).keep (keep_new hp')) (start_free (ro.keep k1) (x.trans x1) hp') (ow_newL hp' (reps_ints _))
      · cases e2
    · cases e2
theorem v_isB {n k : Bool} {j : Nat} {pos' : Pos} (ha : PE X ea (tEvC aR X.K F a)) :
    PB X (.Compare ea [if n = true then .IsNot else .Is] [.Constant (.bool k) j pos'] pos) (tEv aR X.K F (.isB n k a)) (tEvT aR X.K F (.isB n k a)) := by
  have hb : PE X (.Constant (.bool k) j pos') (tEvC aR X.K F (.bl k)) := c_of v_bl rfl
  cases n with
  | false =>
    refine ⟨PE.imp (pe_cmpR op_isBl ha hb rfl) fun σ H Q ⟨Z, H0, env, r, ok, dd, r', e, q⟩ => ?_, PT.imp (pt_cmpR op_isBl ha hb rfl) fun σ H Q ⟨Z, H0, env, r, ok, dd, r', e, q⟩ => ?_⟩
    all_goals
      obtain ⟨u, r1, e1, e2⟩ := Res.bind_ok e
      refine two_to ok e1 (rfl : ev F (.bl k) env r1 = .ok (.bl k) r1) fun v1 v2 H' x ro ok' rp1 rp2 => ?_
      cases u <;> first | (cases e2; done) | skip
      cases e2
      obtain rfl : v1 = _ := rp1
      obtain rfl : v2 = _ := rp2
    · exact ⟨_, _, rfl, rfl, q _ H' x ro rfl⟩
    · exact ⟨_, _, rfl, rfl, _, rfl, q H' x ro⟩
  | true =>
    refine ⟨PE.imp (pe_cmpR op_notBl ha hb rfl) fun σ H Q ⟨Z, H0, env, r, ok, dd, r', e, q⟩ => ?_, PT.imp (pt_cmpR op_notBl ha hb rfl) fun σ H Q ⟨Z, H0, env, r, ok, dd, r', e, q⟩ => ?_⟩
    all_goals
      obtain ⟨u, r1, e1, e2⟩ := Res.bind_ok e
      refine two_to ok e1 (rfl : ev F (.bl k) env r1 = .ok (.bl k) r1) fun v1 v2 H' x ro ok' rp1 rp2 => ?_
      cases u <;> first | (cases e2; done) | skip
      cases e2
      obtain rfl : v1 = _ := rp1
      obtain rfl : v2 = _ := rp2
    · exact ⟨_, _, rfl, rfl, q _ H' x ro rfl⟩
    · exact ⟨_, _, rfl, rfl, _, rfl, q H' x ro⟩
theorem reps_rng {H : Hp} {Z : Addr → Prop} (lo : Int) (n : Nat) : Reps aR H Z (rngD lo n) ((List.range n).map fun (i : Nat) => V.int (lo + i)) := by
  have h := reps_ints (aR := aR) (H := H) (Z := Z) ((List.range n).map fun (i : Nat) => lo + i)
  rw [List.map_map, List.map_map] at h
  exact h
theorem v_tupR2 {p p2 pos2 : Pos} (hc : X.calm = true) (hg : Gl X "tuple") (hm : X.mg "tuple" = none) (hg2 : Gl X "range") (hm2 : X.mg "range" = none) (ha : PE X ea (tEvC aR X.K F a)) (hb : PE X eb (tEvC aR X.K F b)) (hs : starEach [ea, eb] X.env = (false, eval ea X.env) :: starEach [eb] X.env) (hs2 : starEach [eb] X.env = [(false, eval eb X.env)]) :
    PE X (.Call (.Name "tuple" p) [.Call (.Name "range" p2) [ea, eb] [] pos2] [] pos) (tEv aR X.K F (.tupR2 a b)) :=
  PE.imp (pe_tupRgS hc hg hm (prg_2 hg2 hm2 ha hb hs hs2 (by rw [hs2]; rfl))) fun σ H Q ⟨Z, H0, env, r, ok, dd, r', e, q⟩ => by
    obtain ⟨u, r1, w, r2, e1, e2, e3⟩ := bind2 (f := fun _ _ => .no) e
    refine evC_to ok e1 fun v H1 x1 ro1 ok1 rp1 => evC_to ok1 e2 fun v2 H2 x2 ro2 ok2 rp2 => ?_
    split at e3
    · rename_i i j
      split at e3
      · rename_i hk
        simp only [Bool.and_eq_true, small_iff, decide_eq_true_eq] at hk
        cases e3
        cases rp1; cases rp2
        refine ⟨i, j, rfl, rfl, ⟨hk.1.1.1, hk.1.1.2, hk.1.2.1, hk.1.2.2, by have := hk.2; unfold SZ at this; omega⟩, fun p o hp hd => q _ _ ((x1.trans x2).trans (.new hp)) (ro2.keep (keep_new hp)) ?_⟩
        exact rep_newT (fun z m => let ⟨o, h, _⟩ := ok2.mkk z m; ⟨o, h⟩) hp hd (reps_rng _ _)
      · cases e3
    · cases e3
theorem f_lstR1 {p p2 pos2 : Pos} (hc : X.calm = true) (hg : Gl X "list") (hm : X.mg "list" = none) (hg2 : Gl X "range") (hm2 : X.mg "range" = none) (ha : PE X ea (tEvC aR X.K F a)) (hs : starEach [ea] X.env = (false, eval ea X.env) :: starEach [] X.env) :
    PE X (.Call (.Name "list" p) [.Call (.Name "range" p2) [ea] [] pos2] [] pos) (tEvF aR X.K F (.lstR1 a)) :=
  PE.imp (pe_listRg hc hg hm (prg_1 hg2 hm2 ha hs)) fun σ H Q ⟨Z, H0, env, r, ok, dd, r', e, q⟩ => by
    obtain ⟨u, r1, e1, e2⟩ := Res.bind_ok e
    refine evC_to ok e1 fun v H' x ro ok' rp => ?_
    split at e2
    · rename_i k
      split at e2
      · rename_i hk
        simp only [Bool.and_eq_true, small_iff, decide_eq_true_eq] at hk
        cases e2
        cases rp
        refine ⟨k, rfl, ⟨by omega, by omega, hk.1.1, hk.1.2, by have := hk.2; unfold SZ at this; omega⟩, fun p hp => q _ _ (x.trans (.new hp)) (ro.keep (keep_new hp)) (start_free ro x hp) (ow_newL hp ?_)⟩
        unfold rgV
        rw [show (k - 0).toNat = k.toNat by omega]
        exact reps_rng _ _
      · cases e2
    · cases e2
theorem f_lstR2 {p p2 pos2 : Pos} (hc : X.calm = true) (hg : Gl X "list") (hm : X.mg "list" = none) (hg2 : Gl X "range") (hm2 : X.mg "range" = none) (ha : PE X ea (tEvC aR X.K F a)) (hb : PE X eb (tEvC aR X.K F b)) (hs : starEach [ea, eb] X.env = (false, eval ea X.env) :: starEach [eb] X.env) (hs2 : starEach [eb] X.env = [(false, eval eb X.env)]) :
    PE X (.Call (.Name "list" p) [.Call (.Name "range" p2) [ea, eb] [] pos2] [] pos) (tEvF aR X.K F (.lstR2 a b)) :=
  PE.imp (pe_listRg hc hg hm (prg_2 hg2 hm2 ha hb hs hs2 (by rw [hs2]; rfl))) fun σ H Q ⟨Z, H0, env, r, ok, dd, r', e, q⟩ => by
    obtain ⟨u, r1, w, r2, e1, e2, e3⟩ := bind2 (f := fun _ _ => .no) e
    refine evC_to ok e1 fun v H1 x1 ro1 ok1 rp1 => evC_to ok1 e2 fun v2 H2 x2 ro2 ok2 rp2 => ?_
    split at e3
    · rename_i i j
      split at e3
      · rename_i hk
        simp only [Bool.and_eq_true, small_iff, decide_eq_true_eq] at hk
        cases e3
        cases rp1; cases rp2
        refine ⟨i, j, rfl, rfl, ⟨hk.1.1.1, hk.1.1.2, hk.1.2.1, hk.1.2.2, by have := hk.2; unfold SZ at this; omega⟩, fun p hp => q _ _ ((x1.trans x2).trans (.new hp)) (ro2.keep (keep_new hp)) (start_free ro2 (x1.trans x2) hp) (ow_newL hp (reps_rng _ _))⟩
      · cases e3
    · cases e3
theorem rngN_len (lo : Int) (n : Nat) : (rngN lo n).length = n := by simp [rngN]
theorem rngN_get {lo : Int} {n i : Nat} (h : i < n) : (rngN lo n)[i]? = some (.int (lo - (i : Nat))) := by simp [rngN, h]
theorem i_R3 {p : Pos} (hg : Gl X "range") (hm : X.mg "range" = none) (ha : PE X ea (tEvC aR X.K F a)) (hb : PE X eb (tEvC aR X.K F b)) (hc : PE X ec (tEvC aR X.K F c)) (hs : starEach [ea, eb, ec] X.env = (false, eval ea X.env) :: starEach [eb, ec] X.env) (hs2 : starEach [eb, ec] X.env = (false, eval eb X.env) :: starEach [ec] X.env) (hs3 : starEach [ec] X.env = [(false, eval ec X.env)]) :
    PI X tg (.Call (.Name "range" p) [ea, eb, ec] [] pos) (tEvI aR X.K F (.itR3 a b c)) :=
  PI.imp (pi_range3 hg hm (pa_cons ha (pa_cons hb (pa_1 hc hs3) hs2) hs) hs (by rw [hs2, hs3]; rfl)) fun σ H R ⟨Z, H0, env, r, ok, l, r', e, q⟩ => by
    obtain ⟨u1, r1, e1, f1⟩ := Res.bind_ok e
    obtain ⟨u2, r2, e2, f2⟩ := Res.bind_ok f1
    obtain ⟨u3, r3, e3, f3⟩ := Res.bind_ok f2
    refine evC_to ok e1 fun v1 H1 x1 ro1 ok1 rp1 => evC_to ok1 e2 fun v2 H2 x2 ro2 ok2 rp2 => evC_to ok2 e3 fun v3 H3 x3 ro3 ok3 rp3 => ?_
    split at f3
    · rename_i i j k
      split at f3
      · rename_i hk
        simp only [Bool.and_eq_true, small_iff, decide_eq_true_eq] at hk
        obtain ⟨⟨h1, h2⟩, h3⟩ := hk
        injection f3 with e4 e5
        injection e4 with e4
        subst e4 e5
        have g1 : v1 = V.int i := rp1
        have g2 : v2 = V.int j := rp2
        have g3 : v3 = V.int k := rp3
        rw [g1, g2, g3, h3]
        refine ⟨_, _, _, _, rfl, RgC.neg h1.1 h1.2 h2.1 h2.2, q _ H3 ((x1.trans x2).trans x3) ro3 ⟨fun _ => False, YFn fun n => .int (i + n * (-1)), fun _ z => z.elim, ?_, fun n H4 y H5 Z' hii hle zk hy => ?_⟩⟩
        · rw [rngN_len]
          exact walk_rangeC.mono (fun _ _ => trivial) (fun _ _ _ _ _ _ y => y)
        · obtain ⟨rfl, rfl⟩ := hy
          rw [rngN_len] at hii
          refine ⟨.inl rfl, _, rngN_get hii, ?_⟩
          show V.int (i + n * (-1)) = V.int (i - n)
          congr 1
          omega
      · cases f3
    · cases f3
end
end Wl
/-! Pops, removals. -/
namespace Wl
open PySem PySem.Spec PyProof.Rows L2

section
variable {aR : AR} {H : Hp} {Z : Addr → Prop}
theorem Reps.eraseIdx : ∀ {ds : List D} {vs : List V} (i : Nat), Reps aR H Z ds vs → Reps aR H Z (ds.eraseIdx i) (vs.eraseIdx i)
  | [], _, _, h => by cases h; simp; rfl
  | _ :: _, _, 0, h => by
    obtain ⟨v, r, rfl, h1, h2⟩ := h
    simpa using h2
  | _ :: _, _, i + 1, h => by
    obtain ⟨v, r, rfl, h1, h2⟩ := h
    simp only [List.eraseIdx_cons_succ]
    exact ⟨v, _, rfl, h1, Reps.eraseIdx i h2⟩
theorem Reps.dropLast {ds : List D} {vs : List V} (h : Reps aR H Z ds vs) : Reps aR H Z ds.dropLast vs.dropLast := by
  rw [List.dropLast_eq_take, List.dropLast_eq_take, h.length]
  exact h.take _
end
section
variable {X : Cx} {aR : AR} {F : Fns} {ea : Expr} {a k : IE} {pos : Pos}
/-- an own list loses one item -/
theorem ok_lose {K : PySem.W.Frag} {Z : Addr → Prop} {H0 H : Hp} {σ : L2.St} {env : Env} {r : Row} {j p : Nat} {l : List D} {us : List V} (ok : Ok aR K Z H0 σ H env r) (hj : env[j]? = some (.ow (.lst l))) (h1 : σ[j]? = some (some (.ref p))) (h2 : H p = some (.lst us)) (h3 : Reps aR H (Mk Z σ env []) l us) (l2 : List D) (us2 : List V)
    (h4 : Reps aR H (Mk Z σ env []) l2 us2) : Ok aR K Z H0 σ (upd H p (.lst us2)) (env.set j (.ow (.lst l2))) r :=
  ok.updO hj h1 ⟨_, upd_same, h4.mono (le_updZ (.inr ⟨j, _, hj, h1, by simp⟩))⟩
theorem s_apop {fz : List Nat} {i j : Nat} {x y : Str} {ek : Expr} {p0 p1 apos cpos apos2 cpos2 : Pos} (hi : X.N[i]? = some x) (hv : Vis X.env.scope x) (hd : (x == ("__debug__" : Str)) = false) (hcd : (x == ("__classdict__" : Str)) = false)
    (hj : X.N[j]? = some y) (hv2 : Vis X.env.scope y) (hd2 : (y == ("__debug__" : Str)) = false) (hcd2 : (y == ("__classdict__" : Str)) = false) (hk : PE X ek (tEvC aR X.K F k))
    (m : M1 X (.Name x p0) "append" apos (.Call (.Attribute (.Name y p1) "pop" apos2) [ek] [] cpos2) cpos) (m2 : M1 X (.Name y p1) "pop" apos2 ek cpos2) (hs : starEach [ek] X.env = [(false, eval ek X.env)]) :
    PS X (.Expr (.Call (.Attribute (.Name x p0) "append" apos) [.Call (.Attribute (.Name y p1) "pop" apos2) [ek] [] cpos2] [] cpos) pos) (tEvS aR X.K F (EX X) (.apop fz i j k)) :=
  PS.imp (ps_expr (pe_bm PySem.F.plainAttrs_list PySem.F.slot_list_append PySem.F.type_list_append mt_append (pe_var hi hv hd hcd)
    (pa_cons (pe_bm PySem.F.plainAttrs_list PySem.F.slot_list_pop PySem.F.type_list_pop mt_popAt (pe_var hj hv2 hd2 hcd2) (pa_cons hk pa_nil (by rw [hs]; rfl)) m2.base m2.few m2.line (by rw [hs]; rfl) rfl) pa_nil rfl) m.base m.few m.line rfl rfl) rfl) fun E σ H ⟨Z, H0, env, r, ok, f, r', e, q⟩ => by
    obtain ⟨d, r1, e1, e2⟩ := Res.bind_ok e
    split at e2
    · rename_i m0 l n hl hm
      split at e2
      · rename_i hc
        split at e2
        · rename_i dd hdd
          cases e2
          have hc : (((0 ≤ n ∧ n < l.length) ∧ i ≠ j) ∧ m0.length < SZ) ∧ l.length ≤ SZ := by simpa using hc
          obtain ⟨p, vs, h1, h2, h3, np⟩ := own_lst (ok.frz fz) hl
          obtain ⟨p', us, h1', h2', h3', np'⟩ := own_lst (ok.frz fz) hm
          have hp : p ≠ p' := fun z => hc.1.1.2 ((ok.frz fz).dis i j _ _ p hl hm h1 (by rw [z]; exact h1'))
          refine ⟨.ref p, h1, .inl ⟨rfl, vs, .of h2⟩, ⟨.ref p', h1', .inl ⟨rfl, us, .of h2'⟩, evC_to ok e1 fun v H' xx ro ok' rp => ?_⟩⟩
          obtain rfl : v = V.int n := rp
          have g3 := h3.mono (xx.le (.inl ok.zr))
          have g3' := h3'.mono (xx.le (.inl ok.zr))
          obtain ⟨u, eu, ru⟩ := g3'.get hdd
          have okf := ok'.frz fz
          have H2 : H' p' = some (.lst us) := xx _ _ np' h2' rfl
          have H1 : H' p = some (.lst vs) := xx _ _ np h2 rfl
          have ll := g3'.length
          have sz : SZ = 16777216 := rfl
          have l1 : Le H' (Mk Z σ (frz env fz) []) (upd H' p' (.lst (us.eraseIdx n.toNat))) (Mk Z σ ((frz env fz).set j (.ow (.lst (l.eraseIdx n.toNat)))) []) := le_updO hm h1'
          have ok1 := ok_lose okf hm h1' H2 g3' (l.eraseIdx n.toNat) (us.eraseIdx n.toNat) (g3'.eraseIdx _)
          have hi1 : ((frz env fz).set j (.ow (.lst (l.eraseIdx n.toNat))))[i]? = some (.ow (.lst m0)) := by
            rw [List.getElem?_set_ne (fun z => hc.1.1.2 z.symm)]; exact hl
          refine ⟨p', us, n, n.toNat, u, rfl, rfl, H2, by omega, by omega, ?_, eu, ?_⟩
          · show (if (decide (0 ≤ (if n < 0 then n + (us.length : Int) else n)) && decide ((if n < 0 then n + (us.length : Int) else n) < us.length)) = true then some (if n < 0 then n + (us.length : Int) else n).toNat else none) = _
            rw [if_neg (show ¬ n < 0 by omega), if_pos (by rw [ll]; simp [hc.1.1.1.1, hc.1.1.1.2])]
          · refine ⟨p, vs, u, rfl, rfl, by rw [upd_ne hp]; exact H1, by rw [g3.length, ← SZ_eq]; exact hc.1.2, ?_⟩
            have mp : Mk Z σ ((frz env fz).set j (.ow (.lst (l.eraseIdx n.toNat)))) [] p := .inr ⟨i, _, hi1, h1, by simp⟩
            have w : Ow aR (upd (upd H' p' (.lst (us.eraseIdx n.toNat))) p (.lst (vs ++ [u]))) (Mk Z σ ((frz env fz).set j (.ow (.lst (l.eraseIdx n.toNat)))) []) p (.lst (m0 ++ [dd])) := ⟨_, upd_same, ((g3.mono l1).append (.one (ru.mono l1))).mono (le_updZ mp)⟩
            exact q σ _ (ok1.updO hi1 h1 w) ((((ok.le xx).trans (Le.less fun z m => mk_frz0 fz m)).trans l1).trans (le_updO hi1 h1))
        · cases e2
      · cases e2
    · cases e2
theorem s_pop {i j : Nat} {x y : Str} {p1 pos' apos2 cpos2 : Pos} (hN : X.N.Nodup) (hi : X.N[i]? = some x) (hx : Loc X.env.scope x) (hf : X.fn x = true ∨ X.env.scope.names.lookup x = some .local)
    (hj : X.N[j]? = some y) (hv2 : Vis X.env.scope y) (hd2 : (y == ("__debug__" : Str)) = false) (hcd2 : (y == ("__classdict__" : Str)) = false) (hline : (apos2.endLine == cpos2.line) = true) :
    PS X (.Assign [.Name x pos'] (.Call (.Attribute (.Name y p1) "pop" apos2) [] [] cpos2) pos) (tEvS aR X.K F (EX X) (.pop i j)) :=
  PS.imp (ps_set hN hi hx (pe_bm0 PySem.F.plainAttrs_list PySem.F.slot_list_pop PySem.F.type_list_pop mt_pop (pe_var hj hv2 hd2 hcd2) rfl hline) rfl hf) fun E σ H ⟨Z, H0, env, r, ok, f, r', e, q⟩ => by
    have e : (match env[j]? with
    | some (.ow (.lst l)) => if decide (i ≠ j) then (match l[l.length - 1]? with
      | some d => .ok (.nx (st (st env j true (.lst l.dropLast)) i false d)) r
      | none => .no) else .no
    | _ => .no) = Res.ok f r' := e
    split at e
    · rename_i l hm
      split at e
      · rename_i hc
        split at e
        · rename_i dd hdd
          cases e
          have hc : i ≠ j := of_decide_eq_true hc
          obtain ⟨p', us, h1', h2', h3', np'⟩ := own_lst ok hm
          obtain ⟨u, eu, ru⟩ := h3'.get hdd
          have l1 : Le H (Mk Z σ env []) (upd H p' (.lst us.dropLast)) (Mk Z σ (env.set j (.ow (.lst l.dropLast))) []) := le_updO hm h1'
          have ok1 := ok_lose ok hm h1' h2' h3' l.dropLast us.dropLast h3'.dropLast
          refine ⟨.ref p', h1', .inl ⟨rfl, us, .of h2'⟩, p', us, u, rfl, rfl, h2', by rw [h3'.length]; exact eu, ?_⟩
          have ok3 := ok1.setF (i := i) (o := some u) (s := .fz dd) (by intro e q; cases q) (fun e q => ⟨u, rfl, by cases q; exact ru.mono l1⟩)
          exact q _ _ ok3 (l1.trans le_setF)
        · cases e
      · cases e
    · cases e
theorem s_popT {tg : List Nat} {j : Nat} {y : Str} {t : Expr} {p1 apos2 cpos2 : Pos} (hj : X.N[j]? = some y) (hv2 : Vis X.env.scope y) (hd2 : (y == ("__debug__" : Str)) = false) (hcd2 : (y == ("__classdict__" : Str)) = false) (hline : (apos2.endLine == cpos2.line) = true)
    (h : ∀ {te : TE}, PE X (.Call (.Attribute (.Name y p1) "pop" apos2) [] [] cpos2) te → PS X (.Assign [t] (.Call (.Attribute (.Name y p1) "pop" apos2) [] [] cpos2) pos) (tAsg te (gT X.K false tg))) :
    PS X (.Assign [t] (.Call (.Attribute (.Name y p1) "pop" apos2) [] [] cpos2) pos) (tEvS aR X.K F (EX X) (.popT tg j)) :=
  PS.imp (h (pe_bm0 PySem.F.plainAttrs_list PySem.F.slot_list_pop PySem.F.type_list_pop mt_pop (pe_var hj hv2 hd2 hcd2) rfl hline)) fun E σ H ⟨Z, H0, env, r, ok, f, r', e, q⟩ => by
    have e : (match env[j]? with
    | some (.ow (.lst l)) => (match l[l.length - 1]? with
      | some d => (match bindT tg false d (st env j true (.lst l.dropLast)) with
        | some e => .ok (.nx e) r
        | none => .no)
      | none => .no)
    | _ => .no) = Res.ok f r' := e
    split at e
    · rename_i l hm
      split at e
      · rename_i dd hdd
        split at e
        · rename_i env' eb
          cases e
          obtain ⟨p', us, h1', h2', h3', np'⟩ := own_lst ok hm
          obtain ⟨u, eu, ru⟩ := h3'.get hdd
          have l1 : Le H (Mk Z σ env []) (upd H p' (.lst us.dropLast)) (Mk Z σ (env.set j (.ow (.lst l.dropLast))) []) := le_updO hm h1'
          have ok1 := ok_lose ok hm h1' h2' h3' l.dropLast us.dropLast h3'.dropLast
          refine ⟨.ref p', h1', .inl ⟨rfl, us, .of h2'⟩, p', us, u, rfl, rfl, h2', by rw [h3'.length]; exact eu, ?_⟩
          exact gT_to' ok1 eb (ru.mono l1).i fun σ' ok3 l3 => q σ' _ ok3 (l1.trans l3)
        · cases e
      · cases e
    · cases e
theorem mem_first : ∀ {ns : List Int} {k : Int}, k ∈ ns → ∃ j, ns[j]? = some k ∧ (∀ m, m < j → ns[m]? ≠ some k) ∧ ns.eraseIdx j = ns.erase k
  | x :: ns, k, h => by
    by_cases c : x = k
    · subst c
      exact ⟨0, rfl, fun m hm => by omega, by simp⟩
    · rcases List.mem_cons.mp h with h | h
      · exact absurd h.symm c
      · obtain ⟨j, h1, h2, h3⟩ := mem_first h
        refine ⟨j + 1, by simpa using h1, fun m hm => ?_, ?_⟩
        · cases m with
          | zero => simpa using c
          | succ m => simpa using h2 m (by omega)
        · rw [List.eraseIdx_cons_succ, h3, List.erase_cons_tail (by simpa using c)]
theorem s_rem {i : Nat} {x : Str} {p0 apos cpos : Pos} (hi : X.N[i]? = some x) (hv : Vis X.env.scope x) (hd : (x == ("__debug__" : Str)) = false) (hcd : (x == ("__classdict__" : Str)) = false) (ha : PE X ea (tEvC aR X.K F a))
    (m : M1 X (.Name x p0) "remove" apos ea cpos) (hs : starEach [ea] X.env = [(false, eval ea X.env)]) :
    PS X (.Expr (.Call (.Attribute (.Name x p0) "remove" apos) [ea] [] cpos) pos) (tEvS aR X.K F (EX X) (.rem i a)) :=
  PS.imp (ps_expr (pe_bm PySem.F.plainAttrs_list PySem.F.slot_list_remove PySem.F.type_list_remove mt_remove (pe_var hi hv hd hcd) (pa_cons ha pa_nil (by rw [hs]; rfl)) m.base m.few m.line (by rw [hs]; rfl) rfl) rfl) fun E σ H ⟨Z, H0, env, r, ok, f, r', e, q⟩ => by
    obtain ⟨d, r1, e1, e2⟩ := Res.bind_ok e
    split at e2
    · rename_i l k hl
      split at e2
      · rename_i ns en
        split at e2
        · rename_i hk
          cases e2
          obtain ⟨p, vs, h1, h2, h3, np⟩ := own_lst ok hl
          refine ⟨.ref p, h1, .inl ⟨rfl, vs, .of h2⟩, evC_to ok e1 fun v H' xx ro ok' rp => ?_⟩
          obtain rfl : v = V.int k := rp
          have H1 := xx _ _ np h2 rfl
          have g3 := h3.mono (xx.le (.inl ok.zr))
          obtain ⟨rfl, rfl⟩ := ints_of en g3
          obtain ⟨j, f1, f2, f3⟩ := mem_first hk
          refine ⟨p, ns, k, j, rfl, rfl, H1, f1, f2, ?_⟩
          rw [f3]
          have ok1 := ok_lose ok' hl h1 H1 g3 ((ns.erase k).map .int) ((ns.erase k).map V.int) (reps_ints _)
          exact q σ _ ok1 ((ok.le xx).trans (le_updO hl h1))
        · cases e2
      · cases e2
    · cases e2
end
end Wl
/-! sorted of a tuple. -/
namespace Wl
open PySem PySem.Spec PyProof.Rows L2 SrtO

section
variable {P : Program} {w : World} {A : Around} {E : Value → Shared → Prop} {s : Shared}
/-- the heap behind the collecting -/
abbrev colH (h : Heap) (vs : List Value) : Heap := (h.push (seqObj "list" #[] 0)).update h.objs.size (Obj.mapSeq (· ++ vs.toArray))
theorem collect_tup {l : Addr} {vs : List Value} {Q : List Value → Shared → Prop} (hl : s.heap.IsTuple l vs.toArray) (hz : vs.length ≤ sizeLine) (q : Q vs { s with heap := colH s.heap vs }) : wpAny (model P w) A (collect (.ref l)) Q E s := by
  obtain ⟨o, lo, lc, n, ld⟩ := id hl
  unfold collect
  refine wpAny_bind (wpAny_runValue (codeAny_builtin entry_proto_collect' ?_))
  show wpAny _ _ (do
    again (.builtin "list.__iadd__" ⟨[← newList [], .ref l], []⟩)) _ _ s
  refine wpAny_bind (wpAny_newList (wpAny_pure ⟨Code.quiet_builtin _ (by decide +kernel), codeAny_builtin entry_list_iadd' ?_⟩))
  show wpAny _ _ (Builtin.List.listExtendWith (.ref s.heap.objs.size)
    (.ref l) (.ref s.heap.objs.size)) _ _ { s with heap := s.heap.push (seqObj "list" #[] 0) }
  unfold Builtin.List.listExtendWith
  have lo1 : (s.heap.push (seqObj "list" #[] 0)).get? l = some o := Heap.get?_push_of_some _ lo
  have new0 : (s.heap.push (seqObj "list" #[] 0)).get? s.heap.objs.size = some (seqObj "list" #[] 0) := Heap.get?_push_size _ rfl
  refine wpAny_bind (wpAny_typeOf (T := "tuple") ⟨o, lo1, lc⟩ ?_)
  have tt : (Value.type "tuple" == Value.type "tuple") = true := by rfl
  rw [if_pos (by rw [tt]; simp)]
  refine wpAny_bind (listItems_at lo1 ld ?_)
  refine wpAny_bind (listItems_at (xs := #[]) (n := 0) new0 rfl ?_)
  rw [if_neg (by simp)]
  refine wpAny_bind (listUpdate_at (xs := #[]) (n := 0) new0 rfl ?_ (Nat.zero_le _) (by
    show (#[] ++ vs.toArray).size ≤ sizeLine + 1
    simp only [Array.size_append, List.size_toArray, List.length_nil]
    omega))
  refine wpAny_pure ?_
  show wpAny (model P w) A (do
    let o ← load s.heap.objs.size
    match o.data with
    | .seq ys _ => pure ys.toList
    | _ => unsupported "internal:collect") Q E { s with heap := colH s.heap vs }
  refine wpAny_bind (wpAny_load (get?_update_seq new0 _) ?_)
  show wpAny _ _ (pure ((#[] : Array Value) ++ vs.toArray).toList) Q E _
  rw [show ((#[] : Array Value) ++ vs.toArray).toList = vs by simp]
  exact wpAny_pure q
/-- sorted(t) of a tuple -/
theorem sorted_tup {l : Addr} {vs : List Value} {ltv : Value → Value → Bool} {Q : Value → Shared → Prop} (O : Swo ltv) (hl : s.heap.IsTuple l vs.toArray) (hz : vs.length ≤ sizeLine)
    (hS : 2 ≤ vs.length → ∀ (g : Heap) (a : Addr), g.get? a = some (seqObj "list" vs.toArray 0) → (∀ b o, s.heap.get? b = some o → b ≠ a ∧ g.get? b = some o) → SortableO P w A.in1.in1 { s with heap := g } a vs ltv)
    (q : ∀ out : List Value, Srtd ltv out → Stb ltv out vs → Q (.ref (s.heap.objs.size + 1)) { s with heap := sortedAll s.heap vs out.toArray }) : wpAny (model P w) A (call (.builtin "sorted") [.ref l]) Q E s := by
  refine Calls.call_function_entry kind_sorted plain_sorted entry_sorted (args_sorted1 _) ?_
  unfold Builtin.«sorted»
  refine wpAny_bind (m := checkCount "sorted" 1 1 _) (wpAny_pure ?_)
  refine wpAny_bind (collect_tup hl hz ?_)
  refine wpAny_bind (wpAny_newList ?_ hz)
  have z1 : (colH s.heap vs).objs.size = s.heap.objs.size + 1 := by rw [Heap.size_update, size_push']
  have at1 : ((colH s.heap vs).push (seqObj "list" vs.toArray 0)).get? (s.heap.objs.size + 1) = some (seqObj "list" vs.toArray 0) := by rw [← z1]; exact Heap.get?_push_size _ rfl
  have old : ∀ b o, s.heap.get? b = some o → b ≠ s.heap.objs.size + 1 ∧ ((colH s.heap vs).push (seqObj "list" vs.toArray 0)).get? b = some o := fun b o e => by
    have lt : b < s.heap.objs.size := Heap.lt_size e
    refine ⟨Nat.ne_of_lt (Nat.lt_succ_of_lt lt), Heap.get?_push_of_some _ ?_⟩
    rw [Heap.get?_update_ne _ _ _ _ (Nat.ne_of_lt lt)]; exact Heap.get?_push_of_some _ e
  show wpAny _ _ _ _ _ { s with heap := (colH s.heap vs).push (seqObj "list" vs.toArray 0) }
  rw [z1]
  refine wpAny_bind (wpAny_holding (wpAny_call_entry slot_list_sort ⟨_, at1, rfl⟩ entry_list_sort (list_sort_ord O at1 hz (fun h2 => hS h2 _ _ at1 old) fun out a1 a2 => ⟨_, rfl, ?_⟩) (args_list_sort _)))
  exact wpAny_pure ⟨_, rfl, q out a1 a2⟩
end
/-- sorted(t), ints -/
def rSortedTI (K : PySem.W.Frag) : List V → Hp → VK → Prop := fun vs H Q => ∃ (a : Addr) (ns : List Int), vs = [V.ref a] ∧ SqT K H a (ns.map V.int) ∧
  ∀ (ms : List Int) (p : Addr), ms.Perm ns → ms.Pairwise (· ≤ ·) → H p = none → Q (.ref p) (upd H p (.lst (ms.map V.int)))
theorem cr_sortedTI {X : Cx} : CallR X (.builtin "sorted") (rSortedTI X.K) := by
  intro pins s σ H vs us Q I r h
  obtain ⟨a, ns, rfl, hs, q⟩ := h
  obtain ⟨its, rv, pl, hz⟩ := I.tuple hs
  rw [Vals.ref1 r]
  have hi := rv.ints
  have hz' := hz
  rw [List.length_map] at hz'
  refine sorted_tup swo_int pl (by rw [← rv.length]; exact hz) (fun h2 g b _ _ => ints_sortable hi h2) fun out h1 h2 => ?_
  obtain ⟨k1, k2, k3⟩ := ints_out hi h1 h2
  obtain ⟨ep, at2⟩ := PyProof.Rows.sortedAll_at s.heap its out.toArray
  have len : ((out.map iv).map V.int).length ≤ sizeLine := by rw [List.length_map, k2.length_eq]; exact hz'
  refine ⟨.ref _, upd H (s.heap.objs.size + 1) (.lst ((out.map iv).map V.int)), ?_, rfl, q _ _ k2 k3 (I.hok.fresh (Nat.le_succ _))⟩
  exact I.laid (t' := s.toks) (fun _ _ => PyProof.Rows.sortedAll_old) (Nat.le_succ _) ⟨len, out, ep, vals_of_ints k1, at2⟩
section
variable {X : Cx} {aR : AR} {F : Fns} {ea : Expr} {a : IE} {pos : Pos}
theorem red_sortedT {K : PySem.W.Frag} : Red aR .sortedT (rSortedTI K) := by
  intro H Z x d v Q zk' e rp _ q
  have zk : ∀ a, Z a → ∃ o, H a = some o := fun a z => let ⟨o, h, _⟩ := zk' a z; ⟨o, h⟩
  cases x <;> simp [bfD] at e
  obtain ⟨ns, e1, rfl⟩ := e
  obtain ⟨p, vs, rfl, h1, n1, rp⟩ := rp
  obtain ⟨rfl, rfl⟩ := ints_of e1 rp
  refine ⟨p, ns, rfl, h1.of, fun ns' p' hp hw hn => q p' _ hn ?_⟩
  have : ns' = sortI ns := sort_unique (hp.trans (sort_perm ns).symm) hw (sort_pw ns)
  subst this
  exact rep_newL zk hn (reps_ints _)
theorem f_sortedT {p : Pos} (hg : Gl X "sorted") (hm : X.mg "sorted" = none) (ha : PE X ea (tEvC aR X.K F a)) (hs : starEach [ea] X.env = (false, eval ea X.env) :: starEach [] X.env) : PE X (.Call (.Name "sorted" p) [ea] [] pos) (tEvF aR X.K F (.blt .sortedT a)) :=
  PE.imp (pe_callB cr_sortedTI hg hm PyProof.Rows.boot_sorted (pa_1 ha hs) (by decide) (by decide) hs rfl) fun σ H Q ⟨Z, H0, env, r, ok, dd, r', e, q⟩ => by
    obtain ⟨u, r1, e1, e2⟩ := Res.bind_ok e
    obtain ⟨e3, rfl⟩ := Res.of_ok e2
    refine evC_to ok e1 fun v H' x ro ok' rp => ?_
    cases u <;> simp [bfD] at e3
    obtain ⟨ns, e4, rfl⟩ := e3
    obtain ⟨p, vs, rfl, h1, n1, rps⟩ := rp
    obtain ⟨rfl, rfl⟩ := ints_of e4 rps
    refine ⟨p, ns, rfl, h1.of, fun ns' p' hp hw hn => ?_⟩
    have : ns' = sortI ns := sort_unique (hp.trans (sort_perm ns).symm) hw (sort_pw ns)
    subst this
    exact q _ _ (x.trans (.new hn)) (ro.keep (keep_new hn)) (start_free ro x hn) (ow_newL hn (reps_ints _))
end
end Wl
/-! sorted of a list of tuples of ints. -/
namespace Wl
open PySem PySem.Spec PyProof.Rows L2 SrtO TS

theorem lexI_asym : ∀ a b, lexI a b = true → lexI b a = false
  | [], [], h => by cases h
  | [], _ :: _, _ => rfl
  | _ :: _, [], h => by cases h
  | x :: xs, y :: ys, h => by
    unfold lexI at h ⊢
    by_cases c : x = y
    · rw [if_pos c] at h; rw [if_pos c.symm]; exact lexI_asym xs ys h
    · rw [if_neg c, decide_eq_true_eq] at h; rw [if_neg (fun z => c z.symm), decide_eq_false_iff_not]; omega
theorem lexI_tr : ∀ a b c, lexI a b = false → lexI b c = false → lexI a c = false
  | _, [], [], h, _ => h
  | [], [], _ :: _, _, h => h
  | _ :: _, [], _ :: _, _, h => by cases h
  | [], _ :: _, _, h, _ => by cases h
  | _ :: _, _ :: _, [], _, _ => rfl
  | x :: xs, y :: ys, z :: zs, h1, h2 => by
    unfold lexI at h1 h2 ⊢
    by_cases c1 : x = y
    · rw [if_pos c1] at h1
      by_cases c2 : y = z
      · rw [if_pos c2] at h2; rw [if_pos (c1.trans c2)]; exact lexI_tr xs ys zs h1 h2
      · rw [if_neg c2, decide_eq_false_iff_not] at h2; rw [if_neg (by omega), decide_eq_false_iff_not]; omega
    · rw [if_neg c1, decide_eq_false_iff_not] at h1
      by_cases c2 : y = z
      · rw [if_neg (by omega), decide_eq_false_iff_not]; omega
      · rw [if_neg c2, decide_eq_false_iff_not] at h2; rw [if_neg (by omega), decide_eq_false_iff_not]; omega
theorem lexI_tot : ∀ a b, lexI a b = false → lexI b a = false → a = b
  | [], [], _, _ => rfl
  | [], _ :: _, h, _ => by cases h
  | _ :: _, [], _, h => by cases h
  | x :: xs, y :: ys, h1, h2 => by
    unfold lexI at h1 h2
    by_cases c : x = y
    · rw [if_pos c] at h1; rw [if_pos c.symm] at h2
      rw [c, lexI_tot xs ys h1 h2]
    · rw [if_neg c, decide_eq_false_iff_not] at h1; rw [if_neg (fun z => c z.symm), decide_eq_false_iff_not] at h2; omega
theorem swo_lexI {α : Type} (k : α → List Int) : Swo fun v u => lexI (k v) (k u) := ⟨fun x y h => lexI_asym _ _ h, fun x y z h1 h2 => lexI_tr _ _ _ h2 h1⟩
theorem insL_perm (x : List Int) : ∀ l, (insL x l).Perm (x :: l)
  | [] => .refl _
  | y :: r => by
    unfold insL
    split
    · exact ((insL_perm x r).cons y).trans (.swap x y r)
    · exact .refl _
theorem sortL_perm : ∀ l, (sortL l).Perm l
  | [] => .refl _
  | x :: r => (insL_perm x _).trans ((sortL_perm r).cons x)
theorem insL_pw (x : List Int) : ∀ l, l.Pairwise (fun a b => lexI b a = false) → (insL x l).Pairwise fun a b => lexI b a = false
  | [], _ => List.pairwise_singleton _ _
  | y :: r, h => by
    rw [List.pairwise_cons] at h
    unfold insL
    split
    · rename_i c
      refine List.pairwise_cons.mpr ⟨fun z hz => ?_, insL_pw x r h.2⟩
      rcases List.mem_cons.mp ((insL_perm x r).mem_iff.mp hz) with rfl | hz
      · exact lexI_asym _ _ c
      · exact h.1 z hz
    · rename_i c
      have c : lexI y x = false := by simpa using c
      refine List.pairwise_cons.mpr ⟨fun z hz => ?_, List.pairwise_cons.mpr h⟩
      rcases List.mem_cons.mp hz with rfl | hz
      · exact c
      · exact lexI_tr _ _ _ (h.1 z hz) c
theorem sortL_pw : ∀ l, (sortL l).Pairwise fun a b => lexI b a = false
  | [] => .nil
  | x :: r => insL_pw x _ (sortL_pw r)
theorem sortL_uniq : ∀ {l m : List (List Int)}, l.Perm m → l.Pairwise (fun a b => lexI b a = false) → m.Pairwise (fun a b => lexI b a = false) → l = m
  | [], m, p, _, _ => (List.nil_perm.mp p).symm
  | x :: l, [], p, _, _ => absurd p.length_eq (by simp)
  | x :: l, y :: m, p, h1, h2 => by
    rw [List.pairwise_cons] at h1 h2
    have e : x = y := by
      rcases List.mem_cons.mp (p.mem_iff.mp List.mem_cons_self) with e | e
      · exact e
      · rcases List.mem_cons.mp (p.mem_iff.mpr (List.mem_cons_self (a := y))) with e2 | e2
        · exact e2.symm
        · exact lexI_tot _ _ (h2.1 x e) (h1.1 y e2)
    subst e
    rw [sortL_uniq (List.Perm.cons_inv p) h1.2 h2.2]

section
variable {P : Program} {w : World} {A : Around} {E : Value → Shared → Prop} {s : Shared}
theorem katlex_ints {Q : Bool → Shared → Prop} : ∀ (ps qs : List Value) (xs ys : List Int) (i : Nat), IntsAre ps xs → IntsAre qs ys → Q (lexI xs ys) s → PySem.W.KatLex P w A true (decide (ps.length < qs.length)) Q (ps.zip qs) i s
  | _, _, _, _, i, .nil, .nil, q => PySem.W.kat_nil q
  | _, _, _, _, i, .nil, .cons _ _ h2, q => PySem.W.kat_nil (by simpa [lexI] using q)
  | _, _, _, _, i, .cons _ _ h1, .nil, q => PySem.W.kat_nil (by simpa [lexI] using q)
  | _, _, _, _, i, .cons (vs := ps) (ns := xs) x t h1, .cons (vs := qs) (ns := ys) y u h2, q => by
    refine PySem.W.kat_cons (SeqAt.EqAt.int_int x t y u P w _ _ ?_)
    refine PySem.W.kat_go (fun e1 => ?_) (fun e1 => ?_)
    · have ex : x = y := by simpa using e1
      have : decide ((Value.int x t :: ps).length < (Value.int y u :: qs).length) = decide (ps.length < qs.length) := by simp
      rw [this]
      refine PySem.W.kat_yes (katlex_ints ps qs xs ys (i + 1) h1 h2 ?_)
      unfold lexI at q
      rw [if_pos ex] at q
      exact q
    · have ex : ¬ x = y := by simpa using e1
      refine PySem.W.kat_no (oneLt_ints _ ?_)
      unfold lexI at q
      rw [if_neg ex] at q
      exact q
theorem tups_cmpL {vs : List Value} {k : Value → List Int} (hp : ∀ v ∈ vs, TupInts s.heap v (k v)) : SrtO.Cmp P w A s (tuples' true) (fun p => p.1 ∈ vs) (lt2 fun v u => lexI (k v) (k u)) := by
  intro p q hm hm'
  obtain ⟨a, xs, e, ⟨o, lo, lc, n, ld⟩, i1⟩ := hp _ hm
  obtain ⟨a', xs', e', ⟨o', lo', lc', n', ld'⟩, i2⟩ := hp _ hm'
  show wpAny (model P w) A (keyLt' (tuples' true) p.1 q.1) (fun r s' => s' = s ∧ r = lexI (k p.1) (k q.1)) (fun _ _ => False) s
  generalize k p.1 = x at i1 ⊢
  generalize k q.1 = y at i2 ⊢
  rw [e, e']
  refine PySem.W.kat_lt lo ld lo' ld' ?_
  have := katlex_ints (P := P) (w := w) (A := A) (s := s) (Q := fun r s' => s' = s ∧ r = lexI x y) xs.toList xs'.toList x y 0 i1 i2 ⟨rfl, rfl⟩
  simpa using this
theorem firsts_ints {h : Heap} {k : Value → List Int} : ∀ vs : List Value, (∀ v ∈ vs, TupInts h v (k v)) → (∀ v ∈ vs, k v ≠ []) → ∃ fs : List Value, PySem.W.KatTups h vs fs ∧ fs.length = vs.length ∧ ∀ f ∈ fs, ∃ x t, f = Value.int x t
  | [], _, _ => ⟨[], PySem.W.KatTups.nil, rfl, fun f hf => by cases hf⟩
  | v :: vs, h1, h2 => by
    obtain ⟨fs, g1, g2, g3⟩ := firsts_ints vs (fun u hu => h1 u (List.mem_cons_of_mem _ hu)) (fun u hu => h2 u (List.mem_cons_of_mem _ hu))
    obtain ⟨a, xs, e, ⟨o, lo, lc, n, ld⟩, i1⟩ := h1 v List.mem_cons_self
    have hne := h2 v List.mem_cons_self
    have key : ∃ x t r, xs.toList = Value.int x t :: r := by
      generalize k v = z at i1 hne
      generalize hL : xs.toList = L at i1
      cases i1 with
      | nil => exact absurd rfl hne
      | cons x t r => exact ⟨x, t, _, rfl⟩
    obtain ⟨x, t, r, ex⟩ := key
    subst e
    refine ⟨.int x t :: fs, PySem.W.KatTups.cons lo lc ld (by rw [← Array.getElem?_toList, ex]; rfl) g1, by simp [g2], fun f hf => ?_⟩
    rcases List.mem_cons.mp hf with rfl | hf
    · exact ⟨x, t, rfl⟩
    · exact g3 f hf
theorem tups_sortableL {a : Addr} {vs : List Value} {k : Value → List Int} (h0 : 0 < vs.length) (hp : ∀ v ∈ vs, TupInts s.heap v (k v)) (hne : ∀ v ∈ vs, k v ≠ []) (ha : ∀ o, s.heap.get? a = some o → o.cls ≠ .type "tuple") : SortableO P w A s a vs fun v u => lexI (k v) (k u) := by
  intro h' keep
  have hp' : ∀ v ∈ vs, TupInts h' v (k v) := fun v hm => (hp v hm).keeps fun b o e c => keep b o (fun z => by subst z; exact ha o e c) e
  obtain ⟨fs, f1, f2, f3⟩ := firsts_ints vs hp' hne
  refine ⟨tuples' true, fun Q E hq => ?_, tups_cmpL hp'⟩
  refine PySem.W.kat_kind (T := .type "int") f1 (by omega) (fun f hm => ?_) (by rfl) ?_
  · obtain ⟨x, t, rfl⟩ := f3 f hm
    exact PySem.W.Looks.now
  · have e : (Value.type "int" != Value.type "tuple") = true := by first | decide +kernel | rfl | decide
    rw [e]
    exact hq
end
/-- sorted(xs), tuples of ints -/
abbrev ltL (k : V → List Int) (x y : V) : Bool := lexI (k x) (k y)
def rSortedLx (K : PySem.W.Frag) : List V → Hp → VK → Prop := fun vs H Q => ∃ (a : Addr) (xs : List V) (k : V → List Int), vs = [V.ref a] ∧ SqL K H a xs ∧ (∀ x ∈ xs, ∃ t, x = V.ref t ∧ Rd H t (.tup ((k x).map V.int))) ∧ (xs.length < 2 ∨ ∀ x ∈ xs, k x ≠ []) ∧
  ∀ ys p, Srtd (ltL k) ys → Stb (ltL k) ys xs → H p = none → Q (.ref p) (upd H p (.lst ys))
theorem cr_sortedLx {X : Cx} : CallR X (.builtin "sorted") (rSortedLx X.K) := by
  intro pins s σ H vs us Q I r h
  obtain ⟨a, xs, k, rfl, hs, hx, hne, q⟩ := h
  obtain ⟨its, rv, hl, hz⟩ := I.list hs
  rw [Vals.ref1 r]
  obtain ⟨e1, e2⟩ := refs_back rv fun x m => by
    obtain ⟨t, e, _⟩ := hx x m
    exact ⟨t, e⟩
  have tups : ∀ v ∈ its, TupInts s.heap v (k (backV v)) := fun v hv => by
    obtain ⟨t, rfl⟩ := e2 v hv
    have hm : V.ref t ∈ xs := by rw [e1]; exact List.mem_map.mpr ⟨_, hv, rfl⟩
    obtain ⟨t', e, ht⟩ := hx _ hm
    cases e
    obtain ⟨_, its2, r2, o, ho, hc, n, hd⟩ := (show ObjOk X.prog X.w H s.heap t (.tup _) from ht.ok I.hok)
    exact ⟨t, _, rfl, ⟨o, ho, hc, n, hd⟩, show IntsAre _ (k (V.ref t)) by simpa using ints_of_vals r2⟩
  refine SrtO.sorted_ord (swo_lexI fun u => k (backV u)) hl.isList (by rw [← rv.length]; exact hz) (fun h2 g b hb kp => ?_) fun out h1 h2 => ?_
  · refine tups_sortableL (s := { s with heap := g }) (by omega) (fun v hv => (tups v hv).keeps fun b o e _ => (kp b o e).2) (fun v hv => ?_) fun o e => ?_
    · rcases hne with hne | hne
      · rw [e1, List.length_map] at hne; omega
      · exact hne _ (by rw [e1]; exact List.mem_map.mpr ⟨_, hv, rfl⟩)
    · have e : g.get? b = some o := e
      rw [hb] at e
      cases e
      show (Value.type "list") ≠ Value.type "tuple"
      intro z
      injection z with z
      exact absurd z (by decide)
  · have h3 : ∀ u ∈ out, ∃ a, u = Value.ref a := fun u hu => e2 u (h2.perm.mem_iff.mp hu)
    have hb : Stb (ltL k) (out.map backV) xs := by
      rw [e1]
      exact SrtO.Stb.map (swo_lexI k) backV h2
    obtain ⟨ep, at2⟩ := PyProof.Rows.sortedAll_at s.heap its out.toArray
    refine ⟨.ref _, upd H (s.heap.objs.size + 1) (.lst (out.map backV)), I.laid (t' := s.toks) (fun _ _ => PyProof.Rows.sortedAll_old) (Nat.le_succ _) ⟨?_, out, ep, vals_back h3, at2⟩, rfl, q _ _ (SrtO.srtd_map h1) hb (I.hok.fresh (Nat.le_succ _))⟩
    rw [hb.len]
    exact hz
/-- sorted(t), tuples of ints in a tuple -/
def rSortedTLx (K : PySem.W.Frag) : List V → Hp → VK → Prop := fun vs H Q => ∃ (a : Addr) (xs : List V) (k : V → List Int), vs = [V.ref a] ∧ SqT K H a xs ∧ (∀ x ∈ xs, ∃ t, x = V.ref t ∧ Rd H t (.tup ((k x).map V.int))) ∧ (xs.length < 2 ∨ ∀ x ∈ xs, k x ≠ []) ∧
  ∀ ys p, Srtd (ltL k) ys → Stb (ltL k) ys xs → H p = none → Q (.ref p) (upd H p (.lst ys))
theorem cr_sortedTLx {X : Cx} : CallR X (.builtin "sorted") (rSortedTLx X.K) := by
  intro pins s σ H vs us Q I r h
  obtain ⟨a, xs, k, rfl, hs, hx, hne, q⟩ := h
  obtain ⟨its, rv, hl, hz⟩ := I.tuple hs
  rw [Vals.ref1 r]
  obtain ⟨e1, e2⟩ := refs_back rv fun x m => by
    obtain ⟨t, e, _⟩ := hx x m
    exact ⟨t, e⟩
  have tups : ∀ v ∈ its, TupInts s.heap v (k (backV v)) := fun v hv => by
    obtain ⟨t, rfl⟩ := e2 v hv
    have hm : V.ref t ∈ xs := by rw [e1]; exact List.mem_map.mpr ⟨_, hv, rfl⟩
    obtain ⟨t', e, ht⟩ := hx _ hm
    cases e
    obtain ⟨_, its2, r2, o, ho, hc, n, hd⟩ := (show ObjOk X.prog X.w H s.heap t (.tup _) from ht.ok I.hok)
    exact ⟨t, _, rfl, ⟨o, ho, hc, n, hd⟩, show IntsAre _ (k (V.ref t)) by simpa using ints_of_vals r2⟩
  refine sorted_tup (swo_lexI fun u => k (backV u)) hl (by rw [← rv.length]; exact hz) (fun h2 g b hb kp => ?_) fun out h1 h2 => ?_
  · refine tups_sortableL (s := { s with heap := g }) (by omega) (fun v hv => (tups v hv).keeps fun b o e _ => (kp b o e).2) (fun v hv => ?_) fun o e => ?_
    · rcases hne with hne | hne
      · rw [e1, List.length_map] at hne; omega
      · exact hne _ (by rw [e1]; exact List.mem_map.mpr ⟨_, hv, rfl⟩)
    · have e : g.get? b = some o := e
      rw [hb] at e
      cases e
      show (Value.type "list") ≠ Value.type "tuple"
      intro z
      injection z with z
      exact absurd z (by decide)
  · have h3 : ∀ u ∈ out, ∃ a, u = Value.ref a := fun u hu => e2 u (h2.perm.mem_iff.mp hu)
    have hb : Stb (ltL k) (out.map backV) xs := by
      rw [e1]
      exact SrtO.Stb.map (swo_lexI k) backV h2
    obtain ⟨ep, at2⟩ := PyProof.Rows.sortedAll_at s.heap its out.toArray
    refine ⟨.ref _, upd H (s.heap.objs.size + 1) (.lst (out.map backV)), I.laid (t' := s.toks) (fun _ _ => PyProof.Rows.sortedAll_old) (Nat.le_succ _) ⟨?_, out, ep, vals_back h3, at2⟩, rfl, q _ _ (SrtO.srtd_map h1) hb (I.hok.fresh (Nat.le_succ _))⟩
    rw [hb.len]
    exact hz
def iOf : V → Int
  | .int i => i
  | _ => 0
/-- the ints of a tuple -/
def kOf (H : Hp) (v : V) : List Int := match v with
  | .ref t => match H t with
    | some (.frz _ (.tup us)) => us.map iOf
    | _ => []
  | _ => []
theorem ints_back : ∀ ns : List Int, (ns.map V.int).map iOf = ns
  | [] => rfl
  | n :: ns => by rw [List.map_cons, List.map_cons, ints_back ns]; rfl
section
variable {X : Cx} {aR : AR} {F : Fns} {ea : Expr} {a : IE} {pos : Pos} {H : Hp} {Z : Addr → Prop}
theorem tups_of : ∀ {l : List D} {vs : List V} {nss : List (List Int)}, tupsD l = some nss → Reps aR H Z l vs → vs.map (kOf H) = nss ∧ ∀ v ∈ vs, Rep aR H Z (tupI (kOf H v)) v ∧ ∃ t, v = V.ref t ∧ Rd H t (.tup ((kOf H v).map V.int))
  | [], vs, nss, h, r => by cases h; cases r; exact ⟨rfl, fun v hv => by cases hv⟩
  | d :: l, vs, nss, h, r => by
    cases d <;> first | (cases h; done) | skip
    rename_i m
    have h : ((intsD m).bind fun ns => (tupsD l).map (ns :: ·)) = some nss := h
    obtain ⟨ns, e1, h⟩ := Option.bind_eq_some_iff.mp h
    obtain ⟨r', e2, rfl⟩ := Option.map_eq_some_iff.mp h
    obtain ⟨v, us, rfl, rp, rps⟩ := r
    obtain ⟨g1, g2⟩ := tups_of e2 rps
    obtain ⟨t, ws, rfl, ht, nz, rm⟩ := rp
    obtain ⟨rfl, rfl⟩ := ints_of e1 rm
    have kv : kOf H (V.ref t) = ns := by
      have : kOf H (V.ref t) = (match H t with
        | some (.frz _ (.tup us)) => us.map iOf
        | _ => []) := rfl
      obtain ⟨ot, hot⟩ := ht.get
      rw [this, hot]
      exact ints_back ns
    refine ⟨by rw [List.map_cons, kv, g1], fun u hu => ?_⟩
    rcases List.mem_cons.mp hu with rfl | hu
    · rw [kv]
      exact ⟨⟨t, _, rfl, ht, nz, rm⟩, t, rfl, ht.rd⟩
    · exact g2 u hu
theorem reps_pt {f : V → D} : ∀ {ys : List V}, (∀ y ∈ ys, Rep aR H Z (f y) y) → Reps aR H Z (ys.map f) ys
  | [], _ => rfl
  | y :: ys, h => ⟨y, ys, rfl, h y List.mem_cons_self, reps_pt fun z hz => h z (List.mem_cons_of_mem _ hz)⟩
/-- what sorted hands back -/
theorem lx_out {l : List D} {vs ys : List V} {nss : List (List Int)} (e : tupsD l = some nss) (rp : Reps aR H Z l vs) (h1 : Srtd (ltL (kOf H)) ys) (h2 : Stb (ltL (kOf H)) ys vs) : Reps aR H Z ((sortL nss).map tupI) ys := by
  obtain ⟨g1, g2⟩ := tups_of e rp
  have : ys.map (kOf H) = sortL nss := by
    refine sortL_uniq ?_ (List.pairwise_map.mpr h1) (sortL_pw nss)
    rw [← g1]
    exact (h2.perm.map _).trans (sortL_perm _).symm
  rw [← this, List.map_map]
  exact reps_pt fun y hy => (g2 y (h2.perm.mem_iff.mp hy)).1
theorem red_sortedL {K : PySem.W.Frag} : Red aR .sortedL (rSortedLx K) := by
  intro H Z x d v Q zk' e rp _ q
  have zk : ∀ a, Z a → ∃ o, H a = some o := fun a z => let ⟨o, h, _⟩ := zk' a z; ⟨o, h⟩
  cases x <;> first | (cases e; done) | skip
  rename_i l
  have e : ((tupsD l).bind fun nss => if (nss.length < 2 || nss.all (fun n => !n.isEmpty)) = true then some (.lst ((sortL nss).map tupI)) else none) = some d := e
  obtain ⟨nss, e1, e2⟩ := Option.bind_eq_some_iff.mp e
  split at e2
  · rename_i hc
    cases e2
    obtain ⟨p, vs, rfl, h1, n1, rp⟩ := rp
    obtain ⟨g1, g2⟩ := tups_of e1 rp
    refine ⟨p, vs, kOf H, rfl, .of h1, fun x hx => (g2 x hx).2, ?_, fun ys p' k1 k2 hn => q p' _ hn ?_⟩
    · rw [Bool.or_eq_true, decide_eq_true_eq] at hc
      refine hc.imp (fun h => by rw [← g1, List.length_map] at h; exact h) fun h x hx z => ?_
      have := List.all_eq_true.mp h (kOf H x) (by rw [← g1]; exact List.mem_map.mpr ⟨x, hx, rfl⟩)
      rw [z] at this
      cases this
    · exact rep_newL zk hn (lx_out e1 rp k1 k2)
  · cases e2
theorem red_sortedTL {K : PySem.W.Frag} : Red aR .sortedTL (rSortedTLx K) := by
  intro H Z x d v Q zk' e rp _ q
  have zk : ∀ a, Z a → ∃ o, H a = some o := fun a z => let ⟨o, h, _⟩ := zk' a z; ⟨o, h⟩
  cases x <;> first | (cases e; done) | skip
  rename_i l
  have e : ((tupsD l).bind fun nss => if (nss.length < 2 || nss.all (fun n => !n.isEmpty)) = true then some (.lst ((sortL nss).map tupI)) else none) = some d := e
  obtain ⟨nss, e1, e2⟩ := Option.bind_eq_some_iff.mp e
  split at e2
  · rename_i hc
    cases e2
    obtain ⟨p, vs, rfl, h1, n1, rp⟩ := rp
    obtain ⟨g1, g2⟩ := tups_of e1 rp
    refine ⟨p, vs, kOf H, rfl, h1.of, fun x hx => (g2 x hx).2, ?_, fun ys p' k1 k2 hn => q p' _ hn ?_⟩
    · rw [Bool.or_eq_true, decide_eq_true_eq] at hc
      refine hc.imp (fun h => by rw [← g1, List.length_map] at h; exact h) fun h x hx z => ?_
      have := List.all_eq_true.mp h (kOf H x) (by rw [← g1]; exact List.mem_map.mpr ⟨x, hx, rfl⟩)
      rw [z] at this
      cases this
    · exact rep_newL zk hn (lx_out e1 rp k1 k2)
  · cases e2
theorem f_sortedL {p : Pos} (hg : Gl X "sorted") (hm : X.mg "sorted" = none) (ha : PE X ea (tEvC aR X.K F a)) (hs : starEach [ea] X.env = (false, eval ea X.env) :: starEach [] X.env) : PE X (.Call (.Name "sorted" p) [ea] [] pos) (tEvF aR X.K F (.blt .sortedL a)) :=
  PE.imp (pe_callB cr_sortedLx hg hm PyProof.Rows.boot_sorted (pa_1 ha hs) (by decide) (by decide) hs rfl) fun σ H Q ⟨Z, H0, env, r, ok, dd, r', e, q⟩ => by
    obtain ⟨u, r1, e1, e2⟩ := Res.bind_ok e
    obtain ⟨e3, rfl⟩ := Res.of_ok e2
    refine evC_to ok e1 fun v H' x ro ok' rp => ?_
    cases u <;> first | (cases e3; done) | skip
    rename_i l
    have e3 : ((tupsD l).bind fun nss => if (nss.length < 2 || nss.all (fun n => !n.isEmpty)) = true then some (.lst ((sortL nss).map tupI)) else none) = some dd := e3
    obtain ⟨nss, e4, e5⟩ := Option.bind_eq_some_iff.mp e3
    split at e5
    · rename_i hc
      cases e5
      obtain ⟨p, vs, rfl, h1, n1, rps⟩ := rp
      obtain ⟨g1, g2⟩ := tups_of e4 rps
      have ea : al (.blt .sortedL a) = alC a := by cases a <;> rfl
      refine ⟨p, vs, kOf H', rfl, .of h1, fun x hx => (g2 x hx).2, ?_, fun ys p' k1 k2 hn => ?_⟩
      · rw [Bool.or_eq_true, decide_eq_true_eq] at hc
        refine hc.imp (fun h => by rw [← g1, List.length_map] at h; exact h) fun h x hx z => ?_
        have := List.all_eq_true.mp h (kOf H' x) (by rw [← g1]; exact List.mem_map.mpr ⟨x, hx, rfl⟩)
        rw [z] at this
        cases this
      · refine q _ _ (x.trans (.new hn)) (ro.keep (keep_new hn)) (start_free ro x hn) (ow_newL hn ?_)
        rw [ea]
        exact lx_out e4 rps k1 k2
    · cases e5
end
end Wl
/-! sorted of a dict whose keys are tuples of ints. -/
namespace Wl
open PySem PySem.Spec PyProof.Rows L2 SrtO TS

/-- sorted(d), keys tuples of ints -/
def rSortedDT (K : PySem.W.Frag) : List V → Hp → VK → Prop := fun vs H Q => ∃ (d : Addr) (o : Obj) (ks : List (NestedKey × Addr × Value)), vs = [V.ref d] ∧ Rd H d (exO d o) ∧ DicO d o ks ∧
  (∀ v ∈ kRefs ks, ∃ t, v = V.ref t ∧ Rd H t (.tup ((kOf H v).map V.int))) ∧ (ks.length < 2 ∨ ∀ v ∈ kRefs ks, kOf H v ≠ []) ∧
  ∀ ys p, Srtd (ltL (kOf H)) ys → Stb (ltL (kOf H)) ys (kRefs ks) → H p = none → Q (.ref p) (upd H p (.lst ys))
theorem cr_sortedDT {X : Cx} (hc : X.calm = true) : CallR X (.builtin "sorted") (rSortedDT X.K) := by
  intro pins s σ H xs us Q I r h
  obtain ⟨d, o, ks, rfl, hd, dd, key, hne, q⟩ := h
  obtain ⟨u, rfl, rx⟩ := vals1 r
  cases rx
  have ho := exO_at I.hok hd
  obtain ⟨es, ep, hdt, he⟩ := dd.dat
  have l1 : es.size = ks.length := by rw [← Array.length_toList, he, List.length_map]
  have h16 : es.size ≤ sizeLine := by rw [l1]; exact dd.len
  refine Calls.call_function_entry PyProof.Rows.kind_sorted PyProof.Rows.plain_sorted PyProof.Rows.entry_sorted (PyProof.Rows.args_sorted1 _) ?_
  unfold Builtin.«sorted»
  refine wpAny_bind (m := checkCount "sorted" 1 1 _) (wpAny_pure ?_)
  refine wpAny_bind (PySem.W.kdu_collect (A := X.A.in1) (kdl_raw dd.sm dd.ex hdt) (I.ok.hd hc) ho h16 fun h' tk acc hk it => ?_)
  have eb := acc_keys he it
  rw [kRefs_eq] at key hne q
  generalize hB : (ks.map fun x => x.2.1) = bs at eb key hne q
  have hbl : bs.length = ks.length := by rw [← hB, List.length_map]
  have I1 : Inv X pins σ H { s with heap := h', toks := tk } := I.kept hk
  have hal : acc.toList.length = ks.length := by rw [eb, List.length_map, hbl]
  have tups : ∀ v ∈ acc.toList, TupInts h' v (kOf H (backV v)) := fun v hv => by
    rw [eb] at hv
    obtain ⟨b, hb, rfl⟩ := List.mem_map.mp hv
    obtain ⟨t, e, g1⟩ := key _ (List.mem_map.mpr ⟨b, hb, rfl⟩)
    cases e
    obtain ⟨_, its2, r2, o2, ho2, hc2, n2, hd2⟩ := (show ObjOk X.prog X.w H h' b (.tup _) from g1.ok I1.hok)
    refine ⟨b, _, rfl, ⟨o2, ho2, hc2, n2, hd2⟩, ?_⟩
    show IntsAre _ (kOf H (V.ref b))
    simpa using ints_of_vals r2
  refine wpAny_bind (wpAny_newList ?_ (by rw [hal]; omega))
  have hoL : (h'.push (seqObj "list" acc.toList.toArray 0)).get? h'.objs.size = some (seqObj "list" acc.toList.toArray 0) := Heap.get?_push_size _ rfl
  show wpAny _ _ _ _ _ { s with heap := h'.push (seqObj "list" acc.toList.toArray 0), toks := tk }
  refine wpAny_bind (wpAny_holding (wpAny_call_entry PyProof.Rows.slot_list_sort ⟨_, hoL, rfl⟩ PyProof.Rows.entry_list_sort
    (list_sort_ord (s := { s with heap := h'.push (seqObj "list" acc.toList.toArray 0), toks := tk }) (swo_lexI fun u => kOf H (backV u)) hoL (by rw [hal]; omega) (fun h2 => ?_) fun out g1 g2 => ⟨_, rfl, ?_⟩) (PyProof.Rows.args_list_sort _)))
  · refine tups_sortableL (by omega) (fun v hv => (tups v hv).keeps fun b o e _ => Heap.get?_push_of_some _ e) (fun v hv => ?_) fun o e => ?_
    · rw [eb] at hv
      obtain ⟨b, hb, rfl⟩ := List.mem_map.mp hv
      show kOf H (V.ref b) ≠ []
      rcases hne with k2 | k2
      · omega
      · exact k2 _ (List.mem_map.mpr ⟨b, hb, rfl⟩)
    · rw [hoL] at e
      cases e
      show (Value.type "list") ≠ Value.type "tuple"
      intro z
      injection z with z
      exact absurd z (by decide)
  · obtain ⟨e', he'⟩ := PyProof.Rows.sortedHeap_at (vs := acc.toList) (out := out.toArray) hoL
    have h3 : ∀ u ∈ out, ∃ a, u = Value.ref a := fun u hu => by
      have := g2.perm.mem_iff.mp hu
      rw [eb] at this
      obtain ⟨b, _, rfl⟩ := List.mem_map.mp this
      exact ⟨b, rfl⟩
    have hbk : acc.toList.map backV = bs.map V.ref := by rw [eb, List.map_map]; rfl
    have hb : Stb (ltL (kOf H)) (out.map backV) (bs.map V.ref) := by
      rw [← hbk]
      exact SrtO.Stb.map (swo_lexI (kOf H)) backV g2
    have hlen : (out.map backV).length ≤ sizeLine := by
      rw [hb.len, List.length_map, hbl]; exact dd.len
    refine wpAny_pure ⟨_, rfl, .ref h'.objs.size, upd H h'.objs.size (.lst (out.map backV)), I1.laid (t' := tk) (fun b u e => ?_) (Nat.le_refl _)
      (show ObjOk X.prog X.w _ _ _ (.lst (out.map backV)) from ⟨hlen, out, e', vals_back h3, he'⟩), rfl, q _ _ (SrtO.srtd_map g1) hb (I1.hok.fresh (Nat.le_refl _))⟩
    have hb : b < h'.objs.size := Heap.lt_size e
    rw [PyProof.Rows.sortedHeap_old (Nat.ne_of_lt hb) (by rw [size_push']; exact Nat.lt_succ_of_lt hb)]
    exact Heap.get?_push_of_some _ e

section
variable {X : Cx} {aR : AR} {F : Fns} {ea eb : Expr} {a b : IE} {pos : Pos}
theorem sortedD_go {H : Hp} {Z : Addr → Prop} {ks vs : List D} {t : Bool} {v : V} {d : D} (hz : ∀ a, Z a → ∃ o, H a = some o ∧ lk o) (e : bfD .sortedD (.dct t ks vs) = some d) (rp : RepC aR H Z (.dct t ks vs) v) {K : PySem.W.Frag} {Q : VK} (q : ∀ p ys l, d = .lst l → H p = none → Reps aR H Z l ys → Q (.ref p) (upd H p (.lst ys))) : rSortedDT K [v] H Q := by
  cases t with
  | false => cases e
  | true =>
    have e : ((tupsD ks).bind fun nss => if (nss.length < 2 || nss.all (fun n => !n.isEmpty)) = true then some (.lst ((sortL nss).map tupI)) else none) = some d := e
    obtain ⟨nss, e1, e2⟩ := Option.bind_eq_some_iff.mp e
    split at e2
    · rename_i hc
      cases e2
      obtain ⟨p, o, bs, us, rfl, h1, n1, ⟨xs, kvs, dd, pr, rfl, rfl, rfl⟩, rb, rps⟩ := rp
      obtain ⟨g1, g2⟩ := tups_of e1 rb
      have hl : nss.length = xs.length := by rw [← g1, List.length_map, List.length_map]
      refine ⟨p, o, xs, rfl, h1, dd, fun v hv => (g2 v hv).2, ?_, fun ys p' k1 k2 hn => q p' ys _ rfl hn (lx_out e1 rb k1 k2)⟩
      rw [Bool.or_eq_true, decide_eq_true_eq] at hc
      refine hc.imp (fun h => by rw [← hl]; exact h) fun h v hv z => ?_
      have := List.all_eq_true.mp h (kOf H v) (by rw [← g1]; exact List.mem_map.mpr ⟨v, hv, rfl⟩)
      rw [z] at this
      cases this
    · cases e2
theorem red_sortedD {K : PySem.W.Frag} : Red aR .sortedD (rSortedDT K) := by
  intro H Z x d v Q zk' e rp _ q
  have zk : ∀ a, Z a → ∃ o, H a = some o := fun a z => let ⟨o, h, _⟩ := zk' a z; ⟨o, h⟩
  cases x <;> first | (cases e; done) | skip
  refine sortedD_go zk' e rp fun p ys l el hn rl => q p _ hn ?_
  subst el
  exact rep_newL zk hn rl
theorem f_sortedD {p : Pos} (hc : X.calm = true) (hg : Gl X "sorted") (hm : X.mg "sorted" = none) (ha : PE X ea (tEvC aR X.K F a)) (hs : starEach [ea] X.env = (false, eval ea X.env) :: starEach [] X.env) : PE X (.Call (.Name "sorted" p) [ea] [] pos) (tEvF aR X.K F (.blt .sortedD a)) :=
  PE.imp (pe_callB (cr_sortedDT hc) hg hm PyProof.Rows.boot_sorted (pa_1 ha hs) (by decide) (by decide) hs rfl) fun σ H Q ⟨Z, H0, env, r, ok, dd, r', e, q⟩ => by
    obtain ⟨u, r1, e1, e2⟩ := Res.bind_ok e
    obtain ⟨e3, rfl⟩ := Res.of_ok e2
    refine evC_to ok e1 fun v H' x ro ok' rp => ?_
    cases u <;> first | (cases e3; done) | skip
    have ea : al (.blt .sortedD a) = alC a := by cases a <;> rfl
    refine sortedD_go (K := X.K) (Z := Mk Z σ env (alC a)) ok'.mkk e3 rp fun p ys l el hn rl => ?_
    subst el
    refine q _ _ (x.trans (.new hn)) (ro.keep (keep_new hn)) (start_free ro x hn) (ow_newL hn ?_)
    rw [ea]
    exact rl
/-- xs[::-1] -/
theorem f_revL {k : Nat} {p1 p2 p3 : Pos} (ha : PE X ea (tEvC aR X.K F a)) : PE X (.Subscript ea (.Slice none none (some (.UnaryOp .USub (.Constant (.int 1) k p1) p2)) p3) pos) (tEvF aR X.K F (.revL a)) :=
  PE.imp (pe_revL ha) fun σ H Q ⟨Z, H0, env, r, ok, dd, r', e, q⟩ => by
    obtain ⟨u, r1, e1, e2⟩ := Res.bind_ok e
    refine evC_to ok e1 fun v H' x ro ok' rp => ?_
    cases u <;> first | (cases e2; done) | skip
    cases e2
    obtain ⟨p, vs, rfl, h1, n1, rps⟩ := rp
    have ea : al (.revL a) = alC a := by cases a <;> rfl
    refine ⟨p, vs, rfl, .of h1, fun p' hn => q _ _ (x.trans (.new hn)) (ro.keep (keep_new hn)) (start_free ro x hn) (ow_newL hn ?_)⟩
    rw [ea]
    have rev : ∀ {l : List D} {vs : List V}, Reps aR H' (Mk Z σ env (alC a)) l vs → Reps aR H' (Mk Z σ env (alC a)) l.reverse vs.reverse := by
      intro l
      induction l with
      | nil => intro vs h; cases h; rfl
      | cons d l ih =>
        intro vs h
        obtain ⟨v, us, rfl, g1, g2⟩ := h
        rw [List.reverse_cons, List.reverse_cons]
        exact (ih g2).append (.one g1)
    exact rev rps
/-! places -/
theorem indL_some : ∀ {y : D} {l : List D} {j : Nat}, indL y l = some j → ∃ z, l[j]? = some z ∧ D.beq z y = true ∧ ∀ (m : Nat) z', m < j → l[m]? = some z' → D.beq z' y = false
  | _, [], _, h => nomatch h
  | y, x :: l, j, h => by
    unfold indL at h
    split at h
    · cases h
      exact ⟨x, rfl, by assumption, fun m z' hm => by omega⟩
    · rename_i c
      obtain ⟨i, h1, rfl⟩ := Option.map_eq_some_iff.mp h
      obtain ⟨z, g1, g2, g3⟩ := indL_some h1
      refine ⟨z, by simpa using g1, g2, fun m z' hm hz => ?_⟩
      cases m with
      | zero =>
        simp at hz
        subst hz
        simpa using c
      | succ m => exact g3 m z' (by omega) (by simpa using hz)
theorem toPys_at : ∀ {l : List D} {j : Nat}, (toPys l)[j]? = (l[j]?).map toPy
  | [], j => by simp [toPys]
  | x :: l, 0 => rfl
  | x :: l, j + 1 => by
    show (toPys l)[j]? = _
    rw [toPys_at]; simp
theorem shs_at : ∀ {l : List D} {n j : Nat} {z : D}, D.shs n l = true → l[j]? = some z → D.sh n z = true
  | [], _, _, _, _, h => by simp at h
  | x :: l, n, j, z, s, h => by
    simp only [D.shs, Bool.and_eq_true] at s
    cases j with
    | zero => simp at h; subst h; exact s.1
    | succ j => exact shs_at s.2 (by simpa using h)
/-! t.index(n), t a tuple of ints whose object is known -/
theorem PE.orT {X : Cx} {e : Expr} {t u : TE} (h1 : PE X e t) (h2 : PE X e u) : PE X e (fun σ H Q => t σ H Q ∨ u σ H Q) := ⟨fun pins s σ H Q I q => q.elim (h1.run pins s σ H Q I) (h2.run pins s σ H Q I)⟩
def rTix (K : PySem.W.Frag) : V → List V → Hp → VK → Prop := fun x vs H Q => ∃ (a : Addr) (ns : List Int) (k : Int), x = .ref a ∧ vs = [V.int k] ∧ SqT K H a (ns.map V.int) ∧ k ∈ ns ∧ Q (.int (ns.idxOf k : Nat)) H
theorem mt_tix {X : Cx} : MtR X "tuple.index" (rTix X.K) := by
  intro pins s σ H x xs v us Q I rx rv h
  obtain ⟨a, ns, k, rfl, rfl, hT, hk, q⟩ := h
  cases rx
  obtain ⟨u, rfl, t, rfl⟩ := vals1 rv
  obtain ⟨its, r, p, hz⟩ := I.tuple hT
  exact PySem.SeqAt.tuple_index_ints (vs := its) p (intsAre_of r) hk ⟨.int (ns.idxOf k : Nat), H, I.tok _, ⟨_, rfl⟩, q⟩
def tBMT (r : V → List V → Hp → VK → Prop) (to : TE) (t : TA) : TE := fun σ H Q => to σ H fun x H1 => (∃ a vs, x = .ref a ∧ TupO H1 a vs) ∧ t σ H1 fun xs H2 => r x xs H2 Q
theorem pe_bmT {o e : Expr} {es : List Expr} {to : TE} {t : TA} {name : Str} {apos cpos : Pos} {id : String} {r : V → List V → Hp → VK → Prop} (pa : PlainAttrs "tuple") (slot : Slot "tuple" name id) (hty : typeOf (.builtin id) = pure (.type "method_descriptor")) (hm : MtR X id r) (ho : PE X o to) (ha : PA X (e :: es) t)
    (hbase : attributeBase o name X.env (eval o X.env) = eval o X.env := by rfl)
    (hfew : ((backTo cpos (starEach (e :: es) X.env)).all (fun x => !x.1) && (backToKw cpos (keywordEach [] X.env)).all (fun x => x.1.isSome)
      && decide ((e :: es).length + ([] : List Keyword).length + (if ([] : List Keyword).isEmpty then 0 else 1) < 30)) = true := by rfl)
    (hline : (apos.endLine == cpos.line) = true := by rfl) (hs : starEach (e :: es) X.env = (false, eval e X.env) :: starEach es X.env := by rfl) (hplain : (backTo cpos (starEach es X.env)).any (·.1) = false := by rfl) :
    PE X (.Call (.Attribute o name apos) (e :: es) [] cpos) (tBMT r to t) := by
  refine ⟨fun pins s σ H Q I h => ?_⟩
  refine wpAny_Call_method_late hbase hfew hline rfl (thn (ho.run pins s σ H _ I h) fun v s1 ⟨x, H1, I1, r1, ⟨a, vs, ex, ⟨ob, hd, hT⟩⟩, q1⟩ => ?_)
  subst ex
  cases r1
  obtain ⟨hg, _, its, _, o2, g1, g2, _⟩ := (show ObjOk X.prog X.w H1 s1.heap a (.frz ob (.tup vs)) from I1.hok a _ hT)
  refine ⟨"tuple", id, pa, slot, hty, ⟨o2, g1, g2⟩, fun b e => ?_, ?_⟩
  · cases e
    exact ⟨ob, hg, hd⟩
  have hA := ha.run cpos pins s1 σ H1 _ I1 q1
  rw [hs] at hA ⊢
  refine Calls.callWith_builtin (by show (false || (backTo cpos (starEach es X.env)).any (·.1)) = false; rw [hplain] <;> rfl) (Calls.evalArgs_plain ?_)
  exact thn hA fun us s2 ⟨vs, H2, I2, r2, q2⟩ => hm pins s2 σ H2 (.ref a) vs _ us Q I2 (show RelV (.ref a) (.ref a) from rfl) r2 q2
theorem indL_ints {k : Int} : ∀ {ns : List Int} {j : Nat}, indL (.int k) (ns.map D.int) = some j → k ∈ ns ∧ ns.idxOf k = j
  | [], j, h => nomatch h
  | n :: ns, j, h => by
    rw [List.map_cons] at h
    unfold indL at h
    by_cases c : n = k
    · subst c
      rw [if_pos (by simp [D.beq])] at h
      cases h
      exact ⟨List.mem_cons_self, by simp⟩
    · rw [if_neg (by simpa [D.beq] using c)] at h
      obtain ⟨i, h1, rfl⟩ := Option.map_eq_some_iff.mp h
      obtain ⟨g1, g2⟩ := indL_ints h1
      refine ⟨List.mem_cons_of_mem _ g1, ?_⟩
      rw [List.idxOf_cons, g2]
      have : (n == k) = false := beq_eq_false_iff_ne.mpr c
      rw [this]
      rfl
theorem v_ind {apos cpos : Pos} (hu : X.A.units + 65 < cLine) (m : M1 X ea "index" apos eb cpos) (hs : starEach [eb] X.env = [(false, eval eb X.env)]) (ha : PE X ea (tEvC aR X.K F a)) (hb : PE X eb (tEvC aR X.K F b)) : PE X (.Call (.Attribute ea "index" apos) [eb] [] cpos) (tEv aR X.K F (.ind a b)) :=
  PE.imp (PE.orT (pe_bm PySem.F.plainAttrs_list PySem.F.slot_list_index PySem.F.type_list_index (mt_indexD hu) ha (pa_cons hb pa_nil (by rw [hs]; rfl)) m.base m.few m.line (by rw [hs]; rfl) rfl)
    (pe_bmT PySem.F.plainAttrs_tuple PySem.F.slot_tuple_index PySem.F.type_tuple_index mt_tix ha (pa_cons hb pa_nil (by rw [hs]; rfl)) m.base m.few m.line (by rw [hs]; rfl) rfl)) fun σ H Q ⟨Z, H0, env, r, ok, dd, r', e, q⟩ => by
    obtain ⟨u, r1, w, r2, e1, e2, e3⟩ := bind2 (f := fun _ _ => .no) e
    obtain ⟨e4, rfl⟩ := Res.of_ok e3
    cases u <;> first | (cases e4; done) | skip
    · rename_i l
      right
      have e4 : (if ((intsD [w]).isSome && (intsD l).isSome) = true then (indL w l).map fun (j : Nat) => D.int (j : Int) else none) = some dd := e4
      split at e4
      · rename_i hs'
        rw [Bool.and_eq_true] at hs'
        obtain ⟨ns, hn⟩ := Option.isSome_iff_exists.mp hs'.2
        obtain ⟨j, e5, rfl⟩ := Option.map_eq_some_iff.mp e4
        obtain ⟨k, rfl⟩ : ∃ k, w = .int k := by
          cases w <;> first | (have := hs'.1; cases this; done) | exact ⟨_, rfl⟩
        refine evC_to ok e1 fun v1 H1 x1 ro1 ok1 rp1 => ?_
        have rp0 : Rep aR H1 (Mk Z σ env (alC a)) (.tup l) v1 := rp1
        obtain ⟨p, vs, rfl, h1, n1, rps⟩ := id rp0
        refine ⟨⟨p, vs, rfl, h1⟩, evC_to ok1 e2 fun v2 H2 x2 ro2 ok2 rp2 => ?_⟩
        cases rp2
        have rp2' : Rep aR H2 (Mk Z σ env (alC a)) (.tup l) (.ref p) := rp0.mono (x2.le (.inl ok.zr))
        obtain ⟨p', vs', ep, h1', _, rps'⟩ := rp2'
        cases ep
        obtain ⟨rfl, rfl⟩ := ints_of hn rps'
        obtain ⟨g1, g2⟩ := indL_ints e5
        exact ⟨p, ns, k, rfl, rfl, h1'.of, g1, by rw [g2]; exact q _ H2 (x1.trans x2) ro2 rfl⟩
      · cases e4
    · rename_i l
      left
      refine evC_to ok e1 fun v1 H1 x1 ro1 ok1 rp1 => ?_
      obtain ⟨p, vs, rfl, h1, n1, rps⟩ := id rp1
      refine ⟨.inl ⟨rfl, vs, .of h1⟩, evC_to ok1 e2 fun v2 H2 x2 ro2 ok2 rp2 => ?_⟩
      have e4 : (if (D.sh 32 w && D.shs 31 l) = true then (indL w l).map fun (j : Nat) => D.int (j : Int) else none) = some dd := e4
      split at e4
      · rename_i hs'
        rw [Bool.and_eq_true] at hs'
        obtain ⟨j, e5, rfl⟩ := Option.map_eq_some_iff.mp e4
        obtain ⟨z, g1, g2, g3⟩ := indL_some e5
        have sl : D.sh 32 (.lst l) = true := by simp only [D.sh]; exact hs'.2
        have rp1' := rp1.ext x2 (.inl ok.zr)
        have d1 := sh_dpC (K := X.K) sl rp1'
        have d2 := sh_dpC (K := X.K) hs'.1 rp2
        have s1 := sh_shaped sl (by decide)
        have s2 := sh_shaped hs'.1 (by decide)
        simp only [toPy] at d1 s1
        refine ⟨p, v2, toPy w, toPys l, j, toPy z, rfl, rfl, d1, d2, s1, s2, by rw [toPys_at, g1]; rfl, ?_, fun m' z' hm hz => ?_, q _ H2 (x1.trans x2) ro2 rfl⟩
        · rw [beq_py z w 31 32 (shs_at hs'.2 g1) hs'.1]; exact g2
        · rw [toPys_at] at hz
          obtain ⟨z0, k1, rfl⟩ := Option.map_eq_some_iff.mp hz
          rw [beq_py z0 w 31 32 (shs_at hs'.2 k1) hs'.1]
          exact g3 m' z0 hm k1
      · cases e4
theorem v_cnt {apos cpos : Pos} (m : M1 X ea "count" apos eb cpos) (hs : starEach [eb] X.env = [(false, eval eb X.env)]) (ha : PE X ea (tEvC aR X.K F a)) (hb : PE X eb (tEvC aR X.K F b)) : PE X (.Call (.Attribute ea "count" apos) [eb] [] cpos) (tEv aR X.K F (.cnt a b)) :=
  PE.imp (pe_bm PySem.F.plainAttrs_list PySem.F.slot_list_count PySem.F.type_list_count mt_lcount ha (pa_cons hb pa_nil (by rw [hs]; rfl)) m.base m.few m.line (by rw [hs]; rfl) rfl) fun σ H Q ⟨Z, H0, env, r, ok, dd, r', e, q⟩ => by
    obtain ⟨u, r1, w, r2, e1, e2, e3⟩ := bind2 (f := fun _ _ => .no) e
    obtain ⟨e4, rfl⟩ := Res.of_ok e3
    cases u <;> first | (cases e4; done) | skip
    rename_i l
    refine evC_to ok e1 fun v1 H1 x1 ro1 ok1 rp1 => ?_
    obtain ⟨p, vs, rfl, h1, n1, rps⟩ := id rp1
    refine ⟨.inl ⟨rfl, vs, .of h1⟩, evC_to ok1 e2 fun v2 H2 x2 ro2 ok2 rp2 => ?_⟩
    cases w <;> first | (cases e4; done) | skip
    rename_i k
    cases rp2
    have e4 : ((intsD l).map fun ns => D.int ((ns.count k : Nat) : Int)) = some dd := e4
    obtain ⟨ns, e5, rfl⟩ := Option.map_eq_some_iff.mp e4
    obtain ⟨rfl, rfl⟩ := ints_of e5 rps
    exact ⟨p, ns, k, rfl, rfl, .of (x2 _ _ n1 h1 rfl), q _ H2 (x1.trans x2) ro2 rfl⟩
end
end Wl
/-! Dicts with tuple keys gone through: keys and items. -/
namespace Wl
open PySem PySem.Spec PyProof.Rows L2

section
variable {X : Cx} {pins : List (Addr × Obj)} {σ : L2.St} {H : Hp} {s : Shared} {d : Addr} {o : Obj}
theorem exO_ent {xs : List (NestedKey × Addr × Value)} {us : List V} (I : Inv X pins σ H s) (h : Rd H d (exO d o)) (dd : DicO d o xs) (hv : Vals us (xs.map (·.2.2))) :
    s.heap.get? d = some o ∧ ∃ (es : Array DictEntry) (ep : Nat), o.data = .dict es ep ∧ es.size = xs.length ∧
      ∀ (i : Nat) (x : NestedKey × Addr × Value), xs[i]? = some x → ∃ (en : DictEntry) (v : V), es[i]? = some en ∧ en.key = .ref x.2.1 ∧ us[i]? = some v ∧ RelV v en.val := by
  obtain ⟨es, ep, hdt, he⟩ := dd.dat
  refine ⟨exO_at I.hok h, es, ep, hdt, by rw [← Array.length_toList, he, List.length_map], fun i x e => ?_⟩
  have q : es[i]? = (xs[i]?).map entI := by rw [← Array.getElem?_toList, he, List.getElem?_map]
  rw [e] at q
  have hl := hv.length
  rw [List.length_map] at hl
  have hi : i < us.length := by
    have := (List.getElem?_eq_some_iff.mp e).1
    omega
  obtain ⟨u, hu, ru⟩ := hv.get (i := i) (List.getElem?_eq_getElem hi)
  rw [List.getElem?_map, e] at hu
  cases hu
  exact ⟨_, _, q, rfl, List.getElem?_eq_getElem hi, ru⟩
end
/-- the keys: their own tuples -/
def ItkX (d : Addr) (o : Obj) (xs : List (NestedKey × Addr × Value)) : It :=
  ⟨fun i H => Rd H d (exO d o) ∧ i < xs.length, fun i H x H' => H' = H ∧ ∃ p, xs[i]? = some p ∧ x = .ref p.2.1, fun i H => Rd H d (exO d o) ∧ xs.length ≤ i⟩
/-- the pairs, each a new tuple; the key's own tuple -/
def ItiX (d : Addr) (o : Obj) (xs : List (NestedKey × Addr × Value)) (us : List V) : It :=
  ⟨fun i H => Rd H d (exO d o) ∧ i < xs.length, fun i H x H' => ∃ T p v, xs[i]? = some p ∧ us[i]? = some v ∧ x = .ref T ∧ H T = none ∧ H' = upd H T (.tup [.ref p.2.1, v]), fun i H => Rd H d (exO d o) ∧ xs.length ≤ i⟩
section
variable {P : Program} {w : World} {K : PySem.W.Frag} {tg : Expr} {d : Addr} {o : Obj} {es : Array DictEntry} {ep : Nat} {xs : List (NestedKey × Addr × Value)} {us : List V}
theorem turn_itemsX {elts : List Expr} {kk : Nat} {tpos : Pos} (it : Addr) (dd : DicO d o xs) (hv : Vals us (xs.map (·.2.2))) (hod : o.data = .dict es ep) :
    Turn P w K (.Tuple elts kk tpos) (ItiX d o xs us) [it] it (fun i h => ∃ ok ov, IsItemIter h it d i xs.length ep ok ov) where
  mem := by simp
  obj := fun i h st b hb => by
    have e : b = it := by simpa using hb
    subst e
    obtain ⟨ok, ov, e⟩ := st
    exact ⟨_, e, fun v z => nomatch z⟩
  keep := fun i h h' st k => let ⟨ok, ov, e⟩ := st; ⟨ok, ov, k it (by simp) _ e⟩
  item := by
    intro X hP hw hK hc i pins s σ H E I hf st hg
    subst hP hw hK
    obtain ⟨hd, hi⟩ := hg
    obtain ⟨hgd, es', ep', hdt, hsz, ent⟩ := exO_ent I hd dd hv
    have hx := dd.ex
    obtain ⟨rfl, rfl⟩ := dict_ep hod hdt
    obtain ⟨p, hp⟩ : ∃ p, xs[i]? = some p := ⟨xs[i], List.getElem?_eq_getElem hi⟩
    obtain ⟨en, v, hen, hkey, huv, ru⟩ := ent i p hp
    obtain ⟨ok, ov, he⟩ := st
    rw [← hsz] at he
    have hi' : i < es'.size := by omega
    have hlt : it < s.heap.objs.size := Heap.lt_size he
    have een : es'[i] = en := by rw [Array.getElem?_eq_getElem hi'] at hen; exact Option.some.inj hen
    refine DT.nextI he ⟨o, hgd, hx, hdt⟩ hi' fun h' ho hT hz hk => ?_
    rw [een, hkey] at hT ho
    refine ⟨_, rfl, wpAny_letOwnedTupleGo_items (s := { s with heap := h' }) ho fun h'' he' sb => ?_⟩
    have hT2 : h''.get? s.heap.objs.size = some { cls := .type "tuple", data := .seq #[.ref p.2.1, en.val] } := (sb.2 _ (Nat.ne_of_gt hlt)).trans hT
    have new : ObjOk X.prog X.w (upd H s.heap.objs.size (.tup [.ref p.2.1, v])) h'' s.heap.objs.size (.tup [.ref p.2.1, v]) :=
      ⟨by show 2 ≤ sizeLine; decide, [.ref p.2.1, en.val], .cons (show RelV (.ref p.2.1) (.ref p.2.1) from rfl) (.cons ru .nil), ⟨_, hT2, rfl, _, rfl⟩⟩
    have I1 : Inv X pins σ (upd H s.heap.objs.size (.tup [.ref p.2.1, v])) { s with heap := h'' } :=
      I.turnedNew (t' := s.toks) (ch := [it]) (fun b ob hb e => (sb.2 b (by simpa using hb)).trans (hk b ob (by simpa using hb) e)) hf (Nat.le_refl _) new
    refine ⟨.ref s.heap.objs.size, _, I1, rfl, ⟨_, p, v, hp, huv, rfl, I.hok.fresh (Nat.le_refl _), rfl⟩, ⟨.ref p.2.1, en.val, ?_⟩, fun b hb => ?_⟩
    · rw [← hsz]; exact he'
    · have e : b = it := by simpa using hb
      rw [e, upd_ne (Nat.ne_of_lt hlt)]
      exact (hf it (by simp)).1
  done := by
    intro X hP hw hK hc i pins s σ H E I hf st hg
    subst hP hw hK
    obtain ⟨hd, hi⟩ := hg
    obtain ⟨f0, f1, f2, f3, f4, f5⟩ := hf it (by simp)
    obtain ⟨hgd, es', ep', hdt, hsz, ent⟩ := exO_ent I hd dd hv
    obtain ⟨rfl, rfl⟩ := dict_ep hod hdt
    obtain ⟨ok, ov, he⟩ := st
    rw [← hsz] at he
    exact DT.endI (I.ok.hd hc) he ⟨o, hgd, dd.ex, hdt⟩ (by omega) fun h' eb => ⟨rfl, I.turned (t' := s.toks) (fun b ob hb e => eb b ob hb e) f0 f1 f3 f4 f5⟩
  self := fun A i s Q E st h => let ⟨_, _, e⟩ := st; PySem.W.kcp_self e h
theorem turn_keysX (it : Addr) (dd : DicO d o xs) (hv : Vals us (xs.map (·.2.2))) (hod : o.data = .dict es ep) : Turn P w K tg (ItkX d o xs) [it] it (fun i h => h.IsKeyIter it d i xs.length ep) where
  mem := by simp
  obj := fun i h st b hb => by
    have e : b = it := by simpa using hb
    subst e
    obtain ⟨oi, e, c, dd⟩ := st
    exact ⟨oi, e, fun v z => by rw [dd] at z; cases z⟩
  keep := fun i h h' st k => st.at fun oi e => k it (by simp) oi e
  item := by
    intro X hP hw hK hc i pins s σ H E I hf st hg
    subst hP hw hK
    obtain ⟨hd, hi⟩ := hg
    obtain ⟨f0, f1, f2, f3, f4, f5⟩ := hf it (by simp)
    obtain ⟨hgd, es', ep', hdt, hsz, ent⟩ := exO_ent I hd dd hv
    obtain ⟨rfl, rfl⟩ := dict_ep hod hdt
    obtain ⟨p, hp⟩ : ∃ p, xs[i]? = some p := ⟨xs[i], List.getElem?_eq_getElem hi⟩
    obtain ⟨en, v, hen, hkey, huv, ru⟩ := ent i p hp
    refine next_key_item st hgd hdt hsz hen fun h' st' sb => ?_
    have I1 : Inv X pins σ H { s with heap := h' } := I.turned (t' := s.toks) (fun b ob hb e => (sb.2 b hb).trans e) f0 f1 f3 f4 f5
    obtain ⟨oi, e, c, ddd⟩ := id st'
    refine ⟨en.key, rfl, go_of (s := { s with heap := h' }) e c ddd (by decide) ⟨.ref p.2.1, H, I1, ?_, ⟨rfl, p, hp, rfl⟩, st', fun b hb => (hf b hb).1⟩⟩
    rw [hkey]
    rfl
  done := by
    intro X hP hw hK hc i pins s σ H E I hf st hg
    subst hP hw hK
    obtain ⟨hd, hi⟩ := hg
    obtain ⟨f0, f1, f2, f3, f4, f5⟩ := hf it (by simp)
    obtain ⟨hgd, es', ep', hdt, hsz, ent⟩ := exO_ent I hd dd hv
    obtain ⟨rfl, rfl⟩ := dict_ep hod hdt
    exact next_key_end (I.ok.hd hc) st hgd hdt hsz hi fun h' eb => ⟨rfl, I.turned (t' := s.toks) (fun b ob hb e => eb b ob hb e) f0 f1 f3 f4 f5⟩
  self := fun A i s Q E st h => wpAny_pyIter_keyiter st h
theorem walk_itemsX : Walk (ItiX d o xs us) xs.length (fun H => Rd H d (exO d o)) (fun i H x H' => ∃ T p v, xs[i]? = some p ∧ us[i]? = some v ∧ x = .ref T ∧ H T = none ∧ H' = upd H T (.tup [.ref p.2.1, v])) :=
  ⟨fun _ _ hi q => ⟨q, hi⟩, fun _ q => ⟨q, Nat.le_refl _⟩, fun _ _ _ _ _ _ y => y⟩
theorem walk_keysX : Walk (ItkX d o xs) xs.length (fun H => Rd H d (exO d o)) (fun i H x H' => H' = H ∧ ∃ p, xs[i]? = some p ∧ x = .ref p.2.1) :=
  ⟨fun _ _ hi q => ⟨q, hi⟩, fun _ q => ⟨q, Nat.le_refl _⟩, fun _ _ _ _ _ _ y => y⟩
end
def iItemsB (td : TE) : TI := fun σ H R => td σ H fun x H1 => ∃ d o, x = .ref d ∧ ((∃ kvs, H1 d = some (.frz o (.dK kvs)) ∧ R (Iti d o kvs) H1) ∨ ∃ xs us, Rd H1 d (exO d o) ∧ DicO d o xs ∧ Vals us (xs.map (·.2.2)) ∧ R (ItiX d o xs us) H1)
def iKeysB (td : TE) : TI := fun σ H R => td σ H fun x H1 => ∃ d o, x = .ref d ∧ ((∃ kvs, H1 d = some (.frz o (.dK kvs)) ∧ R (Itk d o kvs) H1) ∨ ∃ xs us, Rd H1 d (exO d o) ∧ DicO d o xs ∧ Vals us (xs.map (·.2.2)) ∧ R (ItkX d o xs) H1)
section
variable {X : Cx} {tg e : Expr} {td : TE} {apos cpos : Pos}
theorem pi_keysB (he : PE X e td) : PI X tg e (iKeysB td) := by
  refine ⟨fun pins s σ H R I h => ?_⟩
  refine thn (he.run pins s σ H _ I h) fun u s1 ⟨x, H1, I1, rx, d, o, ex, q⟩ => ?_
  subst ex
  obtain rfl : u = Value.ref d := rx
  rcases q with ⟨kvs, hd, q⟩ | ⟨xs, us, hd, dd, hv, q⟩
  · obtain ⟨hs, hgd, hx, es, ep, vs, hdt, hsz, kv, hm⟩ := I1.frzK hd
    refine iter_keys hs hgd hx hdt (pi_one (tk := s1.toks) I1 _ (turn_keys _ hdt) ⟨_, Heap.get?_push_size _ rfl, rfl, ?_⟩ q)
    rw [hsz] <;> rfl
  · obtain ⟨hgd, es, ep, hdt, hsz, ent⟩ := exO_ent I1 hd dd hv
    refine iter_keys dd.sm hgd dd.ex hdt (pi_one (tk := s1.toks) I1 _ (turn_keysX _ dd hv hdt) ⟨_, Heap.get?_push_size _ rfl, rfl, ?_⟩ q)
    rw [hsz] <;> rfl
theorem pi_itemsB {elts : List Expr} {kk : Nat} {tpos : Pos} (he : PE X e td) (hbase : attributeBase e "items" X.env (eval e X.env) = eval e X.env) (hline : (apos.endLine == cpos.line) = true) :
    PI X (.Tuple elts kk tpos) (.Call (.Attribute e "items" apos) [] [] cpos) (iItemsB td) := by
  refine ⟨fun pins s σ H R I h => ?_⟩
  refine wpAny_Call_method (T := "dict") (id := "dict.items") hbase rfl hline F.plainAttrs_dict F.slot_dict_items F.type_dict_items (thn (he.run pins s σ H _ I h) fun u s1 ⟨x, H1, I1, rx, d, o, ex, q⟩ => ?_)
  subst ex
  obtain rfl : u = Value.ref d := rx
  rcases q with ⟨kvs, hd, q⟩ | ⟨xs, us, hd, dd, hv, q⟩
  · obtain ⟨hs, hgd, hx, es, ep, vs, hdt, hsz, kv, hm⟩ := I1.frzK hd
    have hl : kvs.length = vs.length := Paired.length kv
    refine ⟨hm.dictOf.typeIs, hm.dictOf.mapOf.noDict, ?_⟩
    have I2 : Inv X pins σ H1 { s1 with heap := s1.heap.push { cls := .type "dict_items", data := .fields #[.ref d] } } := I1.kept (t' := s1.toks) fun b ob q => Heap.get?_push_of_some _ q
    have fin : wpAny (model X.prog X.w) X.A (pyIter (.ref s1.heap.objs.size)) (PIE X pins σ (.Tuple elts kk tpos) R) X.xe { s1 with heap := s1.heap.push { cls := .type "dict_items", data := .fields #[.ref d] } } := by
      refine wpAny_pyIter_items (d := d) (knd := mixKind X.prog X.w) ⟨_, Heap.get?_push_size _ rfl, rfl, rfl⟩ (hm.push _) (pi_one (tk := s1.toks) I2 _ (turn_items _ hdt) ⟨.none, .none, ?_⟩ q)
      rw [hl]
      exact Heap.get?_push_size _ rfl
    show wpAny _ _ (callWith cpos (.builtin "dict.items") [.ref d] [] []) _ X.xe s1
    exact method_meetsIn F.slot_dict_items F.entry_dict_items rfl (PySem.evalArgs_none ⟨rfl, hm.dictOf.typeIs, F.args_dict_items_1 _, _, meets_dict_items (mixKind X.prog X.w) d hs, ⟨vs, hm.dictOf⟩, fin⟩)
  · obtain ⟨hgd, es, ep, hdt, hsz, ent⟩ := exO_ent I1 hd dd hv
    have raw : DT.Raw s1.heap d es ep := ⟨o, hgd, dd.ex, hdt⟩
    have nodict : ∀ a, Value.ref d = .ref a → ∃ ob, s1.heap.get? a = some ob ∧ ob.dict = none := fun a e => by
      cases e
      exact ⟨o, hgd, dd.ex.2.1⟩
    refine ⟨raw.typeIs, nodict, ?_⟩
    have I2 : Inv X pins σ H1 { s1 with heap := s1.heap.push { cls := .type "dict_items", data := .fields #[.ref d] } } := I1.kept (t' := s1.toks) fun b ob q => Heap.get?_push_of_some _ q
    have fin : wpAny (model X.prog X.w) X.A (pyIter (.ref s1.heap.objs.size)) (PIE X pins σ (.Tuple elts kk tpos) R) X.xe { s1 with heap := s1.heap.push { cls := .type "dict_items", data := .fields #[.ref d] } } := by
      refine DT.iterI (d := d) (es := es) (ep := ep) ⟨_, Heap.get?_push_size _ rfl, rfl, rfl⟩ (raw.push _) (pi_one (tk := s1.toks) I2 _ (turn_itemsX _ dd hv hdt) ⟨.none, .none, ?_⟩ q)
      rw [← hsz]
      exact Heap.get?_push_size _ rfl
    show wpAny _ _ (callWith cpos (.builtin "dict.items") [.ref d] [] []) _ X.xe s1
    exact method_meetsIn F.slot_dict_items F.entry_dict_items rfl (PySem.evalArgs_none ⟨rfl, raw.typeIs, F.args_dict_items_1 _, _, DT.meetsItems dd.sm, raw, fin⟩)
end
end Wl
/-! Dicts gone through: the loop under a lock. -/
namespace Wl
open PySem PySem.Spec PyProof.Rows L2

/-- the slot's thing is locked -/
def FrzAt (i : Nat) (σ : L2.St) (H : Hp) : Prop := ∃ d o u, σ[i]? = some (some (.ref d)) ∧ H d = some (.frz o u)
section
variable {aR : AR} {K : PySem.W.Frag} {Z : Addr → Prop} {H0 H H' : Hp} {σ : L2.St} {env : Env} {r r' : Row}
theorem frz_dct {i : Nat} {t : Bool} {ks vs : List D} (ok : Ok aR K Z H0 σ H env r) (e : rd env i = some (.dct t ks vs)) : ∃ a, σ[i]? = some (some (.ref a)) ∧ ((env[i]? = some (.fz (.dct t ks vs)) ∧ Rep aR H (Mk Z σ env []) (.dct t ks vs) (.ref a)) ∨ (env[i]? = some (.ow (.dct t ks vs)) ∧ Ow aR H (Mk Z σ env []) a (.dct t ks vs))) := by
  unfold rd at e
  split at e
  · rename_i z
    cases e
    obtain ⟨v, h, rp⟩ := ok.fz i _ z
    cases t with
    | false =>
      obtain ⟨a, kvs, rfl, h1, n, hk, h2⟩ := rp
      exact ⟨a, h, .inl ⟨z, a, kvs, rfl, h1, n, hk, h2⟩⟩
    | true =>
      obtain ⟨a, o, bs, us, rfl, h1, n, hk, h3, h2⟩ := rp
      exact ⟨a, h, .inl ⟨z, a, o, bs, us, rfl, h1, n, hk, h3, h2⟩⟩
  · rename_i z
    cases e
    obtain ⟨a, h, _, _, w⟩ := ok.ow i _ z
    exact ⟨a, h, .inr ⟨z, w⟩⟩
  · cases e
/-- a locked dict in a slot -/
theorem frz_get {i : Nat} {t : Bool} {ks vs : List D} (ok : Ok aR K Z H0 σ H env r) (e : rd env i = some (.dct t ks vs)) (hf : FrzAt i σ H) : ∃ d o, σ[i]? = some (some (.ref d)) ∧ d ≠ aR ∧ ¬ Mk Z σ env [] d ∧
    match t with
    | false => ∃ kvs : List (Key × V), H d = some (.frz o (.dK kvs)) ∧ ks = kvs.map (fun p => keyD p.1) ∧ Reps aR H (Mk Z σ env []) vs (kvs.map (·.2))
    | true => ∃ o' bs us, Rd H d (exO d o') ∧ DtK d o' ks bs us ∧ Reps aR H (Mk Z σ env []) ks bs ∧ Reps aR H (Mk Z σ env []) vs us := by
  obtain ⟨a, h, w⟩ := frz_dct ok e
  obtain ⟨d, o, u, h1, h2⟩ := hf
  rw [h] at h1
  cases h1
  rcases w with ⟨_, w⟩ | ⟨_, w⟩
  · cases t with
    | false =>
      obtain ⟨b, kvs, e1, h3, n, hk, h4⟩ := w
      cases e1
      rcases h3 with h3 | ⟨o2, h3⟩
      · rw [h2] at h3; cases h3
      · rw [h2] at h3; cases h3
        exact ⟨a, o, h, fun z => n (by rw [z]; exact ok.mr), n, kvs, h2, hk, h4⟩
    | true =>
      obtain ⟨b, o', bs, us, e1, h3, n, hk, h4, h5⟩ := w
      cases e1
      exact ⟨a, o, h, fun z => n (by rw [z]; exact ok.mr), n, o', bs, us, h3, hk, h4, h5⟩
  · cases t with
    | false => obtain ⟨kvs, h3, _⟩ := w; rw [h2] at h3; cases h3
    | true => obtain ⟨o', bs, us, h3, _⟩ := w; rw [h2] at h3; unfold exO at h3; cases h3
theorem vals_pr {kvs : List (NestedKey × V)} {xs : List (NestedKey × Addr × Value)} (pr : Paired (fun p q => p.1 = q.1 ∧ RelV p.2 q.2.2) kvs xs) : Vals (kvs.map (·.2)) (xs.map (·.2.2)) := by
  induction pr with
  | nil => exact .nil
  | cons h t ih => exact .cons h.2 ih
theorem rep_key {H : Hp} {Z : Addr → Prop} (k : Key) : Rep aR H Z (keyD k) (kV k) := by cases k <;> rfl
end
section
variable {X : Cx} {aR : AR} {F : Fns}
theorem i_I {elts : List Expr} {kk i : Nat} {tpos p0 apos cpos : Pos} {x : Str} (hi : X.N[i]? = some x) (hv : Vis X.env.scope x) (hd : (x == ("__debug__" : Str)) = false) (hcd : (x == ("__classdict__" : Str)) = false)
    (hbase : attributeBase (.Name x p0) "items" X.env (eval (.Name x p0) X.env) = eval (.Name x p0) X.env) (hline : (apos.endLine == cpos.line) = true) :
    PI X (.Tuple elts kk tpos) (.Call (.Attribute (.Name x p0) "items" apos) [] [] cpos) fun σ H R => FrzAt i σ H ∧ tEvI aR X.K F (.itI (.var i)) σ H R :=
  PI.imp (pi_itemsB (pe_var hi hv hd hcd) hbase hline) fun σ H R ⟨hf, Z, H0, env, r, ok, l, r', e, q⟩ => by
    obtain ⟨u, r1, e1, e2⟩ := Res.bind_ok e
    obtain ⟨ee, rfl⟩ := Res.of_ok e1
    split at e2
    · rename_i t ks vs
      cases e2
      obtain ⟨d, o, h1, n1, n2, w⟩ := frz_get ok ee hf
      have hU : ∀ z, z = d → z ≠ aR ∧ (¬ Mk Z σ env (al (.itI (.var i))) z ∨ Dv σ env (dvs (.itI (.var i))) z) := fun z hz => by
        subst hz
        exact ⟨n1, .inl n2⟩
      cases t with
      | false =>
        obtain ⟨kvs, h2, rfl, rps⟩ := w
        refine ⟨.ref d, h1, d, o, rfl, .inl ⟨kvs, h2, q _ H .refl ok.row ⟨fun a => a = d, YPair (fun i => kvs[i]?.map fun kv => kV kv.1) (fun i => kvs[i]?.map Prod.snd), hU, ?_, fun j H2 y H3 Z' hj hle zk hy => ?_⟩⟩⟩
        · rw [zip_len, ← rps.length, List.length_map, List.length_map, Nat.min_self]
          exact walk_items.mono (fun H2 g => g d _ rfl h2 rfl) (fun _ _ _ _ _ _ y => y)
        · obtain ⟨T, y1, y2, rfl, hT, e3, g1, g2⟩ := hy
          obtain ⟨⟨k, v⟩, ek, rfl⟩ := Option.map_eq_some_iff.mp g1
          have g2 : (kvs[j]?.map Prod.snd) = some y2 := g2
          rw [ek] at g2
          cases g2
          obtain ⟨dd, e4, rp3⟩ := rps.get' (i := j) (v := v) (by rw [List.getElem?_map, ek]; rfl)
          refine ⟨.inr ⟨T, _, hT, e3⟩, _, zip_get _ _ (d := keyD k) (by rw [List.getElem?_map, ek]; rfl) e4, pair_rep (fun a z => let ⟨o, h, _⟩ := zk a z; ⟨o, h⟩) hT e3 (rep_key k) (rp3.mono hle)⟩
      | true =>
        obtain ⟨o', bs, us, h2, ⟨xs, kvs, dd, pr, rfl, rfl, rfl⟩, rb, rps⟩ := w
        have hv : Vals (kvs.map (·.2)) (xs.map (·.2.2)) := vals_pr pr
        have hl : kvs.length = xs.length := Paired.length pr
        refine ⟨.ref d, h1, d, o', rfl, .inr ⟨xs, _, h2, dd, hv, q _ H .refl ok.row ⟨fun a => a = d, fun i H x H' => ∃ T p v, xs[i]? = some p ∧ (kvs.map (·.2))[i]? = some v ∧ x = .ref T ∧ H T = none ∧ H' = upd H T (.tup [.ref p.2.1, v]), hU, ?_, fun j H2 y H3 Z' hj hle zk hy => ?_⟩⟩⟩
        · rw [zip_len, List.length_map, ← rps.length, List.length_map, Nat.min_self, hl]
          exact walk_itemsX.mono (fun H2 g => by
            rcases h2 with h2 | ⟨ob, h2⟩
            · exact .inl (g d _ rfl h2 rfl)
            · exact .inr ⟨ob, g d _ rfl h2 rfl⟩) (fun _ _ _ _ _ _ y => y)
        · obtain ⟨T, p, v, ep, ev, rfl, hT, e3⟩ := hy
          obtain ⟨dk, e5, rp5⟩ := rb.get' (i := j) (v := .ref p.2.1) (by rw [List.getElem?_map, ep]; rfl)
          obtain ⟨dd', e4, rp3⟩ := rps.get' (i := j) (v := v) ev
          exact ⟨.inr ⟨T, _, hT, e3⟩, _, zip_get _ _ e5 e4, pair_rep (fun a z => let ⟨o, h, _⟩ := zk a z; ⟨o, h⟩) hT e3 (rp5.mono hle) (rp3.mono hle)⟩
    · cases e2
theorem i_K {tg : Expr} {i : Nat} {p0 : Pos} {x : Str} (hi : X.N[i]? = some x) (hv : Vis X.env.scope x) (hd : (x == ("__debug__" : Str)) = false) (hcd : (x == ("__classdict__" : Str)) = false) :
    PI X tg (.Name x p0) fun σ H R => FrzAt i σ H ∧ tEvI aR X.K F (.itK (.var i)) σ H R :=
  PI.imp (pi_keysB (pe_var hi hv hd hcd)) fun σ H R ⟨hf, Z, H0, env, r, ok, l, r', e, q⟩ => by
    obtain ⟨u, r1, e1, e2⟩ := Res.bind_ok e
    obtain ⟨ee, rfl⟩ := Res.of_ok e1
    split at e2
    · rename_i t ks vs
      cases e2
      obtain ⟨d, o, h1, n1, n2, w⟩ := frz_get ok ee hf
      have hU : ∀ z, z = d → z ≠ aR ∧ (¬ Mk Z σ env (al (.itK (.var i))) z ∨ Dv σ env (dvs (.itK (.var i))) z) := fun z hz => by
        subst hz
        exact ⟨n1, .inl n2⟩
      cases t with
      | false =>
        obtain ⟨kvs, h2, rfl, rps⟩ := w
        refine ⟨.ref d, h1, d, o, rfl, .inl ⟨kvs, h2, q _ H .refl ok.row ⟨fun a => a = d, fun i H x H' => H' = H ∧ ∃ k v, kvs[i]? = some (k, v) ∧ x = kV k, hU, ?_, fun j H2 y H3 Z' hj hle zk hy => ?_⟩⟩⟩
        · rw [List.length_map]
          exact walk_keys.mono (fun H2 g => g d _ rfl h2 rfl) (fun _ _ _ _ _ _ y => y)
        · obtain ⟨rfl, k, v, ek, rfl⟩ := hy
          exact ⟨.inl rfl, keyD k, by rw [List.getElem?_map, ek]; rfl, (rep_key k).i⟩
      | true =>
        obtain ⟨o', bs, us, h2, ⟨xs, kvs, dd, pr, rfl, rfl, rfl⟩, rb, rps⟩ := w
        have hv : Vals (kvs.map (·.2)) (xs.map (·.2.2)) := vals_pr pr
        have hl : kvs.length = xs.length := Paired.length pr
        refine ⟨.ref d, h1, d, o', rfl, .inr ⟨xs, _, h2, dd, hv, q _ H .refl ok.row ⟨fun a => a = d, fun i H x H' => H' = H ∧ ∃ p, xs[i]? = some p ∧ x = .ref p.2.1, hU, ?_, fun j H2 y H3 Z' hj hle zk hy => ?_⟩⟩⟩
        · rw [List.length_map, hl]
          exact walk_keysX.mono (fun H2 g => by
            rcases h2 with h2 | ⟨ob, h2⟩
            · exact .inl (g d _ rfl h2 rfl)
            · exact .inr ⟨ob, g d _ rfl h2 rfl⟩) (fun _ _ _ _ _ _ y => y)
        · obtain ⟨rfl, p, ep, rfl⟩ := hy
          obtain ⟨dk, e5, rp5⟩ := rb.get' (i := j) (v := .ref p.2.1) (by rw [List.getElem?_map, ep]; rfl)
          exact ⟨.inl rfl, dk, e5, (rp5.mono hle).i⟩
    · cases e2
end
/-! ### locks -/
def isDc : HO → Prop
  | .dK _ => True
  | .ext φ => lk (.ext φ)
  | _ => False
theorem isDc.mut {u : HO} (h : isDc u) : Mut (some u) := by cases u <;> first | trivial | cases h
theorem isDc.code {u : HO} (h : isDc u) (c : Addr) (q : Str) : u ≠ LamX.CodeO c q := by
  cases u <;> first | (exact lk_code (o := .ext _) h c q) | (intro z; unfold LamX.CodeO at z; cases z)
theorem isDc.nf {u : HO} (h : isDc u) (o : Obj) (w : HO) : u ≠ .frz o w := by
  intro z; subst z; exact h
/-- the same but for a dict that is locked in one of them -/
structure Sm (d : Addr) (u : HO) (od : Obj) (H1 H2 : Hp) : Prop where
  off : ∀ a, a ≠ d → H2 a = H1 a
  dc : isDc u
  at' : (H1 d = some u ∧ H2 d = some (.frz od u)) ∨ (H1 d = some (.frz od u) ∧ H2 d = some u)
section
variable {aR : AR} {K : PySem.W.Frag} {d : Addr} {u : HO} {od : Obj} {H1 H2 : Hp} {Z : Addr → Prop}
theorem Sm.keep (m : Sm d u od H1 H2) {a : Addr} {o : HO} (h : H1 a = some o) (n1 : ¬ isDc o) (n2 : ∀ ob w, isDc w → o ≠ .frz ob w) : H2 a = some o := by
  by_cases c : a = d
  · subst c
    rcases m.at' with ⟨e, _⟩ | ⟨e, _⟩
    · rw [h] at e; cases e; exact absurd m.dc n1
    · rw [h] at e; cases e; exact absurd rfl (n2 _ _ m.dc)
  · rw [m.off a c]; exact h
theorem Sm.rd (m : Sm d u od H1 H2) {a : Addr} {w : HO} (hw : isDc w) (h : Rd H1 a w) : Rd H2 a w := by
  by_cases c : a = d
  · subst c
    rcases m.at' with ⟨e, e2⟩ | ⟨e, e2⟩
    · rcases h with h | ⟨o, h⟩
      · rw [h] at e; cases e; exact .inr ⟨od, e2⟩
      · rw [h] at e; cases e; exact m.dc.elim
    · rcases h with h | ⟨o, h⟩
      · rw [h] at e; cases e; exact hw.elim
      · rw [h] at e; cases e; exact .inl e2
  · rcases h with h | ⟨o, h⟩
    · exact .inl (by rw [m.off a c]; exact h)
    · exact .inr ⟨o, by rw [m.off a c]; exact h⟩
mutual
theorem Rep.sm (m : Sm d u od H1 H2) : ∀ {x : D} {v : V}, Rep aR H1 Z x v → Rep aR H2 Z x v
  | .non, _, h => h
  | .bl _, _, h => h
  | .int _, _, h => h
  | .str _, _, h => h
  | .row, _, h => h
  | .fn _, _, h => h
  | .tup ds, _, h => by
    obtain ⟨a, vs, e, ⟨ot, hd, h1⟩, n, h2⟩ := h
    exact ⟨a, vs, e, ⟨ot, hd, m.keep h1 (fun z => z) (fun _ w hw z => by cases z; exact hw)⟩, n, Reps.sm m h2⟩
  | .lst ds, _, h => by
    obtain ⟨a, vs, e, h1, n, h2⟩ := h
    exact ⟨a, vs, e, m.keep h1 (fun z => z) (fun _ _ _ z => by cases z), n, Reps.sm m h2⟩
  | .dct false ks ds, _, h => by
    obtain ⟨a, kvs, e, h1, n, hk, h2⟩ := h
    exact ⟨a, kvs, e, m.rd trivial h1, n, hk, Reps.sm m h2⟩
  | .dct true ks ds, _, h => by
    obtain ⟨a, o, bs, us, e, h1, n, hk, h3, h2⟩ := h
    exact ⟨a, o, bs, us, e, m.rd (show isDc (exO a o) from hk.lk) h1, n, hk, Reps.sm m h3, Reps.sm m h2⟩
theorem Reps.sm (m : Sm d u od H1 H2) : ∀ {ds : List D} {vs : List V}, Reps aR H1 Z ds vs → Reps aR H2 Z ds vs
  | [], _, h => h
  | _ :: _, _, h => by
    obtain ⟨v, r, e, h1, h2⟩ := h
    exact ⟨v, r, e, Rep.sm m h1, Reps.sm m h2⟩
end
theorem Ow.sm (m : Sm d u od H1 H2) {a : Addr} (n : a ≠ d) : ∀ {x : D}, Ow aR H1 Z a x → Ow aR H2 Z a x
  | .lst _, ⟨vs, h1, h2⟩ => ⟨vs, by rw [m.off a n]; exact h1, h2.sm m⟩
  | .dct false _ _, ⟨kvs, h1, hk, h2⟩ => ⟨kvs, by rw [m.off a n]; exact h1, hk, h2.sm m⟩
  | .dct true _ _, ⟨o, bs, us, h1, hk, h3, h2⟩ => ⟨o, bs, us, by rw [m.off a n]; exact h1, hk, h3.sm m, h2.sm m⟩
theorem RowOk.sm {r : Row} (m : Sm d u od H1 H2) (h : RowOk aR K H1 r) : RowOk aR K H2 r := by
  obtain ⟨a, h1, h2, h3, h4, h5⟩ := h
  refine ⟨a, m.keep h1 (fun z => z) (fun _ _ _ z => by cases z), ?_, h3, fun p hp => ?_, fun b eb => ?_⟩
  rotate_left
  rotate_left
  · by_cases c : b = d
    · subst c
      have dn : nt u = true := by
        have := m.dc
        cases u <;> first | rfl | exact this.elim
      rcases m.at' with ⟨_, e2⟩ | ⟨_, e2⟩
      · exact ⟨_, e2, rfl⟩
      · exact ⟨_, e2, dn⟩
    · rw [m.off b c]; exact h5 b eb
  · rcases h2 with (⟨o', h2⟩ | hk) | ⟨es, h2⟩
    · exact .inl (.inl ⟨o', m.keep h2 (fun z => z) (fun ob w hw z => by cases z; exact hw)⟩)
    · exact .inl (.inr hk)
    · exact .inr ⟨es, m.keep h2 (fun z => z) (fun _ _ _ z => by cases z)⟩
  · obtain ⟨ps, a1, a2, a3⟩ := h4 p hp
    refine ⟨ps, m.keep a1 (fun z => z) (fun _ _ _ z => by cases z), a2, fun pos cv hc => ?_⟩
    obtain ⟨c, e1, e2⟩ := a3 pos cv hc
    exact ⟨c, e1, m.keep e2 (fun z => z.code c p.2 rfl) (fun _ _ _ z => by unfold LamX.CodeO at z; cases z)⟩
theorem Ok.sm {H0 H02 : Hp} {σ : L2.St} {env : Env} {r : Row} (ok : Ok aR K Z H0 σ H1 env r) (m : Sm d u od H1 H2) (nd : ¬ Mk Z σ env [] d) (x : Ext aR H02 H2) (n : ∀ a, a ≠ d → Fr0 H0 a → Fr0 H02 a) (sc : ∀ a, aR.sc = some a → ∃ o, H02 a = some o ∧ nt o = true) : Ok aR K Z H02 σ H2 env r := by
  refine ⟨ok.len, ok.row.sm m, ok.zr, fun a z => ?_, fun i e h => ?_, fun i e h => ?_, ok.dis, x, sc⟩
  · obtain ⟨o, h, l⟩ := ok.zk a z
    exact ⟨o, by rw [m.off a (fun c => nd (.inl (c ▸ z)))]; exact h, l⟩
  · obtain ⟨v, h1, h2⟩ := ok.fz i e h
    exact ⟨v, h1, h2.sm m⟩
  · obtain ⟨a, h1, h2, h3, h4⟩ := ok.ow i e h
    have ne : a ≠ d := fun c => nd (.inr ⟨i, e, h, by rw [← c]; exact h1, by simp⟩)
    exact ⟨a, h1, h2, n a ne h3, h4.sm m ne⟩
end
theorem frz1_idem (s : Sl) : frz1 (frz1 s) = frz1 s := by cases s <;> rfl
theorem frz_frz (env : Env) : ∀ fz : List Nat, frz (frz env fz) fz = frz env fz := by
  have at1 : ∀ (l : List Nat) (e : Env) (j : Nat), (frz e l)[j]? = (e[j]?).map fun s => if j ∈ l then frz1 s else s := by
    intro l
    induction l with
    | nil => intro e j; simp [frz]
    | cons i l ih =>
      intro e j
      show (frz (e.modify i frz1) l)[j]? = _
      rw [ih, List.getElem?_modify]
      cases e[j]? with
      | none => rfl
      | some s =>
        by_cases c : i = j
        · subst c
          by_cases c2 : i ∈ l <;> simp [c2, frz1_idem]
        · by_cases c2 : j ∈ l <;> simp [c, c2, Ne.symm c]
  intro fz
  refine List.ext_getElem? fun j => ?_
  rw [at1, at1]
  cases env[j]? with
  | none => rfl
  | some s => by_cases c : j ∈ fz <;> simp [c, frz1_idem]
section
variable {X : Cx} {aR : AR} {F : Fns} {st : Stmt} {s : IS}
/-- under a lock, where there is none yet -/
theorem s_lock {fz tg : List Nat} {sole : Bool} {it : IE} {i : Nat} (hit : it = .itI (.var i) ∨ it = .itK (.var i)) (f2 : i ∈ fz)
    (h : PS X st fun E σ H => FrzAt i σ H ∧ tEvS aR X.K F (EX X) (.for_ fz tg sole it s) E σ H) : PS X st (tEvS aR X.K F (EX X) (.for_ fz tg sole it s)) :=
  ⟨fun pins s0 σ H E I h0 => (PS.or h (ps_lock h)).run pins s0 σ H E I <| by
    obtain ⟨Z, H0, env, r, ok, f, r', e, q⟩ := h0
    have okf := ok.frz fz
    obtain ⟨x, r1, e1, e2⟩ := Res.bind_ok e
    obtain ⟨t, ks, vs, ed, rfl⟩ : ∃ t ks vs, rd (frz env fz) i = some (.dct t ks vs) ∧ r = r1 := by
      rcases hit with rfl | rfl
      · obtain ⟨y, r2, e3, e4⟩ := Res.bind_ok e1
        obtain ⟨e5, rfl⟩ := Res.of_ok e3
        split at e4
        · cases e4; exact ⟨_, _, _, e5, rfl⟩
        · cases e4
      · obtain ⟨y, r2, e3, e4⟩ := Res.bind_ok e1
        obtain ⟨e5, rfl⟩ := Res.of_ok e3
        split at e4
        · cases e4; exact ⟨_, _, _, e5, rfl⟩
        · cases e4
    have no : noOwn (frz env fz) fz = true := by
      split at e2
      · split at e2
        · assumption
        · cases e2
      · cases e2
    obtain ⟨d, h1, w⟩ := frz_dct okf ed
    have w2 : ∃ u, isDc u ∧ Rd H d u ∧ ¬ Mk Z σ (frz env fz) [] d := by
      rcases w with ⟨_, w⟩ | ⟨z, _⟩
      · cases t with
        | false => obtain ⟨b, kvs, e3, h3, n, _⟩ := w; cases e3; exact ⟨.dK kvs, trivial, h3, n⟩
        | true => obtain ⟨b, ob, bs, us, e3, h3, n, hk, _⟩ := w; cases e3; exact ⟨exO d ob, hk.lk, h3, n⟩
      · exact absurd z (fun z => noOwn_at no f2 z)
    obtain ⟨u, dc, rd, nd⟩ := w2
    rcases rd with hd | ⟨o, hd⟩
    · right
      refine ⟨d, u, hd, dc.mut, fun od => ⟨⟨d, od, u, h1, upd_same⟩, ?_⟩⟩
      have ndR : d ≠ aR := fun z => nd (by rw [z]; exact okf.mr)
      have m : Sm d u od H (upd H d (.frz od u)) := ⟨fun a n => upd_ne n, dc, .inl ⟨hd, upd_same⟩⟩
      have x0 : Ext aR (upd H0 d (.frz od u)) (upd H d (.frz od u)) := ⟨fun a o n ea t => by
        by_cases c : a = d
        · subst c; rw [upd_same] at ea ⊢; exact ea
        · rw [upd_ne c] at ea ⊢; exact ok.ext a o n ea t, fun a f => by
        by_cases c : a = d
        · subst c; exact absurd (f _ upd_same) (by intro z; cases z)
        · intro o e
          rw [upd_ne c] at e
          exact ok.ext.dom a (fun o e => f o (by rw [upd_ne c]; exact e)) o e⟩
      have sc0 : ∀ a, aR.sc = some a → ∃ o, upd H0 d (.frz od u) a = some o ∧ nt o = true := fun a ha => by
        by_cases c : a = d
        · subst c; exact ⟨_, upd_same, rfl⟩
        · rw [upd_ne c]; exact ok.sc a ha
      have okl := okf.sm m nd x0 (fun a n h o e => by rw [upd_ne n] at e; exact h o e) sc0
      have extB : ∀ {H' : Hp}, Ext aR (upd H0 d (.frz od u)) H' → Ext aR H0 (upd H' d u) := fun {H'} x' => ⟨fun a o n ea t => by
        by_cases c : a = d
        · subst c
          have := ok.ext a o n ea t
          rw [hd] at this; cases this
          exact upd_same
        · rw [upd_ne c]
          exact x' a o n (by rw [upd_ne c]; exact ea) t, fun a f o e => by
        by_cases c : a = d
        · subst c
          cases hn : nt o with
          | false => rfl
          | true =>
            have e2 := ok.ext
            exact absurd (f u upd_same) (by have := dc; cases u <;> first | (intro z; cases z; done) | exact this.elim)
        · have := x'.dom a (fun o e => f o (by rw [upd_ne c]; exact e)) o (by rw [upd_ne c]; exact e)
          exact this⟩
      -- back from the lock
      have back : ∀ {env' : Env} {rr : Row} {σ' : L2.St} {H' : Hp}, Ok aR X.K Z (upd H0 d (.frz od u)) σ' H' env' rr → Le (upd H d (.frz od u)) (Mk Z σ (frz env fz) []) H' (Mk Z σ' env' []) →
          H' d = some (.frz od u) ∧ Ok aR X.K Z H0 σ' (upd H' d u) env' rr ∧ Le H (Mk Z σ env []) (upd H' d u) (Mk Z σ' env' []) := fun {env' rr σ' H'} ok' le' => by
        obtain ⟨k1, k2⟩ := le' d _ upd_same rfl nd
        have m' : Sm d u od H' (upd H' d u) := ⟨fun a n => upd_ne n, dc, .inr ⟨k1, upd_same⟩⟩
        refine ⟨k1, ok'.sm m' k2 (extB ok'.ext) (fun a n h o e => h o (by rw [upd_ne n]; exact e)) ok.sc, fun a o ea t n => ?_⟩
        · by_cases c : a = d
          · subst c
            rw [hd] at ea; cases ea
            exact ⟨upd_same, k2⟩
          · obtain ⟨g1, g2⟩ := le' a o (by rw [upd_ne c]; exact ea) t (fun z => n (mk_frz0 fz z))
            exact ⟨by rw [upd_ne c]; exact g1, g2⟩
      have ee : evS F (.for_ fz tg sole it s) (frz env fz) r = .ok f r' := by
        rw [← e]
        show (ev F it (frz (frz env fz) fz) r).bind _ = (ev F it (frz env fz) r).bind _
        rw [frz_frz]
      refine evS_to okl ee ?_
      cases f with
      | nx env' => exact fun σ' H' ok' le' => let ⟨a, b, c⟩ := back ok' le'; ⟨a, q σ' _ b c⟩
      | bk env' => exact fun σ' H' ok' le' => let ⟨a, b, c⟩ := back ok' le'; ⟨a, q σ' _ b c⟩
      | ct env' => exact fun σ' H' ok' le' => let ⟨a, b, c⟩ := back ok' le'; ⟨a, q σ' _ b c⟩
      | rt dd =>
        intro v H' x' ro' rp'
        have k1 : H' d = some (.frz od u) := x' d _ ndR upd_same rfl
        have m' : Sm d u od H' (upd H' d u) := ⟨fun a n => upd_ne n, dc, .inr ⟨k1, upd_same⟩⟩
        exact ⟨k1, q v _ (extB x') (ro'.sm m') (rp'.sm m')⟩
      | rs ex =>
        intro cls dd H' x' ro' ⟨C, fo, c1, c2, c3⟩
        have k1 : H' d = some (.frz od u) := x' d _ ndR upd_same rfl
        have m' : Sm d u od H' (upd H' d u) := ⟨fun a n => upd_ne n, dc, .inr ⟨k1, upd_same⟩⟩
        refine ⟨fun cls dd H => H d = some (.frz od u) ∧ EX X cls dd (upd H d u), fun u0 s' ⟨a, B, sI, pins, σ, H, cls, dd, e, I2, nb, up, sky, na, os, ag, w1, w2⟩ => takes_EX u0 s' ⟨a, B, sI, pins, σ, upd H d u, cls, dd, e, I2.unlock w1 (I.nofrz hd dc.mut), nb, up, sky, ?_, os, ag, w2⟩, k1, q cls dd _ (extB x') (ro'.sm m') ⟨C, fo, c1, c2, ?_⟩⟩
        · rw [upd_ne (fun z => by rw [z, w1] at na; cases na)]; exact na
        · cases fo with
          | none => exact c3
          | some f =>
            obtain ⟨dd, v, g1, g2, g3⟩ := c3
            exact ⟨dd, v, g1, by rw [upd_ne (fun z => by rw [z, k1] at g2; cases g2)]; exact g2, g3⟩
    · exact .inl ⟨⟨d, o, u, h1, hd⟩, Z, H0, env, r, ok, f, r', e, q⟩⟩
end
end Wl
/-! Data compared: min, max, sorted. Items written in place by an operator. -/
namespace Wl
open PySem PySem.Spec PyProof.Rows L2
open PySem.W (alike alikeAll keyToks keyToksAll dataLt dataLt_int dataLt_tuple dataLt_list dataLt_all_yes dataLt_all_no lex_atom lex_one SortsAt AllAlike Sortable sortVals AlikeAll EachIs)

/-! ### the order of data -/
mutual
theorem alk_py : ∀ x y : D, D.alk x y = true → alike (toPy x) (toPy y) = true
  | .int _, .int _, _ => by simp [toPy, alike]
  | .tup a, .tup b, h => by simp only [toPy, alike]; exact alks_py a b (by simpa [D.alk] using h)
  | .lst a, .lst b, h => by simp only [toPy, alike]; exact alks_py a b (by simpa [D.alk] using h)
  | .int _, .non, h => by simp [D.alk] at h
  | .int _, .bl _, h => by simp [D.alk] at h
  | .int _, .str _, h => by simp [D.alk] at h
  | .int _, .tup _, h => by simp [D.alk] at h
  | .int _, .lst _, h => by simp [D.alk] at h
  | .int _, .dct _ _ _, h => by simp [D.alk] at h
  | .int _, .row, h => by simp [D.alk] at h
  | .int _, .fn _, h => by simp [D.alk] at h
  | .tup _, .non, h => by simp [D.alk] at h
  | .tup _, .bl _, h => by simp [D.alk] at h
  | .tup _, .str _, h => by simp [D.alk] at h
  | .tup _, .int _, h => by simp [D.alk] at h
  | .tup _, .lst _, h => by simp [D.alk] at h
  | .tup _, .dct _ _ _, h => by simp [D.alk] at h
  | .tup _, .row, h => by simp [D.alk] at h
  | .tup _, .fn _, h => by simp [D.alk] at h
  | .lst _, .non, h => by simp [D.alk] at h
  | .lst _, .bl _, h => by simp [D.alk] at h
  | .lst _, .str _, h => by simp [D.alk] at h
  | .lst _, .int _, h => by simp [D.alk] at h
  | .lst _, .tup _, h => by simp [D.alk] at h
  | .lst _, .dct _ _ _, h => by simp [D.alk] at h
  | .lst _, .row, h => by simp [D.alk] at h
  | .lst _, .fn _, h => by simp [D.alk] at h
  | .non, _, h => by simp [D.alk] at h
  | .bl _, _, h => by simp [D.alk] at h
  | .str _, _, h => by simp [D.alk] at h
  | .dct _ _ _, _, h => by simp [D.alk] at h
  | .row, _, h => by simp [D.alk] at h
  | .fn _, _, h => by simp [D.alk] at h
theorem alks_py : ∀ x y : List D, D.alks x y = true → alikeAll (toPys x) (toPys y) = true
  | [], _, _ => by simp [toPys, alikeAll]
  | _ :: _, [], _ => by simp [toPys, alikeAll]
  | x :: xs, y :: ys, h => by
    simp only [D.alks, Bool.and_eq_true] at h
    simp only [toPys, alikeAll, Bool.and_eq_true]
    exact ⟨alk_py x y h.1, alks_py xs ys h.2⟩
end
abbrev tk (d : D) : List (Int ⊕ List Nat) := keyToks (toPy d)
abbrev OO := listOrd itemOrd
theorem shs_mem : ∀ {l : List D} {n : Nat}, D.shs n l = true → ∀ d ∈ l, D.sh n d = true
  | _ :: l, n, h, d, hd => by
    simp only [D.shs, Bool.and_eq_true] at h
    rcases List.mem_cons.mp hd with rfl | hd
    · exact h.1
    · exact shs_mem h.2 d hd
theorem pis_mem : ∀ {l : List D}, D.pis l = true → ∀ d ∈ l, D.pi d = true
  | _ :: l, h, d, hd => by
    simp only [D.pis, Bool.and_eq_true] at h
    rcases List.mem_cons.mp hd with rfl | hd
    · exact h.1
    · exact pis_mem h.2 d hd
mutual
theorem lt_py : ∀ (x y : D) (n m : Nat), D.alk x y = true → D.sh n x = true → D.sh m y = true → D.lt x y = dataLt (toPy x) (toPy y)
  | .int i, .int j, _, _, _, _, _ => by simp only [toPy, D.lt]; rw [dataLt_int]
  | .tup a, .tup b, n, m, h, hx, hy => by
    cases n with
    | zero => simp [D.sh] at hx
    | succ n => cases m with
      | zero => simp [D.sh] at hy
      | succ m => simp only [toPy, D.lt]; rw [dataLt_tuple]; exact lts_py a b n m (by simpa [D.alk] using h) (by simpa [D.sh] using hx) (by simpa [D.sh] using hy)
  | .lst a, .lst b, n, m, h, hx, hy => by
    cases n with
    | zero => simp [D.sh] at hx
    | succ n => cases m with
      | zero => simp [D.sh] at hy
      | succ m => simp only [toPy, D.lt]; rw [dataLt_list]; exact lts_py a b n m (by simpa [D.alk] using h) (by simpa [D.sh] using hx) (by simpa [D.sh] using hy)
  | .int _, .non, _, _, h, _, _ => by simp [D.alk] at h
  | .int _, .bl _, _, _, h, _, _ => by simp [D.alk] at h
  | .int _, .str _, _, _, h, _, _ => by simp [D.alk] at h
  | .int _, .tup _, _, _, h, _, _ => by simp [D.alk] at h
  | .int _, .lst _, _, _, h, _, _ => by simp [D.alk] at h
  | .int _, .dct _ _ _, _, _, h, _, _ => by simp [D.alk] at h
  | .int _, .row, _, _, h, _, _ => by simp [D.alk] at h
  | .int _, .fn _, _, _, h, _, _ => by simp [D.alk] at h
  | .tup _, .non, _, _, h, _, _ => by simp [D.alk] at h
  | .tup _, .bl _, _, _, h, _, _ => by simp [D.alk] at h
  | .tup _, .str _, _, _, h, _, _ => by simp [D.alk] at h
  | .tup _, .int _, _, _, h, _, _ => by simp [D.alk] at h
  | .tup _, .lst _, _, _, h, _, _ => by simp [D.alk] at h
  | .tup _, .dct _ _ _, _, _, h, _, _ => by simp [D.alk] at h
  | .tup _, .row, _, _, h, _, _ => by simp [D.alk] at h
  | .tup _, .fn _, _, _, h, _, _ => by simp [D.alk] at h
  | .lst _, .non, _, _, h, _, _ => by simp [D.alk] at h
  | .lst _, .bl _, _, _, h, _, _ => by simp [D.alk] at h
  | .lst _, .str _, _, _, h, _, _ => by simp [D.alk] at h
  | .lst _, .int _, _, _, h, _, _ => by simp [D.alk] at h
  | .lst _, .tup _, _, _, h, _, _ => by simp [D.alk] at h
  | .lst _, .dct _ _ _, _, _, h, _, _ => by simp [D.alk] at h
  | .lst _, .row, _, _, h, _, _ => by simp [D.alk] at h
  | .lst _, .fn _, _, _, h, _, _ => by simp [D.alk] at h
  | .non, _, _, _, h, _, _ => by simp [D.alk] at h
  | .bl _, _, _, _, h, _, _ => by simp [D.alk] at h
  | .str _, _, _, _, h, _, _ => by simp [D.alk] at h
  | .dct _ _ _, _, _, _, h, _, _ => by simp [D.alk] at h
  | .row, _, _, _, h, _, _ => by simp [D.alk] at h
  | .fn _, _, _, _, h, _, _ => by simp [D.alk] at h
theorem lts_py : ∀ (x y : List D) (n m : Nat), D.alks x y = true → D.shs n x = true → D.shs m y = true → D.lts x y = PyProof.Rows.lexLt itemOrd (keyToksAll (toPys x)) (keyToksAll (toPys y))
  | [], [], _, _, _, _, _ => by simp only [toPys, D.lts]; exact ((listOrd itemOrd).irrefl (keyToksAll [])).symm
  | [], y :: ys, _, _, _, _, _ => by
    simp only [toPys, D.lts, keyToksAll]
    rw [lex_atom (by decide), lex_one]
    decide
  | x :: xs, [], _, _, _, _, _ => by
    simp only [toPys, D.lts, keyToksAll]
    rw [lex_atom (by decide), lex_one]
    decide
  | x :: xs, y :: ys, n, m, h, hx, hy => by
    simp only [D.alks, Bool.and_eq_true] at h
    simp only [D.shs, Bool.and_eq_true] at hx hy
    have ap := alk_py x y h.1
    have bp := beq_py x y n m hx.1 hy.1
    simp only [toPys, D.lts]
    cases e : D.beq x y with
    | true =>
      rw [if_pos rfl, dataLt_all_yes ap (by rw [bp, e])]
      exact lts_py xs ys n m h.2 hx.2 hy.2
    | false =>
      rw [if_neg (by decide), dataLt_all_no ap (by rw [bp, e])]
      exact lt_py x y n m h.1 hx.1 hy.1
end
mutual
theorem tk_inj : ∀ (x y : D) (l m : List (Int ⊕ List Nat)), D.alk x y = true → keyToks (toPy x) ++ l = keyToks (toPy y) ++ m → x = y ∧ l = m
  | .int i, .int j, l, m, _, e => by
    simp only [toPy, keyToks, List.cons_append, List.nil_append, List.cons.injEq, Sum.inl.injEq] at e
    exact ⟨by rw [e.1], e.2⟩
  | .tup a, .tup b, l, m, h, e => by
    simp only [toPy, keyToks] at e
    obtain ⟨e1, e2⟩ := tks_inj a b l m (by simpa [D.alk] using h) e
    exact ⟨by rw [e1], e2⟩
  | .lst a, .lst b, l, m, h, e => by
    simp only [toPy, keyToks] at e
    obtain ⟨e1, e2⟩ := tks_inj a b l m (by simpa [D.alk] using h) e
    exact ⟨by rw [e1], e2⟩
  | .int _, .non, _, _, h, _ => by simp [D.alk] at h
  | .int _, .bl _, _, _, h, _ => by simp [D.alk] at h
  | .int _, .str _, _, _, h, _ => by simp [D.alk] at h
  | .int _, .tup _, _, _, h, _ => by simp [D.alk] at h
  | .int _, .lst _, _, _, h, _ => by simp [D.alk] at h
  | .int _, .dct _ _ _, _, _, h, _ => by simp [D.alk] at h
  | .int _, .row, _, _, h, _ => by simp [D.alk] at h
  | .int _, .fn _, _, _, h, _ => by simp [D.alk] at h
  | .tup _, .non, _, _, h, _ => by simp [D.alk] at h
  | .tup _, .bl _, _, _, h, _ => by simp [D.alk] at h
  | .tup _, .str _, _, _, h, _ => by simp [D.alk] at h
  | .tup _, .int _, _, _, h, _ => by simp [D.alk] at h
  | .tup _, .lst _, _, _, h, _ => by simp [D.alk] at h
  | .tup _, .dct _ _ _, _, _, h, _ => by simp [D.alk] at h
  | .tup _, .row, _, _, h, _ => by simp [D.alk] at h
  | .tup _, .fn _, _, _, h, _ => by simp [D.alk] at h
  | .lst _, .non, _, _, h, _ => by simp [D.alk] at h
  | .lst _, .bl _, _, _, h, _ => by simp [D.alk] at h
  | .lst _, .str _, _, _, h, _ => by simp [D.alk] at h
  | .lst _, .int _, _, _, h, _ => by simp [D.alk] at h
  | .lst _, .tup _, _, _, h, _ => by simp [D.alk] at h
  | .lst _, .dct _ _ _, _, _, h, _ => by simp [D.alk] at h
  | .lst _, .row, _, _, h, _ => by simp [D.alk] at h
  | .lst _, .fn _, _, _, h, _ => by simp [D.alk] at h
  | .non, _, _, _, h, _ => by simp [D.alk] at h
  | .bl _, _, _, _, h, _ => by simp [D.alk] at h
  | .str _, _, _, _, h, _ => by simp [D.alk] at h
  | .dct _ _ _, _, _, _, h, _ => by simp [D.alk] at h
  | .row, _, _, _, h, _ => by simp [D.alk] at h
  | .fn _, _, _, _, h, _ => by simp [D.alk] at h
theorem tks_inj : ∀ (x y : List D) (l m : List (Int ⊕ List Nat)), D.alks x y = true → keyToksAll (toPys x) ++ l = keyToksAll (toPys y) ++ m → x = y ∧ l = m
  | [], [], l, m, _, e => by
    simp only [toPys, keyToksAll, List.cons_append, List.nil_append, List.cons.injEq] at e
    exact ⟨rfl, e.2⟩
  | [], y :: ys, l, m, _, e => by
    simp [toPys, keyToksAll] at e
  | x :: xs, [], l, m, _, e => by
    simp [toPys, keyToksAll] at e
  | x :: xs, y :: ys, l, m, h, e => by
    simp only [D.alks, Bool.and_eq_true] at h
    simp only [toPys, keyToksAll, List.cons_append, List.cons.injEq, true_and, List.append_assoc] at e
    obtain ⟨e1, e2⟩ := tk_inj x y _ _ h.1 e
    obtain ⟨e3, e4⟩ := tks_inj xs ys _ _ h.2 e2
    exact ⟨by rw [e1, e3], e4⟩
end
/-- the data of a list: all alike -/
structure Dat (l : List D) : Prop where
  sh : ∀ d ∈ l, D.sh 31 d = true
  shs : D.shs 31 l = true
  pi : ∀ d ∈ l, D.pi d = true
  alk : ∀ x ∈ l, ∀ y ∈ l, D.alk x y = true
theorem dat_of {l : List D} (h : datOk l = true) : Dat l := by
  unfold datOk at h
  simp only [Bool.and_eq_true] at h
  exact ⟨shs_mem h.1.2, h.1.2, pis_mem h.1.1, fun x hx y hy => List.all_eq_true.mp (List.all_eq_true.mp h.2 x hx) y hy⟩
theorem Dat.lt {l : List D} (h : Dat l) {x y : D} (hx : x ∈ l) (hy : y ∈ l) : D.lt x y = OO.blt (tk x) (tk y) := lt_py x y 31 31 (h.alk x hx y hy) (h.sh x hx) (h.sh y hy)
theorem Dat.eq {l : List D} (h : Dat l) {x y : D} (hx : x ∈ l) (hy : y ∈ l) (h1 : D.lt x y = false) (h2 : D.lt y x = false) : x = y := by
  rw [h.lt hx hy] at h1
  rw [h.lt hy hx] at h2
  have e := OO.total _ _ h1 h2
  have e : tk x ++ [] = tk y ++ [] := by rw [e]
  exact (tk_inj x y [] [] (h.alk x hx y hy) e).1
theorem insDD_perm (x : D) : ∀ l, (insDD x l).Perm (x :: l)
  | [] => .refl _
  | y :: r => by
    unfold insDD
    split
    · exact ((insDD_perm x r).cons y).trans (.swap x y r)
    · exact .refl _
theorem sortDD_perm : ∀ l, (sortDD l).Perm l
  | [] => .refl _
  | x :: r => (insDD_perm x _).trans ((sortDD_perm r).cons x)
def LeD (a b : D) : Prop := D.lt b a = false
theorem insDD_pw {l0 : List D} (h : Dat l0) {x : D} (hx : x ∈ l0) : ∀ l : List D, (∀ y ∈ l, y ∈ l0) → l.Pairwise LeD → (insDD x l).Pairwise LeD
  | [], _, _ => by simp [insDD]
  | y :: r, hs, hp => by
    have hy := hs y List.mem_cons_self
    have hp0 := hp
    rw [List.pairwise_cons] at hp
    unfold insDD
    split
    · rename_i c
      rw [List.pairwise_cons]
      refine ⟨fun z hz => ?_, insDD_pw h hx r (fun z hz => hs z (List.mem_cons_of_mem _ hz)) hp.2⟩
      rcases List.mem_cons.mp ((insDD_perm x r).mem_iff.mp hz) with rfl | hz
      · unfold LeD
        rw [h.lt hy hx] at c
        rw [h.lt hx hy]
        exact KeyOrd.klt_asymm c
      · exact hp.1 z hz
    · rename_i c
      have c : D.lt y x = false := by simpa using c
      rw [List.pairwise_cons]
      refine ⟨fun z hz => ?_, hp0⟩
      rcases List.mem_cons.mp hz with rfl | hz
      · exact c
      · have hz0 := hs z (List.mem_cons_of_mem _ hz)
        have k := hp.1 z hz
        unfold LeD at k ⊢
        rw [h.lt hz0 hy] at k
        rw [h.lt hy hx] at c
        rw [h.lt hz0 hx]
        exact KeyOrd.kle_trans (O := OO) c k
theorem sortDD_pw {l0 : List D} (h : Dat l0) : ∀ l : List D, (∀ y ∈ l, y ∈ l0) → (sortDD l).Pairwise LeD
  | [], _ => .nil
  | x :: r, hs => insDD_pw h (hs x List.mem_cons_self) _ (fun y hy => hs y (List.mem_cons_of_mem _ ((sortDD_perm r).mem_iff.mp hy))) (sortDD_pw h r fun y hy => hs y (List.mem_cons_of_mem _ hy))
theorem pw_uniq {l0 : List D} (h : Dat l0) : ∀ {a b : List D}, a.Perm b → (∀ y ∈ a, y ∈ l0) → a.Pairwise LeD → b.Pairwise LeD → a = b
  | [], b, p, _, _, _ => by rw [p.symm.eq_nil]
  | x :: a, [], p, _, _, _ => by have := p.eq_nil; cases this
  | x :: a, y :: b, p, hs, h1, h2 => by
    rw [List.pairwise_cons] at h1 h2
    have e : x = y := by
      have hx := hs x List.mem_cons_self
      have hy := hs y (p.mem_iff.mpr List.mem_cons_self)
      rcases List.mem_cons.mp (p.mem_iff.mp (List.mem_cons_self (a := x))) with e | e
      · exact e
      · rcases List.mem_cons.mp (p.mem_iff.mpr (List.mem_cons_self (a := y))) with e2 | e2
        · exact e2.symm
        · exact h.eq hx hy (h2.1 x e) (h1.1 y e2)
    subst e
    rw [pw_uniq h ((List.perm_cons x).mp p) (fun z hz => hs z (List.mem_cons_of_mem _ hz)) h1.2 h2.2]
end Wl
/-! min, max, sorted of data. -/
namespace Wl
open PySem PySem.Spec PyProof.Rows L2
open PySem.W (alike alikeAll keyToks keyToksAll dataLt AllAlike Sortable AlikeAll EachIs minD maxD dataLe)

theorem toPys_map : ∀ l : List D, toPys l = l.map toPy
  | [] => rfl
  | d :: l => by rw [toPys, toPys_map l]; rfl
theorem dat_alike {l : List D} (h : Dat l) : AlikeAll (toPys l) := by
  rw [toPys_map]
  constructor
  · intro x hx y hy
    obtain ⟨a, ha, rfl⟩ := List.mem_map.mp hx
    obtain ⟨b, hb, rfl⟩ := List.mem_map.mp hy
    exact alk_py a b (h.alk a ha b hb)
  · intro x hx z
    obtain ⟨a, ha, rfl⟩ := List.mem_map.mp hx
    have := h.pi a ha
    cases a <;> simp [toPy] at z <;> simp [D.pi] at this
theorem min_py {l0 : List D} (h : Dat l0) : ∀ (l : List D) (a : D), a ∈ l0 → (∀ y ∈ l, y ∈ l0) → (l.foldl (fun a y => if D.lt y a then y else a) a) ∈ l0 ∧ toPy (l.foldl (fun a y => if D.lt y a then y else a) a) = minD (toPy a) (toPys l)
  | [], a, ha, _ => ⟨ha, rfl⟩
  | y :: l, a, ha, hs => by
    have hy := hs y List.mem_cons_self
    have e := lt_py y a 31 31 (h.alk y hy a ha) (h.sh y hy) (h.sh a ha)
    rw [List.foldl_cons]
    obtain ⟨h1, h2⟩ := min_py h l (if D.lt y a then y else a) (by split <;> assumption) fun z hz => hs z (List.mem_cons_of_mem _ hz)
    refine ⟨h1, h2.trans ?_⟩
    unfold minD
    rw [toPys, List.foldl_cons, ← e]
    congr 1
    split <;> rfl
theorem max_py {l0 : List D} (h : Dat l0) : ∀ (l : List D) (a : D), a ∈ l0 → (∀ y ∈ l, y ∈ l0) → (l.foldl (fun a y => if D.lt a y then y else a) a) ∈ l0 ∧ toPy (l.foldl (fun a y => if D.lt a y then y else a) a) = maxD (toPy a) (toPys l)
  | [], a, ha, _ => ⟨ha, rfl⟩
  | y :: l, a, ha, hs => by
    have hy := hs y List.mem_cons_self
    have e := lt_py a y 31 31 (h.alk a ha y hy) (h.sh a ha) (h.sh y hy)
    rw [List.foldl_cons]
    obtain ⟨h1, h2⟩ := max_py h l (if D.lt a y then y else a) (by split <;> assumption) fun z hz => hs z (List.mem_cons_of_mem _ hz)
    refine ⟨h1, h2.trans ?_⟩
    unfold maxD
    rw [toPys, List.foldl_cons, ← e]
    congr 1
    split <;> rfl
theorem py_inj {l0 : List D} (h : Dat l0) {a b : D} (ha : a ∈ l0) (hb : b ∈ l0) (e : toPy a = toPy b) : a = b := (tk_inj a b [] [] (h.alk a ha b hb) (by rw [e])).1
/-- the first of the least (greatest) -/
def rBest (K : PySem.W.Frag) (g : List D → Option D) : List V → Hp → VK → Prop := fun vs H Q => ∃ a us l, vs = [V.ref a] ∧ (SqL K H a us ∨ SqT K H a us) ∧ DpAll K H us (toPys l) ∧ Dat l ∧ l ≠ [] ∧ ∀ (i : Nat) (d : D) (u : V), l[i]? = some d → us[i]? = some u → g l = some d → Q u H
section
variable {X : Cx} {aR : AR}
theorem dpall_len {K : PySem.W.Frag} {H : Hp} : ∀ {us : List V} {ds : List PyData}, DpAll K H us ds → us.length = ds.length
  | _, _, .nil => rfl
  | _, _, .cons _ h => by rw [List.length_cons, List.length_cons, dpall_len h]
theorem best_at {l : List D} {m : D} {us : List V} {its : List Value} {h h' : Heap} {as bs : List Addr} {i : Nat} {v : Value} (hd : Dat l) (hm : m ∈ l) (rv : Vals us its) (hl : us.length = (toPys l).length) (hr : ReadsAll h its (toPys l) as) (hk : ∀ b o, h.get? b = some o → h'.get? b = some o) (hv : its.toArray[i]? = some v) (rd : Reads h' v (toPy m) bs) :
    ∃ u, us[i]? = some u ∧ RelV u v ∧ l[i]? = some m := by
  have hv : its[i]? = some v := by simpa using hv
  have hi : i < its.length := (List.getElem?_eq_some_iff.mp hv).1
  have len := rv.length
  have hi2 : i < l.length := by rw [toPys_map, List.length_map] at hl; omega
  obtain ⟨cs, r1, _, _, _⟩ := PySem.W.readsAll_at hr i v hv
  have e : (toPys l).getD i .none = toPy l[i] := by
    rw [toPys_map, List.getD_eq_getElem?_getD, List.getElem?_map, List.getElem?_eq_getElem hi2]; rfl
  rw [e] at r1
  have e2 := PySem.W.alike_unique _ _ _ _ _ (alk_py _ _ (hd.alk _ (List.getElem_mem hi2) _ hm)) (PySem.W.reads_keeps hk r1) rd
  have e3 := py_inj hd (List.getElem_mem hi2) hm e2
  have hu : us[i]? = some us[i] := List.getElem?_eq_getElem (by omega)
  obtain ⟨w, e4, rw'⟩ := rv.get hu
  rw [hv] at e4
  cases e4
  exact ⟨us[i], hu, rw', by rw [List.getElem?_eq_getElem hi2, e3]⟩
theorem dat_depth {l : List D} (h : Dat l) : PyData.depthAll (toPys l) ≤ 31 := (shs_can 31 l h.shs).2
theorem cr_minDat (hc : X.calm = true) (hu : X.A.units + 65 < cLine) : CallR X (.builtin "min") (rBest X.K minDs) := by
  intro pins s σ H vs us' Q I r h
  obtain ⟨a, us, l, rfl, hs, hdp, hd, hne, q⟩ := h
  rw [Vals.ref1 r]
  have dep := dat_depth hd
  cases l with
  | nil => exact absurd rfl hne
  | cons d0 ds =>
    obtain ⟨m1, m2⟩ := min_py hd ds d0 List.mem_cons_self fun y hy => List.mem_cons_of_mem _ hy
    have hl := dpall_len hdp
    rcases hs with hs | hs
    · obtain ⟨its, rv, hL, _⟩ := I.list hs
      obtain ⟨as, hr⟩ := Dp.readsAll I _ _ its hdp rv
      refine PySem.W.min_list_data (I.ok.hd hc) hL.isList (x := toPy d0) (xs := toPys ds) hr (dat_alike hd) (by show X.A.units + 1 + PyData.depthAll (toPys (d0 :: ds)) < cLine; omega) fun i v h' tk bs hv rd hk => ?_
      rw [← m2] at rd
      obtain ⟨u, e1, e2, e3⟩ := best_at hd m1 rv hl hr hk hv rd
      exact ⟨u, H, I.kept hk, e2, q i _ u e3 e1 rfl⟩
    · obtain ⟨its, rv, hL, _⟩ := I.tuple hs
      obtain ⟨as, hr⟩ := Dp.readsAll I _ _ its hdp rv
      refine PySem.W.min_tuple_data (I.ok.hd hc) hL (x := toPy d0) (xs := toPys ds) hr (dat_alike hd) (by show X.A.units + 1 + PyData.depthAll (toPys (d0 :: ds)) < cLine; omega) fun i v h' tk bs hv rd hk => ?_
      rw [← m2] at rd
      obtain ⟨u, e1, e2, e3⟩ := best_at hd m1 rv hl hr hk hv rd
      exact ⟨u, H, I.kept hk, e2, q i _ u e3 e1 rfl⟩
theorem cr_maxDat (hc : X.calm = true) (hu : X.A.units + 65 < cLine) : CallR X (.builtin "max") (rBest X.K maxDs) := by
  intro pins s σ H vs us' Q I r h
  obtain ⟨a, us, l, rfl, hs, hdp, hd, hne, q⟩ := h
  rw [Vals.ref1 r]
  have dep := dat_depth hd
  cases l with
  | nil => exact absurd rfl hne
  | cons d0 ds =>
    obtain ⟨m1, m2⟩ := max_py hd ds d0 List.mem_cons_self fun y hy => List.mem_cons_of_mem _ hy
    have hl := dpall_len hdp
    rcases hs with hs | hs
    · obtain ⟨its, rv, hL, _⟩ := I.list hs
      obtain ⟨as, hr⟩ := Dp.readsAll I _ _ its hdp rv
      refine PySem.W.max_list_data (I.ok.hd hc) hL.isList (x := toPy d0) (xs := toPys ds) hr (dat_alike hd) (by show X.A.units + 1 + PyData.depthAll (toPys (d0 :: ds)) < cLine; omega) fun i v h' tk bs hv rd hk => ?_
      rw [← m2] at rd
      obtain ⟨u, e1, e2, e3⟩ := best_at hd m1 rv hl hr hk hv rd
      exact ⟨u, H, I.kept hk, e2, q i _ u e3 e1 rfl⟩
    · obtain ⟨its, rv, hL, _⟩ := I.tuple hs
      obtain ⟨as, hr⟩ := Dp.readsAll I _ _ its hdp rv
      refine PySem.W.max_tuple_data (I.ok.hd hc) hL (x := toPy d0) (xs := toPys ds) hr (dat_alike hd) (by show X.A.units + 1 + PyData.depthAll (toPys (d0 :: ds)) < cLine; omega) fun i v h' tk bs hv rd hk => ?_
      rw [← m2] at rd
      obtain ⟨u, e1, e2, e3⟩ := best_at hd m1 rv hl hr hk hv rd
      exact ⟨u, H, I.kept hk, e2, q i _ u e3 e1 rfl⟩
theorem red_best {f : Bf} {g : List D → Option D} (hb : ∀ x d, bfD f x = some d → ∃ l, seqD x = some l ∧ datOk l = true ∧ g l = some d) (hg : g [] = none) {K : PySem.W.Frag} : Red aR f (rBest K g) := by
  intro H Z x d v Q zk' e rp q _
  obtain ⟨l, e1, e2, e3⟩ := hb x d e
  have hd := dat_of e2
  have ne : l ≠ [] := fun z => by rw [z, hg] at e3; cases e3
  cases x <;> first | (cases e1; done) | skip
  · cases e1
    obtain ⟨p, vs, rfl, h1, n1, rp⟩ := rp
    refine ⟨p, vs, l, rfl, .inr (h1.of), shs_dp 31 l vs hd.shs rp, hd, ne, fun i d' u h2 h3 h4 => ?_⟩
    rw [e3] at h4; cases h4
    obtain ⟨w, e5, rp2⟩ := rp.get h2
    rw [h3] at e5; cases e5
    exact q _ rp2
  · cases e1
    obtain ⟨p, vs, rfl, h1, n1, rp⟩ := rp
    refine ⟨p, vs, l, rfl, .inl (.of h1), shs_dp 31 l vs hd.shs rp, hd, ne, fun i d' u h2 h3 h4 => ?_⟩
    rw [e3] at h4; cases h4
    obtain ⟨w, e5, rp2⟩ := rp.get h2
    rw [h3] at e5; cases e5
    exact q _ rp2
theorem bf_minD (x d : D) (h : bfD .minD x = some d) : ∃ l, seqD x = some l ∧ datOk l = true ∧ minDs l = some d := by
  have h : (seqD x).bind (fun l => if datOk l then minDs l else none) = some d := h
  obtain ⟨l, h1, h2⟩ := Option.bind_eq_some_iff.mp h
  split at h2
  · exact ⟨l, h1, by assumption, h2⟩
  · cases h2
theorem bf_maxD (x d : D) (h : bfD .maxD x = some d) : ∃ l, seqD x = some l ∧ datOk l = true ∧ maxDs l = some d := by
  have h : (seqD x).bind (fun l => if datOk l then maxDs l else none) = some d := h
  obtain ⟨l, h1, h2⟩ := Option.bind_eq_some_iff.mp h
  split at h2
  · exact ⟨l, h1, by assumption, h2⟩
  · cases h2
theorem red_minD {K : PySem.W.Frag} : Red aR .minD (rBest K minDs) := red_best bf_minD rfl
theorem red_maxD {K : PySem.W.Frag} : Red aR .maxD (rBest K maxDs) := red_best bf_maxD rfl
/-! ### sorted -/
def rSortDat (K : PySem.W.Frag) : List V → Hp → VK → Prop := fun vs H Q => ∃ a us l, vs = [V.ref a] ∧ SqL K H a us ∧ DpAll K H us (toPys l) ∧ Dat l ∧ srtOk l = true ∧ l.length ≤ sizeLine ∧
  ∀ bs : List (V × D), bs.Perm (us.zip l) → (bs.map (·.2)).Pairwise LeD → ∀ p, H p = none → Q (.ref p) (upd H p (.lst (bs.map (·.1))))
theorem srt_ok {l : List D} (hd : Dat l) (h : srtOk l = true) : Sortable (l.map toPy) := by
  unfold srtOk at h
  rw [Bool.or_eq_true] at h
  rcases h with h | h
  · refine .inl fun d hd' => ?_
    obtain ⟨x, hx, rfl⟩ := List.mem_map.mp hd'
    have := List.all_eq_true.mp h x hx
    unfold isTupNe at this
    split at this
    · exact ⟨_, _, by rw [toPy, toPys]⟩
    · cases this
  · refine .inr fun d hd' => ?_
    obtain ⟨x, hx, rfl⟩ := List.mem_map.mp hd'
    have := List.all_eq_true.mp h x hx
    have p := hd.pi x hx
    cases x <;> first | (simp [D.pi] at p; done) | skip
    · exact ⟨by simp [toPy], by simp [toPy]⟩
    · simp [isTup0] at this
    · exact ⟨by simp [toPy], by simp [toPy]⟩
theorem each_vals {us : List V} {its : List Value} {bs : List (V × D)} : EachIs (fun v (b : V × D) => RelV b.1 v) its bs → Vals (bs.map (·.1)) its := fun h => by
  induction h with
  | nil => exact .nil
  | cons h _ ih => exact .cons h ih
theorem cr_sortDat (hu : X.A.units + 65 < cLine) : CallR X (.builtin "sorted") (rSortDat X.K) := by
  intro pins s σ H vs us' Q I r h
  obtain ⟨a, us, l, rfl, hs, hdp, hd, hso, hz, q⟩ := h
  rw [Vals.ref1 r]
  obtain ⟨its, rv, hL, _⟩ := I.list hs
  obtain ⟨as, hr⟩ := Dp.readsAll I _ _ its hdp rv
  have len := rv.length
  have hl := dpall_len hdp
  rw [toPys_map, List.length_map] at hl
  have dep := dat_depth hd
  have zl : (us.zip l).length = its.length := by rw [List.length_zip]; omega
  have ez : EachIs (fun v (b : V × D) => RelV b.1 v) its (us.zip l) := EachIs.of_zip zl.symm fun p hp => by
    obtain ⟨i, hi⟩ := List.getElem?_of_mem hp
    rw [List.getElem?_zip_eq_some, List.getElem?_zip_eq_some] at hi
    obtain ⟨w, e1, e2⟩ := rv.get hi.2.1
    rw [hi.1] at e1; cases e1
    exact e2
  have er : EachIs (fun v (b : V × D) => ∃ as, Reads s.heap v (toPy b.2) as) its (us.zip l) := EachIs.of_zip zl.symm fun p hp => by
    obtain ⟨i, hi⟩ := List.getElem?_of_mem hp
    rw [List.getElem?_zip_eq_some, List.getElem?_zip_eq_some] at hi
    obtain ⟨cs, r1, _⟩ := PySem.W.readsAll_at hr i p.1 hi.1
    rw [toPys_map, List.getD_eq_getElem?_getD, List.getElem?_map, hi.2.2] at r1
    exact ⟨cs, r1⟩
  have em : (us.zip l).map (fun b => toPy b.2) = l.map toPy := by
    have : (us.zip l).map (fun b => toPy b.2) = ((us.zip l).map Prod.snd).map toPy := by rw [List.map_map]; rfl
    rw [this, List.map_snd_zip (by omega)]
  have memz : ∀ b ∈ us.zip l, b.2 ∈ l := fun b hb => (List.of_mem_zip hb).2
  have al : AllAlike (l.map toPy) := by
    intro x hx y hy
    obtain ⟨a, ha, rfl⟩ := List.mem_map.mp hx
    obtain ⟨b, hb, rfl⟩ := List.mem_map.mp hy
    exact alk_py a b (hd.alk a ha b hb)
  refine PySem.W.sorted_data (enc := fun b : V × D => toPy b.2) (R := fun v (b : V × D) => RelV b.1 v) (bs := us.zip l) hL.isList ez er (by rw [em]; exact al) (by rw [em]; exact srt_ok hd hso) (by rw [List.length_zip]; omega) (fun b hb => ?_) fun out h1 h2 => ?_
  · have := (sh_can 31 b.2 (hd.sh _ (memz b hb))).2
    omega
  · obtain ⟨ep, he'⟩ := PyProof.Rows.sortedAll_at s.heap its out.toArray
    have perm := List.mergeSort_perm (us.zip l) (dataLe false fun b : V × D => toPy b.2)
    have hlen : (((us.zip l).mergeSort (dataLe false fun b : V × D => toPy b.2)).map (·.1)).length ≤ sizeLine := by rw [List.length_map, perm.length_eq, List.length_zip]; omega
    refine ⟨.ref _, upd H (s.heap.objs.size + 1) (.lst (((us.zip l).mergeSort (dataLe false fun b : V × D => toPy b.2)).map (·.1))), I.laid (t' := s.toks) (fun _ _ => PyProof.Rows.sortedAll_old) (Nat.le_succ _) ⟨hlen, out, ep, each_vals (us := us) h2, he'⟩, rfl, q _ perm ?_ _ (I.hok.fresh (Nat.le_succ _))⟩
    have sp := PySem.W.sort_pairwise (PySem.W.sortLe_total (listOrd itemOrd) false fun b : V × D => keyToks (toPy b.2)) (us.zip l)
    rw [List.pairwise_map]
    refine List.Pairwise.imp_of_mem (fun {x y} hx hy hh => ?_) sp
    show D.lt y.2 x.2 = false
    rw [hd.lt (memz y (perm.mem_iff.mp hy)) (memz x (perm.mem_iff.mp hx))]
    have hh : (!lexLt itemOrd (keyToks (toPy y.2)) (keyToks (toPy x.2))) = true := hh
    simpa using hh
theorem reps_zip {H : Hp} {Z : Addr → Prop} : ∀ {bs : List (V × D)}, (∀ b ∈ bs, Rep aR H Z b.2 b.1) → Reps aR H Z (bs.map (·.2)) (bs.map (·.1))
  | [], _ => rfl
  | b :: bs, h => ⟨b.1, _, rfl, h b List.mem_cons_self, reps_zip fun z hz => h z (List.mem_cons_of_mem _ hz)⟩
theorem red_sortedP {K : PySem.W.Frag} : Red aR .sortedP (rSortDat K) := by
  intro H Z x d v Q zk' e rp _ q
  have zk : ∀ a, Z a → ∃ o, H a = some o := fun a z => let ⟨o, h, _⟩ := zk' a z; ⟨o, h⟩
  cases x <;> first | (cases e; done) | skip
  rename_i l
  have e : (if (datOk l && srtOk l && decide (l.length ≤ SZ)) = true then some (D.lst (sortDD l)) else none) = some d := e
  split at e
  · rename_i hc
    cases e
    simp only [Bool.and_eq_true, decide_eq_true_eq] at hc
    have hd := dat_of hc.1.1
    obtain ⟨p, vs, rfl, h1, n1, rp⟩ := rp
    have len := rp.length
    refine ⟨p, vs, l, rfl, .of h1, shs_dp 31 l vs hd.shs rp, hd, hc.1.2, by rw [← SZ_eq]; exact hc.2, fun bs hp hw p' hn => q p' _ hn (rep_newL zk hn ?_)⟩
    have es : bs.map (·.2) = sortDD l := by
      have p1 : (bs.map (·.2)).Perm l := by
        have := hp.map (·.2)
        rw [show (vs.zip l).map (·.2) = l from List.map_snd_zip (by omega)] at this
        exact this
      exact pw_uniq hd (p1.trans (sortDD_perm l).symm) (fun y hy => p1.mem_iff.mp hy) hw (sortDD_pw hd l fun _ h => h)
    rw [← es]
    refine reps_zip fun b hb => ?_
    obtain ⟨i, hi⟩ := List.getElem?_of_mem (hp.mem_iff.mp hb)
    rw [List.getElem?_zip_eq_some] at hi
    obtain ⟨w, e5, rp2⟩ := rp.get hi.2
    rw [hi.1] at e5; cases e5
    exact rp2
  · cases e
end
end Wl
/-! xs[k] op= e, d[k] op= e. -/
namespace Wl
open PySem PySem.Spec PyProof.Rows L2
section
variable {X : Cx} {aR : AR} {F : Fns} {ea ek : Expr} {a k : IE} {pos : Pos}
theorem pg_list : PGet X (fun x y H Q => ∃ p xs i v, x = .ref p ∧ y = .int i ∧ SqL X.K H p xs ∧ 0 ≤ i ∧ xs[i.toNat]? = some v ∧ Q v H) := by
  intro pins s σ H o i ov iv Q I ro ri h
  obtain ⟨p, xs, j, z, rfl, rfl, hq, h0, he, q⟩ := h
  cases ro
  obtain ⟨t, rfl⟩ := ri
  obtain ⟨its, r, pl, hz⟩ := I.list hq
  obtain ⟨w, ew, rw'⟩ := r.get he
  have hl := r.length
  have hn := line63
  have hj := (List.getElem?_eq_some_iff.mp ew).1
  exact wpAny_getItem_list pl.isList h0 (by omega) (by simpa using ew) ⟨z, H, I, rw', q⟩
theorem s_augL {o : Op} {p : Operator} {i : Nat} {x : Str} {p0 spos : Pos} (hi : X.N[i]? = some x) (hv : Vis X.env.scope x) (hd : (x == ("__debug__" : Str)) = false) (hcd : (x == ("__classdict__" : Str)) = false) (ho : oM o p = true) (hk : PE X ek (tEvC aR X.K F k)) (ha : PE X ea (tEv aR X.K F a))
    (hs : ∀ ov iv new, augStore ek ov iv new = (do holding [new, ov, iv] (setItem ov iv new); release [new, ov, iv] []; pure .next)) :
    PS X (.AugAssign (.Subscript (.Name x p0) ek spos) p ea pos) (tEvS aR X.K F (EX X) (.augL o i k a)) := by
  obtain ⟨ti, h1, h2⟩ := ip_all (X := X) ho
  refine PS.imp (ps_augS (pe_var hi hv hd hcd) hk pg_list ha h1 set_list hs) fun E σ H ⟨Z, H0, env, r, ok, f, r', e, q⟩ => ?_
  obtain ⟨d, r1, e1, e2⟩ := Res.bind_ok e
  split at e2
  · rename_i l j hl
    split at e2
    · rename_i hsz
      have hsz : 0 ≤ j ∧ j < l.length := by simpa using hsz
      split at e2
      · rename_i n hn
        obtain ⟨y, r2, e3, e4⟩ := Res.bind_ok e2
        split at e4
        · rename_i m
          obtain ⟨d2, r3, e5, e6⟩ := Res.bind_ok e4
          obtain ⟨e7, rfl⟩ := Res.of_ok e5
          cases e6
          obtain ⟨p, vs, g1, g2, g3, np⟩ := own_lst ok hl
          refine ⟨.ref p, g1, evC_to ok e1 fun u H1 x1 ro1 ok1 rpk => ?_⟩
          obtain rfl : u = V.int j := rpk
          have g2' := x1 _ _ np g2 rfl
          obtain ⟨vn, gv, rv⟩ := g3.get hn
          obtain rfl : vn = V.int n := rv
          refine ⟨p, vs, j, V.int n, rfl, rfl, .of g2', hsz.1, gv, ev_to ok1 e3 fun v H2 x2 ro2 ok2 rp => ?_⟩
          obtain rfl : v = V.int m := rp
          refine h2 n m d2 H2 _ e7 fun z ez => ?_
          subst ez
          refine ⟨p, vs, j, j.toNat, rfl, rfl, x2 _ _ np g2' rfl, ?_, ?_⟩
          · unfold ixN
            rw [g3.length, if_pos hsz.1, if_pos hsz.2]
          · have h3' := g3.mono ((x1.trans x2).le (.inl ok.zr))
            have mp : Mk Z σ env [] p := .inr ⟨i, _, hl, g1, by simp⟩
            have w : Ow aR (upd H2 p (.lst (vs.set j.toNat (.int z)))) (Mk Z σ env []) p (.lst (l.set j.toNat (.int z))) := ⟨_, upd_same, (h3'.set j.toNat (d := .int z) rfl).mono (le_updZ mp)⟩
            exact q σ _ (ok2.updO hl g1 w) ((ok.le (x1.trans x2)).trans (le_updO hl g1))
        · cases e4
      · cases e2
    · cases e2
  · cases e2
/-- in place, add and subtract, for dicts -/
theorem inp_two {o : Op} {p : Operator} (h : oM o p = true) (ho : o = .add ∨ o = .sub) : ∃ rd, InOp X p rd ∧ ∀ (n m : Int) (H : Hp) (Q : VK), Q (.int (if o = .add then n + m else n - m)) H → rd (.int n) (.int m) H Q := by
  rcases ho with rfl | rfl
  · cases p <;> first | (cases h; done) | skip
    exact ⟨_, in_add, fun n m H Q q => ⟨n, m, rfl, rfl, q⟩⟩
  · cases p <;> first | (cases h; done) | skip
    exact ⟨_, in_sub, fun n m H Q q => ⟨n, m, rfl, rfl, q⟩⟩
theorem rc_ow {H : Hp} {Z : Addr → Prop} {p : Addr} {t : Bool} {ks vs : List D} (h : Ow aR H Z p (.dct t ks vs)) (np : p ≠ aR) : RepC aR H Z (.dct t ks vs) (.ref p) := by
  cases t with
  | false =>
    obtain ⟨kvs, ha, e, ra⟩ := h
    exact ⟨p, kvs, rfl, .of ha, np, e, ra⟩
  | true =>
    obtain ⟨o, bs, us, ha, e, rb, ra⟩ := h
    exact ⟨p, o, bs, us, rfl, .of ha, np, e, rb, ra⟩
theorem s_augD {o : Op} {p : Operator} {i : Nat} {x : Str} {p0 spos : Pos} (hu : X.A.units + 64 < cLine) (hi : X.N[i]? = some x) (hv : Vis X.env.scope x) (hd : (x == ("__debug__" : Str)) = false) (hcd : (x == ("__classdict__" : Str)) = false) (ho : oM o p = true) (h2o : o = .add ∨ o = .sub) (hk : PE X ek (tEvC aR X.K F k)) (ha : PE X ea (tEv aR X.K F a))
    (hs : ∀ ov iv new, augStore ek ov iv new = (do holding [new, ov, iv] (setItem ov iv new); release [new, ov, iv] []; pure .next)) :
    PS X (.AugAssign (.Subscript (.Name x p0) ek spos) p ea pos) (tEvS aR X.K F (EX X) (.augD o i k a)) := by
  obtain ⟨rd, h1, h2⟩ := inp_two (X := X) ho h2o
  refine PS.imp (ps_xaug hu (pe_var hi hv hd hcd) hk ha h1 hs) fun E σ H ⟨Z, H0, env, r, ok, f, r', e, q⟩ => ?_
  obtain ⟨x1, r1, e1, e2⟩ := Res.bind_ok e
  split at e2
  · rename_i t ks vs hl
    split at e2
    · rename_i hsz
      have hsz : keyOk t x1 = true ∧ ks.length < SZ := by simpa using hsz
      split at e2
      · rename_i n hn
        obtain ⟨y, r2, e3, e4⟩ := Res.bind_ok e2
        split at e4
        · rename_i m
          obtain ⟨q0, g1, nz, _, g3⟩ := ok.ow i _ hl
          have nq : q0 ≠ aR := fun q => nz (by rw [q]; exact ok.zr)
          refine ⟨.ref q0, g1, evC_to ok e1 fun u H1 x2 ro1 ok1 rpk => ?_⟩
          have g4 := g3.mono (x2.le (.inl ok.zr)) (fun o eo => x2 q0 o nq eo)
          obtain ⟨a', ea', _, hh⟩ := dget_of (K := X.K) hsz.1 (rc_ow g4 nq) rpk
          cases ea'
          rcases hh with ⟨hh, _⟩ | ⟨d, w, hd', hg, hr⟩
          · rw [hn] at hh; cases hh
          rw [hn] at hd'
          cases hd'
          obtain rfl : w = V.int n := hr
          refine ⟨q0, V.int n, rfl, hg, ev_to ok1 e3 fun v H2 x3 ro2 ok2 rp => ?_⟩
          obtain rfl : v = V.int m := rp
          refine h2 n m H2 _ ?_
          have g5 := g3.mono ((x2.trans x3).le (.inl ok.zr)) (fun o eo => (x2.trans x3) q0 o nq eo)
          have mp : Mk Z σ env [] q0 := .inr ⟨i, _, hl, g1, by simp⟩
          refine dput_of (K := X.K) (d := .int (if o = .add then n + m else n - m)) (v := .int (if o = .add then n + m else n - m)) hsz.1 hsz.2 g5 (RepC.ext x3 (.inl ok.zr) rpk) rfl mp ok2.mkk fun o' k2 => ?_
          rcases h2o with rfl | rfl
          · cases e4
            exact q σ _ (ok2.updO hl g1 k2) ((ok.le (x2.trans x3)).trans (le_updO hl g1))
          · cases e4
            exact q σ _ (ok2.updO hl g1 k2) ((ok.le (x2.trans x3)).trans (le_updO hl g1))
        · cases e4
      · cases e2
    · cases e2
  · cases e2
end
end Wl
set_option maxHeartbeats 2000000
/-! xs[::-1], xs[:0:-1], of lists and tuples. -/
namespace Wl
open PySem PySem.Spec PyProof.Rows L2
/-- the end of the slice: none left out, or the first -/
def hiR : Bool → Option Int
  | false => none
  | true => some 0
def kR : Bool → Nat
  | false => 0
  | true => 1
theorem rev_range (n k : Nat) (h : k ≤ n) : (List.range (n - k)).map (fun i => n - 1 - i) = ((List.range n).drop k).reverse := by
  apply List.ext_getElem
  · simp
  · intro i h1 h2
    simp only [List.getElem_map, List.getElem_range, List.getElem_reverse, List.getElem_drop, List.length_drop, List.length_range]
    simp at h1
    omega
theorem all_drop (xs : Array Value) (k : Nat) : ((List.range xs.size).drop k).filterMap (xs[·]?) = xs.toList.drop k := by
  have e : (List.range xs.size).drop k = (List.range (xs.size - k)).map (k + ·) := by
    apply List.ext_getElem
    · simp
    · intro i h1 h2; simp
  rw [e, pick_run xs k (xs.size - k), List.take_of_length_le]
  rw [List.length_drop, Array.length_toList]
  exact Nat.le_refl _
theorem rng_rev (n : Nat) (b : Bool) : sliceRange (sliceBounds none (hiR b) (some (-1)) n).1 (sliceBounds none (hiR b) (some (-1)) n).2.1 (sliceBounds none (hiR b) (some (-1)) n).2.2 = ((List.range n).drop (kR b)).reverse := by
  cases b with
  | false =>
    rw [show sliceBounds none (hiR false) (some (-1)) n = ((n : Int) - 1, -1, -1) from PySem.W.krv_bounds n]
    show sliceRange ((n : Int) - 1) (-1) (-1) = _
    rw [PySem.W.krv_sliceRange, PySem.W.krv_range]
    rfl
  | true =>
    have hb : sliceBounds none (hiR true) (some (-1)) n = ((n : Int) - 1, max (-1) (min 0 ((n : Int) - 1)), -1) := by
      simp [sliceBounds, hiR]
    rw [hb]
    show sliceRange ((n : Int) - 1) (max (-1) (min 0 ((n : Int) - 1))) (-1) = _
    unfold sliceRange
    have h1 : ¬ ((-1 : Int) > 0) := by decide
    simp only [h1, if_false]
    by_cases h : n = 0
    · subst h
      simp
      split <;> omega
    · have hm : max (-1 : Int) (min 0 ((n : Int) - 1)) = 0 := by omega
      rw [hm]
      by_cases h2 : (n : Int) - 1 > 0
      · have e : ((n : Int) - 1 - 0 - -1 - 1) / (- -1) = ((n - 1 : Nat) : Int) := by
          rw [show (- -1 : Int) = 1 by decide, Int.ediv_one]
          omega
        rw [if_pos h2, e, Int.toNat_natCast]
        have := rev_range n 1 (by omega)
        show _ = ((List.range n).drop 1).reverse
        rw [← this]
        apply List.map_congr_left
        intro k hk
        have := List.mem_range.mp hk
        omega
      · have : n = 1 := by omega
        subst this
        simp [kR]
theorem pick_rev (items : Array Value) (b : Bool) : slicePick items none (hiR b) (some (-1)) = (items.toList.drop (kR b)).reverse.toArray := by
  unfold slicePick
  rw [rng_rev, List.filterMap_reverse, all_drop]

section
variable {prog : Program} {w : World} {A : Around} {E : Value → Shared → Prop} {s : Shared}
theorem applied_rev {sl : Addr} {vl vu vs : Value} {n : Nat} {b : Bool} {Q : Int × Int × Nat → Shared → Prop} (hs : s.heap.IsSliceOf sl vl vu vs) (pl : IsPart vl none) (pu : IsPart vu (hiR b)) (ps : IsPart vs (some (-1)))
    (h : Q ((n : Int) - 1, -1, n - kR b) s) : wpAny (model prog w) A (Builtin.Slice.sliceApplied (.ref sl) (pure (n : Int))) Q E s := by
  obtain ⟨os, hos, hcs, hds⟩ := id hs
  unfold Builtin.Slice.sliceApplied Builtin.Slice.sliceFields
  refine wpAny_bind (wpAny_bind (wpAny_field hos hds (x := vl) rfl (wpAny_bind (wpAny_field hos hds (x := vu) rfl (wpAny_bind (wpAny_field hos hds (x := vs) rfl (wpAny_pure ?_)))))))
  refine wpAny_bind (HT.slicePart_ ps ?_)
  show wpAny _ _ (if ((-1 : Int) == 0) = true then _ else _) _ _ s
  rw [if_neg (by decide)]
  refine wpAny_bind (HT.slicePart_ pl (wpAny_bind (HT.slicePart_ pu (wpAny_bind (wpAny_pure ?_)))))
  show wpAny _ _ (match Builtin.Slice.sliceAdjust none (hiR b) (-1) (n : Int) with | (lo, hi) => pure (lo, (-1 : Int), Builtin.Slice.slicePlaces lo hi (-1))) _ _ s
  have e1 : Builtin.Slice.sliceAdjust none (hiR b) (-1) (n : Int) = ((n : Int) - 1, if b = true then min 0 ((n : Int) - 1) else -1) := by
    cases b <;> simp [Builtin.Slice.sliceAdjust, hiR]
  rw [e1]
  show wpAny _ _ (pure ((n : Int) - 1, (-1 : Int), Builtin.Slice.slicePlaces ((n : Int) - 1) (if b = true then min 0 ((n : Int) - 1) else -1) (-1))) _ _ s
  have e2 : Builtin.Slice.slicePlaces ((n : Int) - 1) (if b = true then min 0 ((n : Int) - 1) else -1) (-1) = n - kR b := by
    unfold Builtin.Slice.slicePlaces
    have h1 : ¬ ((-1 : Int) > 0) := by decide
    simp only [h1, if_false, show (- -1 : Int) = 1 by decide, Int.ediv_one]
    cases b with
    | false =>
      simp only [Bool.false_eq_true, if_false, kR]
      split <;> omega
    | true =>
      simp only [if_true, kR]
      split <;> omega
  rw [e2]
  exact wpAny_pure h
theorem fmX_congr {α β : Type} {f g : α → Option β} : ∀ {l : List α}, (∀ x ∈ l, f x = g x) → l.filterMap f = l.filterMap g
  | [], _ => rfl
  | x :: l, h => by
    rw [List.filterMap_cons, List.filterMap_cons, h x List.mem_cons_self, fmX_congr fun y hy => h y (List.mem_cons_of_mem _ hy)]
theorem pick_tup (xs : Array Value) (b : Bool) : ((List.range (xs.size - kR b)).filterMap fun (m : Nat) => xs[(((xs.size : Int) - 1) + (m : Int) * (-1)).toNat]?).toArray = (xs.toList.drop (kR b)).reverse.toArray := by
  have h0 := all_drop xs (kR b)
  have h1 : ((List.range xs.size).drop (kR b)).reverse.filterMap (xs[·]?) = (xs.toList.drop (kR b)).reverse := by rw [List.filterMap_reverse, h0]
  by_cases hk : kR b ≤ xs.size
  · rw [← rev_range xs.size (kR b) hk, List.filterMap_map] at h1
    rw [← h1]
    congr 1
    apply fmX_congr
    intro m hm
    have hm := List.mem_range.mp hm
    have : (((xs.size : Int) - 1) + (m : Int) * (-1)).toNat = xs.size - 1 - m := by omega
    show _ = xs[xs.size - 1 - m]?
    rw [this]
  · have hb : b = true := by
      cases b with
      | false => exact absurd (Nat.zero_le _) hk
      | true => rfl
    subst hb
    have hz : xs.size = 0 := by have : ¬ (1 ≤ xs.size) := hk; omega
    have : xs.toList = [] := by rw [← List.length_eq_zero_iff, Array.length_toList]; exact hz
    rw [this, hz]
    rfl
theorem getItem_tuple_rev {t sl : Addr} {items : Array Value} {vl vu vs : Value} {b : Bool} {Q : Value → Shared → Prop} (ht : IsTup s.heap t items) (hs : s.heap.IsSliceOf sl vl vu vs) (pl : IsPart vl none) (pu : IsPart vu (hiR b)) (ps : IsPart vs (some (-1)))
    (h : Q (.ref s.heap.objs.size) { s with heap := s.heap.push { cls := .type "tuple", data := .seq (items.toList.drop (kR b)).reverse.toArray } })
    (hsz : items.size ≤ sizeLine) : wpAny (model prog w) A (getItem (.ref t) (.ref sl)) Q E s := by
  have htake : sizeOk (.seq (items.toList.drop (kR b)).reverse.toArray) := by
    show (items.toList.drop (kR b)).reverse.toArray.size ≤ sizeLine
    rw [List.size_toArray, List.length_reverse, List.length_drop, Array.length_toList]
    omega
  obtain ⟨os, hos, hcs, hds⟩ := id hs
  have hTs : s.TypeIs (.ref sl) "slice" := ⟨os, hos, hcs⟩
  unfold getItem
  try with_reducible refine wpAny_holding ?_
  first | refine wpAny_bind (wpAny_pure ?_) | skip
  refine wpAny_bind (wpAny_sequenceKey ht.typeIs (by decide) ?_)
  refine wpAny_bind (wpAny_callSpecial?_slot (name := Str.ofString "__getitem__") ht.typeIs PyProof.Rows.slot_tuple_getitem
    (wpAny_call_entry PyProof.Rows.slot_tuple_getitem ht.typeIs entry_tuple_getitem ?_ (args_tuple_getitem _ _)))
  show wpAny _ _ (Builtin.Tuple.tupleItemsOf (.ref t) >>= _) _ _ s
  refine wpAny_bind (tupleItemsOf_ ht ?_)
  refine wpAny_bind (wpAny_typeOf hTs ?_)
  rw [if_pos (by decide)]
  refine wpAny_bind (applied_rev (b := b) hs pl pu ps ?_)
  have hno : ¬ (((items.size : Int) - 1 == 0 && (-1 : Int) == 1 && (items.size - kR b) == items.size) = true) := by
    intro q
    rw [Bool.and_eq_true, Bool.and_eq_true] at q
    exact absurd q.1.2 (by decide)
  show wpAny _ _ (if ((items.size : Int) - 1 == 0 && (-1 : Int) == 1 && (items.size - kR b) == items.size) = true then _ else _) _ _ s
  rw [if_neg hno, pick_tup]
  first
    | exact wpAny_bind (m := Builtin.Tuple.tupleExact _) (wpAny_newObj_type (wpAny_pure ⟨_, rfl, wpAny_pure h⟩) htake)
    | exact wpAny_bind (m := Builtin.Tuple.tupleExact _) (wpAny_newObj_type (wpAny_bind (wpAny_pure (wpAny_pure ⟨_, rfl, wpAny_pure h⟩))) htake)
    | exact wpAny_bind (wpAny_bind (m := Builtin.Tuple.tupleExact _) (wpAny_newObj_type (wpAny_pure (wpAny_pure ⟨_, rfl, wpAny_pure h⟩)) htake))
    | exact wpAny_bind (wpAny_bind (m := Builtin.Tuple.tupleExact _) (wpAny_newObj_type (wpAny_pure ⟨_, rfl, wpAny_pure h⟩) htake))
end
/-- the written end -/
def hiE : Bool → Option Expr → Prop
  | false, e => e = none
  | true, e => ∃ k p, e = some (.Constant (.int 0) k p)
section
variable {X : Cx} {aR : AR} {F : Fns} {ea : Expr} {a : IE} {pos : Pos}
def tRevX (K : PySem.W.Frag) (b : Bool) (te : TE) : TE := fun σ H Q => te σ H fun x H1 => ∃ a xs, x = .ref a ∧ ((SqL K H1 a xs ∧ ∀ p, H1 p = none → Q (.ref p) (upd H1 p (.lst (xs.drop (kR b)).reverse))) ∨
  (SqT K H1 a xs ∧ NewT H1 (xs.drop (kR b)).reverse Q))
theorem vals_drop : ∀ {xs : List V} {its : List Value} (k : Nat), Vals xs its → Vals (xs.drop k) (its.drop k)
  | _, _, 0, h => h
  | _, _, k + 1, .nil => .nil
  | _, _, k + 1, .cons r t => vals_drop k t
theorem pe_revX {e : Expr} {te : TE} {hi : Option Expr} {b : Bool} {k : Nat} {p1 p2 p3 pos : Pos} (hh : hiE b hi) (he : PE X e te) : PE X (.Subscript e (.Slice none hi (some (.UnaryOp .USub (.Constant (.int 1) k p1) p2)) p3) pos) (tRevX X.K b te) := by
  refine ⟨fun pins s σ H Q I h => ?_⟩
  refine Subscript_ (thn (he.run pins s σ H _ I h) fun v s1 ⟨x, H1, I1, r1, q1⟩ => ?_)
  obtain ⟨a, xs, ex, hq⟩ := q1
  subst ex
  cases r1
  have hst : PO X (some (.UnaryOp .USub (.Constant (.int 1) k p1) p2)) (tPart (tUn (rU fun i => .int (-i)) (tC (.int 1)))) := po_some (pe_un un_neg pe_int)
  refine wpAny_Slice (thn (po_none.run pins s1 σ H1 (fun o H2 => o = none ∧ H2 = H1) I1 ⟨rfl, rfl⟩) fun vl s2 ⟨l, H2, I2, pl, el, e2⟩ => ?_)
  subst el e2
  have hu : wpAny (model X.prog X.w) X.A (evalPart hi X.env) (fun u s' => ∃ o H', Inv X pins σ H' s' ∧ IsPart u o ∧ o = hiR b ∧ H' = H2) X.xe s2 := by
    cases b with
    | false =>
      obtain rfl : hi = none := hh
      exact po_none.run pins s2 σ H2 (fun o H3 => o = none ∧ H3 = H2) I2 ⟨rfl, rfl⟩
    | true =>
      obtain ⟨k0, p0, rfl⟩ := hh
      have h0 : PO X (some (.Constant (.int 0) k0 p0)) (tPart (tC (.int 0))) := po_some pe_int
      exact h0.run pins s2 σ H2 (fun o H3 => o = some 0 ∧ H3 = H2) I2 ⟨0, rfl, rfl, rfl⟩
  refine thn hu fun vu s3 ⟨u, H3, I3, pu, eu, e3⟩ => ?_
  subst eu e3
  refine thn (hst.run pins s3 σ H3 (fun o H4 => o = some (-1) ∧ H4 = H3) I3 ⟨1, rfl, -1, rfl, rfl, rfl⟩) fun vs s4 ⟨o, H4, I4, ps, eo, e4⟩ => ?_
  subst eo e4
  have I5 : Inv X pins σ H4 { s4 with heap := s4.heap.push { cls := .type "slice", data := .fields #[vl, vu, vs] } } := I4.kept (t' := s4.toks) fun b ob q => Heap.get?_push_of_some _ q
  show wpAny (model X.prog X.w) X.A (subscriptTail e (.Slice none hi (some (.UnaryOp .USub (.Constant (.int 1) k p1) p2)) p3) (.ref a) (.ref s4.heap.objs.size)) (EP X pins σ Q) X.xe { s4 with heap := s4.heap.push { cls := .type "slice", data := .fields #[vl, vu, vs] } }
  rcases hq with ⟨hx, q⟩ | ⟨hx, q⟩
  · obtain ⟨its, r, ht, hz⟩ := I5.list hx
    have hlen := r.length
    refine tail_any (ops := [.ref a, .ref s4.heap.objs.size]) ht.isList.typeIs (PySem.slot_list_getitem.lookup) ?_ (by with_unfolding_all rfl)
    refine wpAny_getItem_list_slice ht.isList (Heap.IsSliceOf.new _ vl vu vs) pl pu ps (by decide) ?_ (by rw [List.size_toArray]; omega)
    rw [pick_rev]
    refine ⟨.ref _, _, I5.laid (t' := s4.toks) (o := .lst (xs.drop (kR b)).reverse) (fun b ob q => Heap.get?_push_of_some _ q) (Nat.le_refl _) ?_, rfl, q _ (I5.hok.fresh (Nat.le_refl _))⟩
    exact ⟨by rw [List.length_reverse, List.length_drop]; omega, _, 0, (vals_drop (kR b) r).reverse, Heap.get?_push_size _ rfl⟩
  · obtain ⟨its, r, ht, hz⟩ := I5.tuple hx
    have hlen := r.length
    refine tail_any (ops := [.ref a, .ref s4.heap.objs.size]) ht.typeIs (PyProof.Rows.slot_tuple_getitem.lookup) ?_ (by with_unfolding_all rfl)
    refine getItem_tuple_rev (b := b) ht (Heap.IsSliceOf.new _ vl vu vs) pl pu ps ?_ (by rw [List.size_toArray]; omega)
    exact EPs (t' := s4.toks) I5 (vals_drop (kR b) r).reverse (by rw [List.length_reverse, List.length_drop]; omega) q
theorem reps_rev {H : Hp} {Z : Addr → Prop} : ∀ {l : List D} {vs : List V}, Reps aR H Z l vs → Reps aR H Z l.reverse vs.reverse := by
  intro l
  induction l with
  | nil => intro vs h; cases h; rfl
  | cons d l ih =>
    intro vs h
    obtain ⟨v, us, rfl, g1, g2⟩ := h
    rw [List.reverse_cons, List.reverse_cons]
    exact (ih g2).append (.one g1)
theorem v_rev {hi : Option Expr} {b : Bool} {k : Nat} {p1 p2 p3 : Pos} (hh : hiE b hi) (ha : PE X ea (tEvC aR X.K F a)) : PE X (.Subscript ea (.Slice none hi (some (.UnaryOp .USub (.Constant (.int 1) k p1) p2)) p3) pos) (tEv aR X.K F (.rev b a)) :=
  PE.imp (pe_revX hh ha) fun σ H Q ⟨Z, H0, env, r, ok, dd, r', e, q⟩ => by
    obtain ⟨u, r1, e1, e2⟩ := Res.bind_ok e
    refine evC_to ok e1 fun v H' x ro ok' rp => ?_
    have ea : al (.rev b a) = alC a := by cases a <;> rfl
    have kb : (if b then 1 else 0) = kR b := by cases b <;> rfl
    have zk : ∀ z, Mk Z σ env (al (.rev b a)) z → ∃ o, H' z = some o := fun z m => let ⟨o, h, _⟩ := ok'.mkk z m; ⟨o, h⟩
    cases u <;> first | (cases e2; done) | skip
    · cases e2
      obtain ⟨p, vs, rfl, h1, n1, rps⟩ := rp
      refine ⟨p, vs, rfl, .inr ⟨h1.of, fun p' o hp hd => q _ _ (x.trans (.new hp)) (ro.keep (keep_new hp)) (rep_newT zk hp hd ?_)⟩⟩
      rw [ea, kb]
      exact reps_rev (rps.drop _)
    · cases e2
      obtain ⟨p, vs, rfl, h1, n1, rps⟩ := rp
      refine ⟨p, vs, rfl, .inl ⟨.of h1, fun p' hp => q _ _ (x.trans (.new hp)) (ro.keep (keep_new hp)) (rep_newL zk hp ?_)⟩⟩
      rw [ea, kb]
      exact reps_rev (rps.drop _)
end
end Wl
/-! sum of a tuple. -/
namespace Wl
open PySem PySem.Spec PyProof.Rows L2
def rSumT (K : PySem.W.Frag) : List V → Hp → VK → Prop := fun vs H Q => ∃ (a : Addr) (ns : List Int), vs = [V.ref a] ∧ SqT K H a (ns.map V.int) ∧ Q (.int ns.sum) H
section
variable {X : Cx} {aR : AR}
theorem cr_sumT (hc : X.calm = true) : CallR X (.builtin "sum") (rSumT X.K) := by
  intro pins s σ H vs us Q I r h
  obtain ⟨a, ns, rfl, hs, q⟩ := h
  obtain ⟨its, rv, hl, _⟩ := I.tuple hs
  rw [Vals.ref1 r]
  have hi : IntsAre its ns := rv.ints
  obtain ⟨xs, e⟩ := hi.allInts.items
  have hn : numsOf (intItems xs).toList = ns := by rw [← e]; exact hi.numsOf
  rw [nums_intItems] at hn
  have hl : s.heap.IsTuple a its.toArray := hl
  rw [e] at hl
  refine PySem.W.ktm_sumG (I.ok.hd hc) hl fun h' tk t' hk => ?_
  have q2 : EP X pins σ Q (.int ns.sum t') { s with heap := h', toks := tk } := ⟨.int _, H, I.kept hk, ⟨_, rfl⟩, q⟩
  rw [preSum_eq, List.take_of_length_le (by simp), hn]
  exact q2
theorem red_sumT {K : PySem.W.Frag} : Red aR .sumT (rSumT K) := by
  intro H Z x d v Q zk' e rp q _
  have zk : ∀ a, Z a → ∃ o, H a = some o := fun a z => let ⟨o, h, _⟩ := zk' a z; ⟨o, h⟩
  cases x <;> simp [bfD] at e
  obtain ⟨ns, e1, rfl⟩ := e
  obtain ⟨p, vs, rfl, h1, n1, rp⟩ := rp
  obtain ⟨rfl, rfl⟩ := ints_of e1 rp
  exact ⟨p, ns, rfl, h1.of, q _ rfl⟩
end
end Wl
/-! sorted by a lambda `(len(x), x)`. -/
namespace Wl
open PySem PySem.Spec PyProof.Rows L2
open PySem.W (alike keyToks dataLe AllAlike Sortable EachIs KeyPure)
/-- the lambda's body -/
def lamB (x : Str) (p1 p2 p3 p4 p5 : Pos) (j : Nat) : Expr := .Tuple [.Call (.Name "len" p1) [.Name x p2] [] p3, .Name x p4] j p5
/-- the key of a tuple of ints -/
def keyPy (ns : List Int) : PyData := .tuple [.int ns.length, .tuple (ns.map .int)]
/-- the lambda's scope -/
structure LamSc (x : Str) (scope : Scope) : Prop where
  kind : scope.kind = .function
  co : scope.isCoroutine = false
  gen : scope.isGenerator = false
  names : scope.names = [(x, .local), ("len", .globalImplicit)]
  ne : x ≠ "len"
  d : (x == ("__debug__" : Str)) = false
section
variable {X : Cx} {pins : List (Addr × Obj)} {σ : L2.St} {H : Hp} {s : Shared}
theorem ints_reads {h : Heap} {its : List Value} {ns : List Int} (hi : IntsAre its ns) : ReadsAll h its (ns.map .int) [] := by
  induction hi with
  | nil => exact .nil
  | cons n t _ ih => exact ReadsAll.cons (as := []) (bs := []) (.int _ _) ih
theorem ints_len {its : List Value} {ns : List Int} (hi : IntsAre its ns) : its.length = ns.length := by
  induction hi with
  | nil => rfl
  | cons n t _ ih => rw [List.length_cons, List.length_cons, ih]
theorem lam_turn (I : Inv X pins σ H s) (hA : X.A.depth < recursionLimit) (hml : X.mg "len" = none) {f c' : Addr} {pm ctv : Value} {params : Arguments} {scope : Scope} {x : Str} {p1 p2 p3 p4 p5 : Pos} {j : Nat} (L : LamSc x scope)
    (hf : s.heap.get? f = some (PySem.W.kla_obj "<lambda>" (X.env.qual ++ "<lambda>") params (lamB x p1 p2 p3 p4 p5 j) scope (cloFrom X.env.cells scope.names []) pm c' ctv)) (hcd : H c' = some (LamX.CodeO c' (X.env.qual ++ "<lambda>")))
    (hbind : ∀ v : Value, bindArgs (PySem.W.kla_fn "<lambda>" (X.env.qual ++ "<lambda>") params (lamB x p1 p2 p3 p4 p5 j) scope (cloFrom X.env.cells scope.names []) pm (.ref c') ctv) ⟨[v], []⟩ = pure [(x, v)])
    {a : Addr} {its : List Value} {ns : List Int} (ht : IsTup s.heap a its.toArray) (hi : IntsAre its ns) (hn : its.length ≤ sizeLine) {h : Heap} {tk : Nat} (hk : ∀ b o, s.heap.get? b = some o → h.get? b = some o) :
    wpAny (model X.prog X.w) X.A.in1.in1 (call (.ref f) [.ref a]) (KeyPure (keyPy ns) { s with heap := h, toks := tk }) (fun _ _ => False) { s with heap := h, toks := tk } := by
  have I1 : Inv X pins σ H { s with heap := h, toks := tk } := I.kept hk
  have of1 := hk _ _ hf
  obtain ⟨⟨oc, vs, t, hoc, hdc, hvc⟩, _, _⟩ := I1.hok c' _ hcd
  have glob : { s with heap := h, toks := tk }.heap.Ns mainGlobals X.mg := I1.mod.glob.keeps I1.bk
  obtain ⟨mb, b1, b2⟩ := I1.mod.blt
  have bltn : { s with heap := h, toks := tk }.heap.Ns builtinsNs mb := b1.keeps I1.bk
  have rc : codeAny (model X.prog X.w) X.A.in1.in1 (.call (.ref f) ⟨[.ref a], []⟩) (fun r s' => ∃ u, r = .ok (.ret u) ∧ KeyPure (keyPy ns) { s with heap := h, toks := tk } u s') { s with heap := h, toks := tk } := by
    refine PySem.W.kla_callFunE hA of1 rfl L.co L.gen rfl ⟨c', oc, vs, t, rfl, hoc, hdc, hvc⟩ ?_
    rw [hbind]
    refine wpAny_pure (wpAny_newFunctionEnv (fun y hy => by rw [L.names] at hy; simp at hy; rcases hy with rfl | rfl <;> simp) (fun y hy => by simp at hy; subst hy; rw [L.names]; simp) (fun h₁ hns hsb => ⟨I1.nolimit.fresh _ hsb, ?_⟩) L.kind)
    have kp : ∀ b o, h.get? b = some o → h₁.get? b = some o := fun b o e => hsb.extBut b o (Nat.ne_of_lt (Heap.lt_size e)) (Heap.get?_push_of_some _ e)
    have ht1 : IsTup h₁ a its.toArray := by
      obtain ⟨o, q1, q2, n, q3⟩ := ht
      exact ⟨o, kp _ _ (hk _ _ q1), q2, n, q3⟩
    have g1 : h₁.Ns mainGlobals X.mg := glob.keeps kp
    have g2 : h₁.Ns builtinsNs mb := bltn.keeps kp
    have hnx : h₁.Ns h.objs.size (fun y => [(x, (Value.ref a))].reverse.lookup y) := hns
    have kx : scope.names.lookup x = some .local := by rw [L.names]; simp [List.lookup]
    have kl : scope.names.lookup ("len" : Str) = some .globalImplicit := by
      rw [L.names]
      show (match ("len" : Str) == x with | true => some NameKind.local | false => _) = _
      have : (("len" : Str) == x) = false := by
        rw [beq_eq_false_iff_ne]; exact fun z => L.ne z.symm
      rw [this]; rfl
    refine PySem.W.kla_codeExpr (wpAny_mono (Q := fun v s' => KeyPure (keyPy ns) { s with heap := h, toks := tk } v s') ?_ (fun v s' hq => ⟨v, rfl, hq⟩) fun e s' hq => hq)
    unfold lamB
    refine wpAny_Tuple_spliced ?_
    refine Calls.spliced_cons (wpAny_Call_Name_kw ?_)
    refine Calls.Name_function_global L.kind kl (Calls.loadGlobal_builtin (mg := X.mg) (mb := mb) g1 hml g2 (b2 _ (by decide)) ?_) (by decide)
    refine PyProof.Rows.callWith_builtin1 (e := .Name x p2) (rest := []) (Calls.spliced_cons (wpAny_Name (wpAny_loadName_local L.kind kx hnx (v := .ref a) (by simp [List.lookup]) (Calls.spliced_nil ?_)) L.d)) rfl rfl
    refine len_tuple ht1 (by rw [List.size_toArray]; have : sizeLine = 16777216 := rfl; omega) ?_
    refine Calls.spliced_cons (wpAny_Name (wpAny_loadName_local L.kind kx hnx (v := .ref a) (by simp [List.lookup]) (Calls.spliced_nil ?_)) L.d)
    refine ⟨by show 2 ≤ sizeLine; decide, ?_⟩
    refine ⟨_, _, rfl, fun b o e => Heap.get?_push_of_some _ (kp b o e), ?_⟩
    obtain ⟨o, q1, q2, n, q3⟩ := ht1
    refine Reads.tuple (Heap.get?_push_size _ rfl) rfl rfl ?_
    rw [List.size_toArray, ints_len hi]
    exact ReadsAll.cons (as := []) (bs := []) (.int _ _) (ReadsAll.cons (as := []) (bs := []) (.tuple (Heap.get?_push_of_some _ q1) q2 q3 (by exact ints_reads hi)) .nil)
  refine wpAny_call (codeAny_mono rc fun r s' hq => ?_)
  obtain ⟨u, rfl, hq⟩ := hq
  exact hq
end
theorem Ext.ofN {aR : AR} {H H' : Hp} (n : LamX.ExtN H H') : Ext aR H H' := by
  have k : ∀ (a : Addr) (o : HO), H a = some o → nt o = true → H' a = some o := fun a o e t => n a o e fun ps z => by rw [z] at t; cases t
  refine ⟨fun a o _ e t => k a o e t, fun a f o e => ?_⟩
  cases t : nt o with
  | false => rfl
  | true => have := f o (k a o e t); rw [t] at this; exact this
theorem RowOk.ofN {aR : AR} {K : PySem.W.Frag} {H H' : Hp} {r : Row} (h : RowOk aR K H r) (n : LamX.ExtN H H') (t : LamX.Tabs aR.tt H') : RowOk aR K H' r := by
  obtain ⟨a, h1, h2, h3, h4, h5⟩ := h
  exact ⟨a, n _ _ h1 (fun ps z => by cases z), h2.keep (fun o u e => n _ _ e fun ps z => by cases z) (fun _ e => n _ _ e fun ps z => by cases z), h3, t, fun b eb => let ⟨o, q, t⟩ := h5 b eb; ⟨o, n _ _ q (fun ps z => by rw [z] at t; cases t), t⟩⟩
theorem isTI_ints {d : D} (h : isTI d = true) : ∃ (l : List D) (ns : List Int), d = .tup l ∧ intsD l = some ns := by
  cases d <;> simp only [isTI] at h <;> first | (cases h; done) | skip
  rename_i l
  obtain ⟨ns, e⟩ := Option.isSome_iff_exists.mp h
  exact ⟨l, ns, rfl, e⟩
theorem srtKD_some {u dd : D} (e : srtKD u = some dd) : ∃ l, u = .lst l ∧ l.all isTI = true ∧ datOk (l.map kyD) = true ∧ l.length ≤ SZ ∧ dd = .lst ((sortDD (l.map kyD)).map unK) := by
  cases u <;> first | (cases e; done) | skip
  rename_i l
  have e : (if (l.all isTI && datOk (l.map kyD) && decide (l.length ≤ SZ)) = true then some (D.lst ((sortDD (l.map kyD)).map unK)) else none) = some dd := e
  split at e
  · rename_i h
    cases e
    simp only [Bool.and_eq_true, decide_eq_true_eq] at h
    exact ⟨l, rfl, h.1.1, h.1.2, h.2, rfl⟩
  · cases e
/-- sorted(xs, key=lambda x: (len(x), x)) -/
theorem f_srtK {X : Cx} {aR : AR} {F : Fns} {ea : Expr} {a : IE} {p pos lp kp : Pos} {params : Arguments} {scope : Scope} {x : Str} {p1 p2 p3 p4 p5 : Pos} {j : Nat} {c P : Addr} (hc : X.calm = true) (hu : X.A.units + 65 < cLine) (hdp : X.A.depth < recursionLimit) (hg : Gl X "sorted") (hm : X.mg "sorted" = none) (hml : X.mg "len" = none)
    (TB : LamX.TabB X.base X.mg c P) (hcode : X.env.code = .ref c) (hP : (P, X.env.qual ++ "<lambda>") ∈ aR.tt) (hun : ∀ q ∈ aR.tt, q.1 = P → q.2 = X.env.qual ++ "<lambda>") (L : LamSc x scope)
    (hdef : defaultsOf params X.env = ([], [])) (hbind : ∀ (pm ctv : Value) (c' : Addr) (v : Value), bindArgs (PySem.W.kla_fn "<lambda>" (X.env.qual ++ "<lambda>") params (lamB x p1 p2 p3 p4 p5 j) scope (cloFrom X.env.cells scope.names []) pm (.ref c') ctv) ⟨[v], []⟩ = pure [(x, v)])
    (hs : starEach [ea] X.env = (false, eval ea X.env) :: starEach [] X.env)
    (ha : PE X ea (tEvC aR X.K F a)) : PE X (.Call (.Name "sorted" p) [ea] [⟨some "key", .Lambda params (lamB x p1 p2 p3 p4 p5 j) scope lp, kp⟩] pos) (tEvF aR X.K F (.srtK a)) := by
  refine ⟨fun pins s σ H Q I h => ?_⟩
  obtain ⟨Z, H0, env, r, ok, dd, r', e, q⟩ := h
  obtain ⟨u, r1, e1, e2⟩ := Res.bind_ok e
  obtain ⟨e3, rfl⟩ := Res.of_ok e2
  obtain ⟨l, rfl, hti, hdat, hsz, rfl⟩ := srtKD_some e3
  refine wpAny_Call_Name_kw (ld_blt I hg hm PyProof.Rows.boot_sorted ?_ (by decide) (by decide))
  refine PyProof.Rows.callWith_kw (thn ((pa_1 ha hs).run pos pins s σ H (fun vs H1 => ∃ v, vs = [v] ∧ Ext aR H H1 ∧ RowOk aR X.K H1 r1 ∧ Ok aR X.K Z H0 σ H1 env r1 ∧ RepC aR H1 (Mk Z σ env (alC a)) (.lst l) v) I (evC_to ok e1 fun v H1 x1 ro1 ok1 rp1 => ⟨v, rfl, x1, ro1, ok1, rp1⟩)) fun us s1 ⟨vs, H1, I1, rv, v, ev, x1, ro1, ok1, rp1⟩ => ?_) (by rw [hs]; rfl) (by rw [hs]; rfl) rfl rfl
  subst ev
  show wpAny _ _ (evalAll [do let v ← eval (.Lambda params (lamB x p1 p2 p3 p4 p5 j) scope lp) X.env; standAt pos; pure v]) _ _ s1
  obtain ⟨_, _, _, _, hT, _⟩ := id ro1
  refine wpAny_evalAll_cons (wpAny_bind (LamX.lam_make2 I1 TB hcode hP hun hT hdef (fun y hy z => by rw [L.names] at hy; simp at hy; rcases hy with rfl | rfl <;> cases z) fun f c' pm ctv H2 s2 I2 ex tabs hf hfn hfr hcc => wpAny_bind (wpAny_standAt (wpAny_pure (wpAny_evalAll_nil ?_)))))
  · have hd := dat_of hdat
    obtain ⟨pa, vs, rfl, h1, n1, rps⟩ := rp1
    have x2 : Ext aR H1 H2 := .ofN ex
    have ro2 : RowOk aR X.K H2 r1 := ro1.ofN ex tabs
    have h2 : H2 pa = some (.lst vs) := ex _ _ h1 (fun ps z => by cases z)
    have rps2 : Reps aR H2 (Mk Z σ env (alC a)) l vs := rps.mono (x2.le (.inl ok.zr))
    rw [Vals.ref1 rv]
    obtain ⟨its, rvv, hL, _⟩ := I2.list (.of h2)
    have len := rps2.length
    have lenv := rvv.length
    have zl : (vs.zip l).length = its.length := by rw [List.length_zip]; omega
    have ez : EachIs (fun v (b : V × D) => RelV b.1 v) its (vs.zip l) := EachIs.of_zip zl.symm fun p hp => by
      obtain ⟨i, hi⟩ := List.getElem?_of_mem hp
      rw [List.getElem?_zip_eq_some, List.getElem?_zip_eq_some] at hi
      obtain ⟨w, e1, e2⟩ := rvv.get hi.2.1
      rw [hi.1] at e1; cases e1
      exact e2
    have elt : ∀ b ∈ vs.zip l, ∃ (ta : Addr) (ns : List Int), b.1 = .ref ta ∧ b.2 = .tup (ns.map .int) ∧ TupO H2 ta (ns.map V.int) ∧ Rep aR H2 (Mk Z σ env (alC a)) b.2 b.1 := fun b hb => by
      obtain ⟨i, hi⟩ := List.getElem?_of_mem hb
      rw [List.getElem?_zip_eq_some] at hi
      obtain ⟨w, e5, rp2⟩ := rps2.get hi.2
      rw [hi.1] at e5; cases e5
      obtain ⟨l', ns, e6, e7⟩ := isTI_ints (List.all_eq_true.mp hti _ (List.mem_of_getElem? hi.2))
      have rp3 := rp2
      rw [e6] at rp3
      obtain ⟨ta, vs', e8, e9, n9, rp4⟩ := rp3
      obtain ⟨rfl, rfl⟩ := ints_of e7 rp4
      exact ⟨ta, ns, e8, e6, e9, rp2⟩
    have memk : ∀ b ∈ vs.zip l, kyD b.2 ∈ l.map kyD := fun b hb => List.mem_map.mpr ⟨b.2, (List.of_mem_zip hb).2, rfl⟩
    have em : (vs.zip l).map (fun b => toPy (kyD b.2)) = (l.map kyD).map toPy := by
      have : (vs.zip l).map (fun b => toPy (kyD b.2)) = (((vs.zip l).map Prod.snd).map kyD).map toPy := by rw [List.map_map, List.map_map]; rfl
      rw [this, List.map_snd_zip (by omega)]
    have al' : AllAlike ((l.map kyD).map toPy) := by
      intro x hx y hy
      obtain ⟨a, ha, rfl⟩ := List.mem_map.mp hx
      obtain ⟨b, hb, rfl⟩ := List.mem_map.mp hy
      exact alk_py a b (hd.alk a ha b hb)
    have so : Sortable ((l.map kyD).map toPy) := .inl fun d hd' => by
      obtain ⟨k, hk, rfl⟩ := List.mem_map.mp hd'
      obtain ⟨x, hx, rfl⟩ := List.mem_map.mp hk
      obtain ⟨l', ns, rfl, _⟩ := isTI_ints (List.all_eq_true.mp hti x hx)
      exact ⟨_, _, by rw [kyD, toPy, toPys]⟩
    refine PySem.W.sorted_key_data (k := fun b : V × D => toPy (kyD b.2)) (R := fun v (b : V × D) => RelV b.1 v) (bs := vs.zip l) (b := false) hL.isList ez (by rw [em]; exact al') (by rw [em]; exact so) (by rw [List.length_zip]; have := SZ_eq; omega) (fun b hb => ?_) (PyProof.Rows.ksk_s1 _ _) (fun _ => PyProof.Rows.ksk_l1 _ _) (fun _ => PyProof.Rows.ksk_t1 _ _) (fun v b hR hb h tk hk => ?_) fun out cc h' tk kp hfr' hD hlen hE => ?_
    · have := (sh_can 31 _ (hd.sh _ (memk b hb))).2
      omega
    · obtain ⟨ta, ns, e6, e7, e8, _⟩ := elt b hb
      rw [e6] at hR
      obtain rfl : v = Value.ref ta := hR
      obtain ⟨hz, its', rv', ht⟩ := (show ObjOk X.prog X.w H2 s2.heap ta (.tup _) from e8.rd.ok I2.hok)
      have ek : toPy (kyD b.2) = keyPy ns := by
        rw [e7, kyD, keyPy, toPy, toPys, toPys, toPys, toPy, toPy, toPys_map, List.length_map, List.map_map]
        rfl
      rw [ek]
      exact lam_turn I2 hdp hml L hf hcc (fun v => hbind _ _ _ v) ht rv'.ints (by rw [← rv'.length]; exact hz) hk
    · have hn : H2 (s2.heap.objs.size + 1) = none := I2.hok.fresh (Nat.le_succ _)
      have perm := List.mergeSort_perm (vs.zip l) (PySem.W.dataLe false fun b : V × D => toPy (kyD b.2))
      have hlen2 : (((vs.zip l).mergeSort (PySem.W.dataLe false fun b : V × D => toPy (kyD b.2))).map (·.1)).length ≤ sizeLine := by rw [List.length_map, perm.length_eq, List.length_zip]; have := SZ_eq; omega
      have sp := PySem.W.sort_pairwise (PySem.W.sortLe_total (listOrd itemOrd) false fun b : V × D => keyToks (toPy (kyD b.2))) (vs.zip l)
      generalize hbs : (vs.zip l).mergeSort (PySem.W.dataLe false fun b : V × D => toPy (kyD b.2)) = bs at perm hlen2 hE
      have hbs2 : (vs.zip l).mergeSort (PySem.W.sortLe (listOrd itemOrd) false fun b : V × D => keyToks (toPy (kyD b.2))) = bs := hbs
      rw [hbs2] at sp
      have e0 : List.toArray out = out.toArray := rfl
      refine ⟨.ref _, upd H2 (s2.heap.objs.size + 1) (.lst (bs.map (·.1))), I2.laid (t' := tk) kp (Nat.le_succ _) ⟨hlen2, out, cc, each_vals (us := vs) hE, hD⟩, rfl, q _ _ ((x1.trans x2).trans (.new hn)) (ro2.keep (keep_new hn)) ((x1.trans x2).dom _ (.of hn)) (ow_newL hn ?_)⟩
      have memb : ∀ b ∈ bs, b ∈ vs.zip l := fun b hb => perm.mem_iff.mp hb
      have pk : (bs.map fun b => kyD b.2).Perm (l.map kyD) := by
        have := perm.map fun b : V × D => kyD b.2
        rw [show (vs.zip l).map (fun b => kyD b.2) = ((vs.zip l).map Prod.snd).map kyD by rw [List.map_map]; rfl, List.map_snd_zip (by omega)] at this
        exact this
      have pw : (bs.map fun b => kyD b.2).Pairwise LeD := by
        rw [List.pairwise_map]
        refine List.Pairwise.imp_of_mem (fun {x y} hx hy hh => ?_) sp
        show D.lt (kyD y.2) (kyD x.2) = false
        rw [hd.lt (memk y (memb y hy)) (memk x (memb x hx))]
        have hh : (!lexLt itemOrd (keyToks (toPy (kyD y.2))) (keyToks (toPy (kyD x.2)))) = true := hh
        simpa using hh
      have es : (bs.map fun b => kyD b.2) = sortDD (l.map kyD) := pw_uniq hd (pk.trans (sortDD_perm _).symm) (fun y hy => pk.mem_iff.mp hy) pw (sortDD_pw hd _ fun _ h => h)
      have es2 : (sortDD (l.map kyD)).map unK = bs.map (·.2) := by
        rw [← es, List.map_map]
        refine List.map_congr_left fun b hb => ?_
        obtain ⟨ta, ns, _, e7, _⟩ := elt b (memb b hb)
        show unK (kyD b.2) = b.2
        rw [e7]; rfl
      rw [es2]
      exact reps_zip fun b hb => (elt b (memb b hb)).choose_spec.choose_spec.2.2.2
end Wl
/-! xs.remove(e), e a tuple. -/
namespace Wl
open PySem PySem.Spec PyProof.Rows L2 SeqAt
section
variable {X : Cx} {aR : AR} {F : Fns} {a : IE} {ea : Expr} {pos : Pos}
/-- x.remove(y): the first equal one goes -/
def rRemD (K : PySem.W.Frag) : V → List V → Hp → VK → Prop := fun x xs H Q => ∃ (l : Addr) (ws : List V) (y : V) (d : PyData) (ds : List PyData) (j : Nat) (z : PyData), x = V.ref l ∧ xs = [y] ∧ H l = some (.lst ws) ∧ Dp K H (V.ref l) (.list ds) ∧ Dp K H y d ∧
  SeqAt.shaped (.list ds) = true ∧ SeqAt.shaped d = true ∧ ds[j]? = some z ∧ PyData.eqv z d = true ∧ (∀ (m : Nat) (z' : PyData), m < j → ds[m]? = some z' → PyData.eqv z' d = false) ∧ Q .non (upd H l (.lst (ws.eraseIdx j)))
theorem mt_removeD (hu : X.A.units + 65 < cLine) : MtM X "list.remove" (rRemD X.K) := by
  intro pins s σ H x xs v us Q I rx rxs h
  obtain ⟨l, ws, y, d, ds, j, z, rfl, rfl, hH, hl, hy, sl, sd, hz, hzj, hno, q⟩ := h
  cases rx
  cases rxs with
  | cons ry rt =>
    rename_i uy ut
    cases rt
    obtain ⟨bs, r1⟩ := Dp.reads I d y uy hy ry
    have hxs : PyData.canLayAll0 ds = true := SeqAt.canLay_of_shaped sl
    have hroom : X.A.units + 1 + min (PyData.depthAll ds) d.depth < cLine := room_in_shaped sd hu
    obtain ⟨lz, its, n, r, hlen, e⟩ := I.lstM hH
    cases hl with
    | lst hs ha =>
      obtain ⟨its', rv, ⟨⟨cls, dd, data, sls⟩, n', ho, hc, hdn, hdt⟩, hlen'⟩ := I.list hs
      simp only at hc hdt
      subst hc hdt
      rw [e] at ho
      obtain ⟨rfl, e2, rfl⟩ : dd = none ∧ its.toArray = its'.toArray ∧ sls = #[] := by
        have := Option.some.inj ho
        injection this with h1 h2 h3 h4
        injection h3 with h5 h6
        exact ⟨h2.symm, h5, h4.symm⟩
      have e3 : its = its' := by simpa using congrArg Array.toList e2
      subst e3
      obtain ⟨as, h4⟩ := Dp.readsAll I ds _ its ha rv
      have hn : its.length = ds.length := SeqAt.ReadsAll.length ds its as h4
      have hmap : its.map (SeqAt.readOf s.heap) = ds := SeqAt.readsAll_map ds its as hxs h4
      have hsl := sizeLine_eq
      obtain ⟨hjd, _⟩ := List.getElem?_eq_some_iff.mp hz
      have hjl : j < its.length := by omega
      have hj : j < its.toArray.size := by simpa using hjl
      have at_ : ∀ (m : Nat) (hm : m < its.toArray.size) (z' : PyData), ds[m]? = some z' → SeqAt.readOf s.heap its.toArray[m] = z' := by
        intro m hm z' hz'
        have hml : m < its.length := by simpa using hm
        rw [← hmap, List.getElem?_map, List.getElem?_eq_getElem hml] at hz'
        have e1 : SeqAt.readOf s.heap its[m] = z' := Option.some.inj (show some (SeqAt.readOf s.heap its[m]) = some z' from hz')
        simpa using e1
      have hsz : its.toArray.size ≤ sizeLine := by rw [List.size_toArray, ← hlen]; exact lz
      refine call_meets PySem.F.slot_list_remove ⟨_, e, rfl⟩ PySem.F.entry_list_remove (PySem.F.args_list_remove_2 _ _)
        (SeqAt.list_removeAt l its.toArray n none #[] uy (fun u => PyData.eqv (SeqAt.readOf s.heap u) d) j hj ?_ ?_ hsz) ⟨e, SeqAt.items_eqAt (vs := its.toArray) (show ReadsAll s.heap its.toArray.toList ds as from h4) r1 hxs (SeqAt.canLay_of_shaped sd) hroom, ?_⟩
      · show PyData.eqv (SeqAt.readOf s.heap its.toArray[j]) d = true
        rw [at_ j hj z hz]
        exact hzj
      · intro m hm hmj
        have hmd : m < ds.length := by have : m < its.length := by simpa using hm
                                       omega
        have hz' : ds[m]? = some ds[m] := List.getElem?_eq_getElem hmd
        show PyData.eqv (SeqAt.readOf s.heap its.toArray[m]) d = false
        rw [at_ m hm _ hz']
        exact hno m _ hmj hz'
      · have rr := r.eraseIdx j
        refine ⟨.non, _, I.lset (its' := its.eraseIdx j) (t' := s.toks) hH e ?_ rr ?_, rfl, q⟩
        · show its.toArray.eraseIdxIfInBounds j = (its.eraseIdx j).toArray
          rw [List.eraseIdxIfInBounds_toArray]
        · have z2 := List.length_eraseIdx_le ws j
          omega
theorem s_remD {i : Nat} {x : Str} {p0 apos cpos : Pos} (hu : X.A.units + 65 < cLine) (hi : X.N[i]? = some x) (hv : Vis X.env.scope x) (hd : (x == ("__debug__" : Str)) = false) (hcd : (x == ("__classdict__" : Str)) = false) (ha : PE X ea (tEvC aR X.K F a))
    (m : M1 X (.Name x p0) "remove" apos ea cpos) (hs : starEach [ea] X.env = [(false, eval ea X.env)]) :
    PS X (.Expr (.Call (.Attribute (.Name x p0) "remove" apos) [ea] [] cpos) pos) (tEvS aR X.K F (EX X) (.remD i a)) :=
  PS.imp (ps_expr (pe_bm PySem.F.plainAttrs_list PySem.F.slot_list_remove PySem.F.type_list_remove (mt_removeD hu) (pe_var hi hv hd hcd) (pa_cons ha pa_nil (by rw [hs]; rfl)) m.base m.few m.line (by rw [hs]; rfl) rfl) rfl) fun E σ H ⟨Z, H0, env, r, ok, f, r', e, q⟩ => by
    obtain ⟨d, r1, e1, e2⟩ := Res.bind_ok e
    split at e2
    · rename_i l hl
      split at e2
      · rename_i hs'
        split at e2
        · rename_i j ej
          cases e2
          obtain ⟨p, vs, h1, h2, h3, np⟩ := own_lst ok hl
          refine ⟨.ref p, h1, .inl ⟨rfl, vs, .of h2⟩, evC_to ok e1 fun v H' xx ro ok' rp => ?_⟩
          have H1 := xx _ _ np h2 rfl
          have g3 := h3.mono (xx.le (.inl ok.zr))
          rw [Bool.and_eq_true] at hs'
          obtain ⟨z, g1, g2, g4⟩ := indL_some ej
          have sl : D.sh 32 (.lst l) = true := by simp only [D.sh]; exact hs'.2
          have d1 : Dp X.K H' (.ref p) (.list (toPys l)) := .lst (.of H1) (shs_dp 31 l vs hs'.2 g3)
          have d2 := sh_dpC (K := X.K) hs'.1 rp
          have s1 := sh_shaped sl (by decide)
          have s2 := sh_shaped hs'.1 (by decide)
          simp only [toPy] at s1
          refine ⟨p, vs, v, toPy d, toPys l, j, toPy z, rfl, rfl, H1, d1, d2, s1, s2, by rw [toPys_at, g1]; rfl, ?_, fun m' z' hm hz => ?_, ?_⟩
          · rw [beq_py z d 31 32 (shs_at hs'.2 g1) hs'.1]; exact g2
          · rw [toPys_at] at hz
            obtain ⟨z0, k1, rfl⟩ := Option.map_eq_some_iff.mp hz
            rw [beq_py z0 d 31 32 (shs_at hs'.2 k1) hs'.1]
            exact g4 m' z0 hm k1
          · have ok1 := ok_lose ok' hl h1 H1 g3 (l.eraseIdx j) (vs.eraseIdx j) (g3.eraseIdx _)
            exact q σ _ ok1 ((ok.le xx).trans (le_updO hl h1))
        · cases e2
      · cases e2
    · cases e2
end
end Wl
/-! Dicts gone through by a comprehension: the comprehension under a lock. -/
namespace Wl
open PySem PySem.Spec PyProof.Rows L2
section
variable {X : Cx} {aR : AR} {F : Fns} {e1 : Expr} {a b c d : IE} {pos : Pos}
theorem v_compC {i : Nat} {elt tgx iter : Expr} {ifs : List Expr} {scope : Scope} {own : List (Str × Nat)} {fr tg : List Nat} {sole cd : Bool} {it c e : IE} (hc : X.calm = true) (hN : X.N.Nodup)
    (hi : PI X tgx iter fun σ H R => FrzAt i σ H ∧ tEvI aR X.K F it σ H R) (ok : BlkOk X.N X.env.scope scope own) (hown : own.map (·.2) = tg)
    (hg : ∀ (s : Shared) (H : Hp) (C : Addr) (cl : List (Str × Addr)) (fp : List Addr), PG (X.blk s H scope (compEnvC scope cl C X.env) fp) tgx (gT X.K sole tg))
    (ht : ∀ (s : Shared) (H : Hp) (C : Addr) (cl : List (Str × Addr)) (fp : List Addr), PTs (X.blk s H scope (compEnvC scope cl C X.env) fp) ifs (tCd aR X.K F cd c))
    (he : ∀ (s : Shared) (H : Hp) (C : Addr) (cl : List (Str × Addr)) (fp : List Addr), PE (X.blk s H scope (compEnvC scope cl C X.env) fp) elt (tEv aR X.K F e))
    (hs : ∀ x, foldedSetIterable iter X.env x = pure x) (f1 : ∀ i ∈ al it, i ∈ fr) (f2 : ∀ i ∈ tg, i ∈ fr) (fw : wkI it = true → (!sole) = true) :
    PE X (.ListComp elt [⟨tgx, iter, ifs, 0⟩] scope pos) (fun σ H Q => FrzAt i σ H ∧ tEvF aR X.K F (.comp fr tg sole it cd c e) σ H Q) := by
  have h := pe_lc (pos := pos) hc hN hi ok hg ht he hs
  rw [hown] at h
  exact PE.imp h fun σ H Q ⟨hf, w⟩ => ⟨hf, comp_reads f1 f2 fw σ H Q w⟩
theorem ext_back {H H' : Hp} {d : Addr} {u : HO} {od : Obj} (hd : H d = some u) (dc : isDc u) (x' : Ext aR (upd H d (.frz od u)) H') : Ext aR H (upd H' d u) := ⟨fun a o n ea t => by
    by_cases c : a = d
    · subst c
      rw [hd] at ea; cases ea
      exact upd_same
    · rw [upd_ne c]
      exact x' a o n (by rw [upd_ne c]; exact ea) t, fun a f o e => by
    by_cases c : a = d
    · subst c
      exact absurd (f u upd_same) (by cases u <;> first | (intro z; cases z; done) | exact dc.elim)
    · exact x'.dom a (fun o e => f o (by rw [upd_ne c]; exact e)) o (by rw [upd_ne c]; exact e)⟩
theorem lock_core {K : PySem.W.Frag} {fr tg : List Nat} {sole cd : Bool} {it c e : IE} {i : Nat} (hit : it = .itI (.var i) ∨ it = .itK (.var i)) (f2 : i ∈ fr) {σ : L2.St} {H : Hp} {Q : VK}
    (w : tEvF aR K F (.comp fr tg sole it cd c e) σ H Q) : (FrzAt i σ H ∧ tEvF aR K F (.comp fr tg sole it cd c e) σ H Q) ∨
      (∃ d u, H d = some u ∧ Mut (some u) ∧ ∀ od, FrzAt i σ (upd H d (.frz od u)) ∧ tEvF aR K F (.comp fr tg sole it cd c e) σ (upd H d (.frz od u)) (fun v H' => H' d = some (.frz od u) ∧ Q v (upd H' d u))) := by
    obtain ⟨Z, H0, env, r, ok, d0, r', e0, q⟩ := w
    obtain ⟨x, r1, e1, e2⟩ := Res.bind_ok e0
    obtain ⟨t, ks, vs, ed, rfl⟩ : ∃ t ks vs, rd env i = some (.dct t ks vs) ∧ r = r1 := by
      rcases hit with rfl | rfl
      · obtain ⟨y, r2, e3, e4⟩ := Res.bind_ok e1
        obtain ⟨e5, rfl⟩ := Res.of_ok e3
        split at e4
        · cases e4; exact ⟨_, _, _, e5, rfl⟩
        · cases e4
      · obtain ⟨y, r2, e3, e4⟩ := Res.bind_ok e1
        obtain ⟨e5, rfl⟩ := Res.of_ok e3
        split at e4
        · cases e4; exact ⟨_, _, _, e5, rfl⟩
        · cases e4
    have no : noOwn env fr = true := by
      split at e2
      · split at e2
        · cases e2
        · rename_i hno; simpa using hno
      · cases e2
    obtain ⟨d, h1, w⟩ := frz_dct ok ed
    have w2 : ∃ u, isDc u ∧ Rd H d u ∧ ¬ Mk Z σ env [] d := by
      rcases w with ⟨_, w⟩ | ⟨z, _⟩
      · cases t with
        | false => obtain ⟨b, kvs, e3, h3, n, _⟩ := w; cases e3; exact ⟨.dK kvs, trivial, h3, n⟩
        | true => obtain ⟨b, ob, bs, us, e3, h3, n, hk, _⟩ := w; cases e3; exact ⟨exO d ob, hk.lk, h3, n⟩
      · exact absurd z (fun z => noOwn_at no f2 z)
    obtain ⟨u, dc, rd, nd⟩ := w2
    rcases rd with hd | ⟨o, hd⟩
    · right
      have ndR : d ≠ aR := fun z => nd (by rw [z]; exact ok.mr)
      refine ⟨d, u, hd, dc.mut, fun od => ⟨⟨d, od, u, h1, upd_same⟩, Z, upd H0 d (.frz od u), env, r, ?_, d0, r', e0, fun p H' x' ro' f' ow' => ?_⟩⟩
      · have m : Sm d u od H (upd H d (.frz od u)) := ⟨fun a n => upd_ne n, dc, .inl ⟨hd, upd_same⟩⟩
        have x0 : Ext aR (upd H0 d (.frz od u)) (upd H d (.frz od u)) := ⟨fun a o n ea t => by
          by_cases c : a = d
          · subst c; rw [upd_same] at ea ⊢; exact ea
          · rw [upd_ne c] at ea ⊢; exact ok.ext a o n ea t, fun a f => by
          by_cases c : a = d
          · subst c; exact absurd (f _ upd_same) (by intro z; cases z)
          · intro o e
            rw [upd_ne c] at e
            exact ok.ext.dom a (fun o e => f o (by rw [upd_ne c]; exact e)) o e⟩
        have sc0 : ∀ a, aR.sc = some a → ∃ o, upd H0 d (.frz od u) a = some o ∧ nt o = true := fun a ha => by
          by_cases c : a = d
          · subst c; exact ⟨_, upd_same, rfl⟩
          · rw [upd_ne c]; exact ok.sc a ha
        exact ok.sm m nd x0 (fun a n h o e => by rw [upd_ne n] at e; exact h o e) sc0
      · have k1 : H' d = some (.frz od u) := x' d _ ndR upd_same rfl
        have m' : Sm d u od H' (upd H' d u) := ⟨fun a n => upd_ne n, dc, .inr ⟨k1, upd_same⟩⟩
        have ne : p ≠ d := fun z => by
          subst z
          exact absurd (f' _ upd_same) (by intro z; cases z)
        exact ⟨k1, q p _ (ext_back hd dc x') (ro'.sm m') (fun o e => f' o (by rw [upd_ne ne]; exact e)) (ow'.sm m' ne)⟩
    · exact .inl ⟨⟨d, o, u, h1, hd⟩, Z, H0, env, r, ok, d0, r', e0, q⟩
theorem e_lock {ex : Expr} {fr tg : List Nat} {sole cd : Bool} {it c e : IE} {i : Nat} (hit : it = .itI (.var i) ∨ it = .itK (.var i)) (f2 : i ∈ fr)
    (h : PE X ex fun σ H Q => FrzAt i σ H ∧ tEvF aR X.K F (.comp fr tg sole it cd c e) σ H Q) : PE X ex (tEvF aR X.K F (.comp fr tg sole it cd c e)) :=
  PE.imp (PE.orT h (pe_lock h)) fun _ _ _ w => lock_core hit f2 w
theorem a_lock {st : Stmt} {fr tg : List Nat} {sole cd : Bool} {it c e : IE} {i j : Nat} (hit : it = .itI (.var i) ∨ it = .itK (.var i)) (f2 : i ∈ fr)
    (h : PS X st fun D σ H => FrzAt i σ H ∧ tAsg (tEvF aR X.K F (.comp fr tg sole it cd c e)) (gName j) D σ H) : PS X st (tAsg (tEvF aR X.K F (.comp fr tg sole it cd c e)) (gName j)) :=
  PS.imp (PS.or h (ps_lock h)) fun _ _ _ w => lock_core hit f2 w
end
end Wl
/-! A comprehension over the keys of a dict that an expression gives: locked once it is there. -/
namespace Wl
open PySem PySem.Spec PyProof.Rows L2
section
variable {X : Cx} {aR : AR} {F : Fns} {pos : Pos}
theorem comp_core {K : PySem.W.Frag} {fr tg A B : List Nat} {sole cd : Bool} {c e : IE} {wk : Bool} (f1 : ∀ i ∈ A, i ∈ fr) (f2 : ∀ i ∈ tg, i ∈ fr) {σ : L2.St} {Hs H1 : Hp} {Q : VK} {Z : Addr → Prop} {H0 : Hp} {env : Env} {l acc : List D} {r1 r' : Row} (okH1 : Ok aR K Z H0 σ H1 env r1) (x1 : Ext aR Hs H1) (hno : noOwn env fr = true)
    (e3 : turns (compF F tg sole cd c e env) l [] r1 = .ok acc r') (q : ∀ p H', Ext aR Hs H' → RowOk aR K H' r' → Fr0 Hs p → Ow aR H' (Mk (fun a => Z a ∨ a = p) σ env (al e ++ fr)) p (.lst acc) → Q (.ref p) H')
    {J : It} (io : ItOk aR (Mk Z σ env A) (Dv σ env B) J l H1 wk) (fw : wk = true → (!sole) = true) : tLc (fun _ _ R => R J H1) (gT K sole tg) (tCd aR K F cd c) (tEv aR K F e) tg σ Hs Q := by
  show ∀ D, H1 D = none → _
  intro Da hD
  obtain ⟨U, Y, hU, hW, hY⟩ := io
  have ro1 := okH1.row
  have not : noOwn env tg = true := List.all_eq_true.mpr fun i hi => List.all_eq_true.mp hno i (f2 i hi)
  have nD : Da ≠ aR := fun z => by obtain ⟨b, eb, _⟩ := ro1; rw [z, eb] at hD; cases hD
  have hsD : Fr0 Hs Da := x1.dom Da (.of hD)
  have h0D : Fr0 H0 Da := okH1.ext.dom Da (.of hD)
  let Z2 : Addr → Prop := fun a => Z a ∨ a = Da
  have zD : Z2 Da := .inr rfl
  let M : Addr → Prop := Mk Z2 σ env (al e ++ fr)
  have hDv : ∀ a, Dv σ env B a → a ≠ Da := fun a ⟨i, d', _, h2, h3⟩ q => by
    obtain ⟨b, eb, _, _, o⟩ := okH1.ow i d' h2
    rw [h3] at eb; cases eb
    obtain ⟨o', eo, _⟩ := o.lk
    rw [q, hD] at eo; cases eo
  refine lc_it hW (CompInv aR K (compF F tg sole cd c e env) l acc r' Da M Z2 H0 σ env H1) ⟨[], [], r1, Nat.zero_le _, e3, upd_same, rfl, ?_, .new hD⟩ (fun i H hi p a o hu ea et => ?_) (fun i x H H' hi p y => ?_) (fun H p => ?_)
  · exact okH1.hide (.new hD) (ro1.keep (keep_new hD)) (.of hD) upd_same trivial
  · obtain ⟨_, _, _, _, _, _, _, _, k⟩ := p
    exact k a o (hU a hu).1 ea et
  · obtain ⟨accs, vs, ri, hil, et, hDl, rps, okH, k⟩ := p
    have hle : Le H1 (Mk Z σ env A) H (Mk Z2 σ env []) := fun a o ea t n => by
      refine ⟨k a o (fun z => n (.inl (by rw [z]; exact okH1.zr))) ea t, fun m => ?_⟩
      rcases m with (m | m) | ⟨j, d', h1, h2, _⟩
      · exact n (.inl m)
      · rw [m, hD] at ea; cases ea
      · by_cases q : j ∈ A
        · exact noOwn_at hno (f1 j q) h1
        · exact n (.inr ⟨j, d', h1, h2, q⟩)
    obtain ⟨nw, d, ed, rpx⟩ := hY i H x H' (Mk Z2 σ env []) hi hle (fun a m => okH.mkk a m) y
    have extN : Ext aR H H' := .keep nw.keep
    have okH' := okH.grow extN (okH.row.keep nw.keep)
    have ed' : l.drop i = d :: l.drop (i + 1) := by
      obtain ⟨h1, h2⟩ := List.getElem?_eq_some_iff.mp ed
      rw [List.drop_eq_getElem_cons h1, h2]
    rw [ed'] at et
    obtain ⟨o, r3, et1, et2⟩ := turn_ok et
    have okW := okH'.wipe (tg := tg) not
    have subW : ∀ a, Mk Z2 (wipe σ tg) (wipeE env tg) [] a → Mk Z2 σ env [] a := fun a m => by
      rcases m with m | ⟨j, d', h1, h2, _⟩
      · exact .inl m
      · rw [wipeE_get] at h1
        split at h1
        · cases h1
        · rename_i q
          rw [wipe_get] at h2
          have lj := (List.getElem?_eq_some_iff.mp h1).1
          rw [if_neg (fun z => q ⟨z.1, lj⟩)] at h2
          exact .inr ⟨j, d', h1, h2, by simp⟩
    unfold compF at et1
    split at et1
    · cases et1
    · rename_i env' eb
      refine gT_to okW eb ((rpx.of fw).mono (Le.less subW)) fun xs ls ee ok2 => ⟨wipe_sets tg xs σ, ?_⟩
      have fin : ∀ (H4 : Hp) (r4 : Row) (dy : D) (y : V), Ext aR H' H4 → RowOk aR K H4 r4 → ev F e env' ri = .ok dy r4 ∨ True → Rep aR H4 (Mk Z2 (sets tg xs (wipe σ tg)) env' (al e)) dy y → accs.length < SZ → turns (compF F tg sole cd c e env) (l.drop (i + 1)) (accs ++ [dy]) r4 = .ok acc r' →
          ∃ ac, H4 Da = some (.lst ac) ∧ ac.length < sizeLine ∧ CompInv aR K (compF F tg sole cd c e env) l acc r' Da M Z2 H0 σ env H1 (i + 1) (upd H4 Da (.lst (ac ++ [y]))) := by
        intro H4 r4 dy y x4 ro4 _ rpy hz et4
        have xD : H4 Da = some (.lst vs) := x4 Da _ nD (nw.keep Da _ hDl) rfl
        have ok4 := (okH.grow extN (okH.row.keep nw.keep)).grow x4 ro4
        refine ⟨vs, xD, by rw [rps.length, ← SZ_eq]; exact hz, accs ++ [dy], vs ++ [y], r4, hi, et4, upd_same, ?_, ok4.updZ zD nD h0D xD, ((k.trans extN).trans x4).updN (.of hD)⟩
        · have l1 : Le H M (upd H4 Da (.lst (vs ++ [y]))) M := ((extN.trans x4).le (.inl (.inl okH1.zr))).trans (le_updZ (.inl zD))
          refine (rps.mono l1).append (.one ?_)
          have l2 : Le H4 (Mk Z2 (sets tg xs (wipe σ tg)) env' (al e)) H4 M := Le.less fun a m => by
            rcases m with m | ⟨j, d', h1, h2, h3⟩
            · exact .inl m
            · have nf : j ∉ fr := fun z => h3 (List.mem_append_right _ z)
              have ntg : j ∉ tg := fun z => nf (f2 j z)
              refine .inr ⟨j, d', ?_, ?_, fun z => h3 (List.mem_append_left _ z)⟩
              · rw [ee, setsE_get tg ls _ ntg, wipeE_get, if_neg (fun z => ntg z.1)]
                exact h1
              · rw [sets_get tg xs _ ntg, wipe_get, if_neg (fun z => ntg z.1)]
                exact h2
          exact rpy.mono (l2.trans (le_updZ (.inl zD)))
      cases cd with
      | false =>
        obtain ⟨dy, r4, e5, e6⟩ := Res.bind_ok et1
        cases e6
        rcases et2 with ⟨z, _⟩ | ⟨y', ey, hz, et3⟩
        · cases z
        · cases ey
          unfold tCd
          rw [if_neg Bool.false_ne_true]
          unfold tYes
          refine iteT ?_
          exact ev_to ok2 e5 fun y H4 x4 ro4 ok4 rp4 => fin H4 _ dy y x4 ro4 (.inr trivial) rp4 hz et3
      | true =>
        obtain ⟨kd, r4, e5, e6⟩ := Res.bind_ok et1
        obtain ⟨kb, r5, e7, e8⟩ := Res.bind_ok e6
        obtain ⟨rfl, rfl⟩ := asB_b e7
        refine evT_to ok2 e5 fun H3 x3 ro3 ok3 => ?_
        cases kb with
        | false =>
          cases e8
          rw [if_neg Bool.false_ne_true]
          rcases et2 with ⟨_, et3⟩ | ⟨y', ey, _⟩
          · have ok4 := (okH.grow extN (okH.row.keep nw.keep)).grow x3 ro3
            exact ⟨accs, vs, _, hi, et3, x3 Da _ nD (nw.keep Da _ hDl) rfl, rps.mono ((extN.trans x3).le (.inl (.inl okH1.zr))), ok4, (k.trans extN).trans x3⟩
          · cases ey
        | true =>
          rw [if_pos rfl] at e8 ⊢
          obtain ⟨dy, r6, e9, e10⟩ := Res.bind_ok e8
          cases e10
          rcases et2 with ⟨z, _⟩ | ⟨y', ey, hz, et3⟩
          · cases z
          · cases ey
            exact ev_to ok3 e9 fun y H4 x4 ro4 ok4 rp4 => fin H4 _ dy y (x3.trans x4) ro4 (.inr trivial) rp4 hz et3
  · obtain ⟨accs, vs, ri, hil, et, hDl, rps, okH, k⟩ := p
    rw [List.drop_length] at et
    cases et
    exact q Da H (x1.trans k) okH.row hsD ⟨vs, hDl, rps⟩
/-- or a lock taken off -/
def unlkQ (X : Cx) (Q : VK) : VK := fun v H' => Q v H' ∨ ∃ d od u, H' d = some (.frz od u) ∧ (∀ o' u', X.H_0 d ≠ some (.frz o' u')) ∧ Q v (upd H' d u)
theorem pe_unlk {e : Expr} {t : TE} (h : PE X e t) : PE X e (fun σ H Q => t σ H (unlkQ X Q)) := by
  refine ⟨fun pins s σ H Q I hw => thn (h.run pins s σ _ _ I hw) fun v s1 ⟨x, H1, I1, r, q⟩ => ?_⟩
  rcases q with q | ⟨d, od, u, hd, nf, q⟩
  · exact ⟨x, H1, I1, r, q⟩
  · exact ⟨x, _, I1.unlock hd nf, r, q⟩
def iKeysL (X : Cx) (td : TE) : TI := fun σ H R => td σ H fun x H1 => ∃ d, x = .ref d ∧ ((∃ o kvs, H1 d = some (.frz o (.dK kvs)) ∧ R (Itk d o kvs) H1) ∨ (∃ kvs, H1 d = some (.dK kvs) ∧ ∀ od, (∀ o' u', X.H_0 d ≠ some (.frz o' u')) → R (Itk d od kvs) (upd H1 d (.frz od (.dK kvs)))) ∨ ∃ o xs us, Rd H1 d (exO d o) ∧ DicO d o xs ∧ Vals us (xs.map (·.2.2)) ∧ R (ItkX d o xs) H1)
theorem pi_keysL {tg e : Expr} {td : TE} (he : PE X e td) : PI X tg e (iKeysL X td) := by
  refine ⟨fun pins s σ H R I h => ?_⟩
  refine thn (he.run pins s σ H _ I h) fun u s1 ⟨x, H1, I1, rx, d, ex, q⟩ => ?_
  subst ex
  obtain rfl : u = Value.ref d := rx
  have fz : ∀ {o : Obj} {kvs : List (Key × V)} {H2 : Hp}, Inv X pins σ H2 s1 → H2 d = some (.frz o (.dK kvs)) → R (Itk d o kvs) H2 → wpAny (model X.prog X.w) X.A (pyIter (.ref d)) (PIE X pins σ tg R) X.xe s1 := fun {o kvs H2} I2 hd q => by
    obtain ⟨hs, hgd, hx, es, ep, vs, hdt, hsz, kv, hm⟩ := I2.frzK hd
    refine iter_keys hs hgd hx hdt (pi_one (tk := s1.toks) I2 _ (turn_keys _ hdt) ⟨_, Heap.get?_push_size _ rfl, rfl, ?_⟩ q)
    rw [hsz] <;> rfl
  rcases q with ⟨o, kvs, hd, q⟩ | ⟨kvs, hd, q⟩ | ⟨o, xs, us, hd, dd, hv, q⟩
  · exact fz I1 hd q
  · obtain ⟨od, I2⟩ := I1.lock hd trivial
    exact fz I2 upd_same (q od (I1.nofrz hd trivial))
  · obtain ⟨hgd, es, ep, hdt, hsz, ent⟩ := exO_ent I1 hd dd hv
    refine iter_keys dd.sm hgd dd.ex hdt (pi_one (tk := s1.toks) I1 _ (turn_keysX _ dd hv hdt) ⟨_, Heap.get?_push_size _ rfl, rfl, ?_⟩ q)
    rw [hsz] <;> rfl
/-- the keys' items -/
theorem itk_ok {H1 : Hp} {M : Addr → Prop} {B : Addr → Prop} {d : Addr} {o : Obj} {kvs : List (Key × V)} (h2 : H1 d = some (.frz o (.dK kvs))) (n1 : d ≠ aR) (n2 : ¬ M d) : ItOk aR M B (Itk d o kvs) (kvs.map fun p => keyD p.1) H1 false := by
  refine ⟨fun a => a = d, fun i H x H' => H' = H ∧ ∃ k v, kvs[i]? = some (k, v) ∧ x = kV k, fun z hz => by subst hz; exact ⟨n1, .inl n2⟩, ?_, fun j H2 y H3 Z' hj hle zk hy => ?_⟩
  · rw [List.length_map]
    exact walk_keys.mono (fun H2 g => g d _ rfl h2 rfl) (fun _ _ _ _ _ _ y => y)
  · obtain ⟨rfl, k, v, ek, rfl⟩ := hy
    exact ⟨.inl rfl, keyD k, by rw [List.getElem?_map, ek]; rfl, (rep_key k).i⟩
theorem v_compK {elt tgx iter : Expr} {ifs : List Expr} {scope : Scope} {own : List (Str × Nat)} {fr tg : List Nat} {sole cd : Bool} {a c e : IE} (hc : X.calm = true) (hN : X.N.Nodup)
    (ha : PE X iter (tEv aR X.K F a)) (ok : BlkOk X.N X.env.scope scope own) (hown : own.map (·.2) = tg)
    (hg : ∀ (s : Shared) (H : Hp) (C : Addr) (cl : List (Str × Addr)) (fp : List Addr), PG (X.blk s H scope (compEnvC scope cl C X.env) fp) tgx (gT X.K sole tg))
    (ht : ∀ (s : Shared) (H : Hp) (C : Addr) (cl : List (Str × Addr)) (fp : List Addr), PTs (X.blk s H scope (compEnvC scope cl C X.env) fp) ifs (tCd aR X.K F cd c))
    (he : ∀ (s : Shared) (H : Hp) (C : Addr) (cl : List (Str × Addr)) (fp : List Addr), PE (X.blk s H scope (compEnvC scope cl C X.env) fp) elt (tEv aR X.K F e))
    (hs : ∀ x, foldedSetIterable iter X.env x = pure x) (f1 : ∀ i ∈ al a, i ∈ fr) (f2 : ∀ i ∈ tg, i ∈ fr) :
    PE X (.ListComp elt [⟨tgx, iter, ifs, 0⟩] scope pos) (tEvF aR X.K F (.comp fr tg sole (.itK a) cd c e)) := by
  have h := pe_unlk (pe_lc (pos := pos) hc hN (pi_keysL ha) ok hg ht he hs)
  rw [hown] at h
  refine PE.imp h fun σ H Q ⟨Z, H0, env, r, okS, dd, r', e0, q⟩ => ?_
  obtain ⟨u, r1, e1, e2⟩ := Res.bind_ok e0
  obtain ⟨y, r2, e3, e4⟩ := Res.bind_ok e1
  cases y <;> first | (cases e4; done) | skip
  rename_i t ks vs
  cases e4
  have e2 : (if !(noOwn env fr) then Res.no else (turns (compF F tg sole cd c e env) ks [] r1).bind fun acc r => .ok (.lst acc) r) = .ok dd r' := e2
  split at e2
  · cases e2
  rename_i hno
  have hno : noOwn env fr = true := by simpa using hno
  obtain ⟨acc, r3, e5, e6⟩ := Res.bind_ok e2
  cases e6
  have sub : ∀ z, Mk Z σ env [] z → Mk Z σ env (al a) z := fun z m => by
    rcases m with m | ⟨j, d', h1, h2, _⟩
    · exact .inl m
    · refine .inr ⟨j, d', h1, h2, fun hj => noOwn_at hno (f1 j hj) h1⟩
  show (tEv aR X.K F a) σ H _
  refine ev_to okS e3 fun v H1 x1 ro1 ok1 rp1 => ?_
  cases t with
  | false =>
    obtain ⟨d, kvs, rfl, hrd, n, rfl, rps⟩ := rp1
    have n1 : d ≠ aR := fun z => n (sub _ (by rw [z]; exact ok1.mr))
    refine ⟨d, rfl, ?_⟩
    rcases hrd with hd | ⟨o, hd⟩
    · refine .inr (.inl ⟨kvs, hd, fun od nf => ?_⟩)
      have dc : isDc (HO.dK kvs) := trivial
      have m : Sm d (.dK kvs) od H1 (upd H1 d (.frz od (.dK kvs))) := ⟨fun a n => upd_ne n, dc, .inl ⟨hd, upd_same⟩⟩
      have x0 : Ext aR (upd H0 d (.frz od (.dK kvs))) (upd H1 d (.frz od (.dK kvs))) := ⟨fun a o n ea t => by
        by_cases c : a = d
        · subst c; rw [upd_same] at ea ⊢; exact ea
        · rw [upd_ne c] at ea ⊢; exact ok1.ext a o n ea t, fun a f => by
        by_cases c : a = d
        · subst c; exact absurd (f _ upd_same) (by intro z; cases z)
        · intro o e
          rw [upd_ne c] at e
          exact ok1.ext.dom a (fun o e => f o (by rw [upd_ne c]; exact e)) o e⟩
      have sc0 : ∀ a, aR.sc = some a → ∃ o, upd H0 d (.frz od (.dK kvs)) a = some o ∧ nt o = true := fun a ha => by
        by_cases c : a = d
        · subst c; exact ⟨_, upd_same, rfl⟩
        · rw [upd_ne c]; exact ok1.sc a ha
      have okl := ok1.sm m (fun z => n (sub _ z)) x0 (fun a n h o e => by rw [upd_ne n] at e; exact h o e) sc0
      refine comp_core (Q := unlkQ X Q) (A := al a) (B := []) f1 f2 okl (.refl) hno e5 (fun p H' x' ro' f' ow' => ?_) (itk_ok upd_same n1 n) (fun z => by cases z)
      right
      have k1 : H' d = some (.frz od (.dK kvs)) := x' d _ n1 upd_same rfl
      have m' : Sm d (.dK kvs) od H' (upd H' d (.dK kvs)) := ⟨fun a n => upd_ne n, dc, .inr ⟨k1, upd_same⟩⟩
      have ne : p ≠ d := fun z => by
        subst z
        exact absurd (f' _ upd_same) (by intro z; cases z)
      have fp : Fr0 H1 p := fun o e => f' o (by rw [upd_ne ne]; exact e)
      exact ⟨d, od, _, k1, nf, q p _ (x1.trans (ext_back hd dc x')) (ro'.sm m') (x1.dom p fp) (ow'.sm m' ne)⟩
    · exact .inl ⟨o, kvs, hd, comp_core (Q := unlkQ X Q) (A := al a) (B := []) f1 f2 ok1 x1 hno e5 (fun p H' x' ro' f' ow' => .inl (q p H' x' ro' f' ow')) (itk_ok hd n1 n) (fun z => by cases z)⟩
  | true =>
    obtain ⟨d, o, bs, us, rfl, h2, n, ⟨xs, kvs, dd, pr, rfl, rfl, rfl⟩, rb, rps⟩ := rp1
    have n1 : d ≠ aR := fun z => n (sub _ (by rw [z]; exact ok1.mr))
    have hv : Vals (kvs.map (·.2)) (xs.map (·.2.2)) := vals_pr pr
    have hl : kvs.length = xs.length := Paired.length pr
    refine ⟨d, rfl, .inr (.inr ⟨o, xs, _, h2, dd, hv, comp_core (Q := unlkQ X Q) (A := al a) (B := []) f1 f2 ok1 x1 hno e5 (fun p H' x' ro' f' ow' => .inl (q p H' x' ro' f' ow')) (wk := false) ⟨fun a => a = d, fun i H x H' => H' = H ∧ ∃ p, xs[i]? = some p ∧ x = .ref p.2.1, fun z hz => by subst hz; exact ⟨n1, .inl n⟩, ?_, fun j H2 y H3 Z' hj hle zk hy => ?_⟩ (fun z => by cases z)⟩)⟩
    · rw [List.length_map, hl]
      exact walk_keysX.mono (fun H2 g => by
        rcases h2 with h2 | ⟨ob, h2⟩
        · exact .inl (g d _ rfl h2 rfl)
        · exact .inr ⟨ob, g d _ rfl h2 rfl⟩) (fun _ _ _ _ _ _ y => y)
    · obtain ⟨rfl, p, ep, rfl⟩ := hy
      obtain ⟨dk, e5, rp5⟩ := rb.get' (i := j) (v := .ref p.2.1) (by rw [List.getElem?_map, ep]; rfl)
      exact ⟨.inl rfl, dk, e5, (rp5.mono hle).i⟩
end
end Wl
/-! min and max by a lambda. -/
namespace Wl
open PySem PySem.Spec PyProof.Rows L2
open PySem.W (alike keyToks dataLt AllAlike AlikeAll EachIs)
/-- what a lambda gives as a key -/
inductive KK where
  | one (n : Int) | two (a b : Int)
def KK.lt : KK → KK → Bool
  | .one a, .one b => decide (a < b)
  | .two a b, .two c d => ltK2 (a, b) (c, d)
  | _, _ => false
def KK.two? : KK → Bool
  | .one _ => false
  | .two _ _ => true
/-- a key in a heap; its object is none of `bad` -/
def KeyAt (h : Heap) (bad : Addr → Prop) (v : Value) : KK → Prop
  | .one n => ∃ t, v = .int n t
  | .two a b => ∃ (x : Addr) (t u : Tok), v = .ref x ∧ ¬ bad x ∧ h.get? x = some { cls := .type "tuple", data := .seq #[.int a t, .int b u] }
theorem KeyAt.mono {h h' : Heap} {bad bad' : Addr → Prop} {v : Value} : ∀ {k : KK}, KeyAt h bad v k → (∀ b o, ¬ bad b → h.get? b = some o → ¬ bad' b ∧ h'.get? b = some o) → KeyAt h' bad' v k
  | .one _, ⟨t, e⟩, _ => ⟨t, e⟩
  | .two _ _, ⟨x, t, u, e, n, g⟩, k => ⟨x, t, u, e, (k _ _ n g).1, (k _ _ n g).2⟩
/-- the lambda's answer: a key whose object is new -/
def KEnd (k : KK) (s₁ : Shared) (v : Value) (s₂ : Shared) : Prop := ∃ h' tk, s₂ = { s₁ with heap := h', toks := tk } ∧ (∀ b o, s₁.heap.get? b = some o → h'.get? b = some o) ∧ s₁.toks ≤ tk ∧ KeyAt h' (fun b => ∃ o, s₁.heap.get? b = some o) v k
theorem lt2_data (a b c d : Int) : dataLt (.tuple [.int a, .int b]) (.tuple [.int c, .int d]) = ltK2 (a, b) (c, d) := by
  have e := lt_py (.tup [.int a, .int b]) (.tup [.int c, .int d]) 31 31 (by simp [D.alk, D.alks]) (by simp [D.sh, D.shs]) (by simp [D.sh, D.shs])
  simp only [toPy, toPys] at e
  rw [← e]
  unfold ltK2
  simp only [D.lt, D.lts, D.beq]
  by_cases h1 : a = c
  · subst h1
    by_cases h2 : b = d
    · subst h2; simp
    · simp [h2]
  · simp [h1]
section
variable {prog : Program} {w : World} {A : Around} {E : Value → Shared → Prop} {s : Shared} {l : Addr} {vs : Array Value} {f : Addr} {Q : Value → Shared → Prop}
theorem key_cmp {op : CmpOp} {gt : Bool} (ho : op = if gt then .Gt else .Lt) (hu : A.units + 4 < cLine) {bad : Addr → Prop} {vi vj : Value} {ki kj : KK} (same : ki.two? = kj.two?) (hi : KeyAt s.heap bad vi ki) (hj : KeyAt s.heap bad vj kj) (q : Q (.bool (if gt then kj.lt ki else ki.lt kj)) s) : wpAny (model prog w) A (richCompare op vi vj) Q E s := by
  cases ki with
  | one a =>
    cases kj with
    | two c d => cases same
    | one c =>
      obtain ⟨t, rfl⟩ := hi
      obtain ⟨u, rfl⟩ := hj
      cases gt with
      | true => subst ho; exact CmpOf.ints_gt (prog := prog) (w := w) (A := A) (P := fun i v => ∃ t, v = Value.int (if i = 0 then a else c) t) (fun i => if i = 0 then a else c) (fun i v h => h) 0 1 _ _ s Q E ⟨t, rfl⟩ ⟨u, rfl⟩ (by simpa [KK.lt] using q)
      | false => subst ho; exact CmpOf.ints_lt (prog := prog) (w := w) (A := A) (P := fun i v => ∃ t, v = Value.int (if i = 0 then a else c) t) (fun i => if i = 0 then a else c) (fun i v h => h) 0 1 _ _ s Q E ⟨t, rfl⟩ ⟨u, rfl⟩ (by simpa [KK.lt] using q)
  | two a b =>
    cases kj with
    | one c => cases same
    | two c d =>
      obtain ⟨x, t, u, rfl, _, gx⟩ := hi
      obtain ⟨y, t', u', rfl, _, gy⟩ := hj
      have r1 : Reads s.heap (.ref x) (.tuple [.int a, .int b]) [] := Reads.tuple gx rfl rfl (ReadsAll.cons (as := []) (bs := []) (.int _ _) (ReadsAll.cons (as := []) (bs := []) (.int _ _) .nil))
      have r2 : Reads s.heap (.ref y) (.tuple [.int c, .int d]) [] := Reads.tuple gy rfl rfl (ReadsAll.cons (as := []) (bs := []) (.int _ _) (ReadsAll.cons (as := []) (bs := []) (.int _ _) .nil))
      have ra : ReadsAll s.heap (#[Value.ref x, Value.ref y] : Array Value).toList [.tuple [.int a, .int b], .tuple [.int c, .int d]] [] := ReadsAll.cons (as := []) (bs := []) r1 (ReadsAll.cons (as := []) (bs := []) r2 .nil)
      have al : AlikeAll [PyData.tuple [.int a, .int b], .tuple [.int c, .int d]] := ⟨fun x hx y hy => by
        simp only [List.mem_cons, List.not_mem_nil, or_false] at hx hy
        rcases hx with rfl | rfl <;> rcases hy with rfl | rfl <;> simp [alike, PySem.W.alikeAll], fun x hx => by
        simp only [List.mem_cons, List.not_mem_nil, or_false] at hx
        rcases hx with rfl | rfl <;> simp⟩
      have dp : A.units + PyData.depthAll [PyData.tuple [.int a, .int b], .tuple [.int c, .int d]] < cLine := by
        have : PyData.depthAll [PyData.tuple [.int a, .int b], .tuple [.int c, .int d]] ≤ 4 := by simp [PyData.depthAll, PyData.depth]
        omega
      cases gt with
      | true =>
        subst ho
        refine PySem.W.cmpIn_gt ra al dp 0 1 _ _ s Q E (fun b o h => h) rfl rfl ?_
        show Q (.bool (dataLt (.tuple [.int c, .int d]) (.tuple [.int a, .int b]))) s
        rw [lt2_data]; exact q
      | false =>
        subst ho
        refine PySem.W.cmpIn_lt ra al dp 0 1 _ _ s Q E (fun b o h => h) rfl rfl ?_
        show Q (.bool (dataLt (.tuple [.int a, .int b]) (.tuple [.int c, .int d]))) s
        rw [lt2_data]; exact q
/-- the walk's state -/
def KJ (s : Shared) (s' : Shared) : Prop := s'.gens = s.gens ∧ s'.drawn = s.drawn ∧ s'.os = s.os ∧ ∀ b o, s.heap.get? b = some o → s'.heap.get? b = some o
theorem key_run {op : CmpOp} {gt : Bool} (ho : op = if gt then .Gt else .Lt) (hu : A.units + 4 < cLine) {k : Nat → KK} (two : ∀ i j, (k i).two? = (k j).two?) {s₂ : Shared} (hJ : KJ s s₂) {I S : Addr} (hI : I = s.heap.objs.size) (hS : S = s₂.heap.objs.size) (hIS : I < S)
    (hcall : ∀ i v h tk, vs[i]? = some v → (∀ b o, s.heap.get? b = some o → h.get? b = some o) → wpAny (model prog w) A (call (.ref f) [v]) (KEnd (k i) { s with heap := h, toks := tk }) (fun _ _ => False) { s with heap := h, toks := tk }) :
    KeyRun prog w A (.ref f) op S [I] (fun a b => b = a) vs.size (fun i v => vs[i]? = some v) (fun i s' => s'.heap.IsListIter I l i ∧ s'.heap.IsList l vs) (KJ s) (fun i v s' => KeyAt s'.heap (fun b => b = S ∨ b = I) v (k i)) (fun i j => if gt then (k j).lt (k i) else (k i).lt (k j)) where
  keep := fun s1 s2 j m => ⟨m.gens.trans j.1, m.drawn.trans j.2.1, m.os.trans j.2.2.1, fun b o h => m.heap b o (by
    have hb := Heap.lt_size h
    have hb2 := Heap.lt_size (hJ.2.2.2 b o h)
    simp only [List.mem_cons, List.not_mem_nil, or_false]
    rintro (z | z) <;> subst z
    · rw [hS] at hb2; exact absurd hb2 (Nat.lt_irrefl _)
    · rw [hI] at hb; exact absurd hb (Nat.lt_irrefl _)) (j.2.2.2 b o h)⟩
  keepV := fun i v s1 s2 h m => h.mono fun b o n g => ⟨n, m.heap b o (by simpa [not_or] using n) g⟩
  turn := fun i v s1 o Q E hi hv j st hS' q => by
    obtain ⟨j1, j2, j3, j4⟩ := j
    have e1 : s1 = { s with heap := s1.heap, toks := s1.toks } := by
      cases s1; cases j1; cases j2; cases j3; rfl
    have hc := hcall i v s1.heap s1.toks hv j4
    rw [← e1] at hc
    refine wpAny_mono hc (fun u s2 hq => ?_) fun _ _ z => z.elim
    obtain ⟨h', tk, rfl, kp, tkle, ka⟩ := hq
    obtain ⟨⟨oi, oi1, oi2, oi3⟩, ⟨ol, ol1, ol2, on, ol3⟩⟩ := st
    refine q _ _ ⟨j1, j2, j3, fun b o h => kp _ _ (j4 b o h)⟩ ⟨⟨oi, kp _ _ oi1, oi2, oi3⟩, ⟨ol, kp _ _ ol1, ol2, on, ol3⟩⟩ (kp _ _ hS') (ka.mono fun b o n g => ⟨?_, g⟩) fun jj k' h => h.mono fun b o n g => ⟨n, kp _ _ g⟩
    rintro (z | z) <;> subst z
    · exact n ⟨_, hS'⟩
    · exact n ⟨_, oi1⟩
  cmp := fun i j ki kj s1 Q E _ hi hj q => key_cmp ho hu (two i j) hi hj q
end
theorem min_key {prog : Program} {w : World} {A : Around} {E : Value → Shared → Prop} {s : Shared} {l : Addr} {vs : Array Value} {f : Addr} {Q : Value → Shared → Prop} (hh : A.handled = none) (hu : A.units + 8 < cLine) (hL : s.heap.IsList l vs) (ne : 0 < vs.size) {k : Nat → KK} (two : ∀ i j, (k i).two? = (k j).two?)
    (hcall : ∀ i v h tk, vs[i]? = some v → (∀ b o, s.heap.get? b = some o → h.get? b = some o) → wpAny (model prog w) A.in1 (call (.ref f) [v]) (KEnd (k i) { s with heap := h, toks := tk }) (fun _ _ => False) { s with heap := h, toks := tk })
    (q : ∀ v h' tk, vs[argBest (fun i j => (k i).lt (k j)) (vs.size - 1)]? = some v → (∀ b o, s.heap.get? b = some o → h'.get? b = some o) → Q v { s with heap := h', toks := tk }) :
    wpAny (model prog w) A (call (.builtin "min") [.ref l] [("key", .ref f)]) Q E s := by
  refine call_min_walkK (PySem.W.iter_listW hh hL fun s₂ e W st fpb _ kp => ?_)
  refine ⟨_, _, _, _, _, _, _, KJ s, _, _, rfl, W, st, fpb, ne, key_run (k := k) (gt := false) rfl (by show A.units + 1 + 4 < cLine; omega) two (by rw [e] at kp ⊢; exact ⟨rfl, rfl, rfl, kp⟩) rfl rfl (by rw [e]; show s.heap.objs.size < (s.heap.push _).objs.size; rw [Heap.push, Array.size_push]; exact Nat.lt_succ_self _) hcall, by rw [e] at kp ⊢; exact ⟨rfl, rfl, rfl, kp⟩, fun v s' hv j => ?_⟩
  obtain ⟨j1, j2, j3, j4⟩ := j
  have e1 : s' = { s with heap := s'.heap, toks := s'.toks } := by
    cases s'; cases j1; cases j2; cases j3; rfl
  rw [e1]
  exact q v _ _ hv j4
theorem max_key {prog : Program} {w : World} {A : Around} {E : Value → Shared → Prop} {s : Shared} {l : Addr} {vs : Array Value} {f : Addr} {Q : Value → Shared → Prop} (hh : A.handled = none) (hu : A.units + 8 < cLine) (hL : s.heap.IsList l vs) (ne : 0 < vs.size) {k : Nat → KK} (two : ∀ i j, (k i).two? = (k j).two?)
    (hcall : ∀ i v h tk, vs[i]? = some v → (∀ b o, s.heap.get? b = some o → h.get? b = some o) → wpAny (model prog w) A.in1 (call (.ref f) [v]) (KEnd (k i) { s with heap := h, toks := tk }) (fun _ _ => False) { s with heap := h, toks := tk })
    (q : ∀ v h' tk, vs[argBest (fun i j => (k j).lt (k i)) (vs.size - 1)]? = some v → (∀ b o, s.heap.get? b = some o → h'.get? b = some o) → Q v { s with heap := h', toks := tk }) :
    wpAny (model prog w) A (call (.builtin "max") [.ref l] [("key", .ref f)]) Q E s := by
  refine call_max_walkK (PySem.W.iter_listW hh hL fun s₂ e W st fpb _ kp => ?_)
  refine ⟨_, _, _, _, _, _, _, KJ s, _, _, rfl, W, st, fpb, ne, key_run (k := k) (gt := true) rfl (by show A.units + 1 + 4 < cLine; omega) two (by rw [e] at kp ⊢; exact ⟨rfl, rfl, rfl, kp⟩) rfl rfl (by rw [e]; show s.heap.objs.size < (s.heap.push _).objs.size; rw [Heap.push, Array.size_push]; exact Nat.lt_succ_self _) hcall, by rw [e] at kp ⊢; exact ⟨rfl, rfl, rfl, kp⟩, fun v s' hv j => ?_⟩
  obtain ⟨j1, j2, j3, j4⟩ := j
  have e1 : s' = { s with heap := s'.heap, toks := s'.toks } := by
    cases s'; cases j1; cases j2; cases j3; rfl
  rw [e1]
  exact q v _ _ hv j4
end Wl
/-! The lambdas `arc[2]` and `(dues[one], one)`; min and max by them. -/
namespace Wl
open PySem PySem.Spec PyProof.Rows L2
open PySem.W (alike keyToks dataLt AllAlike AlikeAll EachIs)
/-- the scope of a lambda of one name, which nothing within captures -/
structure LamF (x : Str) (scope : Scope) : Prop where
  kind : scope.kind = .function
  co : scope.isCoroutine = false
  gen : scope.isGenerator = false
  noc : ∀ y ∈ scope.names, y.2 ≠ .cell
  loc : scope.names.lookup x = some .local
  d : (x == ("__debug__" : Str)) = false
section
variable {X : Cx} {pins : List (Addr × Obj)} {σ : L2.St} {H : Hp} {s : Shared}
theorem lam_frame (I : Inv X pins σ H s) {A : Around} (hA : A.depth < recursionLimit) {f c' : Addr} {pm ctv : Value} {params : Arguments} {scope : Scope} {x : Str} {body : Expr} (L : LamF x scope)
    (hf : s.heap.get? f = some (PySem.W.kla_obj "<lambda>" (X.env.qual ++ "<lambda>") params body scope (cloFrom X.env.cells scope.names []) pm c' ctv)) (hcd : H c' = some (LamX.CodeO c' (X.env.qual ++ "<lambda>")))
    (hbind : ∀ v : Value, bindArgs (PySem.W.kla_fn "<lambda>" (X.env.qual ++ "<lambda>") params body scope (cloFrom X.env.cells scope.names []) pm (.ref c') ctv) ⟨[v], []⟩ = pure [(x, v)])
    {u : Value} {h : Heap} {tk : Nat} (hk : ∀ b o, s.heap.get? b = some o → h.get? b = some o) {Q : Value → Shared → Prop}
    (go : ∀ (E : Value → Shared → Prop) (h₁ : Heap), (∀ b o, h.get? b = some o → h₁.get? b = some o) → h₁.Ns h.objs.size (fun y => [(x, u)].reverse.lookup y) → wpAny (model X.prog X.w) (A.deeper (LamX.lamEnv X scope h.objs.size f c')) (eval body (LamX.lamEnv X scope h.objs.size f c')) Q E { s with heap := h₁, toks := tk + 1 }) :
    wpAny (model X.prog X.w) A (call (.ref f) [u]) Q (fun _ _ => False) { s with heap := h, toks := tk } := by
  have I1 : Inv X pins σ H { s with heap := h, toks := tk } := I.kept hk
  have of1 := hk _ _ hf
  obtain ⟨⟨oc, vs, t, hoc, hdc, hvc⟩, _, _⟩ := I1.hok c' _ hcd
  have rc : codeAny (model X.prog X.w) A (.call (.ref f) ⟨[u], []⟩) (fun r s' => ∃ u, r = .ok (.ret u) ∧ Q u s') { s with heap := h, toks := tk } := by
    refine PySem.W.kla_callFunE hA of1 rfl L.co L.gen rfl ⟨c', oc, vs, t, rfl, hoc, hdc, hvc⟩ ?_
    rw [hbind]
    refine wpAny_pure (wpAny_newFunctionEnv L.noc (fun y hy => by simp at hy; subst hy; exact L.loc) (fun h₁ hns hsb => ⟨I1.nolimit.fresh _ hsb, ?_⟩) L.kind)
    have kp : ∀ b o, h.get? b = some o → h₁.get? b = some o := fun b o e => hsb.extBut b o (Nat.ne_of_lt (Heap.lt_size e)) (Heap.get?_push_of_some _ e)
    exact PySem.W.kla_codeExpr (wpAny_mono (Q := fun v s' => Q v s') (go _ h₁ kp hns) (fun v s' hq => ⟨v, rfl, hq⟩) fun e s' hq => hq)
  refine wpAny_call (codeAny_mono rc fun r s' hq => ?_)
  obtain ⟨u, rfl, hq⟩ := hq
  exact hq
theorem ints_get : ∀ {its : List Value} {ns : List Int} {i : Nat} {n : Int}, IntsAre its ns → ns[i]? = some n → ∃ t, its[i]? = some (.int n t)
  | _, _, 0, n, .cons m t h, e => by cases e; exact ⟨t, rfl⟩
  | _, _, i + 1, n, .cons m t h, e => ints_get (i := i) h e
  | _, _, _, _, .nil, e => by cases e
theorem six_at {c n : Nat} (h : c < n) : seqIndex? (c : Int) n = some c := by
  unfold seqIndex?
  have h1 : ¬ ((c : Int) < 0) := by omega
  simp only [h1, if_false]
  rw [if_pos (by simp; omega)]
  simp
/-- arc[c] -/
def lamC (x : Str) (p1 p2 p3 : Pos) (c k : Nat) : Expr := .Subscript (.Name x p1) (.Constant (.int (c : Int)) k p2) p3
theorem lamC_turn (I : Inv X pins σ H s) {A : Around} (hA : A.depth < recursionLimit) {f c' : Addr} {pm ctv : Value} {params : Arguments} {scope : Scope} {x : Str} {p1 p2 p3 : Pos} {c k : Nat} (L : LamF x scope)
    (hf : s.heap.get? f = some (PySem.W.kla_obj "<lambda>" (X.env.qual ++ "<lambda>") params (lamC x p1 p2 p3 c k) scope (cloFrom X.env.cells scope.names []) pm c' ctv)) (hcd : H c' = some (LamX.CodeO c' (X.env.qual ++ "<lambda>")))
    (hbind : ∀ v : Value, bindArgs (PySem.W.kla_fn "<lambda>" (X.env.qual ++ "<lambda>") params (lamC x p1 p2 p3 c k) scope (cloFrom X.env.cells scope.names []) pm (.ref c') ctv) ⟨[v], []⟩ = pure [(x, v)])
    {a : Addr} {its : List Value} {ns : List Int} {n : Int} (ht : IsTup s.heap a its.toArray) (hi : IntsAre its ns) (hn : ns[c]? = some n) (hc : c < 100) {h : Heap} {tk : Nat} (hk : ∀ b o, s.heap.get? b = some o → h.get? b = some o) :
    wpAny (model X.prog X.w) A (call (.ref f) [.ref a]) (KEnd (.one n) { s with heap := h, toks := tk }) (fun _ _ => False) { s with heap := h, toks := tk } := by
  refine lam_frame I hA L hf hcd hbind hk fun E h₁ kp hns => ?_
  have ht1 : IsTup h₁ a its.toArray := by
    obtain ⟨o, q1, q2, m, q3⟩ := ht
    exact ⟨o, kp _ _ (hk _ _ q1), q2, m, q3⟩
  obtain ⟨t, hit⟩ := ints_get hi hn
  have hlt : c < its.length := (List.getElem?_eq_some_iff.mp hit).1
  refine Subscript_Constant (wpAny_Name (wpAny_loadName_local L.kind L.loc hns (v := .ref a) (by simp [List.lookup]) ?_) L.d) fun o r => rfl
  refine wpAny_Constant_int ⟨"tuple", _, PyProof.Rows.slot_tuple_getitem.lookup, (show IsTup _ a its.toArray from ht1).typeIs, ?_⟩
  refine PyProof.Rows.getItem_tuple (show IsTup _ a its.toArray from ht1) (by omega) (by omega) (j := c) (by rw [List.size_toArray]; exact six_at hlt) (x := .int n t) (by simpa using hit) ?_
  exact ⟨h₁, _, rfl, fun b o e => kp _ _ e, by show tk ≤ tk + 1 + 1; omega, t, rfl⟩
/-- (dues[one], one) -/
def lamW (w x : Str) (p1 p2 p3 p4 p5 : Pos) (j : Nat) : Expr := .Tuple [.Subscript (.Name w p1) (.Name x p2) p3, .Name x p4] j p5
theorem lamW_turn (I : Inv X pins σ H s) {A : Around} (hA : A.depth < recursionLimit) {f c' : Addr} {pm ctv : Value} {params : Arguments} {scope : Scope} {w x : Str} {p1 p2 p3 p4 p5 : Pos} {j : Nat} (L : LamF x scope)
    (hf : s.heap.get? f = some (PySem.W.kla_obj "<lambda>" (X.env.qual ++ "<lambda>") params (lamW w x p1 p2 p3 p4 p5 j) scope (cloFrom X.env.cells scope.names []) pm c' ctv)) (hcd : H c' = some (LamX.CodeO c' (X.env.qual ++ "<lambda>")))
    (hbind : ∀ v : Value, bindArgs (PySem.W.kla_fn "<lambda>" (X.env.qual ++ "<lambda>") params (lamW w x p1 p2 p3 p4 p5 j) scope (cloFrom X.env.cells scope.names []) pm (.ref c') ctv) ⟨[v], []⟩ = pure [(x, v)])
    (hw : scope.names.lookup w = some .free) (hwd : (w == ("__debug__" : Str)) = false) (hwc : (w == ("__classdict__" : Str)) = false) {cc : Addr} (hcc : (cloFrom X.env.cells scope.names []).lookup w = some cc) {a : Addr} (hcell : s.heap.IsCell cc (some (.ref a)))
    {its : List Value} {ws : List Int} {n m : Int} {tn : Tok} (ht : IsTup s.heap a its.toArray) (hi : IntsAre its ws) (h0 : 0 ≤ n) (hn : ws[n.toNat]? = some m) (hb : n < 2 ^ 62) {h : Heap} {tk : Nat} (hk : ∀ b o, s.heap.get? b = some o → h.get? b = some o) :
    wpAny (model X.prog X.w) A (call (.ref f) [.int n tn]) (KEnd (.two m n) { s with heap := h, toks := tk }) (fun _ _ => False) { s with heap := h, toks := tk } := by
  refine lam_frame I hA L hf hcd hbind hk fun E h₁ kp hns => ?_
  have ht1 : IsTup h₁ a its.toArray := by
    obtain ⟨o, q1, q2, m, q3⟩ := ht
    exact ⟨o, kp _ _ (hk _ _ q1), q2, m, q3⟩
  have hc1 : h₁.IsCell cc (some (.ref a)) := by
    obtain ⟨o, q1, q2⟩ := hcell
    exact ⟨o, kp _ _ (hk _ _ q1), q2⟩
  obtain ⟨t, hit⟩ := ints_get hi hn
  have hlt : n.toNat < its.length := (List.getElem?_eq_some_iff.mp hit).1
  have en : ((n.toNat : Nat) : Int) = n := Int.toNat_of_nonneg h0
  unfold lamW
  refine wpAny_Tuple_spliced ?_
  refine Calls.spliced_cons (Subscript_Name (wpAny_Name (wpAny_loadName_free L.kind hw hcc hc1 ?_ hwc) hwd) fun o r => rfl)
  refine wpAny_Name (wpAny_loadName_local L.kind L.loc hns (v := .int n tn) (by simp [List.lookup]) ?_) L.d
  refine ⟨"tuple", _, PyProof.Rows.slot_tuple_getitem.lookup, (show IsTup _ a its.toArray from ht1).typeIs, ?_⟩
  refine PyProof.Rows.getItem_tuple (show IsTup _ a its.toArray from ht1) (by omega) (by omega) (j := n.toNat) (by rw [List.size_toArray]; have e6 := six_at hlt; rw [en] at e6; exact e6) (x := .int m t) (by simpa using hit) ?_
  refine Calls.spliced_cons (wpAny_Name (wpAny_loadName_local L.kind L.loc hns (v := .int n tn) (by simp [List.lookup]) (Calls.spliced_nil ?_)) L.d)
  refine ⟨by show 2 ≤ sizeLine; decide, ?_⟩
  refine ⟨_, _, rfl, fun b o e => Heap.get?_push_of_some _ (kp b o e), by show tk ≤ tk + 1; omega, h₁.objs.size, t, tn, rfl, ?_, Heap.get?_push_size _ rfl⟩
  rintro ⟨o, ho⟩
  exact absurd (Heap.lt_size (kp _ _ ho)) (Nat.lt_irrefl _)
end
end Wl
/-! The rules: min(xs, key=lambda a: a[c]), max(xs, key=lambda n: (ws[n], n)). -/
namespace Wl
open PySem PySem.Spec PyProof.Rows L2
open PySem.W (alike keyToks dataLt AllAlike AlikeAll EachIs)
theorem minKD_some {c : Nat} {u dd : D} (e : minKD c u = some dd) : ∃ d l, u = .lst (d :: l) ∧ (∀ x ∈ d :: l, isTI x = true ∧ ∃ n, kyC c x = some n) ∧ dd = l.foldl (fun a y => if decide ((kyC c y).getD 0 < (kyC c a).getD 0) then y else a) d := by
  cases u <;> first | (cases e; done) | skip
  rename_i l
  cases l with
  | nil => cases e
  | cons d l =>
    have e : (if (d :: l).all (fun x => isTI x && (kyC c x).isSome) = true then some (l.foldl (fun a y => if decide ((kyC c y).getD 0 < (kyC c a).getD 0) then y else a) d) else none) = some dd := e
    split at e
    · rename_i h
      cases e
      exact ⟨d, l, rfl, fun x hx => by
        have := List.all_eq_true.mp h x hx
        rw [Bool.and_eq_true] at this
        exact ⟨this.1, Option.isSome_iff_exists.mp this.2⟩, rfl⟩
    · cases e
theorem isIx_some {k : Nat} {d : D} (h : isIx k d = true) : ∃ n : Int, d = .int n ∧ 0 ≤ n ∧ n < k ∧ smallI n = true := by
  cases d <;> first | (cases h; done) | skip
  rename_i n
  have h : (decide (0 ≤ n) && decide (n < k) && smallI n) = true := h
  simp only [Bool.and_eq_true, decide_eq_true_eq] at h
  exact ⟨n, rfl, h.1.1, h.1.2, h.2⟩
theorem maxKD_some {w u dd : D} (e : maxKD w u = some dd) : ∃ ws ns d l, w = .tup ws ∧ intsD ws = some ns ∧ u = .lst (d :: l) ∧ (∀ x ∈ d :: l, isIx ns.length x = true) ∧ dd = l.foldl (fun a y => if ltK2 (kyW ns a) (kyW ns y) then y else a) d := by
  cases w <;> first | (cases e; done) | skip
  rename_i ws
  cases u <;> first | (cases e; done) | skip
  rename_i l
  cases l with
  | nil => cases e
  | cons d l =>
    have e : (match intsD ws with
      | some ns => if (d :: l).all (isIx ns.length) = true then some (l.foldl (fun a y => if ltK2 (kyW ns a) (kyW ns y) then y else a) d) else none
      | none => none) = some dd := e
    split at e
    · rename_i ns h1
      split at e
      · rename_i h
        cases e
        exact ⟨ws, ns, d, l, rfl, h1, rfl, fun x hx => List.all_eq_true.mp h x hx, rfl⟩
      · cases e
    · cases e
/-- the best's place -/
theorem best_place {f : D → D → Bool} {d : D} {l : List D} {us : List V} {its : List Value} {aR : AR} {H : Hp} {Z : Addr → Prop} (rp : Reps aR H Z (d :: l) us) (rv : Vals us its) {bt : Nat → Nat → Bool} (hb : ∀ i j, i < (d :: l).length → j < (d :: l).length → bt i j = f ((d :: l).getD i .non) ((d :: l).getD j .non)) {v : Value} (hv : its.toArray[argBest bt (its.toArray.size - 1)]? = some v) :
    ∃ u, RelV u v ∧ Rep aR H Z (l.foldl (fun a y => if f y a = true then y else a) d) u := by
  have n1 := rp.length
  have n2 := rv.length
  have hs : its.toArray.size - 1 = l.length := by rw [List.size_toArray]; simp at n1; omega
  rw [hs] at hv
  have ag : ∀ k, k ≤ l.length → argBest bt k = argBest (fun i j => f ((d :: l).getD i .non) ((d :: l).getD j .non)) k ∧ argBest bt k ≤ k := by
    intro k
    induction k with
    | zero => intro _; exact ⟨rfl, Nat.le_refl _⟩
    | succ k ih =>
      intro hk
      obtain ⟨e1, e2⟩ := ih (by omega)
      rw [argBest.eq_2, argBest.eq_2, ← e1, ← hb (k + 1) (argBest bt k) (by simp; omega) (by simp; omega)]
      refine ⟨rfl, ?_⟩
      split <;> omega
  obtain ⟨e1, e2⟩ := ag l.length (Nat.le_refl _)
  obtain ⟨_, fo⟩ := PySem.W.argBest_fold f .non d l l.length (Nat.le_refl _)
  rw [← e1, List.take_length] at fo
  rw [← fo]
  have hi : argBest bt l.length < (d :: l).length := by simp; omega
  have hv : its[argBest bt l.length]? = some v := by simpa using hv
  rw [List.getD_eq_getElem?_getD, List.getElem?_eq_getElem hi]
  obtain ⟨u, e3, r3⟩ := rp.get (List.getElem?_eq_getElem hi)
  obtain ⟨x, e4, r4⟩ := rv.get e3
  rw [hv] at e4; cases e4
  exact ⟨u, r4, r3⟩
section
variable {X : Cx} {aR : AR} {F : Fns} {ea : Expr} {a : IE} {p pos lp kp : Pos} {params : Arguments} {scope : Scope} {x : Str}
theorem v_minK {p1 p2 p3 : Pos} {k cn : Nat} {c P : Addr} (hc : X.calm = true) (hu : X.A.units + 65 < cLine) (hdp : X.A.depth < recursionLimit) (hg : Gl X "min") (hm : X.mg "min" = none)
    (TB : LamX.TabB X.base X.mg c P) (hcode : X.env.code = .ref c) (hP : (P, X.env.qual ++ "<lambda>") ∈ aR.tt) (hun : ∀ q ∈ aR.tt, q.1 = P → q.2 = X.env.qual ++ "<lambda>") (L : LamF x scope) (hnf : ∀ y ∈ scope.names, y.2 ≠ .free) (hcn : cn < 100)
    (hdef : defaultsOf params X.env = ([], [])) (hbind : ∀ (pm ctv : Value) (c' : Addr) (v : Value), bindArgs (PySem.W.kla_fn "<lambda>" (X.env.qual ++ "<lambda>") params (lamC x p1 p2 p3 cn k) scope (cloFrom X.env.cells scope.names []) pm (.ref c') ctv) ⟨[v], []⟩ = pure [(x, v)])
    (hs : starEach [ea] X.env = (false, eval ea X.env) :: starEach [] X.env)
    (ha : PE X ea (tEvC aR X.K F a)) : PE X (.Call (.Name "min" p) [ea] [⟨some "key", .Lambda params (lamC x p1 p2 p3 cn k) scope lp, kp⟩] pos) (tEv aR X.K F (.minK cn a)) := by
  refine ⟨fun pins s σ H Q I h => ?_⟩
  obtain ⟨Z, H0, env, r, ok, dd, r', e, q⟩ := h
  obtain ⟨u, r1, e1, e2⟩ := Res.bind_ok e
  obtain ⟨e3, rfl⟩ := Res.of_ok e2
  obtain ⟨d, l, rfl, hall, rfl⟩ := minKD_some e3
  refine wpAny_Call_Name_kw (ld_blt I hg hm PyProof.Rows.boot_min ?_ (by decide) (by decide))
  refine PyProof.Rows.callWith_kw (thn ((pa_1 ha hs).run pos pins s σ H (fun vs H1 => ∃ v, vs = [v] ∧ Ext aR H H1 ∧ RowOk aR X.K H1 r1 ∧ Ok aR X.K Z H0 σ H1 env r1 ∧ RepC aR H1 (Mk Z σ env (alC a)) (.lst (d :: l)) v) I (evC_to ok e1 fun v H1 x1 ro1 ok1 rp1 => ⟨v, rfl, x1, ro1, ok1, rp1⟩)) fun us s1 ⟨vs, H1, I1, rv, v, ev, x1, ro1, ok1, rp1⟩ => ?_) (by rw [hs]; rfl) (by rw [hs]; rfl) rfl rfl
  subst ev
  show wpAny _ _ (evalAll [do let v ← eval (.Lambda params (lamC x p1 p2 p3 cn k) scope lp) X.env; standAt pos; pure v]) _ _ s1
  obtain ⟨_, _, _, _, hT, _⟩ := id ro1
  refine wpAny_evalAll_cons (wpAny_bind (LamX.lam_make2 I1 TB hcode hP hun hT hdef (fun y hy z => absurd z (hnf y hy)) fun f c' pm ctv H2 s2 I2 ex tabs hf hfn hfr hcc => wpAny_bind (wpAny_standAt (wpAny_pure (wpAny_evalAll_nil ?_)))))
  · obtain ⟨pa, vs, rfl, h1, n1, rps⟩ := rp1
    have x2 : Ext aR H1 H2 := .ofN ex
    have ro2 : RowOk aR X.K H2 r1 := ro1.ofN ex tabs
    have h2 : H2 pa = some (.lst vs) := ex _ _ h1 (fun ps z => by cases z)
    have rps2 : Reps aR H2 (Mk Z σ env (alC a)) (d :: l) vs := rps.mono (x2.le (.inl ok.zr))
    rw [Vals.ref1 rv]
    obtain ⟨its, rvv, hL, _⟩ := I2.list (.of h2)
    have len := rps2.length
    have lenv := rvv.length
    have num : ∀ i, i < (d :: l).length → ∃ n, kyC cn ((d :: l).getD i .non) = some n := fun i hi => by
      rw [List.getD_eq_getElem?_getD, List.getElem?_eq_getElem hi]
      exact (hall _ (List.getElem_mem hi)).2
    refine min_key (I2.ok.hd hc) (by omega) hL.isList (by rw [List.size_toArray]; simp at len; omega) (k := fun i => .one ((kyC cn ((d :: l).getD i .non)).getD 0)) (fun i j => rfl) (fun i v h tk hv hk => ?_) fun v h' tk hv hk => ?_
    · have hv : its[i]? = some v := by simpa using hv
      have hi : i < its.length := (List.getElem?_eq_some_iff.mp hv).1
      have hi2 : i < (d :: l).length := by omega
      obtain ⟨u, e5, rp3⟩ := rps2.get (List.getElem?_eq_getElem hi2)
      obtain ⟨y, e6, rr⟩ := rvv.get e5
      rw [hv] at e6; cases e6
      obtain ⟨t1, n, hn⟩ := hall _ (List.getElem_mem hi2)
      obtain ⟨l', ns, e7, e8⟩ := isTI_ints t1
      rw [List.getD_eq_getElem?_getD, List.getElem?_eq_getElem hi2, Option.getD_some, hn, Option.getD_some]
      rw [e7] at rp3 hn
      obtain ⟨ta, vs', e9, e10, n10, rp4⟩ := rp3
      obtain ⟨rfl, rfl⟩ := ints_of e8 rp4
      rw [e9] at rr
      obtain rfl : v = Value.ref ta := rr
      obtain ⟨hz, its', rv', ht⟩ := (show ObjOk X.prog X.w H2 s2.heap ta (.tup _) from e10.rd.ok I2.hok)
      have hn2 : ns[cn]? = some n := by
        have hn : (match (ns.map D.int)[cn]? with
          | some (.int i) => some i
          | _ => none) = some n := hn
        rw [List.getElem?_map] at hn
        cases hq : ns[cn]? with
        | none => rw [hq] at hn; cases hn
        | some z => rw [hq] at hn; exact hn
      exact lamC_turn I2 (A := X.A.in1) hdp L hf hcc (fun v => hbind _ _ _ v) ht rv'.ints hn2 hcn hk
    · obtain ⟨u, r5, rp5⟩ := best_place (f := fun y a => decide ((kyC cn y).getD 0 < (kyC cn a).getD 0)) rps2 rvv (fun i j _ _ => rfl) hv
      exact ⟨u, H2, I2.kept hk, r5, q _ _ (x1.trans x2) ro2 rp5⟩
theorem v_maxK {w : Str} {i : Nat} {p1 p2 p3 p4 p5 : Pos} {j : Nat} {c P : Addr} (hc : X.calm = true) (hu : X.A.units + 65 < cLine) (hdp : X.A.depth < recursionLimit) (hg : Gl X "max") (hm : X.mg "max" = none)
    (TB : LamX.TabB X.base X.mg c P) (hcode : X.env.code = .ref c) (hP : (P, X.env.qual ++ "<lambda>") ∈ aR.tt) (hun : ∀ q ∈ aR.tt, q.1 = P → q.2 = X.env.qual ++ "<lambda>") (L : LamF x scope)
    (hN : X.N[i]? = some w) (hk : X.env.scope.names.lookup w = some .cell) (hnf : ∀ y ∈ scope.names, y.2 = .free → y.1 = w) (hwm : (w, NameKind.free) ∈ scope.names) (hw : scope.names.lookup w = some .free) (hwd : (w == ("__debug__" : Str)) = false) (hwc : (w == ("__classdict__" : Str)) = false)
    (hdef : defaultsOf params X.env = ([], [])) (hbind : ∀ (pm ctv : Value) (c' : Addr) (v : Value), bindArgs (PySem.W.kla_fn "<lambda>" (X.env.qual ++ "<lambda>") params (lamW w x p1 p2 p3 p4 p5 j) scope (cloFrom X.env.cells scope.names []) pm (.ref c') ctv) ⟨[v], []⟩ = pure [(x, v)])
    (hs : starEach [ea] X.env = (false, eval ea X.env) :: starEach [] X.env)
    (ha : PE X ea (tEvC aR X.K F a)) : PE X (.Call (.Name "max" p) [ea] [⟨some "key", .Lambda params (lamW w x p1 p2 p3 p4 p5 j) scope lp, kp⟩] pos) (tEv aR X.K F (.maxK i a)) := by
  refine ⟨fun pins s σ H Q I h => ?_⟩
  obtain ⟨Z, H0, env, r, ok, dd, r', e, q⟩ := h
  obtain ⟨u, r1, e1, e2⟩ := Res.bind_ok e
  split at e2
  case h_2 => cases e2
  rename_i wd hew
  obtain ⟨e3, rfl⟩ := Res.of_ok e2
  obtain ⟨ws, wn, d, l, rfl, hws, rfl, hall, rfl⟩ := maxKD_some e3
  obtain ⟨cc0, hcc0⟩ := I.ok.has w (.inl hk)
  have hfr : ∀ y ∈ scope.names, y.2 = .free → ∃ c, X.env.cells.lookup y.1 = some c := fun y hy z => by rw [hnf y hy z]; exact ⟨cc0, hcc0⟩
  refine wpAny_Call_Name_kw (ld_blt I hg hm PyProof.Rows.boot_max ?_ (by decide) (by decide))
  refine PyProof.Rows.callWith_kw (thn ((pa_1 ha hs).run pos pins s σ H (fun vs H1 => ∃ v, vs = [v] ∧ Ext aR H H1 ∧ RowOk aR X.K H1 r1 ∧ Ok aR X.K Z H0 σ H1 env r1 ∧ RepC aR H1 (Mk Z σ env (alC a)) (.lst (d :: l)) v) I (evC_to ok e1 fun v H1 x1 ro1 ok1 rp1 => ⟨v, rfl, x1, ro1, ok1, rp1⟩)) fun us s1 ⟨vs, H1, I1, rv, v, ev, x1, ro1, ok1, rp1⟩ => ?_) (by rw [hs]; rfl) (by rw [hs]; rfl) rfl rfl
  subst ev
  show wpAny _ _ (evalAll [do let v ← eval (.Lambda params (lamW w x p1 p2 p3 p4 p5 j) scope lp) X.env; standAt pos; pure v]) _ _ s1
  obtain ⟨_, _, _, _, hT, _⟩ := id ro1
  refine wpAny_evalAll_cons (wpAny_bind (LamX.lam_make2 I1 TB hcode hP hun hT hdef hfr fun f c' pm ctv H2 s2 I2 ex tabs hf hfn hfr' hcc => wpAny_bind (wpAny_standAt (wpAny_pure (wpAny_evalAll_nil ?_)))))
  · obtain ⟨pa, vs, rfl, h1, n1, rps⟩ := rp1
    have x2 : Ext aR H1 H2 := .ofN ex
    have ro2 : RowOk aR X.K H2 r1 := ro1.ofN ex tabs
    have h2 : H2 pa = some (.lst vs) := ex _ _ h1 (fun ps z => by cases z)
    have rps2 : Reps aR H2 (Mk Z σ env (alC a)) (d :: l) vs := rps.mono (x2.le (.inl ok.zr))
    rw [Vals.ref1 rv]
    obtain ⟨its, rvv, hL, _⟩ := I2.list (.of h2)
    have len := rps2.length
    have lenv := rvv.length
    -- the row of weights
    obtain ⟨vw, ew, rw1⟩ := ok1.fz i _ hew
    have rw2 := rw1.mono (x2.le (.inl ok.zr))
    obtain ⟨wa, wvs, rfl, wt, _, wrs⟩ := rw2
    obtain ⟨rfl, rfl⟩ := ints_of hws wrs
    obtain ⟨wz, wits, wrv, wtt⟩ := (show ObjOk X.prog X.w H2 s2.heap wa (.tup _) from wt.rd.ok I2.hok)
    obtain ⟨m, _, hl⟩ := I2.loc
    obtain ⟨wu, wr, wl⟩ := hl i w _ hN ew (.inr (.inl hk))
    obtain rfl : wu = Value.ref wa := wr
    have hcell : ∃ cc, X.env.cells.lookup w = some cc ∧ s2.heap.IsCell cc (some (.ref wa)) := by
      rcases wl with ⟨z, _⟩ | ⟨_, cc, hcc, hce⟩
      · have z : X.env.scope.names.lookup w = some .local := z
        rw [hk] at z; cases z
      · exact ⟨cc, hcc, hce⟩
    obtain ⟨cc, hcc1, hcell⟩ := hcell
    have hclo := NdefX.clo_has hfr hwm hcc1
    refine max_key (I2.ok.hd hc) (by omega) hL.isList (by rw [List.size_toArray]; simp at len; omega) (k := fun i => .two (kyW wn ((d :: l).getD i .non)).1 (kyW wn ((d :: l).getD i .non)).2) (fun i j => rfl) (fun i v h tk hv hk => ?_) fun v h' tk hv hk => ?_
    · have hv : its[i]? = some v := by simpa using hv
      have hi : i < its.length := (List.getElem?_eq_some_iff.mp hv).1
      have hi2 : i < (d :: l).length := by omega
      obtain ⟨u, e5, rp3⟩ := rps2.get (List.getElem?_eq_getElem hi2)
      obtain ⟨y, e6, rr⟩ := rvv.get e5
      rw [hv] at e6; cases e6
      obtain ⟨n, e7, g1, g2, g3⟩ := isIx_some (hall _ (List.getElem_mem hi2))
      rw [List.getD_eq_getElem?_getD, List.getElem?_eq_getElem hi2, Option.getD_some]
      rw [e7] at rp3 ⊢
      cases rp3
      obtain ⟨tn, rfl⟩ : ∃ t, v = .int n t := rr
      have hg : wn[n.toNat]? = some (wn.getD n.toNat 0) := by
        have : n.toNat < wn.length := by omega
        rw [List.getD_eq_getElem?_getD, List.getElem?_eq_getElem this]; rfl
      exact lamW_turn I2 (A := X.A.in1) hdp L hf hcc (fun v => hbind _ _ _ v) hw hwd hwc hclo hcell wtt wrv.ints g1 hg (small_iff.mp g3).2 hk
    · obtain ⟨u, r5, rp5⟩ := best_place (f := fun y a => ltK2 (kyW wn a) (kyW wn y)) rps2 rvv (fun i j _ _ => rfl) hv
      refine ⟨u, H2, I2.kept hk, r5, q _ _ (x1.trans x2) ro2 ?_⟩
      have hmem : (l.foldl (fun a y => if ltK2 (kyW wn a) (kyW wn y) = true then y else a) d) ∈ d :: l := by
        have : ∀ (l : List D) (d : D), (l.foldl (fun a y => if ltK2 (kyW wn a) (kyW wn y) = true then y else a) d) ∈ d :: l := by
          intro l
          induction l with
          | nil => intro d; exact List.mem_cons_self
          | cons y l ih =>
            intro d
            rw [List.foldl_cons]
            split
            · exact List.mem_cons_of_mem _ (ih y)
            · rcases List.mem_cons.mp (ih d) with h | h
              · rw [h]; exact List.mem_cons_self
              · exact List.mem_cons_of_mem _ (List.mem_cons_of_mem _ h)
        exact this l d
      obtain ⟨n, e7, _⟩ := isIx_some (hall _ hmem)
      rw [e7] at rp5 ⊢
      exact rp5
end
end Wl
/-! The errors' classes. -/
namespace Wl
open PySem PySem.Spec PyProof.Rows L2
abbrev tailVE : List Value := [.type "ValueError", .type "Exception", .type "BaseException", .type "object"]
/-- an error's class: what a raise and a handler ask of it -/
structure Er (K : PySem.W.Frag) (mg : Str → Option Value) (x : Str) (C : Addr) : Prop where
  g : mg x = some (.ref C)
  k : PySem.W.keepIn K (.ref C) = true
  sub : PySem.W.subIn K (.ref C) (.type "BaseException") = some true
  ty : PySem.W.typeIn K (.ref C) = some (.type "type")
  is : ExcC K C
  xf : XfC K C
/-- without a field -/
structure Er0 (K : PySem.W.Frag) (mg : Str → Option Value) (x : Str) (C : Addr) : Prop extends Er K mg x C where
  ex : PySem.W.excIn K C tailVE "ValueError.__new__" = true
theorem er_mk0 {X : Cx} {x : Str} {C : Addr} {p pos : Pos} (E : Er0 X.K X.mg x C) (hg : Gl X x) (hdb : (x == ("__debug__" : Str)) = false) : PMk X (.Call (.Name x p) [] [] pos) (fun _ H Q => Q (.ref C) none H) := by
  intro pins s σ H Q I h
  refine wpAny_Call_Name_kw (ld_glob I hg E.g ?_ hdb)
  refine PySem.W.callWith_K0 I.kIn E.k ?_
  show wpAny _ _ (call (.ref C) []) _ _ _
  obtain ⟨bm, N, nm, qn, bs, hdct, sn, sub, ab, col, dd, k0, k1, k2, k3, k5, mN, hC, hN, hni, T⟩ := exc_obj I.kIn E.ex
  refine wpAny_call_exc_subT PySem.F.excBase_ValueError T hC hN hni (fun h' e hm => ?_) (Nat.zero_le _)
  exact mk_of I hm (raises_own E.sub E.ty) h (I.hok.gone hm.new)

/-! ### an own __init__ that asks the base's by super() -/
/-- its text -/
def IniB (ix f : Str) (body : List Stmt) : Prop := ∃ (p2 p3 p4 p5 p6 p7 p8 p9 p10 p11 : Pos), (p4.endLine == p6.line) = true ∧ body = [.Expr (.Call (.Attribute (.Call (.Name "super" p2) [] [] p3) "__init__" p4) [.Name ix p5] [] p6) p7, .Assign [.Attribute (.Name "self" p8) f p9] (.Name ix p10) p11]
/-- its function, as it stands -/
structure Ini (P : Program) (K : PySem.W.Frag) (mg : Str → Option Value) (C : Addr) (f : Str) (fI : Addr) (fd : FuncData) (ps : List Str) : Prop where
  ex : ∃ (ix name qual : Str) (params : Arguments) (body : List Stmt) (scope : Scope) (dV kV doc pm : Value) (an : Option Addr) (c : Addr) (ct : Value) (cc : Addr) (oc : Value) (od : Option Addr) (osl : Array (Option Value)) (ocell oc2 : Obj) (vs : Array Value) (file : Str) (tf : Tok) (ar : Arg),
    fd = PySem.W.ksFn name qual params body scope dV kV doc pm an (.ref c) ct cc ∧ ps = [("self" : Str), ix] ∧
    K.lookup fI = some { cls := oc, dict := od, data := .func fd, slots := osl } ∧
    K.lookup cc = some ocell ∧ ocell.data = .cell (some (.ref C)) ∧
    PySem.W.codeIn K (.ref c) qual = true ∧ K.lookup c = some oc2 ∧ oc2.data = .fields vs ∧ vs[2]? = some (.str file tf) ∧ (P.main.file == file) = true ∧
    (P.main.scope.names.lookup ("super" : Str)).isSome = false ∧ NdefX.NScope [("self" : Str), ix, ("__class__" : Str)] [("self" : Str), ix] [("__class__" : Str)] scope ∧ scope.names.lookup ("super" : Str) = some .globalImplicit ∧
    (params.posonlyargs ++ params.args).head? = some ar ∧ ar.arg = ("self" : Str) ∧ IniB ix f body ∧ (ix == ("__debug__" : Str)) = false ∧ (ix == ("__classdict__" : Str)) = false
  fi : PySem.W.findIn K (.ref C) "__init__" = some (some (.ref fI))
  tf : PySem.W.typeIn K (.ref fI) = some (.type "function")
  bi : Binds K fd ps []
  su : mg "super" = none
  op : PySem.W.nsIn K cStatics "thirdparty.any" = some none
  si : PySem.W.ks_superIn K C C "__init__" = some (some (.builtin "ValueError.__init__"))
  sv : PySem.W.subIn K (.ref C) (.type "ValueError") = some true
  sc : PySem.W.mroIn K C (.ref C) = some true
  fn : PySem.W.findIn K (.ref C) f = some none
theorem looks_mro {M : Model} {h : Heap} {C : Addr} {o : Obj} {cd : ClassData} (h1 : h.get? C = some o) (h2 : o.data = .cls cd) : PySem.W.Looks M h (mroOf (.ref C)) cd.mro := fun A Q E s hs hq => by
  show wpAny M A (do let c ← classData C; pure c.mro) Q E s
  refine wpAny_bind ?_
  unfold classData
  refine wpAny_bind (wpAny_load (hs _ _ h1) ?_)
  rw [h2]
  exact wpAny_pure (wpAny_pure hq)
theorem one_le (v : Value) : [v].length ≤ sizeLine := by
  rw [sizeLine_eq]
  exact (by decide : 1 ≤ 16777216)
/-- a method-wrapper of the base's __init__ is called -/
theorem mw_call {prog : Program} {w : World} {A : Around} {R : Result → Shared → Prop} {h : Heap} {g : Array GenState} {d : Drawn} {t : Nat} {os : OsState} {u a C t0 : Addr} {rest : List Value} {K : PySem.W.Frag} (O : OexC K C) (hK : K.In h) (hu : h.get? u = some (PySem.W.kxs_mw "ValueError.__init__" a))
    (ha : h.get? a = some { cls := .ref C, dict := none, data := .fields #[.ref t0, .none, .none, .none, .bool false, .none] }) (hr : rest.length ≤ sizeLine)
    (k : ∀ (h' : Heap) (t1 : Addr), (∀ (b : Addr) (o : Obj), b ≠ a → h.get? b = some o → h'.get? b = some o) → h'.get? a = some { cls := .ref C, dict := none, data := .fields #[.ref t1, .none, .none, .none, .bool false, .none] } → R (.ok (.ret .none)) ⟨h', g, d, t, os⟩) :
    codeAny (model prog w) A (.call (.ref u) ⟨rest, []⟩) R ⟨h, g, d, t, os⟩ := by
  obtain ⟨nm, q, N, bs, bm, sn, sub, ab, col, dd, k0, k1, k2, k3, k5, hl, _⟩ := O.cls
  refine codeAny_of_tree ?_
  show wpAny _ _ (callAny (.ref u) ⟨rest, []⟩) _ _ _
  rw [callAny.eq_3]
  refine wpAny_bind (wpAny_load hu ?_)
  show wpAny _ _ (do checkBoundCall "ValueError.__init__" ⟨.ref a :: rest, []⟩; again (.builtin "ValueError.__init__" ⟨.ref a :: rest, []⟩)) _ _ _
  refine wpAny_bind (PySem.W.check_bound_init PySem.F.excBase_ValueError.toExcCallFacts (hK _ _ hl) ha rfl ?_)
  refine wpAny_pure ⟨Code.quiet_builtin _ (by decide +kernel), ?_⟩
  refine codeAny_builtin PySem.F.excBase_ValueError.initEntry ?_
  refine PySem.W.exc_init_tree (cls := .ref C) (dv := none) (c2 := .none) (c3 := .none) (b4 := .bool false) ha hr fun h' k1 k2 k3 => ?_
  exact k h' _ k1 k2
theorem mc_pos {env : PySem.Env} {o : Expr} {p4 p6 : Pos} {f : Bool} (h : (p4.endLine == p6.line) = true) : methodCallPos f o env p4 p6 = pure p6 := by
  unfold methodCallPos
  simp [h]
theorem ev_meth1 (env : PySem.Env) (o : Expr) (name : Str) (p4 p5 p6 : Pos) (ix : Str) (h : (p4.endLine == p6.line) = true) : eval (.Call (.Attribute o name p4) [.Name ix p5] [] p6) env = (do
      let ov ← attributeBase o name env (eval o env)
      standAt p4.atName
      let __x ← holding [ov] (getMethod ov name (do let b ← importBound o env; pure (b.getD true)))
      match __x with
        | (f, first) => callWith p6 f first (backTo p6 (starEach [.Name ix p5] env)) []) := by
  conv => lhs; unfold eval
  unfold methodCall
  simp only [mc_pos h]
  rfl
theorem env_dull {env : PySem.Env} (h : env.scope.kind = .function) : interactive env = false := by
  unfold interactive
  simp [h]
/-- super().__init__(ix) within the __init__ -/
theorem super_step {Y : Cx} {σ : L2.St} {H : Hp} {s : Shared} {a C fI cc c : Addr} {y : V} {of oc2 ocell : Obj} {fd : FuncData} {cvs : Array Value} {file ix : Str} {tf : Tok} {ar : Arg} {body : List Stmt} {p2 p3 p4 p5 p6 p7 : Pos} {E : Value → Shared → Prop}
    (O : OexC Y.K C) (I : Inv Y [] σ H s) (k1 : Y.env.kindOf "super" = some .globalImplicit) (k2 : Y.env.kindOf "__class__" = some .free) (k3 : Y.env.func = some fI) (k4 : Y.K.lookup fI = some of) (k5 : of.data = .func fd) (k6 : (fd.params.posonlyargs ++ fd.params.args).head? = some ar) (k6' : ar.arg = ("self" : Str))
    (k7 : Y.env.code = .ref c) (k8 : Y.K.lookup c = some oc2) (k9 : oc2.data = .fields cvs) (k10 : cvs[2]? = some (.str file tf)) (k11 : (Y.prog.main.file == file) = true) (k12 : (Y.prog.main.scope.names.lookup ("super" : Str)).isSome = false)
    (c1 : Y.env.cells.lookup ("__class__" : Str) = some cc) (c2 : Y.K.lookup cc = some ocell) (c3 : ocell.data = .cell (some (.ref C)))
    (n0 : Y.N[0]? = some ("self" : Str)) (v0 : Y.env.kindOf "self" = some .local) (s0 : σ[0]? = some (some (.ref a))) (n1 : Y.N[1]? = some ix) (v1 : Y.env.kindOf ix = some .local) (s1 : σ[1]? = some (some y)) (d1 : (ix == ("__debug__" : Str)) = false) (d2 : (ix == ("__classdict__" : Str)) = false)
    (hline : (p4.endLine == p6.line) = true) (hi : interactive Y.env = false) (ha : H a = some (exo a C none)) (su : Y.mg "super" = none) (op : PySem.W.nsIn Y.K cStatics "thirdparty.any" = some none) (si : PySem.W.ks_superIn Y.K C C "__init__" = some (some (.builtin "ValueError.__init__"))) (sv : PySem.W.subIn Y.K (.ref C) (.type "ValueError") = some true) (sc : PySem.W.mroIn Y.K C (.ref C) = some true) :
    PySem.wpAt (model Y.prog Y.w) Y.A (.func body Y.env) (exec (.Expr (.Call (.Attribute (.Call (.Name "super" p2) [] [] p3) "__init__" p4) [.Name ix p5] [] p6) p7) Y.env) (fun fl s' => fl = .next ∧ Inv Y [] σ H s') E s := by
  obtain ⟨nm, q, N, bs, bm, sn, sub, ab, col, dd, q0, q1, q2, q3, q5, hl, _⟩ := id O.cls
  have hC : s.heap.get? C = some _ := I.kIn _ _ hl
  obtain ⟨t0, hao⟩ := exo_at I.hok ha
  obtain ⟨mb, b1, b2⟩ := I.mod.blt
  have kind := I.ok.kind
  obtain ⟨m, hm, look⟩ := I.loc
  have hself : m ("self" : Str) = some (.ref a) := by
    obtain ⟨u, ru, lu⟩ := look 0 _ _ n0 s0 (.inl v0)
    rcases lu with ⟨_, e⟩ | ⟨e, _⟩
    · rw [e]; cases ru; rfl
    · rw [v0] at e; rcases e with e | e <;> cases e
  obtain ⟨u, ru, hix⟩ : ∃ u, RelV y u ∧ m ix = some u := by
    obtain ⟨u, ru, lu⟩ := look 1 _ _ n1 s1 (.inl v1)
    rcases lu with ⟨_, e⟩ | ⟨e, _⟩
    · exact ⟨u, ru, e⟩
    · rw [v1] at e; rcases e with e | e <;> cases e
  refine ks_wpAt_Expr_any (ks_wpAt_MethodCall (he := ev_meth1 _ _ _ _ _ _ _ hline) ?_) hi rfl
  refine ks_wpAt_super_base k1 k2 rfl k3 (I.kIn _ _ k4) k5 k6 k7 (I.kIn _ _ k8) k9 k10 k11 k12 ?_
  have gl := I.ok.glob
  have bl := I.ok.blt
  refine PySem.W.ks_loadName_global kind k1 (Calls.loadGlobal_builtin (mg := Y.mg) (mb := mb) (by rw [gl]; exact I.mod.glob.keeps I.bk) su (by rw [bl]; exact b1.keeps I.bk) (b2 _ (by decide)) ⟨rfl, ?_⟩)
  refine wpAny_loadName_free kind k2 c1 ⟨ocell, I.kIn _ _ c2, c3⟩ ?_
  rw [k6']
  refine wpAny_loadName_local kind v0 hm hself ?_
  refine ks_wpAny_isType_cls hC rfl ⟨rfl, ?_⟩
  refine ks_wpAny_call_super hC rfl hao rfl (fun c z => by cases z) (PySem.W.looks_mroIn I.kIn sc) fun h1 hso x1 => ?_
  have I1 : Inv Y [] σ H ⟨h1, s.gens, s.drawn, s.toks, s.os⟩ := I.kept x1
  have hne : a ≠ C := fun z => by rw [z, hC] at hao; cases hao
  refine PySem.W.kxs_getMethod (K := Y.K) PySem.W.kxs_ValueError hso (PySem.W.looks_opaque I1.kIn op) (looks_mro (I1.kIn _ _ hl) rfl) rfl I1.kIn ?_ ?_ hne rfl ?_
  · unfold PySem.W.ks_superIn at si
    unfold PySem.W.clsIn at si
    rw [hl] at si
    exact si
  · intro A Q E s2 hs2 hq
    show wpAny _ A (do let t ← typeOf (.ref a); isSubtype t (.type "ValueError")) Q E s2
    exact wpAny_bind (wpAny_typeOf_ref (hs2 _ _ (x1 _ _ hao)) (PySem.W.looks_subIn I1.kIn sv _ _ _ _ hs2 hq))
  have x2 : ∀ b o, s.heap.get? b = some o → (h1.push (PySem.W.kxs_mw "ValueError.__init__" a)).get? b = some o := fun b o e => Heap.get?_push_of_some _ (x1 b o e)
  have I2 : Inv Y [] σ H ⟨h1.push (PySem.W.kxs_mw "ValueError.__init__" a), s.gens, s.drawn, s.toks + 1, s.os⟩ := I.kept x2
  have hmw : (h1.push (PySem.W.kxs_mw "ValueError.__init__" a)).get? h1.objs.size = some (PySem.W.kxs_mw "ValueError.__init__" a) := Heap.get?_push_size _ rfl
  refine PySem.W.kxs_callWith (i := "ValueError.__init__") (x := a) rfl (Calls.evalArgs_plain (Calls.spliced_cons ?_))
  refine wpAny_Name (wpAny_loadName_local kind v1 (hm.keeps x2) hix (Calls.spliced_nil ⟨hmw, ?_⟩)) d1
  refine wpAny_call (mw_call O I2.kIn hmw (x2 _ _ hao) (one_le u) fun h' t1 x3 e3 => ⟨rfl, ?_⟩)
  have hu : upd H a (exo a C none) = H := by
    funext b
    by_cases q : b = a
    · rw [q, upd_same, ha]
    · rw [upd_ne q]
  have := I2.write (x := a) (e := a) (h' := h') (o := exo a C none) (t' := s.toks + 1) (by rw [ha]; exact trivial) (.inl rfl) x3 ⟨_, e3⟩ (by rw [hu]; exact exo_ok e3)
  rw [hu] at this
  exact this
/-- what the __init__ promises -/
def spI (C : Addr) (f : Str) : Sp := fun vs H Q E => ∃ a y, vs = [.ref a, y] ∧ H a = some (exo a C none) ∧ ∀ dx, H dx = none → dx ≠ a → Q .non (upd (upd H dx (exd dx [(f, y)])) a (exo a C (some dx)))
theorem ini_fn {P : Program} {w : World} {K : PySem.W.Frag} {mg : Str → Option Value} {base : Heap} {C : Addr} {f : Str} {fI : Addr} {fd : FuncData} {ps : List Str} {k : Nat} (O : OexC K C) (N : Ini P K mg C f fI fd ps) : FnOk P w K mg base CX0 k fI fd ps (spI C f) := by
  obtain ⟨ix, name, qual, params, body, scope, dV, kV, doc, pm, an, c, ct, cc, oc, od, osl, ocell, oc2, cvs, file, tf, ar, rfl, rfl, lk, lcc, dcc, hcd, lc, dc, fv, ff, fs, NS, ks, har, hself, hB, hd, hcl⟩ := N.ex
  refine ⟨fun vs H Q E ⟨a, y, e, _⟩ => by subst e; rfl, fun A outer s H args us vs Q E hr e0 hb rv h => ?_⟩
  obtain ⟨a, y, rfl, hoa, hQ⟩ := h
  have hK : K.In s.heap := fun b o e => (e0.bs b o (e0.mod.kin b o e)).1
  obtain ⟨mc, n1, n2⟩ := e0.mod.nolimit
  have hnl : s.heap.NoLimit := ⟨mc, n1.keeps fun b o e => (e0.bs b o e).1, n2⟩
  have hdp := hr.dp
  have hcr : s.heap.CodeRec (.ref c) qual := PySem.W.codeRec_of hK hcd
  refine ks_codeAny_call_defAt (by omega) (hK _ _ lk) rfl hnl hcr rfl hb NS.nocell (fun x hx => ?_) (fun h₀ hns hext => ?_) NS.co NS.gen NS.kind
  · exact NS.par x.1 (List.of_mem_zip hx).1
  have hcell : PySem.Heap.IsCell s.heap cc (some (.ref C)) := ⟨ocell, hK _ _ lcc, dcc⟩
  have I0 := NdefX.inv_startN (CX := CX0) (E := E) (F := ⟨name, qual, params, body, scope, [(("__class__" : Str), cc)], c⟩) (f := fI) (tk := s.toks + (([("self" : Str), ix]).zip us).length) (ws := [some (.ref C)]) NS hr.hd e0 rfl rv ⟨rfl, fun y d h => ?_, fun x y d h1 h2 => ?_, fun i y h => ?_⟩ hns hext
  rotate_left
  · have : y = ("__class__" : Str) ∧ d = cc := by
      rw [List.lookup_cons] at h
      split at h
      · rename_i e; cases h; exact ⟨beq_iff_eq.mp e, rfl⟩
      · cases h
    obtain ⟨rfl, rfl⟩ := this
    exact ⟨(e0.bs _ _ (e0.mod.kin _ _ lcc)).2, _, hcell⟩
  · have one : ∀ z d, List.lookup z [(("__class__" : Str), cc)] = some d → z = ("__class__" : Str) := fun z d h => by
      rw [List.lookup_cons] at h
      split at h
      · rename_i e; exact beq_iff_eq.mp e
      · cases h
    rw [one x d h1, one y d h2]
  · match i, h with
    | 0, h =>
      cases h
      refine ⟨cc, by rw [List.lookup_cons]; rfl, fun v hv => ?_⟩
      cases hv
      exact ⟨.ref C, rfl, hcell⟩
    | i + 1, h => cases h
  obtain ⟨p2, p3, p4, p5, p6, p7, p8, p9, p10, p11, hline, rfl⟩ := hB
  have kself : List.lookup ("self" : Str) scope.names = some .local := NS.par _ List.mem_cons_self
  have kix : List.lookup ix scope.names = some .local := NS.par _ (List.mem_cons_of_mem _ List.mem_cons_self)
  -- super().__init__(ix)
  refine ks_wpAt_execs_cons (ks_wpAt_mono (super_step (fI := fI) O I0 ks (NS.frk _ List.mem_cons_self) rfl lk rfl har hself rfl lc dc fv ff fs rfl lcc dcc rfl kself rfl rfl kix rfl hd hcl hline (env_dull NS.kind) hoa N.su N.op N.si N.sv N.sc) (fun fl s2 h2 => ?_) fun e s2 h2 => h2)
  obtain ⟨rfl, I2⟩ := h2
  -- self.f = ix
  refine ks_wpAt_execs_cons (ks_wpAt_mono (wpAt_of_wpAny ((ps_ost (pe_var (i := 0) rfl (.inl kself) rfl rfl) (pe_var (i := 1) rfl (.inl kix) hd hcl) rfl).run [] _ _ H { nx := fun σ' H' => Q .non H', rt := fun _ _ => False } I2 ⟨y, rfl, .ref a, rfl, a, C, rfl, O, N.fn, .inl ⟨hoa, hQ⟩⟩)) (fun fl s3 h3 => ?_) fun e s3 h3 => h3)
  cases fl with
  | next =>
    obtain ⟨σ3, H3, I3, q3⟩ := h3
    refine wpAt_of_wpAny (wpAny_execs_nil ?_)
    exact ⟨.non, H3, I3.os, I3.bare, I3.base, I3.hok, rfl, q3⟩
  | brk => obtain ⟨_, _, _, q⟩ := h3; exact q.elim
  | cont => obtain ⟨_, _, _, q⟩ := h3; exact q.elim
  | ret u => obtain ⟨_, _, _, _, _, q⟩ := h3; exact q.elim
/-- with a field that its __init__ stores -/
structure Er1 (P : Program) (K : PySem.W.Frag) (mg : Str → Option Value) (x : Str) (C : Addr) (f : Str) : Prop extends Er K mg x C where
  oex : OexC K C
  ini : ∃ fI fd ps, Ini P K mg C f fI fd ps
theorem upd_del' {H : Hp} {a dx : Addr} {o o2 o' : HO} {u : HO} (ha : H a = none) (hd : dx ≠ a) : upd (del (upd (upd (upd H a o) dx o') a o2) a) dx u = upd H dx u := by
  funext b
  by_cases q : b = dx
  · rw [q, upd_same, upd_same]
  · rw [upd_ne q, upd_ne q]
    by_cases r : b = a
    · rw [r, del_same, ha]
    · rw [del_ne r, upd_ne r, upd_ne q, upd_ne r]
theorem er_mk1 {X : Cx} {x f : Str} {C : Addr} {p pos : Pos} {e : Expr} {te : TE} (E : Er1 X.prog X.K X.mg x C f) (hg : Gl X x) (hr : Room 1 X.A) (hdb : (x == ("__debug__" : Str)) = false) (he : PE X e te) (hs : starEach [e] X.env = (false, eval e X.env) :: starEach [] X.env) :
    PMk X (.Call (.Name x p) [e] [] pos) (fun σ H Q => te σ H fun v H1 => ∀ dd, H1 dd = none → Q (.ref C) (some dd) (upd H1 dd (.xd [(f, v)]))) := by
  obtain ⟨fI, fd, ps, N⟩ := E.ini
  intro pins s σ H Q I h
  have he2 : PE X e (fun σ H Q => ∃ Q1 : VK, te σ H Q1 ∧ ∀ v H1, Q1 v H1 → Q v H1) := ⟨fun pins s σ H Q I ⟨Q1, h, m⟩ => wpAny_mono (he.run pins s σ H Q1 I h) (fun u s ⟨v, H', I', r, q⟩ => ⟨v, H', I', r, m _ _ q⟩) fun e s h => h⟩
  refine pmk_oex (p := p) (pos := pos) E.oex N.fi N.tf (ini_fn (k := 0) (w := X.w) (base := X.base) E.oex N) hr N.bi .nil (fun _ _ _ _ _ _ _ z => z.elim) hg E.g (pa_1 he2 hs) hdb hs rfl pins s σ H Q I ?_
  refine ⟨_, h, fun v H1 q => ⟨by show 1 ≤ 1000; decide, fun a ha => ⟨a, v, rfl, upd_same, fun dx hdx hne => ⟨rfl, dx, [(f, v)], upd_same, ?_, ?_, ?_⟩⟩⟩⟩
  · rw [upd_ne hne, upd_same]
  · rw [upd_ne hne] at hdx; exact hdx
  · rw [upd_del' ha hne]
    rw [upd_ne hne] at hdx
    exact q dx hdx
def ErC (P : Program) (K : PySem.W.Frag) (mg : Str → Option Value) (x : Str) (C : Addr) : Option Str → Prop
  | none => Er0 K mg x C
  | some f => Er1 P K mg x C f
end Wl
/-! A lambda without parameters (or with one that has a default and is not used), made and called. -/
namespace Wl
open PySem PySem.Spec PyProof.Rows L2
/-- no parameter; one that stands for 0 -/
def argsN : Arguments := { posonlyargs := [], args := [], vararg := none, kwonlyargs := [], kw_defaults := [], kwarg := none, defaults := [] }
def argsD (nm : Str) (p1 p2 : Pos) (j : Nat) : Arguments := { posonlyargs := [], args := [{ arg := nm, annotation := none, pos := p1 }], vararg := none, kwonlyargs := [], kw_defaults := [], kwarg := none, defaults := [.Constant (.int 0) j p2] }
/-- a lambda's object as it was made -/
def LamAt (q : Str) (params : Arguments) (body : Expr) (scope : Scope) (cl : List (Str × Addr)) (c' : Addr) (ds : List Str) (as : List Addr) (h : Heap) (f : Addr) : Prop :=
  ∃ dV doc pm ctv, h.get? f = some (PySem.W.kdv_obj "<lambda>" q params (.expr body) scope cl dV doc pm c' ctv) ∧
    ∃ (us : List Value) (vs : List V), Vals vs us ∧ vs.length = ds.length ∧ ∀ (s : Shared), (∀ b ∈ as, ∀ o, h.get? b = some o → s.heap.get? b = some o) → BindsTo s (PySem.W.kdv_fn "<lambda>" q params (.expr body) scope cl dV doc pm (.ref c') ctv) ⟨[], []⟩ (ds.zip us)
section
variable {X : Cx} {pins : List (Addr × Obj)} {σ : L2.St} {H : Hp} {s : Shared} {T : List (Addr × Str)} {c P : Addr} {body : Expr} {scope : Scope} {pos p1 p2 : Pos} {E Q : Value → Shared → Prop} {nm : Str} {j : Nat}
theorem lam_makeN (I : Inv X pins σ H s) (TB : LamX.TabB X.base X.mg c P) (hcode : X.env.code = .ref c) (hP : (P, X.env.qual ++ "<lambda>") ∈ T) (hun : ∀ p ∈ T, p.1 = P → p.2 = X.env.qual ++ "<lambda>") (hT : LamX.Tabs T H) (hfree : ∀ y ∈ scope.names, y.2 = .free → ∃ c, X.env.cells.lookup y.1 = some c)
    (k : ∀ (f c' : Addr) (as : List Addr) (H1 : Hp) (s' : Shared), Inv X pins σ H1 s' → LamX.ExtN H H1 → LamX.Tabs T H1 → LamAt (X.env.qual ++ "<lambda>") argsN body scope (cloFrom X.env.cells scope.names []) c' [] as s'.heap f → (∀ b ∈ as, H1 b = none ∧ b ∉ frs X.stack) → H1 f = none → f ∉ frs X.stack → H1 c' = some (LamX.CodeO c' (X.env.qual ++ "<lambda>")) → Q (.ref f) s') :
    wpAny (model X.prog X.w) X.A (eval (.Lambda argsN body scope pos) X.env) Q E s :=
  LamX.lam_make2 I TB hcode hP hun hT rfl hfree fun f c' pm ctv H1 s' I1 ex tabs hf hfn hfr hcc => k f c' [] H1 s' I1 ex tabs ⟨.none, .none, pm, ctv, hf, [], [], .nil, rfl, fun s ks M A E Q q => wpAny_pure q⟩ (fun _ z => nomatch z) hfn hfr hcc
theorem nofr {a : Addr} (I : Inv X pins σ H s) (h : s.heap.objs.size ≤ a) : a ∉ frs X.stack := fun m => by
  rcases List.mem_cons.mp (I.stkSub a m) with e | e
  · have := I.lt; rw [← e] at this; exact Nat.lt_irrefl _ (Nat.lt_of_lt_of_le this h)
  · exact I.nofs h e
theorem lam_makeD (I : Inv X pins σ H s) (TB : LamX.TabB X.base X.mg c P) (hcode : X.env.code = .ref c) (hP : (P, X.env.qual ++ "<lambda>") ∈ T) (hun : ∀ p ∈ T, p.1 = P → p.2 = X.env.qual ++ "<lambda>") (hT : LamX.Tabs T H) (hfree : ∀ y ∈ scope.names, y.2 = .free → ∃ c, X.env.cells.lookup y.1 = some c)
    (k : ∀ (f c' : Addr) (as : List Addr) (H1 : Hp) (s' : Shared), Inv X pins σ H1 s' → LamX.ExtN H H1 → LamX.Tabs T H1 → LamAt (X.env.qual ++ "<lambda>") (argsD nm p1 p2 j) body scope (cloFrom X.env.cells scope.names []) c' [nm] as s'.heap f → (∀ b ∈ as, H1 b = none ∧ b ∉ frs X.stack) → H1 f = none → f ∉ frs X.stack → H1 c' = some (LamX.CodeO c' (X.env.qual ++ "<lambda>")) → Q (.ref f) s') :
    wpAny (model X.prog X.w) X.A (eval (.Lambda (argsD nm p1 p2 j) body scope pos) X.env) Q E s := by
  show wpAny _ _ (do let dv ← evalAll [eval (.Constant (.int 0) j p2) X.env]; let kdv ← holding dv (evalAllOpt []); makeFunction "<lambda>" (X.env.qual ++ "<lambda>") (argsD nm p1 p2 j) (.expr body) scope X.env dv kdv [] pos pos.line) _ _ _
  refine wpAny_bind (wpAny_evalAll_cons (wpAny_Constant_int (wpAny_evalAll_nil ?_)))
  refine wpAny_bind (wpAny_holding (wpAny_pure ?_))
  rw [makeFunction_eq]
  show wpAny _ _ (do let dV ← newTextTuple [.int 0 s.toks]; makeTail "<lambda>" (X.env.qual ++ "<lambda>") (argsD nm p1 p2 j) (.expr body) scope X.env dV .none none pos pos.line) _ _ _
  refine wpAny_bind (wpAny_newTextTuple ?_)
  have I2 : Inv X pins σ H ⟨s.heap.push { cls := .type "tuple", data := .seq [Value.int 0 s.toks].toArray }, s.gens, s.drawn, s.toks + 1, s.os⟩ := I.kept fun b o e => Heap.get?_push_of_some _ e
  have ht : (s.heap.push { cls := .type "tuple", data := .seq [Value.int 0 s.toks].toArray }).get? s.heap.objs.size = some { cls := .type "tuple", data := .seq [Value.int 0 s.toks].toArray } := Heap.get?_push_size _ rfl
  obtain ⟨ps, hP1, htr, ham⟩ := hT _ hP
  have tab : (s.heap.push { cls := .type "tuple", data := .seq [Value.int 0 s.toks].toArray }).get? P = some (PySem.W.tabObj ps) := I2.hok P _ hP1
  have bnd : ∀ (doc pm ctv cv : Value) (h' : Heap), h'.get? s.heap.objs.size = some { cls := .type "tuple", data := .seq [Value.int 0 s.toks].toArray } → ∃ (us : List Value) (vs : List V), Vals vs us ∧ vs.length = [nm].length ∧ ∀ (s1 : Shared), (∀ b ∈ [s.heap.objs.size], ∀ o, h'.get? b = some o → s1.heap.get? b = some o) → BindsTo s1 (PySem.W.kdv_fn "<lambda>" (X.env.qual ++ "<lambda>") (argsD nm p1 p2 j) (.expr body) scope (cloFrom X.env.cells scope.names []) (.ref s.heap.objs.size) doc pm cv ctv) ⟨[], []⟩ ([nm].zip us) := fun doc pm ctv cv h' x => by
    refine ⟨[.int 0 s.toks], [.int 0], .cons ⟨_, rfl⟩ .nil, rfl, fun s1 ks M A E Q q => ?_⟩
    show wpAny M A (seqItems? (.ref s.heap.objs.size) >>= _) Q E s1
    exact wpAny_bind (wpAny_seqItems (ks _ List.mem_cons_self _ x) rfl (wpAny_pure (by simpa [argsD, PySem.W.kdv_fn, List.lookup] using q)))
  cases hca : codeAmong pos ps.toList with
  | none =>
    refine PySem.W.kdv_makeTail (closure_ok hfree) I.ok.glob (I.mod.glob.keeps I2.bk) hcode (TB.code.keeps I2.bk) tab htr hca TB.gP (TB.bm.keeps I2.bk) fun c' ctv doc h' tk hext hc1 hc2 hcr hP2 => ?_
    obtain ⟨c2, oc, cvs, ct, ec, hoc, hdc, hvc⟩ := hcr
    cases ec
    have nc : H c' = none := I2.hok.fresh hc1
    have x2 : ∀ b o, b ≠ P → (s.heap.push { cls := .type "tuple", data := .seq [Value.int 0 s.toks].toArray }).get? b = some o → h'.get? b = some o := hext
    have I3 := LamX.inv_table (t' := tk) I2 hP1 x2 hP2 hc1 ⟨oc, cvs, ct, hoc, hdc, hvc⟩
    have I4 := I3.kept (h' := h'.push (PySem.W.kdv_obj "<lambda>" (X.env.qual ++ "<lambda>") (argsD nm p1 p2 j) (.expr body) scope (cloFrom X.env.cells scope.names []) (.ref s.heap.objs.size) doc ((X.mg "__name__").getD .none) c' ctv)) (t' := tk) fun b o e => Heap.get?_push_of_some _ e
    have nP : P ≠ c' := fun z => by rw [z, nc] at hP1; cases hP1
    have hcn : upd (upd H P (.tbl (ps ++ #[rawInt pos.line, rawInt pos.col, .ref c']))) c' (LamX.CodeO c' (X.env.qual ++ "<lambda>")) c' = some (LamX.CodeO c' (X.env.qual ++ "<lambda>")) := upd_same
    have hPn : upd (upd H P (.tbl (ps ++ #[rawInt pos.line, rawInt pos.col, .ref c']))) c' (LamX.CodeO c' (X.env.qual ++ "<lambda>")) P = some (.tbl (ps ++ #[rawInt pos.line, rawInt pos.col, .ref c'])) := by rw [upd_ne nP, upd_same]
    have oth : ∀ b o, b ≠ P → H b = some o → upd (upd H P (.tbl (ps ++ #[rawInt pos.line, rawInt pos.col, .ref c']))) c' (LamX.CodeO c' (X.env.qual ++ "<lambda>")) b = some o := fun b o n e => by
      rw [upd_ne (fun z => by rw [z, nc] at e; cases e), upd_ne n]; exact e
    have fresh : H h'.objs.size = none := by
      exact I2.hok.fresh (Nat.le_trans hc1 (Nat.le_of_lt hc2))
    refine k _ c' [s.heap.objs.size] _ _ I4 (fun b o e n => oth b o (fun z => by rw [z, hP1] at e; cases e; exact n _ rfl) e) (fun p hp => ?_) ⟨_, doc, _, ctv, Heap.get?_push_size _ rfl, ?_⟩ (fun b hb => ?_) ?_ (fun m => ?_) hcn
    · by_cases z : p.1 = P
      · have e2 := hun p hp z
        refine ⟨_, by rw [z]; exact hPn, by rw [Array.toList_append]; exact TriplesOk_snoc _ _ _ _ htr, fun p' cv e => ?_⟩
        rw [Array.toList_append] at e
        rw [e2]
        rcases LamX.among_app _ htr e with e | e
        · obtain ⟨c3, e3, e4⟩ := ham p' cv e
          exact ⟨c3, e3, oth _ _ (fun z => by rw [z, hP1] at e4; cases e4) e4⟩
        · exact ⟨c', e, hcn⟩
      · obtain ⟨ps0, g1, g2, g3⟩ := hT p hp
        exact ⟨ps0, oth _ _ z g1, g2, fun p' cv e => let ⟨c3, e3, e4⟩ := g3 p' cv e; ⟨c3, e3, oth _ _ (fun z => by rw [z, hP1] at e4; cases e4) e4⟩⟩
    · exact bnd _ _ _ _ _ (Heap.get?_push_of_some _ (x2 _ _ (fun z => by have := I.hok.lt hP1; rw [← z] at this; exact Nat.lt_irrefl _ this) ht))
    · obtain rfl : b = s.heap.objs.size := by simpa using hb
      have hc1 : (s.heap.push { cls := .type "tuple", data := .seq [Value.int 0 s.toks].toArray }).objs.size ≤ c' := hc1
      have hsz := Heap.lt_size ht
      refine ⟨?_, nofr I (Nat.le_refl _)⟩
      rw [upd_ne (Nat.ne_of_lt (Nat.lt_of_lt_of_le hsz hc1)), upd_ne (fun z => by have := I.hok.lt hP1; rw [← z] at this; exact Nat.lt_irrefl _ this)]
      exact I.fresh
    · rw [upd_ne (Nat.ne_of_gt hc2), upd_ne (fun z => by rw [← z, fresh] at hP1; cases hP1)]; exact fresh
    · exact nofr I2 (Nat.le_trans hc1 (Nat.le_of_lt hc2)) m
  | some cv =>
    obtain ⟨c', rfl, hcc⟩ := ham pos cv hca
    refine PySem.W.kdv_makeTailHit (closure_ok hfree) I.ok.glob (I.mod.glob.keeps I2.bk) hcode (TB.code.keeps I2.bk) tab htr hca (TB.bm.keeps I2.bk) fun ctv doc h' tk hext hsz => ?_
    have x4 : ∀ b o, (s.heap.push { cls := .type "tuple", data := .seq [Value.int 0 s.toks].toArray }).get? b = some o → (h'.push { cls := .type "function", data := .func (PySem.W.kdv_fn "<lambda>" (X.env.qual ++ "<lambda>") (argsD nm p1 p2 j) (.expr body) scope (cloFrom X.env.cells scope.names []) (.ref s.heap.objs.size) doc ((X.mg "__name__").getD .none) (.ref c') ctv) }).get? b = some o := fun b o e => Heap.get?_push_of_some _ (hext b o e)
    have I4 := I2.kept (t' := tk) x4
    exact k _ c' [s.heap.objs.size] H _ I4 (fun b o e n => e) hT ⟨_, doc, _, ctv, Heap.get?_push_size _ rfl, bnd _ _ _ _ _ (x4 _ _ ht)⟩ (fun b hb => by have e : b = s.heap.objs.size := (by simpa using hb); rw [e]; exact ⟨I.fresh, nofr I (Nat.le_refl _)⟩) (I2.hok.fresh hsz) (nofr I2 hsz) hcc
end
end Wl
/-! Such a lambda called. -/
namespace Wl
open PySem PySem.Spec PyProof.Rows L2
/-- its free names -/
def freeL (scope : Scope) : List Str := (scope.names.filter fun y => decide (y.2 = .free)).map (·.1)
/-- a lambda's scope, beside the scope and the names in which it is made -/
structure LamD (N : List Str) (sc scope : Scope) (ds : List Str) : Prop where
  ns : NdefX.NScope (ds ++ freeL scope) ds (freeL scope) scope
  free : ∀ y ∈ scope.names, y.2 = .free → sc.names.lookup y.1 = some .cell ∨ sc.names.lookup y.1 = some .free
  off : ∀ x ∈ N, scope.names.lookup x ≠ some .local
def lamDB (N : List Str) (sc scope : Scope) (ds : List Str) : Bool := NdefX.nscB (ds ++ freeL scope) ds (freeL scope) scope && (scope.names.all fun y => !decide (y.2 = .free) || decide (sc.names.lookup y.1 = some .cell) || decide (sc.names.lookup y.1 = some .free)) && N.all fun x => !decide (scope.names.lookup x = some .local)
theorem lamD_by {N : List Str} {sc scope : Scope} {ds : List Str} (h : lamDB N sc scope ds = true) : LamD N sc scope ds := by
  unfold lamDB at h
  simp only [Bool.and_eq_true] at h
  refine ⟨NdefX.nscope_by h.1.1, fun y hy hf => ?_, fun x hx hl => ?_⟩
  · have := List.all_eq_true.mp h.1.2 y hy
    simp only [Bool.or_eq_true, decide_eq_true_eq, Bool.not_eq_true', decide_eq_false_iff_not] at this
    rcases this with (a | a) | a
    · exact absurd hf a
    · exact .inl a
    · exact .inr a
  · have := List.all_eq_true.mp h.2 x hx
    rw [decide_eq_true hl] at this
    cases this
theorem lookup_mem {x : Str} {k : NameKind} : ∀ {l : List (Str × NameKind)}, l.lookup x = some k → (x, k) ∈ l
  | [], h => by cases h
  | p :: l, h => by
    rw [List.lookup_cons] at h
    split at h
    · rename_i e
      cases h
      have : x = p.1 := by simpa using e
      subst this
      exact List.mem_cons_self
    · exact List.mem_cons_of_mem _ (lookup_mem h)
section
variable {X : Cx} {pins : List (Addr × Obj)} {σ : L2.St} {H : Hp} {s : Shared} {body : Expr} {scope : Scope} {ds : List Str}
theorem LamD.has (D : LamD X.N X.env.scope scope ds) (ok : X.Ok) : ∀ y ∈ scope.names, y.2 = .free → ∃ c, X.env.cells.lookup y.1 = some c := fun y hy hf => by
  rcases D.free y hy hf with h | h
  · exact ok.has y.1 (.inl h)
  · exact ok.has y.1 (.inr h)
/-- where it begins -/
theorem lam_start (I : Inv X pins σ H s) (D : LamD X.N X.env.scope scope ds) {A : Around} {outer : List PySem.Env} {sZ : Shared} {HZ : Hp} {E : XK} {f c' : Addr} (hA : A.handled = none) (e0 : Env0 X.prog X.w X.K X.mg X.base A outer sZ HZ) (un : Un (frs X.stack) [] H HZ s.heap sZ.heap)
    {us : List Value} {vs : List V} (hv : Vals vs us) (hl : vs.length = ds.length) {h₁ : Heap} {tk : Nat} (hns : h₁.Ns sZ.heap.objs.size fun y => (ds.zip us).reverse.lookup y) (hx : ∀ b o, sZ.heap.get? b = some o → h₁.get? b = some o) :
    Inv (LamX.lamCx X A outer sZ HZ E scope f c') [] σ HZ ⟨h₁, sZ.gens, sZ.drawn, tk, sZ.os⟩ := by
  have hcl : ∀ {y : Str} {c : Addr}, List.lookup y (cloFrom X.env.cells scope.names []) = some c → List.lookup y X.env.cells = some c := fun h => NdefX.clo_cm (D.has I.ok) h
  have cellZ : ∀ {c : Addr} {v : Option Value}, H c = none → s.heap.IsCell c v → sZ.heap.IsCell c v := fun {c v} hn ⟨o, h1, h2⟩ => by
    by_cases m : c ∈ frs X.stack
    · obtain ⟨sl, h3⟩ := un.slot c o h1 hn m (by simp)
      exact ⟨_, h3, h2⟩
    · exact ⟨o, un.keep c o h1 hn m (by simp), h2⟩
  have I0 := NdefX.inv_startN (CX := CX0) (E := E) (F := ⟨"<lambda>", X.env.qual ++ "<lambda>", argsN, [], scope, cloFrom X.env.cells scope.names [], c'⟩) (f := f) (tk := tk) (ws := (freeL scope).map fun _ => none) D.ns hA e0 hl hv ⟨by simp, fun y c h => ?_, fun x y c h1 h2 => I.ok.inj x y c (hcl h1) (hcl h2), fun i y h => ?_⟩ hns hx
  rotate_left
  · have h' := hcl h
    obtain ⟨v, hc⟩ := I.cell y c h'
    have hn := I.freeC y c h'
    obtain ⟨o, h1, _⟩ := id hc
    exact ⟨un.free c o h1 hn (by simp), v, cellZ hn hc⟩
  · have hm : (y, NameKind.free) ∈ scope.names := by
      obtain ⟨z, hz, e⟩ := List.mem_map.mp (List.mem_of_getElem? h)
      obtain ⟨h1, h2⟩ := List.mem_filter.mp hz
      have : z.2 = .free := of_decide_eq_true h2
      rw [← e, ← this]
      exact h1
    obtain ⟨c, hc⟩ := D.has I.ok _ hm rfl
    refine ⟨c, NdefX.clo_has (D.has I.ok) hm hc, fun v hv => ?_⟩
    rw [List.getElem?_map, h] at hv
    cases hv
  refine ⟨?_, I0.os, I0.bare, I0.base, ?_, I0.cell, I0.free, I0.freeC, I0.pin, I0.hok, I.len⟩
  · have K := I0.ok
    exact ⟨K.mod, K.kind, K.glob, K.blt, K.above, K.inj, K.has, fun x c z => (by cases z), K.hd, K.frames, K.stk, K.exf, K.bs, K.bsz, K.noex, K.exfs, K.funs, K.frf⟩
  · obtain ⟨m, hm, _⟩ := I0.loc
    obtain ⟨m0, hm0, look⟩ := I.loc
    refine ⟨m, hm, fun i x v hN hσ hvis => ?_⟩
    have hfree : scope.names.lookup x = some .free := by
      rcases hvis with h | h | h
      · exact absurd h (D.off x (List.mem_of_getElem? hN))
      · exact absurd rfl (D.ns.nocell _ (lookup_mem h))
      · exact h
    have hm' : (x, NameKind.free) ∈ scope.names := lookup_mem hfree
    have kx := D.free _ hm' rfl
    obtain ⟨u, ru, lu⟩ := look i x v hN hσ (kx.elim (fun h => .inr (.inl h)) fun h => .inr (.inr h))
    refine ⟨u, ru, .inr ⟨.inr hfree, ?_⟩⟩
    rcases lu with ⟨e, _⟩ | ⟨_, c, hc, hcell⟩
    · have e : X.env.scope.names.lookup x = some .local := e
      rcases kx with k | k <;> rw [e] at k <;> cases k
    · have hcz := cellZ (I.freeC x c hc) hcell
      obtain ⟨o, h1, h2⟩ := hcz
      exact ⟨c, NdefX.clo_has (D.has I.ok) hm' hc, o, hx _ _ h1, h2⟩
/-- the call of such a lambda by the parameter that holds it, within a def -/
theorem pe_act2 {CXg : CXT} {Eg : XK} {Ng : List Str} {qg : Str} {sg : Scope} {g f c' : Addr} {cdg : Value} {params : Arguments} {k i : Nat} {a : Str} {pn : List (Addr × Obj)} {xe : Value → Shared → Prop} {W : WX} {tb : XK → TE} {p1 p2 : Pos} {as : List Addr}
    (I : Inv X pins σ H s) (D : LamD X.N X.env.scope scope ds) (hf : LamAt (X.env.qual ++ "<lambda>") params body scope (cloFrom X.env.cells scope.names []) c' ds as s.heap f) (has : ∀ b ∈ as, H b = none ∧ b ∉ frs X.stack) (hn : H f = none) (hfr : f ∉ frs X.stack)
    (tk : Takes ((cxOf CXg X.prog X.w X.K X.mg X.base Ng qg sg g cdg X.A X.stack s H Eg).tr pn xe) W) (hr : Room (k + 1) (X.A.deeper (envOfC qg sg s.heap.objs.size g cdg)))
    (hb : ∀ (E : XK) (A : Around) (outer : List PySem.Env) (s : Shared) (H : Hp), Room k (A.deeper (LamX.lamEnv X scope s.heap.objs.size f c')) → PE (LamX.lamCx X A outer s H E scope f c') body (tb E)) (hNg : Ng[i]? = some a) (hv : Vis sg a) (d1 : (a == ("__debug__" : Str)) = false) (d2 : (a == ("__classdict__" : Str)) = false) :
    PE ((cxOf CXg X.prog X.w X.K X.mg X.base Ng qg sg g cdg X.A X.stack s H Eg).tr pn xe) (.Call (.Name a p1) [] [] p2) (fun σZ HZ Q => σZ[i]? = some (some (.ref f)) ∧ HZ c' = some (LamX.CodeO c' (X.env.qual ++ "<lambda>")) ∧ tb (WE W σZ) σ HZ Q) := by
  refine ⟨fun pinsZ sZ σZ HZ Q IZ ⟨h1, h2, h3⟩ => ?_⟩
  refine wpAny_Call_Name_kw ?_
  refine wpAny_mono ((pe_var hNg hv d1 d2).run pinsZ sZ σZ HZ (fun v H' => v = .ref f ∧ H' = HZ) IZ ⟨_, h1, rfl, rfl⟩) (fun u s1 ⟨v, H1, I1, rv, e1, e2⟩ => ?_) fun e s' he => he
  subst e1 e2
  have eu : u = .ref f := rv
  subst eu
  obtain ⟨dV, doc, pm, ctv, hfo, us, vs, hvs, hlen, hbind⟩ := hf
  have un : Un (frs X.stack) [] H H1 s.heap s1.heap := I1.base
  have keepF : ∀ b o, s.heap.get? b = some o → H b = none → b ∉ frs X.stack → s1.heap.get? b = some o := fun b o e n m => un.keep b o e n m (by simp)
  have hfZ := keepF _ _ hfo hn hfr
  refine PySem.W.callWith_of (P := PySem.W.FnAt f) rfl (fun h hp => PySem.W.keeps_F h hp) (FK.evalArgs_any rfl (Calls.spliced_nil ⟨⟨_, _, _, _, hfZ⟩, ?_⟩))
  refine wpAny_call ?_
  have hdp := hr.dp
  obtain ⟨⟨oc, cvs, ct, hoc, hdc, hvc⟩, _, _⟩ := I1.hok c' _ h2
  have fdl : ds.length = us.length := by rw [← hlen]; exact Paired.length hvs
  refine PySem.W.kla_callFunE (by show (X.A.deeper _).depth < _; omega) hfZ rfl D.ns.co D.ns.gen rfl ⟨c', oc, cvs, ct, rfl, hoc, hdc, hvc⟩ ?_
  refine hbind _ (fun b hb o e => keepF b o e (has b hb).1 (has b hb).2) _ _ _ _ ?_
  refine wpAny_newFunctionEnv D.ns.nocell (fun y hy => D.ns.par _ (List.of_mem_zip hy).1) (fun h₁ hns hsb => ?_) D.ns.kind
  have kp : ∀ b o, s1.heap.get? b = some o → h₁.get? b = some o := fun b o e => hsb.extBut b o (Nat.ne_of_lt (Heap.lt_size e)) (Heap.get?_push_of_some _ e)
  refine ⟨I1.nolimit.fresh _ hsb, ?_⟩
  have A1 : (X.A.deeper (envOfC qg sg s.heap.objs.size g cdg)).handled = none := hr.hd
  have hr2 : Room k ((X.A.deeper (envOfC qg sg s.heap.objs.size g cdg)).deeper (LamX.lamEnv X scope s1.heap.objs.size f c')) := hr.deeper _
  have IL := lam_start (E := WE W σZ) (f := f) (c' := c') (tk := s1.toks + (ds.zip us).length) I D A1 I1.env0 un hvs hlen hns kp
  refine PySem.W.kla_codeExpr ?_
  refine wpAny_mono ((hb (WE W σZ) (X.A.deeper (envOfC qg sg s.heap.objs.size g cdg)) (envOfC qg sg s.heap.objs.size g cdg :: X.stack) s1 H1 hr2).run [] _ σ H1 Q IL h3) (fun v s2 ⟨vv, H2, I2, rv2, q2⟩ => ?_) fun e s2 he => ?_
  · exact ⟨vv, H2, Inv.call' I1 I2.os I2.base I2.hok I2.bare (fun b hb => nomatch hb), rv2, q2⟩
  · exact wpAny_mono he (fun _ s3 h => passAt tk σZ _ _ _ _ _ I1 h) fun _ s3 h => passAt tk σZ _ _ _ _ _ I1 h
end
end Wl
/-! isinstance of a caught error that may have fields. -/
namespace Wl
open PySem PySem.Spec PyProof.Rows L2
def rIsE3 (K : PySem.W.Frag) (D ax : Addr) (d : Option Addr) : List V → Hp → VK → Prop := fun xs H Q => (∀ dd, d = some dd → ∃ fs, H dd = some (.xd fs)) ∧ rIsE K D ax xs H Q
theorem call_isE3 {X : Cx} {a D : Addr} {oe : Obj} {d : Option Addr} {pn : List (Addr × Obj)} (C : ExcC X.K D) (hz : Zc (.ref D) d oe) (hv : ∃ vs, oe.data = .fields vs) : CallR (X.suite a ((a, oe) :: pn)) (.builtin "isinstance") (rIsE3 X.K D a d) := by
  intro pins s σ H xs us Q I rv ⟨hd, c, cv, b, exs, hc, hk, q⟩
  subst exs
  obtain ⟨u1, u2, rfl, r1, r2⟩ : ∃ u1 u2, us = [u1, u2] ∧ RelV (.ref a) u1 ∧ RelV c u2 := by
    cases rv with
    | cons h1 t => cases t with
      | cons h2 t => cases t; exact ⟨_, _, rfl, h1, h2⟩
  have e1 : u1 = .ref a := r1
  subst e1
  rw [hc _ r2]
  obtain ⟨hat, hno, _, _, _⟩ := I.pin (a, oe) (List.mem_append_left _ List.mem_cons_self)
  have hcl : (PySem.W.clsIn X.K D).isSome = true := by
    have := C.hd
    unfold PySem.W.hasDictIn at this
    cases h : PySem.W.clsIn X.K D with
    | none => rw [h] at this; cases this
    | some c => rfl
  obtain ⟨vs, hvs⟩ := hv
  obtain ⟨od, hod⟩ : ∃ od, PySem.W.InstAt s.heap a oe D od := by
    have hnc : PySem.W.notCls oe = true := by
      unfold PySem.W.notCls
      rw [hvs]
    cases d with
    | none => exact ⟨none, hat, hz.1, hnc, by rw [hz.2]; exact trivial⟩
    | some dd =>
      obtain ⟨fs, hf⟩ := hd dd rfl
      obtain ⟨o, ho⟩ := objOk_get (I.hok dd _ hf)
      exact ⟨some o, hat, hz.1, hnc, by rw [hz.2]; exact ho⟩
  exact PySem.W.kia_one (PySem.W.kitx_exc hcl C.hg C.hk C.hs C.ha C.hn C.ht C.hm) I.kIn hod hk (fun z => by cases z) fun tk => ⟨.bl b, H, I.tok _, rfl, q⟩
end Wl
/-! What stands behind `except .. as e` in `_law_told`. -/
namespace Wl
open PySem PySem.Spec PyProof.Rows L2
/-- the state within: the error in slot 2, its field; the verdicts in slot 3, the words in slot 4, what is found in slot 1 -/
structure HSt (ax : Addr) (d : Option Addr) (fs : List (Str × V)) (H0 : Hp) (kn : Option (List Bool)) (wn : Option (List Str)) (fv : V) (fo : Option (List V)) (σ : L2.St) (H : Hp) : Prop where
  len : σ.length = 5
  e : σ[2]? = some (some (.ref ax))
  dc : ∀ dd, d = some dd → H dd = some (.xd fs)
  kp : ∀ b o, H0 b = some o → H b = some o
  kn : ∀ bs, kn = some bs → ∃ p, σ[3]? = some (some (.ref p)) ∧ H p = some (.lst (bs.map V.bl)) ∧ H0 p = none
  wn : ∀ ws, wn = some ws → ∃ p, σ[4]? = some (some (.ref p)) ∧ H p = some (.lst (ws.map V.str))
  fn : σ[1]? = some (some fv)
  ft : ∀ vs, fo = some vs → ∃ p, fv = .ref p ∧ TupO H p vs ∧ H0 p = none
/-- isinstance(e, x) -/
def isiN (en : Str) : Expr → Option Str
  | .Call (.Name f _) [.Name e _, .Name x _] [] _ => if f = "isinstance" ∧ e = en then some x else none
  | _ => none
def isiNs (en : Str) : List Expr → Option (List Str)
  | [] => some []
  | e :: es => (isiN en e).bind fun x => (isiNs en es).map (x :: ·)
/-- an error's class against the names of classes: the verdicts -/
structure VdC (X : Cx) (D : Addr) (x : Str) (b : Bool) : Prop where
  gl : Gl X x
  db : (x == ("__debug__" : Str)) = false
  at_ : ∃ (v : V) (cv : Value), (∀ u, RelV v u → u = cv) ∧ PySem.W.kitOne X.K (.ref D) cv = some b ∧ PE X (.Name x default) (tC v) ∧ ∀ p, PE X (.Name x p) (tC v)
section
variable {Y : Cx} {ax D : Addr} {oe : Obj} {d : Option Addr} {pn : List (Addr × Obj)} {fs : List (Str × V)} {en : Str}
/-- the context of what stands behind it -/
abbrev hC (Y : Cx) (ax : Addr) (oe : Obj) (pn : List (Addr × Obj)) : Cx := Y.suite ax ((ax, oe) :: pn)
/-- the error's own facts -/
structure HEr (Y : Cx) (D ax : Addr) (oe : Obj) (d : Option Addr) (en : Str) : Prop where
  is : ExcC Y.K D
  zc : Zc (.ref D) d oe
  fv : ∃ vs, oe.data = .fields vs
  ne : Y.N[2]? = some en
  ve : Vis Y.env.scope en
  e1 : (en == ("__debug__" : Str)) = false
  e2 : (en == ("__classdict__" : Str)) = false
  gi : Gl Y "isinstance"
  mi : Y.mg "isinstance" = none
def tIsi (ax : Addr) (d : Option Addr) (b : Bool) : TE := fun σ H Q => σ[2]? = some (some (.ref ax)) ∧ (∀ dd, d = some dd → ∃ fs, H dd = some (.xd fs)) ∧ Q (.bl b) H
theorem pe_isi {e : Expr} {x : Str} {b : Bool} (E : HEr Y D ax oe d en) (h : isiN en e = some x) (v : VdC (hC Y ax oe pn) D x b) : PE (hC Y ax oe pn) e (tIsi ax d b) := by
  unfold isiN at h
  split at h
  · split at h
    · rename_i hc
      cases h
      obtain ⟨rfl, rfl⟩ := hc
      obtain ⟨w, cv, h1, h2, _, h3⟩ := v.at_
      exact PE.imp (pe_callB (call_isE3 E.is E.zc E.fv) E.gi E.mi PyProof.Rows.boot_isinstance (pa_cons (pe_var E.ne E.ve E.e1 E.e2) (pa_1 (h3 _) rfl)) (by decide) (by decide) rfl rfl) fun σ H Q ⟨q1, q2, q3⟩ => ⟨_, q1, q2, w, cv, b, rfl, h1, h2, q3⟩
    · cases h
  · cases h
def tIsis (ax : Addr) (d : Option Addr) (bs : List Bool) : TA := fun σ H Q => σ[2]? = some (some (.ref ax)) ∧ (∀ dd, d = some dd → ∃ fs, H dd = some (.xd fs)) ∧ Q (bs.map V.bl) H
theorem isi_star {env : PySem.Env} {e : Expr} {x : Str} (h : isiN en e = some x) (es : List Expr) : starEach (e :: es) env = (false, eval e env) :: starEach es env := by
  unfold isiN at h
  split at h
  · rfl
  · cases h
theorem pa_isis (E : HEr Y D ax oe d en) (vd : Str → Bool) : ∀ {es : List Expr} {xs : List Str}, isiNs en es = some xs → (∀ x ∈ xs, VdC (hC Y ax oe pn) D x (vd x)) → PA (hC Y ax oe pn) es (tIsis ax d (xs.map vd))
  | [], xs, h, _ => by
    cases h
    exact PA.imp pa_nil fun σ H Q ⟨_, _, q⟩ => q
  | e :: es, xs, h, hv => by
    obtain ⟨x, h1, h2⟩ := Option.bind_eq_some_iff.mp h
    obtain ⟨ys, h3, rfl⟩ := Option.map_eq_some_iff.mp h2
    exact PA.imp (pa_cons (pe_isi E h1 (hv x List.mem_cons_self)) (pa_isis E vd h3 fun y hy => hv y (List.mem_cons_of_mem _ hy)) (isi_star h1 es)) fun σ H Q ⟨q1, q2, q3⟩ => ⟨q1, q2, q1, q2, q3⟩
end
end Wl
/-! Its statements. -/
namespace Wl
open PySem PySem.Spec PyProof.Rows L2
/-- list.count of bools -/
def rCntB (K : PySem.W.Frag) : V → List V → Hp → VK → Prop := fun x xs H Q => ∃ p bs k, x = V.ref p ∧ xs = [V.bl k] ∧ SqL K H p (List.map V.bl bs) ∧ Q (V.int ↑(List.count k bs)) H
theorem bls_read {h : Heap} : ∀ {bs : List Bool} {its : List Value}, Vals (bs.map V.bl) its → ReadsAll h its (bs.map PyData.bool) []
  | [], its, r => by cases r; exact .nil
  | b :: bs, its, r => by
    cases r with
    | cons h1 t =>
      have e : _ = Value.bool b := h1
      subst e
      exact ReadsAll.cons (as := []) (bs := []) (.bool _) (bls_read t)
theorem bls_has : ∀ (bs : List Bool), (bs.map PyData.bool).all Shape.bool.has = true
  | [] => rfl
  | b :: bs => by rw [List.map_cons, List.all_cons, bls_has bs]; rfl
theorem bls_count (k : Bool) : ∀ (bs : List Bool), PySem.Spec.countIn (PyData.bool k) (bs.map PyData.bool) = (List.count k bs : Nat)
  | [] => rfl
  | b :: bs => by
    have e : (PyData.bool b).eqv (PyData.bool k) = (b == k) := beq_py (.bl b) (.bl k) 31 32 rfl rfl
    have e2 : (PyData.bool k).eqv (PyData.bool b) = (b == k) := by rw [Bool.beq_comm]; exact beq_py (.bl k) (.bl b) 31 32 rfl rfl
    rw [List.map_cons]
    unfold PySem.Spec.countIn
    rw [bls_count k bs, List.count_cons]
    have e3 : PySem.Spec.same (PyData.bool b) (PyData.bool k) = (b == k) := by cases b <;> cases k <;> rfl
    rw [e3]
    cases (b == k) <;> simp <;> omega
theorem mt_lcountB {X : Cx} : MtR X "list.count" (rCntB X.K) := by
  intro pins s σ H x xs v us Q I rx rv h
  obtain ⟨p, bs, k, rfl, rfl, hl, q⟩ := h
  cases rx
  obtain ⟨u, rfl, ru⟩ := vals1 rv
  have e : u = Value.bool k := ru
  subst e
  obtain ⟨its, rvv, hL, _⟩ := I.list hl
  obtain ⟨ob, n, g1, g2, _, g3⟩ := hL
  refine PyProof.Rows.count_list_bools ⟨ob, g1, g2, n, g3⟩ (bls_read (h := s.heap) rvv) (bls_has bs) ?_
  rw [bls_count]
  exact ⟨.int _, H, I.tok _, ⟨_, rfl⟩, q⟩
section
variable {ax : Addr} {d : Option Addr} {fs : List (Str × V)} {H0 H : Hp} {kn : Option (List Bool)} {wn : Option (List Str)} {fv : V} {fo : Option (List V)} {σ : L2.St}
theorem HSt.new {p : Addr} {o : HO} (s : HSt ax d fs H0 kn wn fv fo σ H) (hp : H p = none) : HSt ax d fs H0 kn wn fv fo σ (upd H p o) := by
  have ne : ∀ {b : Addr} {u : HO}, H b = some u → upd H p o b = some u := fun {b u} e => by rw [upd_ne (fun z => by rw [z, hp] at e; cases e)]; exact e
  refine ⟨s.len, s.e, fun dd h => ne (s.dc dd h), fun b u e => ne (s.kp b u e), fun bs h => ?_, fun ws h => ?_, s.fn, fun vs h => ?_⟩
  · obtain ⟨q, h1, h2, h3⟩ := s.kn bs h; exact ⟨q, h1, ne h2, h3⟩
  · obtain ⟨q, h1, h2⟩ := s.wn ws h; exact ⟨q, h1, ne h2⟩
  · obtain ⟨q, h1, ⟨o', h2, h3⟩, h4⟩ := s.ft vs h; exact ⟨q, h1, ⟨o', h2, ne h3⟩, h4⟩
theorem HSt.none0 {p : Addr} (s : HSt ax d fs H0 kn wn fv fo σ H) (hp : H p = none) : H0 p = none := by
  cases e : H0 p with
  | none => rfl
  | some o => have := s.kp p o e; rw [hp] at this; cases this
theorem set_at {σ : L2.St} {i j : Nat} {v w : Option V} (h : σ[j]? = some w) (n : i ≠ j) : (σ.set i v)[j]? = some w := by rw [List.getElem?_set_ne n]; exact h
theorem set_own {σ : L2.St} {i : Nat} {v : Option V} (h : i < σ.length) : (σ.set i v)[i]? = some v := List.getElem?_set_self h
theorem HSt.setK {p : Addr} {bs : List Bool} (s : HSt ax d fs H0 kn wn fv fo σ H) (hp : H p = some (.lst (bs.map V.bl))) (h0 : H0 p = none) : HSt ax d fs H0 (some bs) wn fv fo (σ.set 3 (some (.ref p))) H :=
  ⟨by rw [List.length_set]; exact s.len, set_at s.e (by decide), s.dc, s.kp, fun bs' h => by cases h; exact ⟨p, set_own (by rw [s.len]; decide), hp, h0⟩, fun ws h => let ⟨q, h1, h2⟩ := s.wn ws h; ⟨q, set_at h1 (by decide), h2⟩, set_at s.fn (by decide), s.ft⟩
theorem HSt.setW {p : Addr} {ws : List Str} (s : HSt ax d fs H0 kn wn fv fo σ H) (hp : H p = some (.lst (ws.map V.str))) : HSt ax d fs H0 kn (some ws) fv fo (σ.set 4 (some (.ref p))) H :=
  ⟨by rw [List.length_set]; exact s.len, set_at s.e (by decide), s.dc, s.kp, fun bs h => let ⟨q, h1, h2⟩ := s.kn bs h; ⟨q, set_at h1 (by decide), h2⟩, fun ws' h => by cases h; exact ⟨p, set_own (by rw [s.len]; decide), hp⟩, set_at s.fn (by decide), s.ft⟩
theorem HSt.setF {v : V} {fo' : Option (List V)} (s : HSt ax d fs H0 kn wn fv fo σ H) (hf : ∀ vs, fo' = some vs → ∃ p, v = .ref p ∧ TupO H p vs ∧ H0 p = none) : HSt ax d fs H0 kn wn v fo' (σ.set 1 (some v)) H :=
  ⟨by rw [List.length_set]; exact s.len, set_at s.e (by decide), s.dc, s.kp, fun bs h => let ⟨q, h1, h2⟩ := s.kn bs h; ⟨q, set_at h1 (by decide), h2⟩, fun ws h => let ⟨q, h1, h2⟩ := s.wn ws h; ⟨q, set_at h1 (by decide), h2⟩, set_own (by rw [s.len]; decide), hf⟩
end
end Wl
/-! The walk of what stands behind it. -/
namespace Wl
open PySem PySem.Spec PyProof.Rows L2
structure HNm (Y : Cx) (fnn kn wn : Str) : Prop where
  nd : Y.N.Nodup
  n1 : Y.N[1]? = some fnn
  n3 : Y.N[3]? = some kn
  n4 : Y.N[4]? = some wn
  l1 : Y.env.scope.names.lookup fnn = some .local
  l3 : Y.env.scope.names.lookup kn = some .local
  l4 : Y.env.scope.names.lookup wn = some .local
  d1 : (fnn == ("__debug__" : Str)) = false
  d3 : (kn == ("__debug__" : Str)) = false
  d4 : (wn == ("__debug__" : Str)) = false
  c1 : (fnn == ("__classdict__" : Str)) = false
  c3 : (kn == ("__classdict__" : Str)) = false
  c4 : (wn == ("__classdict__" : Str)) = false
  u : Y.A.units + 65 < cLine
abbrev tHt (P P' : L2.St → Hp → Prop) : TS := fun DD σ H => P σ H ∧ ∀ σ' H', P' σ' H' → DD.nx σ' H'
theorem isiN_form {en x : Str} {e : Expr} (h : isiN en e = some x) : ∃ p1 p2 p3 p4, e = .Call (.Name "isinstance" p1) [.Name en p2, .Name x p3] [] p4 := by
  unfold isiN at h
  split at h
  · split at h
    · rename_i hc
      cases h
      obtain ⟨rfl, rfl⟩ := hc
      exact ⟨_, _, _, _, rfl⟩
    · cases h
  · cases h
def strsOf : List Expr → Option (List Str)
  | [] => some []
  | .Constant (.str w) _ _ :: es => (strsOf es).map (w :: ·)
  | _ => none
section
variable {Y : Cx} {ax Dc : Addr} {oe : Obj} {d : Option Addr} {pn : List (Addr × Obj)} {fs : List (Str × V)} {en fnn kn wn : Str} {H0 : Hp} {kn0 : Option (List Bool)} {wn0 : Option (List Str)} {fv : V} {fo : Option (List V)} {p1 p2 p3 p4 p5 p6 : Pos} {es : List Expr} {xs : List Str} {vd : Str → Bool}
theorem sz100 {n : Nat} (h : n ≤ 100) : n ≤ sizeLine := Nat.le_trans h (by rw [sizeLine_eq]; decide)
theorem s_known (E : HEr Y Dc ax oe d en) (M : HNm Y fnn kn wn) (h : isiNs en es = some xs) (hv : ∀ x ∈ xs, VdC (hC Y ax oe pn) Dc x (vd x)) (hl : xs.length ≤ 100) :
    PS (hC Y ax oe pn) (.Assign [.Name kn p1] (.List es p2) p3) (tHt (HSt ax d fs H0 kn0 wn0 fv fo) (HSt ax d fs H0 (some (xs.map vd)) wn0 fv fo)) :=
  PS.imp (ps_set (pos := p3) M.nd M.n3 (.inl M.l3) (pe_lst (pa_isis E vd h hv)) rfl (.inr M.l3)) fun DD σ H ⟨s, q⟩ => ⟨s.e, fun dd h => ⟨_, s.dc dd h⟩, by rw [List.length_map, List.length_map]; exact sz100 hl, fun p hp => q _ _ ((s.new hp).setK upd_same (s.none0 hp))⟩
theorem HSt.app {σ : L2.St} {H : Hp} {bs : List Bool} {b : Bool} {p : Addr} (s : HSt ax d fs H0 (some bs) none fv fo σ H) (h1 : σ[3]? = some (some (.ref p))) (h2 : H p = some (.lst (bs.map V.bl))) (h3 : H0 p = none) : HSt ax d fs H0 (some (bs ++ [b])) none fv fo σ (upd H p (.lst (bs.map V.bl ++ [V.bl b]))) := by
  have ne : ∀ {b' : Addr} {u : HO}, H b' = some u → (∀ l, u ≠ .lst l) → upd H p (.lst (bs.map V.bl ++ [V.bl b])) b' = some u := fun {b' u} e n => by rw [upd_ne (fun z => by rw [z, h2] at e; cases e; exact n _ rfl)]; exact e
  refine ⟨s.len, s.e, fun dd h => ne (s.dc dd h) fun l z => (by cases z), fun b' u e => ?_, fun bs' h => ?_, fun ws h => (by cases h), s.fn, fun vs h => ?_⟩
  · rw [upd_ne (fun z => by rw [z, h3] at e; cases e)]; exact s.kp b' u e
  · cases h; exact ⟨p, h1, by rw [upd_same, List.map_append]; rfl, h3⟩
  · obtain ⟨q, g1, ⟨o', g2, g3⟩, g4⟩ := s.ft vs h; exact ⟨q, g1, ⟨o', g2, ne g3 fun l z => (by cases z)⟩, g4⟩
theorem s_knownA {e : Expr} {x : Str} {bs : List Bool} (E : HEr Y Dc ax oe d en) (M : HNm Y fnn kn wn) (h : isiN en e = some x) (hv : VdC (hC Y ax oe pn) Dc x (vd x)) (hl : bs.length ≤ 100) (hline : (p2.endLine == p3.line) = true) :
    PS (hC Y ax oe pn) (.Expr (.Call (.Attribute (.Name kn p1) "append" p2) [e] [] p3) p4) (tHt (HSt ax d fs H0 (some bs) none fv fo) (HSt ax d fs H0 (some (bs ++ [vd x])) none fv fo)) := by
  obtain ⟨a1, a2, a3, a4, rfl⟩ := isiN_form h
  refine PS.imp (ps_expr (pe_bm PySem.F.plainAttrs_list PySem.F.slot_list_append PySem.F.type_list_append mt_append (pe_var M.n3 (.inl M.l3) M.d3 M.c3) (pa_1 (pe_isi E h hv) rfl) rfl rfl hline rfl rfl) rfl) fun DD σ H ⟨s, q⟩ => ?_
  obtain ⟨p, h1, h2, h3⟩ := s.kn bs rfl
  exact ⟨.ref p, h1, .inl ⟨rfl, _, .of h2⟩, s.e, fun dd h => ⟨_, s.dc dd h⟩, p, _, _, rfl, rfl, h2, by rw [List.length_map, sizeLine_eq]; omega, q σ _ (s.app h1 h2 h3)⟩
theorem s_knownC {bs : List Bool} (E : HEr Y Dc ax oe d en) (M : HNm Y fnn kn wn) (h : isiNs en es = some xs) (hv : ∀ x ∈ xs, VdC (hC Y ax oe pn) Dc x (vd x)) (hl : xs.length ≤ 100) (hl2 : bs.length ≤ 100) :
    PS (hC Y ax oe pn) (.Assign [.Name kn p1] (.BinOp (.Name kn p2) .Add (.List es p3) p4) p5) (tHt (HSt ax d fs H0 (some bs) wn0 fv fo) (HSt ax d fs H0 (some (bs ++ xs.map vd)) wn0 fv fo)) :=
  PS.imp (ps_set (pos := p5) M.nd M.n3 (.inl M.l3) (pe_op op_cat (pe_var M.n3 (.inl M.l3) M.d3 M.c3) (pe_lst (pa_isis E vd h hv))) rfl (.inr M.l3)) fun DD σ H ⟨s, q⟩ => by
    obtain ⟨p, h1, h2, h3⟩ := s.kn bs rfl
    refine ⟨.ref p, h1, s.e, fun dd h => ⟨_, s.dc dd h⟩, by rw [List.length_map, List.length_map]; exact sz100 hl, fun p2 hp2 => ⟨p, p2, bs.map V.bl, (xs.map vd).map V.bl, rfl, rfl, ?_, upd_same, by rw [List.length_map, List.length_map, List.length_map, sizeLine_eq]; omega, fun p3 hp3 => q _ _ (((s.new hp2).new hp3).setK (by rw [upd_same, List.map_append]) ((s.new hp2).none0 hp3))⟩⟩
    rw [upd_ne (fun z => by rw [z, hp2] at h2; cases h2)]
    exact h2
theorem pa_strs {Z : Cx} : ∀ {es : List Expr} {ws : List Str}, strsOf es = some ws → PA Z es (fun σ H Q => Q (ws.map V.str) H)
  | [], ws, h => by cases h; exact PA.imp pa_nil fun σ H Q q => q
  | e :: es, ws, h => by
    cases e <;> first | (cases h; done) | skip
    rename_i k _ _
    cases k <;> first | (cases h; done) | skip
    obtain ⟨ys, h1, rfl⟩ := Option.map_eq_some_iff.mp (show (strsOf es).map _ = some ws from h)
    exact PA.imp (pa_cons pe_str (pa_strs h1) rfl) fun σ H Q q => q
theorem s_words {ws : List Str} (M : HNm Y fnn kn wn) (h : strsOf es = some ws) (hl : ws.length ≤ 100) :
    PS (hC Y ax oe pn) (.Assign [.Name wn p1] (.List es p2) p3) (tHt (HSt ax d fs H0 kn0 wn0 fv fo) (HSt ax d fs H0 kn0 (some ws) fv fo)) :=
  PS.imp (ps_set (pos := p3) M.nd M.n4 (.inl M.l4) (pe_lst (pa_strs h)) rfl (.inr M.l4)) fun DD σ H ⟨s, q⟩ => ⟨by rw [List.length_map]; exact sz100 hl, fun p hp => q _ _ ((s.new hp).setW upd_same)⟩
/-- the word of the verdicts -/
def wordB (bs : List Bool) (ws : List Str) (vb : Bool) : Option Str := if (List.count true bs == 1 && vb) = true then (indL (.bl true) (bs.map D.bl)).bind fun j => ws[j]? else some "other"
theorem pt_isi {e : Expr} {x : Str} {b : Bool} (E : HEr Y Dc ax oe d en) (h : isiN en e = some x) (v : VdC (hC Y ax oe pn) Dc x b) : PT (hC Y ax oe pn) e (fun σ H Q => σ[2]? = some (some (.ref ax)) ∧ (∀ dd, d = some dd → ∃ fs, H dd = some (.xd fs)) ∧ Q b H) := by
  have k := pe_isi E h v
  obtain ⟨a1, a2, a3, a4, rfl⟩ := isiN_form h
  exact PT.imp (pt_val k (fun _ => rfl)) fun σ H Q ⟨q1, q2, q3⟩ => ⟨q1, q2, b, rfl, q3⟩
theorem reps_bl {aR : AR} {H : Hp} {Z : Addr → Prop} : ∀ (bs : List Bool), Reps aR H Z (bs.map D.bl) (bs.map V.bl)
  | [] => rfl
  | b :: bs => ⟨_, _, rfl, rfl, reps_bl bs⟩
theorem shs_bl : ∀ (n : Nat) (bs : List Bool), D.shs (n + 1) (bs.map D.bl) = true
  | n, [] => rfl
  | n, b :: bs => by
    show (D.sh (n + 1) (D.bl b) && D.shs (n + 1) (bs.map D.bl)) = true
    rw [shs_bl n bs]
    rfl
theorem pe_index {p1 p2 p3 p4 : Pos} {j : Nat} (M : HNm Y fnn kn wn) (hline : (p2.endLine == p3.line) = true) : PE (hC Y ax oe pn) (.Call (.Attribute (.Name kn p1) "index" p2) [.Constant (.bool true) j p4] [] p3) (fun σ H Q => ∃ (p : Addr) (bs : List Bool) (i : Nat), σ[3]? = some (some (.ref p)) ∧ H p = some (.lst (bs.map V.bl)) ∧ indL (.bl true) (bs.map D.bl) = some i ∧ Q (.int (i : Int)) H) :=
  PE.imp (pe_bm PySem.F.plainAttrs_list PySem.F.slot_list_index PySem.F.type_list_index (mt_indexD M.u) (pe_var M.n3 (.inl M.l3) M.d3 M.c3) (pa_1 pe_bl rfl) rfl rfl hline rfl rfl) fun σ H Q ⟨p, bs, i, h1, h2, h3, q⟩ => by
    refine ⟨.ref p, h1, .inl ⟨rfl, _, .of h2⟩, ?_⟩
    obtain ⟨z, g1, g2, g3⟩ := indL_some h3
    have sl : D.sh 32 (.lst (bs.map D.bl)) = true := by simp only [D.sh]; exact shs_bl 30 bs
    have rp : RepC ⟨p + 1, none, [], fun _ => none, fun _ => none⟩ H (fun _ => False) (.lst (bs.map D.bl)) (.ref p) := ⟨p, _, rfl, h2, (fun z : p = p + 1 => absurd z (Nat.ne_of_lt (Nat.lt_succ_self p))), reps_bl bs⟩
    have d1 := sh_dpC (K := Y.K) sl rp
    have s1 := sh_shaped sl (by decide)
    simp only [toPy] at d1 s1
    refine ⟨p, .bl true, toPy (.bl true), toPys (bs.map D.bl), i, toPy z, rfl, rfl, d1, .bl true, s1, rfl, by rw [toPys_at, g1]; rfl, ?_, fun m' z' hm hz => ?_, q⟩
    · rw [beq_py z (.bl true) 31 32 (shs_at (shs_bl 30 bs) g1) rfl]; exact g2
    · rw [toPys_at] at hz
      obtain ⟨z0, k1, rfl⟩ := Option.map_eq_some_iff.mp hz
      rw [beq_py z0 (.bl true) 31 32 (shs_at (shs_bl 30 bs) k1) rfl]
      exact g3 m' z0 hm k1
theorem s_found {a1 a2 a3 a4 a5 a6 a7 b1 b2 b3 b4 b5 b6 b7 b8 c1 c2 : Pos} {j1 j2 j3 j4 : Nat} {ei : Expr} {x : Str} {bs : List Bool} {ws : List Str} {vb : Bool} {w : Str} (E : HEr Y Dc ax oe d en) (M : HNm Y fnn kn wn) (hx : isiN en ei = some x) (hv : VdC (hC Y ax oe pn) Dc x vb)
    (hw : wordB bs ws vb = some w) (hl1 : (a2.endLine == a3.line) = true) (hl2 : (b3.endLine == b4.line) = true) :
    PS (hC Y ax oe pn) (.Assign [.Name fnn c1] (.IfExp (.BoolOp .And [.Compare (.Call (.Attribute (.Name kn a1) "count" a2) [.Constant (.bool true) j1 a4] [] a3) [.Eq] [.Constant (.int 1) j2 a5] a6, ei] a7) (.Subscript (.Name wn b1) (.Call (.Attribute (.Name kn b2) "index" b3) [.Constant (.bool true) j3 b5] [] b4) b6) (.Constant (.str "other") j4 b7) b8) c2)
      (tHt (HSt ax d fs H0 (some bs) (some ws) fv fo) (HSt ax d fs H0 (some bs) (some ws) (.str w) none)) := by
  have hpe := pe_ifExp (pos := b8) (pw_and (pos := a7) (pt_cmpR (pos := a6) (cm_all (X := hC Y ax oe pn) (o := .eq) (p := .Eq) (by show Y.A.units + 64 < _; have := M.u; omega) rfl) (pe_bm (X := hC Y ax oe pn) PySem.F.plainAttrs_list PySem.F.slot_list_count PySem.F.type_list_count mt_lcountB (pe_var (pos := a1) M.n3 (.inl M.l3) M.d3 M.c3) (pa_1 (pe_bl (b := true) (j := j1) (pos := a4)) rfl) rfl rfl hl1 rfl rfl) (pe_int (i := 1) (j := j2) (pos := a5)) rfl) (pw_and1 (pt_isi (pn := pn) E hx hv))).pt
    (pe_ix (pos := b6) ix_seq (pe_var (pos := b1) M.n4 (.inl M.l4) M.d4 M.c4) (pe_index (ax := ax) (oe := oe) (pn := pn) (p1 := b2) (p4 := b5) (j := j3) M hl2) (fun o i => rfl)) (pe_str (x := "other") (j := j4) (pos := b7))
  refine PS.imp (ps_set (pos := c2) (pos' := c1) M.nd M.n1 (.inl M.l1) hpe rfl (.inr M.l1)) fun DD σ H ⟨s, q⟩ => ?_
  obtain ⟨p, h1, h2, h3⟩ := s.kn bs rfl
  obtain ⟨p', g1, g2⟩ := s.wn ws rfl
  refine ⟨.ref p, h1, .inl ⟨rfl, _, .of h2⟩, p, bs, true, rfl, rfl, .of h2, ?_⟩
  dsimp only [L2.tC]
  refine cm_reads (aR := ⟨0, none, [], fun _ => none, fun _ => none⟩) (Z1 := fun _ => False) (Z2 := fun _ => False) (c := .eq) (x := .int (List.count true bs : Nat)) (y := .int 1) (k := decide (((List.count true bs : Nat) : Int) = 1)) rfl rfl rfl ?_
  refine ⟨_, rfl, ?_⟩
  unfold wordB at hw
  by_cases hc : List.count true bs = 1
  · rw [decide_eq_true (by omega), if_pos rfl]
    refine ⟨s.e, fun dd h => ⟨_, s.dc dd h⟩, ?_⟩
    cases vb with
    | true =>
      rw [if_pos (by simp [hc])] at hw
      obtain ⟨j, e1, e2⟩ := Option.bind_eq_some_iff.mp hw
      rw [if_pos rfl]
      refine ⟨.ref p', g1, p, bs, j, h1, h2, e1, .inl ⟨p', _, (j : Int), _, rfl, rfl, .of g2, atI_nat (by rw [List.getElem?_map, e2]; rfl), ?_⟩⟩
      exact q _ _ (s.setF fun vs h => nomatch h)
    | false =>
      rw [if_neg (by simp)] at hw
      cases hw
      rw [if_neg (by simp)]
      exact q _ _ (s.setF fun vs h => nomatch h)
  · rw [if_neg (by simp [hc])] at hw
    cases hw
    rw [decide_eq_false (by omega), if_neg (by simp)]
    exact q _ _ (s.setF fun vs h => nomatch h)
end
end Wl
/-! A word with the error's field. -/
namespace Wl
open PySem PySem.Spec PyProof.Rows L2
section
variable {Y : Cx} {ax Dc : Addr} {oe : Obj} {d : Option Addr} {pn : List (Addr × Obj)} {fs : List (Str × V)} {en fnn kn wn w0 f : Str} {H0 : Hp} {kn0 : Option (List Bool)} {wn0 : Option (List Str)}
/-- what stands in the slot of the found, as data that is told from the word -/
def NotW (w0 : Str) (v : V) (H : Hp) : Prop := ∃ (aR : AR) (dd : D), RepC aR H (fun _ => False) dd v ∧ cmD .eq dd (.str w0) = some false
theorem pt_fnd {a1 a2 a3 : Pos} {j : Nat} (M : HNm Y fnn kn wn) : PT (hC Y ax oe pn) (.Compare (.Name fnn a1) [.Eq] [.Constant (.str w0) j a2] a3) (fun σ H Q => ∃ v k, σ[1]? = some (some v) ∧ (∃ (aR : AR) (dd : D), RepC aR H (fun _ => False) dd v ∧ cmD .eq dd (.str w0) = some k) ∧ Q k H) :=
  PT.imp (pt_cmpR (pos := a3) (cm_all (X := hC Y ax oe pn) (o := .eq) (p := .Eq) (by show Y.A.units + 64 < _; have := M.u; omega) rfl) (pe_var (pos := a1) M.n1 (.inl M.l1) M.d1 M.c1) (pe_str (x := w0) (j := j) (pos := a2)) rfl) fun σ H Q ⟨v, k, h1, ⟨aR, dd, h2, h3⟩, q⟩ => by
    refine ⟨v, h1, ?_⟩
    dsimp only [L2.tC]
    refine cm_reads (aR := aR) (Z1 := fun _ => False) (Z2 := fun _ => False) h3 h2 (show RepC aR H _ (.str w0) (.str w0) from rfl) ?_
    exact ⟨k, rfl, q⟩
theorem pe_fld {b1 b2 b3 b4 : Pos} {k : Nat} (E : HEr Y Dc ax oe d en) (M : HNm Y fnn kn wn) (X : XfC Y.K Dc) (nf : PySem.W.findIn Y.K (.ref Dc) f = some none) : PE (hC Y ax oe pn) (.Tuple [.Name fnn b1, .Attribute (.Name en b2) f b3] k b4)
    (fun σ H Q => ∃ v dd av, σ[1]? = some (some v) ∧ σ[2]? = some (some (.ref ax)) ∧ d = some dd ∧ H dd = some (.xd fs) ∧ fs.lookup f = some av ∧ NewT H [v, av] Q) :=
  PE.imp (pe_tupS (X := hC Y ax oe pn) (pa_cons (pe_var (pos := b1) M.n1 (.inl M.l1) M.d1 M.c1) (pa_1 (pe_xf (X := Y) (pos := b3) X nf E.zc E.fv (pe_var (pos := b2) E.ne E.ve E.e1 E.e2) rfl) rfl) rfl)) fun σ H Q ⟨v, dd, av, h1, h2, h3, h4, h5, q⟩ => by
    exact ⟨v, h1, .ref ax, h2, rfl, rfl, dd, fs, av, h3, h4, h5, sz100 (show 2 ≤ 100 by decide), q⟩
/-- one more step of the found -/
def tFst (ax : Addr) (d : Option Addr) (fs : List (Str × V)) (H0 : Hp) (kn0 : Option (List Bool)) (wn0 : Option (List Str)) (w0 f : Str) : TS := fun DD σ H => ∃ fv fo, HSt ax d fs H0 kn0 wn0 fv fo σ H ∧
  ((fv = .str w0 ∧ fo = none ∧ ∃ dd av, d = some dd ∧ fs.lookup f = some av ∧ ∀ σ' H' p, HSt ax d fs H0 kn0 wn0 (.ref p) (some [.str w0, av]) σ' H' → DD.nx σ' H') ∨
   (NotW w0 fv H ∧ ∀ σ' H', HSt ax d fs H0 kn0 wn0 fv fo σ' H' → DD.nx σ' H'))
theorem HSt.tup {fv : V} {fo : Option (List V)} {σ : L2.St} {H : Hp} {vs : List V} {p : Addr} {o : Obj} (s : HSt ax d fs H0 kn0 wn0 fv fo σ H) (hp : H p = none) (ho : o.dict = none) : HSt ax d fs H0 kn0 wn0 (.ref p) (some vs) (σ.set 1 (some (.ref p))) (upd H p (.frz o (.tup vs))) :=
  (s.new hp).setF fun vs' h => by cases h; exact ⟨p, rfl, ⟨o, ho, upd_same⟩, s.none0 hp⟩
theorem s_fldE {a1 a2 a3 b1 b2 b3 b4 b5 b6 c1 c2 : Pos} {j k : Nat} (E : HEr Y Dc ax oe d en) (M : HNm Y fnn kn wn) (X : XfC Y.K Dc) (nf : PySem.W.findIn Y.K (.ref Dc) f = some none) (hok : cmD .eq (.str w0) (.str w0) = some true) :
    PS (hC Y ax oe pn) (.Assign [.Name fnn c1] (.IfExp (.Compare (.Name fnn a1) [.Eq] [.Constant (.str w0) j a2] a3) (.Tuple [.Name fnn b1, .Attribute (.Name en b2) f b3] k b4) (.Name fnn b5) b6) c2) (tFst ax d fs H0 kn0 wn0 w0 f) :=
  PS.imp (ps_set (pos := c2) (pos' := c1) M.nd M.n1 (.inl M.l1) (pe_ifExp (pos := b6) (pt_fnd (ax := ax) (oe := oe) (pn := pn) (a1 := a1) (a2 := a2) (a3 := a3) (j := j) (w0 := w0) M) (pe_fld (pn := pn) (fs := fs) (b1 := b1) (b2 := b2) (b3 := b3) (b4 := b4) (k := k) E M X nf) (pe_var (pos := b5) M.n1 (.inl M.l1) M.d1 M.c1)) rfl (.inr M.l1)) fun DD σ H ⟨fv, fo, s, q⟩ => by
    rcases q with ⟨rfl, rfl, dd, av, e1, e2, q⟩ | ⟨⟨aR, dd, n1, n2⟩, q⟩
    · refine ⟨_, true, s.fn, ⟨⟨0, none, [], fun _ => none, fun _ => none⟩, .str w0, rfl, hok⟩, ?_⟩
      dsimp only
      rw [if_pos rfl]
      exact ⟨_, dd, av, s.fn, s.e, e1, s.dc dd e1, e2, fun p o hp ho => q _ _ p (s.tup hp ho)⟩
    · refine ⟨_, false, s.fn, ⟨aR, dd, n1, n2⟩, ?_⟩
      dsimp only
      rw [if_neg Bool.false_ne_true]
      exact ⟨_, s.fn, q _ _ (s.setF s.ft)⟩
theorem s_fldI {a1 a2 a3 b1 b2 b3 b4 c1 c2 c3 : Pos} {j k : Nat} (E : HEr Y Dc ax oe d en) (M : HNm Y fnn kn wn) (X : XfC Y.K Dc) (nf : PySem.W.findIn Y.K (.ref Dc) f = some none) (hok : cmD .eq (.str w0) (.str w0) = some true) :
    PS (hC Y ax oe pn) (.If (.Compare (.Name fnn a1) [.Eq] [.Constant (.str w0) j a2] a3) [.Assign [.Name fnn c1] (.Tuple [.Name fnn b1, .Attribute (.Name en b2) f b3] k b4) c2] [] c3) (tFst ax d fs H0 kn0 wn0 w0 f) :=
  PS.imp (ps_if (pos := c3) (pt_fnd (ax := ax) (oe := oe) (pn := pn) (a1 := a1) (a2 := a2) (a3 := a3) (j := j) (w0 := w0) M) (pss_cons (ps_set (pos := c2) (pos' := c1) M.nd M.n1 (.inl M.l1) (pe_fld (pn := pn) (fs := fs) (b1 := b1) (b2 := b2) (b3 := b3) (b4 := b4) (k := k) E M X nf) rfl (.inr M.l1)) pss_nil) pss_nil) fun DD σ H ⟨fv, fo, s, q⟩ => by
    rcases q with ⟨rfl, rfl, dd, av, e1, e2, q⟩ | ⟨⟨aR, dd, n1, n2⟩, q⟩
    · refine ⟨_, true, s.fn, ⟨⟨0, none, [], fun _ => none, fun _ => none⟩, .str w0, rfl, hok⟩, ?_⟩
      dsimp only
      rw [if_pos rfl]
      exact ⟨_, dd, av, s.fn, s.e, e1, s.dc dd e1, e2, fun p o hp ho => q _ _ p (s.tup hp ho)⟩
    · refine ⟨_, false, s.fn, ⟨aR, dd, n1, n2⟩, ?_⟩
      dsimp only
      rw [if_neg Bool.false_ne_true]
      exact q _ _ s
end
end Wl
/-! The whole of what stands behind it; the def `_law_told`. -/
namespace Wl
open PySem PySem.Spec PyProof.Rows L2
/-- the verdict of a class, in the def's own context -/
structure VdY (Y : Cx) (Dc : Addr) (x : Str) (b : Bool) : Prop where
  gl : Gl Y x
  db : (x == ("__debug__" : Str)) = false
  at_ : (∃ Ci, Y.mg x = some (.ref Ci) ∧ PySem.W.kitOne Y.K (.ref Dc) (.ref Ci) = some b) ∨ ∃ T, Y.mg x = none ∧ bootBuiltins x = some (.type T) ∧ x ≠ "__name__" ∧ PySem.W.kitOne Y.K (.ref Dc) (.type T) = some b
theorem VdY.to {Y : Cx} {Dc ax : Addr} {x : Str} {b : Bool} {oe : Obj} {pn : List (Addr × Obj)} (v : VdY Y Dc x b) : VdC (hC Y ax oe pn) Dc x b := by
  refine ⟨v.gl, v.db, ?_⟩
  rcases v.at_ with ⟨Ci, h1, h2⟩ | ⟨T, h1, h2, h3, h4⟩
  · exact ⟨.ref Ci, .ref Ci, fun u h => h, h2, C8.pe_gc (X := hC Y ax oe pn) v.gl ⟨_, h1, rfl⟩ v.db, fun p => C8.pe_gc (X := hC Y ax oe pn) v.gl ⟨_, h1, rfl⟩ v.db⟩
  · exact ⟨.ty T, .type T, fun u h => h, h4, pe_bltn (X := hC Y ax oe pn) v.gl h1 h2 rfl h3 v.db, fun p => pe_bltn (X := hC Y ax oe pn) v.gl h1 h2 rfl h3 v.db⟩
/-- the verdicts' list -/
inductive HKn (en kn : Str) : List Str → List Stmt → Prop
  | one {es : List Expr} {xs : List Str} {p1 p2 p3 : Pos} : isiNs en es = some xs → HKn en kn xs [.Assign [.Name kn p1] (.List es p2) p3]
  | app {es : List Expr} {xs : List Str} {e : Expr} {x : Str} {p1 p2 p3 q1 q2 q3 q4 : Pos} : isiNs en es = some xs → isiN en e = some x → (q2.endLine == q3.line) = true → HKn en kn (xs ++ [x]) [.Assign [.Name kn p1] (.List es p2) p3, .Expr (.Call (.Attribute (.Name kn q1) "append" q2) [e] [] q3) q4]
  | cat {es es2 : List Expr} {xs ys : List Str} {p1 p2 p3 q1 q2 q3 q4 q5 : Pos} : isiNs en es = some xs → isiNs en es2 = some ys → HKn en kn (xs ++ ys) [.Assign [.Name kn p1] (.List es p2) p3, .Assign [.Name kn q1] (.BinOp (.Name kn q2) .Add (.List es2 q3) q4) q5]
/-- the words with fields -/
inductive HTl (fnn en : Str) : List (Str × Str) → List Stmt → Prop
  | one {w0 f : Str} {a1 a2 a3 b1 b2 b3 b4 b5 b6 c1 c2 : Pos} {j k : Nat} : HTl fnn en [(w0, f)] [.Assign [.Name fnn c1] (.IfExp (.Compare (.Name fnn a1) [.Eq] [.Constant (.str w0) j a2] a3) (.Tuple [.Name fnn b1, .Attribute (.Name en b2) f b3] k b4) (.Name fnn b5) b6) c2]
  | two {w0 f w1 g : Str} {a1 a2 a3 b1 b2 b3 b4 c1 c2 c3 a1' a2' a3' b1' b2' b3' b4' c1' c2' c3' : Pos} {j k j' k' : Nat} : HTl fnn en [(w0, f), (w1, g)] [.If (.Compare (.Name fnn a1) [.Eq] [.Constant (.str w0) j a2] a3) [.Assign [.Name fnn c1] (.Tuple [.Name fnn b1, .Attribute (.Name en b2) f b3] k b4) c2] [] c3,
      .If (.Compare (.Name fnn a1') [.Eq] [.Constant (.str w1) j' a2'] a3') [.Assign [.Name fnn c1'] (.Tuple [.Name fnn b1', .Attribute (.Name en b2') g b3'] k' b4') c2'] [] c3']
/-- what stands behind it -/
inductive HBd (fnn en kn wn : Str) : List Str → Str → List Str → List (Str × Str) → List Stmt → Prop
  | mk {xs ws : List Str} {x : Str} {tl : List (Str × Str)} {l1 l2 : List Stmt} {es : List Expr} {ei : Expr} {p1 p2 p3 : Pos} {a1 a2 a3 a4 a5 a6 a7 b1 b2 b3 b4 b5 b6 b7 b8 c1 c2 : Pos} {j1 j2 j3 j4 : Nat} : HKn en kn xs l1 → strsOf es = some ws → isiN en ei = some x → (a2.endLine == a3.line) = true → (b3.endLine == b4.line) = true → HTl fnn en tl l2 →
    HBd fnn en kn wn xs x ws tl (l1 ++ (.Assign [.Name wn p1] (.List es p2) p3 :: .Assign [.Name fnn c1] (.IfExp (.BoolOp .And [.Compare (.Call (.Attribute (.Name kn a1) "count" a2) [.Constant (.bool true) j1 a4] [] a3) [.Eq] [.Constant (.int 1) j2 a5] a6, ei] a7) (.Subscript (.Name wn b1) (.Call (.Attribute (.Name kn b2) "index" b3) [.Constant (.bool true) j3 b5] [] b4) b6) (.Constant (.str "other") j4 b7) b8) c2 :: l2))
theorem PSs.imp' {X : Cx} {l : List Stmt} {t u : TS} (h : PSs X l t) (w : ∀ D σ H, u D σ H → t D σ H) : PSs X l u := ⟨fun pins s σ H D I q => h.run pins s σ H D I (w D σ H q)⟩
section
variable {Y : Cx} {ax Dc : Addr} {oe : Obj} {d : Option Addr} {pn : List (Addr × Obj)} {fs : List (Str × V)} {en fnn kn wn : Str} {H0 : Hp} {fv : V} {fo : Option (List V)} {xs ws : List Str} {vd : Str → Bool}
theorem hkn_ok {l : List Stmt} (K : HKn en kn xs l) (E : HEr Y Dc ax oe d en) (M : HNm Y fnn kn wn) (hv : ∀ x ∈ xs, VdY Y Dc x (vd x)) (hl : xs.length ≤ 50) {rest : List Stmt} {u : TS} (hr : PSs (hC Y ax oe pn) rest u) :
    PSs (hC Y ax oe pn) (l ++ rest) (fun DD σ H => HSt ax d fs H0 none none fv fo σ H ∧ ∀ σ' H', HSt ax d fs H0 (some (xs.map vd)) none fv fo σ' H' → u DD σ' H') := by
  cases K with
  | one h => exact PSs.imp' (pss_cons (s_known (H0 := H0) (fs := fs) (kn0 := none) (wn0 := none) (fv := fv) (fo := fo) (vd := vd) E M h (fun x hx => (hv x hx).to) (by omega)) hr) fun DD σ H q => q
  | @app es xs0 e x p1 p2 p3 q1 q2 q3 q4 h1 h2 h3 =>
    have hl0 : xs0.length ≤ 50 := by simp at hl; omega
    refine PSs.imp' (pss_cons (s_known (H0 := H0) (fs := fs) (kn0 := none) (wn0 := none) (fv := fv) (fo := fo) (vd := vd) E M h1 (fun x hx => (hv x (List.mem_append_left _ hx)).to) (by omega)) (pss_cons (s_knownA (H0 := H0) (fs := fs) (fv := fv) (fo := fo) (vd := vd) (bs := xs0.map vd) E M h2 (hv x (List.mem_append_right _ List.mem_cons_self)).to (by rw [List.length_map]; omega) h3) hr)) fun DD σ H ⟨s, q⟩ => ?_
    exact ⟨s, fun σ1 H1 s1 => ⟨s1, fun σ2 H2 s2 => q σ2 H2 (by rw [List.map_append]; exact s2)⟩⟩
  | @cat es es2 xs0 ys p1 p2 p3 q1 q2 q3 q4 q5 h1 h2 =>
    have hl0 : xs0.length ≤ 50 ∧ ys.length ≤ 50 := by simp at hl; omega
    refine PSs.imp' (pss_cons (s_known (H0 := H0) (fs := fs) (kn0 := none) (wn0 := none) (fv := fv) (fo := fo) (vd := vd) E M h1 (fun x hx => (hv x (List.mem_append_left _ hx)).to) (by omega)) (pss_cons (s_knownC (H0 := H0) (fs := fs) (wn0 := none) (fv := fv) (fo := fo) (vd := vd) (bs := xs0.map vd) E M h2 (fun x hx => (hv x (List.mem_append_right _ hx)).to) (by omega) (by rw [List.length_map]; omega)) hr)) fun DD σ H ⟨s, q⟩ => ?_
    exact ⟨s, fun σ1 H1 s1 => ⟨s1, fun σ2 H2 s2 => q σ2 H2 (by rw [List.map_append]; exact s2)⟩⟩
/-- the steps of the tail -/
def tTl (ax : Addr) (d : Option Addr) (fs : List (Str × V)) (H0 : Hp) (kn0 : Option (List Bool)) (wn0 : Option (List Str)) : List (Str × Str) → TS
  | [] => fun DD σ H => DD.nx σ H
  | (w, f) :: l => tSeq (tFst ax d fs H0 kn0 wn0 w f) (tTl ax d fs H0 kn0 wn0 l)
theorem htl_ok {l : List Stmt} {tl : List (Str × Str)} {kn0 : Option (List Bool)} {wn0 : Option (List Str)} (T : HTl fnn en tl l) (E : HEr Y Dc ax oe d en) (M : HNm Y fnn kn wn) (X : XfC Y.K Dc) (nf : ∀ p ∈ tl, PySem.W.findIn Y.K (.ref Dc) p.2 = some none) (hok : ∀ p ∈ tl, cmD .eq (.str p.1) (.str p.1) = some true) :
    PSs (hC Y ax oe pn) l (tTl ax d fs H0 kn0 wn0 tl) := by
  cases T with
  | one => exact PSs.imp' (pss_cons (s_fldE E M X (nf _ List.mem_cons_self) (hok _ List.mem_cons_self)) pss_nil) fun DD σ H q => q
  | two => exact PSs.imp' (pss_cons (s_fldI E M X (nf _ List.mem_cons_self) (hok _ List.mem_cons_self)) (pss_cons (s_fldI E M X (nf _ (List.mem_cons_of_mem _ List.mem_cons_self)) (hok _ (List.mem_cons_of_mem _ List.mem_cons_self))) pss_nil)) fun DD σ H q => q
theorem hbd_ok {l : List Stmt} {x w : Str} {tl : List (Str × Str)} (B : HBd fnn en kn wn xs x ws tl l) (E : HEr Y Dc ax oe d en) (M : HNm Y fnn kn wn) (hv : ∀ x ∈ xs, VdY Y Dc x (vd x)) (hl : xs.length ≤ 50) (hl2 : ws.length ≤ 50) (hx : VdY Y Dc x (vd x)) (hw : wordB (xs.map vd) ws (vd x) = some w)
    (X : XfC Y.K Dc) (nf : ∀ p ∈ tl, PySem.W.findIn Y.K (.ref Dc) p.2 = some none) (hok : ∀ p ∈ tl, cmD .eq (.str p.1) (.str p.1) = some true) :
    PSs (hC Y ax oe pn) l (fun DD σ H => HSt ax d fs H0 none none fv fo σ H ∧ ∀ σ' H', HSt ax d fs H0 (some (xs.map vd)) (some ws) (.str w) none σ' H' → tTl ax d fs H0 (some (xs.map vd)) (some ws) tl DD σ' H') := by
  cases B with
  | mk K hs hi h1 h2 T =>
    refine PSs.imp' (hkn_ok (H0 := H0) (fs := fs) (fv := fv) (fo := fo) (vd := vd) K E M hv hl (pss_cons (s_words (ax := ax) (oe := oe) (pn := pn) (d := d) (fs := fs) (H0 := H0) (kn0 := some (xs.map vd)) (wn0 := none) (fv := fv) (fo := fo) M hs (by omega)) (pss_cons (s_found (H0 := H0) (fs := fs) (fv := fv) (fo := fo) (vb := vd x) E M hi hx.to hw h1 h2) (htl_ok (H0 := H0) (fs := fs) (kn0 := some (xs.map vd)) (wn0 := some ws) T E M X nf hok)))) fun DD σ H ⟨s, q⟩ => ?_
    exact ⟨s, fun σ1 H1 s1 => ⟨s1, fun σ2 H2 s2 => ⟨s2, fun σ3 H3 s3 => q σ3 H3 s3⟩⟩⟩
end
end Wl
/-! `_law_told(lambda: ..)`. -/
namespace Wl
open PySem PySem.Spec PyProof.Rows L2
/-! ### what an evaluation raises is followed, for some forms -/
def noEx : IE → Bool
  | .var _ => true | .int _ => true | .bl _ => true | .non => true | .str _ => true | .gint _ _ => true | .fnv _ => true | .nil => true
  | .cons a b => noEx a && noEx b
  | .tup a => noEx a
  | .lst a => noEx a
  | .neg a => noEx a
  | .tupR a => noEx a
  | .op _ a b => noEx a && noEx b
  | _ => false
def fol : IE → Bool
  | .call _ a => fol a
  | .callv _ a => noEx a
  | .cons a b => (noEx (.cons a b)) || (fol a && fol b)
  | .alt a b => fol a && fol b
  | a => noEx a
theorem bind_ex' {α β : Type} {x : Res α} {f : α → Row → Res β} {e : Ex} {r' : Row} (h : x.bind f = .ex e r') : x = .ex e r' ∨ ∃ d r, x = .ok d r ∧ f d r = .ex e r' := by
  cases x with
  | ok d r => exact .inr ⟨d, r, rfl, h⟩
  | ex e2 r2 => cases h; exact .inl rfl
  | no => cases h
theorem of_ex {α : Type} {x : Option α} {r r' : Row} {e : Ex} (h : Res.of x r = .ex e r') : False := by
  cases x <;> cases h
theorem noEx_ok {F : Fns} (c : IE) : ∀ {env : Env} {r r' : Row} {e : Ex}, noEx c = true → ev F c env r = .ex e r' → False := by
  induction c <;> intro env r r' e hn h <;> first | exact Bool.noConfusion hn | skip
  all_goals try (cases h; done)
  case var => exact of_ex (show Res.of _ r = .ex e r' from h)
  case cons a b iha ihb =>
    rw [noEx, Bool.and_eq_true] at hn
    rcases bind_ex' (show (ev F a env r).bind _ = Res.ex e r' from h) with h | ⟨d, r1, h1, h⟩
    · exact iha hn.1 h
    · rcases bind_ex' h with h | ⟨d2, r2, h2, h⟩
      · exact ihb hn.2 h
      · split at h <;> cases h
  case op o a b iha ihb =>
    rw [noEx, Bool.and_eq_true] at hn
    rcases bind_ex' (show (ev F a env r).bind _ = Res.ex e r' from h) with h | ⟨d, r1, h1, h⟩
    · exact iha hn.1 h
    · rcases bind_ex' h with h | ⟨d2, r2, h2, h⟩
      · exact ihb hn.2 h
      · exact of_ex h
  all_goals
    rename_i a ih
    rcases bind_ex' (show (ev F a env r).bind _ = Res.ex e r' from h) with h | ⟨d, r1, h1, h⟩
    · exact ih hn h
    · first | exact of_ex h | (split at h <;> first | (cases h; done) | exact of_ex h | (split at h <;> first | (cases h; done) | exact of_ex h))
theorem fol_ok {F : Fns} (c : IE) : ∀ {env : Env} {r r' : Row} {e : Ex}, fol c = true → ev F c env r = .ex e r' → rx F c env r = some (e, r') := by
  induction c <;> intro env r r' e hn h <;> first | exact (noEx_ok (F := F) _ hn h).elim | skip
  case alt a b iha ihb =>
    rw [fol, Bool.and_eq_true] at hn
    have h' : (match ev F a env r with
      | .no => ev F b env r
      | .ok d r => .ok d r
      | .ex e r => .ex e r) = Res.ex e r' := h
    unfold rx
    split at h'
    · rename_i h1; rw [h1]; exact ihb hn.2 h'
    · cases h'
    · rename_i e2 r2 h1
      cases h'
      have := iha hn.1 h1
      rw [h1]
      exact this
  case cons a b iha ihb =>
    rw [fol, Bool.or_eq_true] at hn
    rcases hn with hn | hn
    · exact (noEx_ok (F := F) (.cons a b) hn h).elim
    · rw [Bool.and_eq_true] at hn
      unfold rx
      rcases bind_ex' (show (ev F a env r).bind _ = Res.ex e r' from h) with h | ⟨d, r1, h1, h⟩
      · have := iha hn.1 h
        rw [h]
        exact this
      · rw [h1]
        rcases bind_ex' h with h | ⟨d2, r2, h2, h⟩
        · exact ihb hn.2 h
        · split at h <;> cases h
  case call f a iha =>
    unfold rx
    rcases bind_ex' (show (ev F a env r).bind _ = Res.ex e r' from h) with h | ⟨d, r1, h1, h⟩
    · have := iha hn h
      rw [h]
      exact this
    · rw [h1]
      cases d <;> first | (cases h; done) | skip
      rename_i l
      have h : F f l r1 = .ex e r' := h
      dsimp only
      rw [h]
  case callv i a iha =>
    unfold rx
    rcases bind_ex' (show (ev F a env r).bind _ = Res.ex e r' from h) with h | ⟨d, r1, h1, h⟩
    · exact (noEx_ok (F := F) a hn h).elim
    · rw [h1]
      cases hk : isFn env[i]? with
      | none => rw [hk] at h; cases d <;> cases h
      | some k =>
        rw [hk] at h
        cases d <;> first | (cases h; done) | skip
        rename_i l
        have h : F k l r1 = .ex e r' := h
        dsimp only
        rw [h]
end Wl
/-! `_law_told(lambda: ..)`. -/
namespace Wl
open PySem PySem.Spec PyProof.Rows L2
/-- the def's text -/
def ToldB (a fnn en we : Str) (hb bg : List Stmt) : Prop := ∃ (j1 : Nat) (q2 q3 q4 q5 q6 q7 q8 q9 q10 q11 q12 : Pos), bg = [.Assign [.Name fnn q2] (.Constant (.str "") j1 q3) q4, .Try [.Expr (.Call (.Name a q5) [] [] q6) q7] [.ExceptHandler (some (.Name we q8)) (some en) hb q9] [] [] q10, .Return (some (.Name fnn q11)) q12]
/-- one class against another or a built-in one -/
def VdK (K : PySem.W.Frag) (mg : Str → Option Value) (C : Addr) (x : Str) (b : Bool) : Prop := (∃ Ci, mg x = some (.ref Ci) ∧ PySem.W.kitOne K (.ref C) (.ref Ci) = some b) ∨ ∃ T, mg x = none ∧ bootBuiltins x = some (.type T) ∧ x ≠ "__name__" ∧ PySem.W.kitOne K (.ref C) (.type T) = some b
/-- the words with fields, against a word -/
def tlD (w f : Str) : List (Str × Str) → Option Bool
  | [] => some false
  | p :: l => if cmD .eq (.str w) (.str p.1) = some false then tlD w f l else if w = p.1 ∧ f = p.2 ∧ cmD .eq (.str w) (.str w) = some true ∧ (l.all fun q => decide (cmD .eq (.tup [.str w, .non]) (.str q.1) = some false)) = true then some true else none
/-- an entry of the table: class number, word, with field -/
structure EntryOk (K : PySem.W.Frag) (mg : Str → Option Value) (ea : Nat → Option (Addr × Option Str)) (CW : Addr) (xs : List Str) (x : Str) (ws : List Str) (tl : List (Str × Str)) (p : Nat × Str × Bool) : Prop where
  ex : ∃ C fo vd, ea p.1 = some (C, fo) ∧ ExcC K C ∧ XfC K C ∧ PySem.W.exmOne K (.ref C) (.ref CW) = some true ∧ (∀ y ∈ xs, VdK K mg C y (vd y)) ∧ VdK K mg C x (vd x) ∧ wordB (xs.map vd) ws (vd x) = some p.2.1 ∧ (∀ q ∈ tl, PySem.W.findIn K (.ref C) q.2 = some none) ∧
    (match p.2.2, fo with
      | false, _ => tlD p.2.1 "" tl = some false
      | true, some f => tlD p.2.1 f tl = some true
      | true, none => False)
/-- the def, as it stands in a context -/
structure TdF (K : PySem.W.Frag) (mg : Str → Option Value) (CW : Addr) (xs : List Str) (x : Str) (ws : List Str) (tl : List (Str × Str)) : Prop where
  ex : ∃ (g : Addr) (fd : FuncData) (qual : Str) (params : Arguments) (bg hb : List Stmt) (sg : Scope) (a fnn en kn wn we : Str), mg "_law_told" = some (.ref g) ∧ FunD K "_law_told" qual params bg sg [] [] g fd ∧ Binds K fd [a] [] ∧ FnScope [a, fnn, en, kn, wn] [a] sg ∧
    (∀ y ∈ [a, fnn, en, kn, wn], sg.names.lookup y = some .local ∧ (y == ("__debug__" : Str)) = false ∧ (y == ("__classdict__" : Str)) = false) ∧ (∀ y ∈ we :: x :: ("isinstance" : Str) :: xs, sg.names.lookup y = some .globalImplicit ∧ (y == ("__debug__" : Str)) = false) ∧
    ToldB a fnn en we hb bg ∧ HBd fnn en kn wn xs x ws tl hb ∧ mg we = some (.ref CW)
  mi : mg "isinstance" = none
  l1 : xs.length ≤ 50
  l2 : ws.length ≤ 50
  ok : ∀ p ∈ tl, cmD .eq (.str p.1) (.str p.1) = some true
/-- what the handler's walk stands on -/
structure HIx (Y : Cx) (xs : List Str) (x : Str) (ws : List Str) (tl : List (Str × Str)) (cls : Value) where
  C : Addr
  vd : Str → Bool
  w : Str
  hcls : cls = .ref C
  is : ExcC Y.K C
  xf : XfC Y.K C
  vdh : ∀ y ∈ xs, VdY Y C y (vd y)
  vx : VdY Y C x (vd x)
  hw : wordB (xs.map vd) ws (vd x) = some w
  nf : ∀ p ∈ tl, PySem.W.findIn Y.K (.ref C) p.2 = some none
def tsH (Y : Cx) (xs : List Str) (x : Str) (ws : List Str) (tl : List (Str × Str)) (ax : Addr) (cls : Value) (d : Option Addr) : TS := fun DD σ H => ∃ (z : HIx Y xs x ws tl cls) (fs : List (Str × V)) (H0 : Hp), HSt ax d fs H0 none none (.str "") none σ H ∧ ∀ σ' H', HSt ax d fs H0 (some (xs.map z.vd)) (some ws) (.str z.w) none σ' H' → tTl ax d fs H0 (some (xs.map z.vd)) (some ws) tl DD σ' H'
theorem pss_ex {α : Type} {X : Cx} {l : List Stmt} {t : α → TS} (h : ∀ a, PSs X l (t a)) : PSs X l (fun D σ H => ∃ a, t a D σ H) := ⟨fun pins s σ H D I ⟨a, q⟩ => (h a).run pins s σ H D I q⟩
theorem tsH_ok {Y : Cx} {xs ws : List Str} {x : Str} {tl : List (Str × Str)} {fnn en kn wn : Str} {hb : List Stmt} {ax : Addr} {oe : Obj} {cls : Value} {d : Option Addr} {pn : List (Addr × Obj)} (B : HBd fnn en kn wn xs x ws tl hb) (M : HNm Y fnn kn wn) (l1 : xs.length ≤ 50) (l2 : ws.length ≤ 50) (hok : ∀ p ∈ tl, cmD .eq (.str p.1) (.str p.1) = some true)
    (ne : Y.N[2]? = some en) (ve : Vis Y.env.scope en) (e1 : (en == ("__debug__" : Str)) = false) (e2 : (en == ("__classdict__" : Str)) = false) (gi : Gl Y "isinstance") (mi : Y.mg "isinstance" = none) (hz : Zc cls d oe) (hv : ∃ vs, oe.data = .fields vs) : PSs (Y.suite ax ((ax, oe) :: pn)) hb (tsH Y xs x ws tl ax cls d) :=
  pss_ex fun z => pss_ex fun fs => pss_ex fun H0 => by
    exact hbd_ok (fs := fs) (H0 := H0) B ⟨z.is, z.hcls ▸ hz, hv, ne, ve, e1, e2, gi, mi⟩ M z.vdh l1 l2 z.vx z.hw z.xf z.nf hok
section
variable {ax : Addr} {d : Option Addr} {fs : List (Str × V)} {H0 : Hp} {kn0 : Option (List Bool)} {wn0 : Option (List Str)} {w : Str} {DD : Ends}
theorem cm_tup {q : Str} {arg : D} {av : V} (ha : argV arg av) (h : cmD .eq (.tup [.str w, .non]) (.str q) = some false) : cmD .eq (.tup [.str w, arg]) (.str q) = some false := by
  cases arg <;> first | exact h | exact ha.elim
theorem tTl_str {f : Str} : ∀ {tl : List (Str × Str)} {σ : L2.St} {H : Hp}, tlD w f tl = some false → HSt ax d fs H0 kn0 wn0 (.str w) none σ H → (∀ σ' H', HSt ax d fs H0 kn0 wn0 (.str w) none σ' H' → DD.nx σ' H') → tTl ax d fs H0 kn0 wn0 tl DD σ H
  | [], σ, H, _, s, q => q σ H s
  | p :: l, σ, H, h, s, q => by
    unfold tlD at h
    split at h
    · rename_i hc
      exact ⟨.str w, none, s, .inr ⟨⟨⟨0, none, [], fun _ => none, fun _ => none⟩, .str w, rfl, hc⟩, fun σ' H' s' => tTl_str h s' q⟩⟩
    · split at h <;> cases h
theorem tTl_tup {arg : D} {av : V} (ha : argV arg av) : ∀ {tl : List (Str × Str)} {σ : L2.St} {H : Hp} {p : Addr}, (tl.all fun q => decide (cmD .eq (.tup [.str w, .non]) (.str q.1) = some false)) = true → HSt ax d fs H0 kn0 wn0 (.ref p) (some [.str w, av]) σ H → (∀ σ' H' p, HSt ax d fs H0 kn0 wn0 (.ref p) (some [.str w, av]) σ' H' → DD.nx σ' H') → tTl ax d fs H0 kn0 wn0 tl DD σ H
  | [], σ, H, p, _, s, q => q σ H p s
  | z :: l, σ, H, p, h, s, q => by
    rw [List.all_cons, Bool.and_eq_true] at h
    have hc := cm_tup ha (of_decide_eq_true h.1)
    refine ⟨.ref p, some [.str w, av], s, .inr ⟨⟨⟨0, none, [], fun _ => none, fun _ => none⟩, .tup [.str w, arg], ?_, hc⟩, fun σ' H' s' => tTl_tup ha h.2 s' q⟩⟩
    obtain ⟨p', e, ht, _⟩ := s.ft _ rfl
    cases e
    refine ⟨p, _, rfl, ht, fun z => z, _, _, rfl, rfl, av, [], rfl, ?_, rfl⟩
    cases arg <;> first | exact ha | exact ha.elim
theorem tTl_hit {f : Str} {arg : D} {av : V} {dd : Addr} (ha : argV arg av) (hd : d = some dd) (hf : fs.lookup f = some av) : ∀ {tl : List (Str × Str)} {σ : L2.St} {H : Hp}, tlD w f tl = some true → HSt ax d fs H0 kn0 wn0 (.str w) none σ H → (∀ σ' H' p, HSt ax d fs H0 kn0 wn0 (.ref p) (some [.str w, av]) σ' H' → DD.nx σ' H') → tTl ax d fs H0 kn0 wn0 tl DD σ H
  | [], σ, H, h, s, q => by cases h
  | p :: l, σ, H, h, s, q => by
    unfold tlD at h
    split at h
    · rename_i hc
      exact ⟨.str w, none, s, .inr ⟨⟨⟨0, none, [], fun _ => none, fun _ => none⟩, .str w, rfl, hc⟩, fun σ' H' s' => tTl_hit ha hd hf h s' q⟩⟩
    · split at h
      · rename_i hc
        obtain ⟨e1, e2, e3, e4⟩ := hc
        obtain ⟨w1, g⟩ := p
        have e1 : w = w1 := e1
        have e2 : f = g := e2
        subst e1 e2
        exact ⟨.str w, none, s, .inl ⟨rfl, rfl, dd, av, hd, hf, fun σ' H' p s' => tTl_tup ha e4 s' q⟩⟩
      · cases h
end
end Wl
/-! `_law_told(lambda: ..)`: the call. -/
namespace Wl
open PySem PySem.Spec PyProof.Rows L2
theorem wordOf_mem {e : Ex} {d : D} : ∀ {tb : List (Nat × Str × Bool)}, wordOf e tb = some d → ∃ p ∈ tb, p.1 = e.cls ∧ d = if p.2.2 = true then .tup [.str p.2.1, e.arg] else .str p.2.1
  | [], h => by cases h
  | p :: l, h => by
    unfold wordOf at h
    split at h
    · rename_i hc
      refine ⟨p, List.mem_cons_self, hc, ?_⟩
      have h := (Option.some.inj h).symm
      exact h
    · obtain ⟨q, h1, h2⟩ := wordOf_mem h
      exact ⟨q, List.mem_cons_of_mem _ h1, h2⟩
theorem hbd_cons {fnn en kn wn x : Str} {xs ws : List Str} {tl : List (Str × Str)} {hb : List Stmt} (B : HBd fnn en kn wn xs x ws tl hb) : ∃ b0 rest, hb = b0 :: rest := by
  cases B with
  | mk K => cases K <;> exact ⟨_, _, rfl⟩
section
variable {X : Cx} {aR : AR} {F : Fns} {pins : List (Addr × Obj)} {σ : L2.St} {H1 : Hp} {s1 : Shared} {CW : Addr} {xs ws : List Str} {x : Str} {tl : List (Str × Str)} {tb : List (Nat × Str × Bool)} {cc : IE} {body : Expr} {scope : Scope} {ds : List Str} {params : Arguments} {f c' : Addr} {as : List Addr} {k : Nat} {Z : Addr → Prop} {H0 : Hp} {env : Env} {r r' : Row} {d : D} {Q : VK}
theorem told_core {g : Addr} {fd : FuncData} {qual : Str} {pg : Arguments} {bg hb : List Stmt} {sg : Scope} {a fnn en kn wn we : Str} (I1 : Inv X pins σ H1 s1) (hg : X.mg "_law_told" = some (.ref g)) (FD : FunD X.K "_law_told" qual pg bg sg [] [] g fd) (BN : Binds X.K fd [a] []) (S : FnScope [a, fnn, en, kn, wn] [a] sg)
    (hloc : ∀ y ∈ [a, fnn, en, kn, wn], sg.names.lookup y = some .local ∧ (y == ("__debug__" : Str)) = false ∧ (y == ("__classdict__" : Str)) = false) (hgl : ∀ y ∈ we :: x :: ("isinstance" : Str) :: xs, sg.names.lookup y = some .globalImplicit ∧ (y == ("__debug__" : Str)) = false)
    (TB : ToldB a fnn en we hb bg) (HB : HBd fnn en kn wn xs x ws tl hb) (hwe : X.mg we = some (.ref CW)) (mi : X.mg "isinstance" = none) (l1 : xs.length ≤ 50) (l2 : ws.length ≤ 50) (hok : ∀ p ∈ tl, cmD .eq (.str p.1) (.str p.1) = some true)
    (Dl : LamD X.N X.env.scope scope ds) (hf : LamAt (X.env.qual ++ "<lambda>") params body scope (cloFrom X.env.cells scope.names []) c' ds as s1.heap f) (has : ∀ b ∈ as, H1 b = none ∧ b ∉ frs X.stack) (hn : H1 f = none) (hfr : f ∉ frs X.stack) (hcc : H1 c' = some (LamX.CodeO c' (X.env.qual ++ "<lambda>"))) (hr : Room (k + 2) X.A)
    (hbd : ∀ (E : XK) (A : Around) (outer : List PySem.Env) (s : Shared) (H : Hp), Room k (A.deeper (LamX.lamEnv X scope s.heap.objs.size f c')) → PE (LamX.lamCx X A outer s H E scope f c') body (fun σ H Q => tEv aR X.K F cc σ H Q ∨ tRz aR X.K F E cc σ H))
    (tab : ∀ p ∈ tb, EntryOk X.K X.mg aR.ea CW xs x ws tl p) (hfol : fol cc = true) (ok : Ok aR X.K Z H0 σ H1 env r) (e : toldR tb (ev F cc env r) = .ok d r') (q : ∀ v H', Ext aR H1 H' → RowOk aR X.K H' r' → Rep aR H' (Mk Z σ env []) d v → Q v H') :
    wpAny (model X.prog X.w) X.A (call (.ref g) [.ref f]) (EP X pins σ Q) X.xe s1 := by
  obtain ⟨oc, od, dV, kV, doc, pm, an, cdv, ct, osl, rfl, lk, hcd, _, _⟩ := FD.ex
  have hbind : BindsTo s1 (PySem.W.fnOf "_law_told" qual pg bg sg dV kV doc pm an cdv ct) ⟨[.ref f], []⟩ ([a].zip [Value.ref f]) := BN s1 [Value.ref f] I1.kIn rfl
  obtain ⟨j1, q2, q3, q4, q5, q6, q7, q8, q9, q10, q11, q12, rfl⟩ := TB
  obtain ⟨ka, da, ca⟩ := hloc a (by simp)
  obtain ⟨kf, df, cf⟩ := hloc fnn (by simp)
  obtain ⟨ke, de, ce⟩ := hloc en (by simp)
  obtain ⟨kk, dk, ck⟩ := hloc kn (by simp)
  obtain ⟨kw, dw, cw⟩ := hloc wn (by simp)
  obtain ⟨gw, dgw⟩ := hgl we (by simp)
  obtain ⟨gx, dgx⟩ := hgl x (by simp)
  obtain ⟨gi, dgi⟩ := hgl "isinstance" (by simp)
  refine wpAny_call (codeAny_mono (LamX.run_ofS (CX := CX0) (k := k + 1) (E := fun _ _ _ => False) (Q := Q) (vs := [.ref f]) (us := [.ref f]) lk hcd S hr I1.env0 hbind (.cons rfl .nil) rfl fun hr1 => ?_) fun rr s' hq => ?_)
  · have hun := hr1.un
    have M : HNm (cxOf CX0 X.prog X.w X.K X.mg X.base [a, fnn, en, kn, wn] qual sg g cdv X.A X.stack s1 H1 (fun _ _ _ => False)) fnn kn wn := ⟨S.nd, rfl, rfl, rfl, kf, kk, kw, df, dk, dw, cf, ck, cw, by show (X.A.deeper _).units + 65 < _; omega⟩
    have gY : ∀ y, y ∈ we :: x :: ("isinstance" : Str) :: xs → Gl (cxOf CX0 X.prog X.w X.K X.mg X.base [a, fnn, en, kn, wn] qual sg g cdv X.A X.stack s1 H1 (fun _ _ _ => False)) y := fun y hy => (hgl y hy).1
    obtain ⟨b0, rest, rfl⟩ := hbd_cons HB
    have hnm : Names (cxOf CX0 X.prog X.w X.K X.mg X.base [a, fnn, en, kn, wn] qual sg g cdv X.A X.stack s1 H1 (fun _ _ _ => False)) we (.ref CW) := ⟨gw, dgw, .inl hwe⟩
    have ptry := ps_try_as (X := cxOf CX0 X.prog X.w X.K X.mg X.base [a, fnn, en, kn, wn] qual sg g cdv X.A X.stack s1 H1 (fun _ _ _ => False)) (np := q8) (pos := q10) (pos' := q9) (i := 2) (body := [.Expr (.Call (.Name a q5) [] [] q6) q7]) (Wout := fun _ _ _ _ => False) rfl rfl S.nd rfl ke hnm LamX.takes0
      (fun W pn xe tk _ => pss_cons (ps_expr (pe_act2 (i := 0) I1 Dl hf has hn hfr tk hr1 hbd rfl (.inl ka) da ca) rfl) pss_nil)
      (fun ax oe cls dl pn hz hv => tsH_ok (cls := cls) (d := dl) HB M l1 l2 hok rfl (.inl ke) de ce gi mi hz hv)
    refine ⟨_, pss_cons (ps_set (i := 1) S.nd rfl (.inl kf) pe_str rfl (.inr kf)) (pss_cons ptry (pss_cons (ps_ret (pe_var (i := 1) rfl (.inl kf) df cf)) pss_nil)), ?_⟩
    refine ⟨rfl, hcc, ?_⟩
    cases hev : ev F cc env r with
    | no => rw [hev] at e; cases e
    | ok d0 r1 =>
      rw [hev] at e
      cases e
      refine .inl ⟨Z, H0, env, r, ok, d0, _, hev, fun v H' xx ro rp => ?_⟩
      exact ⟨.str "", rfl, q _ H' xx ro rfl⟩
    | ex ex r1 =>
      rw [hev] at e
      obtain ⟨e2, rfl⟩ := Res.of_ok e
      obtain ⟨p, hp, hp1, rfl⟩ := wordOf_mem e2
      refine .inr ⟨Z, H0, env, r, ok, ex, _, fol_ok cc hfol hev, fun cls dl H' xx ro w => ?_⟩
      obtain ⟨C, fo, vd, t1, t2, t3, t4, t5, t6, t7, t8, t9⟩ := (tab p hp).ex
      obtain ⟨C', fo', w1, rfl, w3⟩ := w
      rw [hp1, w1] at t1
      cases t1
      have vdY : ∀ y, y ∈ x :: xs → VdK X.K X.mg C y (vd y) → VdY (cxOf CX0 X.prog X.w X.K X.mg X.base [a, fnn, en, kn, wn] qual sg g cdv X.A X.stack s1 H1 (fun _ _ _ => False)) C y (vd y) := fun y hy v => by
        have hm : y ∈ we :: x :: ("isinstance" : Str) :: xs := by
          rcases List.mem_cons.mp hy with z | z
          · rw [z]; simp
          · simp [z]
        exact ⟨gY y hm, (hgl y hm).2, v⟩
      have ok' := ok.grow xx ro
      have fin : ∀ (fs : List (Str × V)) (ax : Addr) (σ' : L2.St) (H'' : Hp) (v : V) (kn0 : Option (List Bool)) (wn0 : Option (List Str)) (fo : Option (List V)), HSt ax dl fs H' kn0 wn0 v fo σ' H'' → (∀ (hE : Ext aR H' H''), Rep aR H'' (Mk Z σ env []) (if p.2.2 = true then .tup [.str p.2.1, ex.arg] else .str p.2.1) v) → ∃ u, (σ'.set 2 none)[1]? = some (some u) ∧ Q u H'' := fun fs ax σ' H'' v kn0 wn0 fo s hrep => by
        have en : LamX.ExtN H' H'' := fun b o eb _ => s.kp b o eb
        have tabs : LamX.Tabs aR.tt H'' := by
          obtain ⟨_, _, _, _, hT, _⟩ := ro
          exact hT.ext s.kp
        exact ⟨v, set_at s.fn (by decide), q v H'' (xx.trans (.ofN en)) (ro.ofN en tabs) (hrep (.ofN en))⟩
      refine ⟨true, t4, fun _ ax hax => ?_, fun z => by cases z⟩
      obtain ⟨pk, pw, pf⟩ := p
      have hst : ∀ fs : List (Str × V), (∀ dd, dl = some dd → H' dd = some (.xd fs)) → HSt ax dl fs H' none none (.str "") none ((([some (V.ref f), none, none, none, none] : L2.St).set 1 (some (.str ""))).set 2 (some (.ref ax))) H' := fun fs hd => ⟨rfl, rfl, hd, fun _ _ h => h, fun _ h => (by cases h), fun _ h => (by cases h), rfl, fun _ h => (by cases h)⟩
      have noMk : ∀ (p : Addr), H' p = none → ¬ Mk Z σ env [] p := fun p hp m => by
        obtain ⟨o, h, _⟩ := ok'.mkk p m
        rw [hp] at h; cases h
      obtain ⟨fs, hd, hcase⟩ : ∃ fs : List (Str × V), (∀ dd, dl = some dd → H' dd = some (.xd fs)) ∧ ((pf = false ∧ tlD pw "" tl = some false) ∨ (pf = true ∧ ∃ (fld : Str) (dd : Addr) (v : V), dl = some dd ∧ fs.lookup fld = some v ∧ argV ex.arg v ∧ tlD pw fld tl = some true)) := by
        cases fo with
        | none =>
          cases pf with
          | false => exact ⟨[], fun dd h => (by rw [w3] at h; cases h), .inl ⟨rfl, t9⟩⟩
          | true => exact t9.elim
        | some fld =>
          obtain ⟨dd, v, g1, g2, g3⟩ := w3
          refine ⟨[(fld, v)], fun dd' h => (by rw [g1] at h; cases h; exact g2), ?_⟩
          cases pf with
          | false => exact .inl ⟨rfl, t9⟩
          | true => exact .inr ⟨rfl, fld, dd, v, g1, by simp [List.lookup], g3, t9⟩
      refine ⟨⟨C, vd, pw, rfl, t2, t3, fun y hy => vdY y (List.mem_cons_of_mem _ hy) (t5 y hy), vdY x List.mem_cons_self t6, t7, t8⟩, fs, H', hst fs hd, fun σ' H'' s' => ?_⟩
      rcases hcase with ⟨rfl, hf0⟩ | ⟨rfl, fld, dd, v, g1, g2, g3, hf1⟩
      · exact tTl_str hf0 s' fun σ3 H3 s3 => fin fs ax σ3 H3 _ _ _ _ s3 fun _ => rfl
      · refine tTl_hit g3 g1 g2 hf1 s' fun σ3 H3 p3 s3 => fin fs ax σ3 H3 _ _ _ _ s3 fun _ => ?_
        obtain ⟨p4, e4, ht, h0⟩ := s3.ft _ rfl
        cases e4
        refine ⟨p3, _, rfl, ht, noMk p3 h0, _, _, rfl, rfl, v, [], rfl, ?_, rfl⟩
        revert g3
        cases ex.arg <;> intro g3 <;> first | exact g3 | exact g3.elim
  · cases rr with
    | ok fl =>
      cases fl with
      | ret u =>
        obtain ⟨v, H', h1, h2, h3, h4, h5, h6⟩ := hq
        exact ⟨v, H', Inv.call' I1 h1 h3 h4 h2 (fun b hb => nomatch hb), h5, h6⟩
      | next => exact hq.elim
      | brk => exact hq.elim
      | cont => exact hq.elim
    | error e => exact hq.elim
/-- a lambda without parameters, or with one that is not used -/
def LamP (params : Arguments) (ds : List Str) : Prop := (params = argsN ∧ ds = []) ∨ ∃ nm p1 p2 j, params = argsD nm p1 p2 j ∧ ds = [nm]
theorem v_told {c P : Addr} {p lpos pos : Pos} (T : TdF X.K X.mg CW xs x ws tl) (hg0 : Gl X "_law_told") (TB : LamX.TabB X.base X.mg c P) (hcode : X.env.code = .ref c) (hP : (P, X.env.qual ++ "<lambda>") ∈ aR.tt) (hun : ∀ q ∈ aR.tt, q.1 = P → q.2 = X.env.qual ++ "<lambda>")
    (Dl : LamD X.N X.env.scope scope ds) (hlam : LamP params ds) (hr : Room (k + 2) X.A)
    (hbd : ∀ (f c' : Addr) (E : XK) (A : Around) (outer : List PySem.Env) (s : Shared) (H : Hp), Room k (A.deeper (LamX.lamEnv X scope s.heap.objs.size f c')) → PE (LamX.lamCx X A outer s H E scope f c') body (fun σ H Q => tEv aR X.K F cc σ H Q ∨ tRz aR X.K F E cc σ H))
    (tab : ∀ p ∈ tb, EntryOk X.K X.mg aR.ea CW xs x ws tl p) (hfol : fol cc = true) : PE X (.Call (.Name "_law_told" p) [.Lambda params body scope lpos] [] pos) (tEv aR X.K F (.told tb cc)) := by
  obtain ⟨g, fd, qual, pg, bg, hb, sg, a, fnn, en, kn, wn, we, hg, FD, BN, S, hloc, hgl, TBd, HB, hwe⟩ := T.ex
  refine ⟨fun pins s σ H Q I ⟨Z, H0, env, r, ok, d, r', e, q⟩ => ?_⟩
  refine wpAny_Call_Name_kw (ld_glob I hg0 hg ?_ (by decide))
  refine PySem.W.callWith_of (P := X.K.In) rfl (fun h hp => PySem.W.keeps_K FD.kp h hp) (Calls.evalArgs_plain (Calls.spliced_cons ?_))
  obtain ⟨_, _, _, _, hT, _⟩ := id ok.row
  have e : toldR tb (ev F cc env r) = .ok d r' := e
  have go : ∀ (f c' : Addr) (as : List Addr) (H1 : Hp) (s' : Shared), Inv X pins σ H1 s' → LamX.ExtN H H1 → LamX.Tabs aR.tt H1 → LamAt (X.env.qual ++ "<lambda>") params body scope (cloFrom X.env.cells scope.names []) c' ds as s'.heap f → (∀ b ∈ as, H1 b = none ∧ b ∉ frs X.stack) → H1 f = none → f ∉ frs X.stack → H1 c' = some (LamX.CodeO c' (X.env.qual ++ "<lambda>")) →
      wpAny (model X.prog X.w) X.A (spliced (backTo pos (starEach [] X.env))) (fun vs s₂ => X.K.In s₂.heap ∧ wpAny (model X.prog X.w) X.A (call (.ref g) ([] ++ Value.ref f :: vs) []) (EP X pins σ Q) X.xe s₂) X.xe s' := fun f c' as H1 s' I1 ex tabs hf has hn hfr hcc => by
    refine Calls.spliced_nil ⟨I1.kIn, ?_⟩
    have x1 : Ext aR H H1 := .ofN ex
    exact told_core I1 hg FD BN S hloc hgl TBd HB hwe T.mi T.l1 T.l2 T.ok Dl hf has hn hfr hcc hr (hbd f c') tab hfol (ok.grow x1 (ok.row.ofN ex tabs)) e fun v H' x2 ro rp => q v H' (x1.trans x2) ro (rp.mono (Le.less fun z m => m))
  rcases hlam with ⟨rfl, rfl⟩ | ⟨nm, a1, a2, j, rfl, rfl⟩
  · exact lam_makeN I TB hcode hP hun hT (Dl.has I.ok) fun f c' as H1 s' I1 ex tabs hf has hn hfr hcc => go f c' as H1 s' I1 ex tabs hf has hn hfr hcc
  · exact lam_makeD I TB hcode hP hun hT (Dl.has I.ok) fun f c' as H1 s' I1 ex tabs hf has hn hfr hcc => go f c' as H1 s' I1 ex tabs hf has hn hfr hcc
end
end Wl
/-! What is asked of the errors' classes, as tests of a fragment. -/
namespace Wl
open PySem PySem.Spec PyProof.Rows L2
def excB (K : PySem.W.Frag) (C : Addr) : Bool :=
  decide (PySem.W.findIn K (.ref C) "__getattribute__" = some (some (.builtin "BaseException.__getattribute__"))) && decide (PySem.W.findIn K (.ref C) "__getattr__" = some none) && decide (PySem.W.subIn K (.ref C) (.type "BaseException") = some true) && PySem.W.hasDictIn K C &&
  decide (PySem.W.findIn K (.ref C) "__class__" = some (some (.builtin "object.__class__"))) && decide (PySem.W.specialIn K (.builtin "object.__class__") "__get__" = some (some (.builtin "getset_descriptor.__get__"))) && decide (PySem.W.takesIn K (.builtin "object.__class__") = some true) && decide (PySem.W.mroIn K C (.type "object") = some true)
theorem excB_ok {K : PySem.W.Frag} {C : Addr} (h : excB K C = true) : ExcC K C := by
  unfold excB at h
  simp only [Bool.and_eq_true, decide_eq_true_eq] at h
  obtain ⟨⟨⟨⟨⟨⟨⟨h1, h2⟩, h3⟩, h4⟩, h5⟩, h6⟩, h7⟩, h8⟩ := h
  constructor <;> assumption
def erB (K : PySem.W.Frag) (C : Addr) : Bool := PySem.W.keepIn K (.ref C) && decide (PySem.W.subIn K (.ref C) (.type "BaseException") = some true) && decide (PySem.W.typeIn K (.ref C) = some (.type "type")) && excB K C && xfB K C
theorem erB_ok {K : PySem.W.Frag} {mg : Str → Option Value} {x : Str} {C : Addr} (hg : mg x = some (.ref C)) (h : erB K C = true) : Er K mg x C := by
  unfold erB at h
  simp only [Bool.and_eq_true, decide_eq_true_eq] at h
  obtain ⟨⟨⟨⟨h1, h2⟩, h3⟩, h4⟩, h5⟩ := h
  exact ⟨hg, h1, h2, h3, excB_ok h4, xfB_ok h5⟩
def oexB (K : PySem.W.Frag) (C : Addr) : Bool := (match K.lookup C with
    | some ⟨ty, _, .cls cd, sl⟩ => (match cd.mro, sl.toList with
      | .ref C' :: bm, [_, _, _, _, some (.builtin n), _] => decide (ty = .type "type") && decide (C' = C) && decide (n = "ValueError.__new__") && cd.hasDict && !cd.hasDel && HandSPX.refsVE bm
      | _, _ => false)
    | _ => false) &&
  decide (PySem.W.findIn K (.ref C) "__setattr__" = some (some (.builtin "object.__setattr__"))) && decide (PySem.W.subIn K (.ref C) (.type "BaseException") = some true) && decide (PySem.W.typeIn K (.ref C) = some (.type "type")) && PySem.W.keepIn K (.ref C)
theorem oexB_ok {K : PySem.W.Frag} {C : Addr} (h : oexB K C = true) : OexC K C := by
  unfold oexB at h
  simp only [Bool.and_eq_true, decide_eq_true_eq] at h
  obtain ⟨⟨⟨⟨h1, h2⟩, h3⟩, h4⟩, h5⟩ := h
  refine ⟨?_, h2, h3, h4, h5⟩
  split at h1
  · rename_i ty dd cd sl hl
    split at h1
    · rename_i C' bm k0 k1 k2 k3 n k5 hm hs
      simp only [Bool.and_eq_true, decide_eq_true_eq, Bool.not_eq_true'] at h1
      obtain ⟨⟨⟨⟨⟨rfl, rfl⟩, rfl⟩, hd⟩, hdel⟩, hv⟩ := h1
      obtain ⟨nm, bs, mro, N, q, hdct, sn, sub, ab, col, del⟩ := cd
      have e1 : mro = _ := hm
      have e2 : hdct = true := hd
      have e3 : del = false := hdel
      subst e1 e2 e3
      obtain ⟨l⟩ := sl
      have e4 : l = _ := hs
      subst e4
      exact ⟨nm, q, N, bs, bm, sn, sub, ab, col, dd, k0, k1, k2, k3, k5, hl, hv⟩
    · cases h1
  · cases h1
/-- the text of an __init__ -/
def iniT (body : List Stmt) : Option (Str × Str) := match body with
  | [.Expr (.Call (.Attribute (.Call (.Name s _) [] [] _) m p4) [.Name ix _] [] p6) _, .Assign [.Attribute (.Name sf _) f _] (.Name ix' _) _] => if s = "super" ∧ m = "__init__" ∧ sf = "self" ∧ ix' = ix ∧ (p4.endLine == p6.line) = true then some (ix, f) else none
  | _ => none
theorem iniT_ok {body : List Stmt} {ix f : Str} (h : iniT body = some (ix, f)) : IniB ix f body := by
  unfold iniT at h
  split at h
  · split at h
    · rename_i hc
      cases h
      obtain ⟨rfl, rfl, rfl, rfl, hl⟩ := hc
      exact ⟨_, _, _, _, _, _, _, _, _, _, hl, rfl⟩
    · cases h
  · cases h
def iniB (P : Program) (K : PySem.W.Frag) (C : Addr) (f : Str) : Bool := match PySem.W.findIn K (.ref C) "__init__" with
  | some (some (.ref fI)) => (match K.lookup fI with
    | some ⟨_, _, .func fd, _⟩ => (match fd.closure, fd.code, fd.body with
      | [(cn, cc)], .ref c, .stmts body => (match K.lookup cc, K.lookup c, iniT body, fd.params with
        | some ⟨_, _, .cell (some (.ref C')), _⟩, some ⟨_, _, .fields vs, _⟩, some (ix, f'), ⟨[], [⟨s, none, q1⟩, ⟨ix', none, q2⟩], none, [], [], none, []⟩ => (match (vs[2]? : Option Value) with
          | some (.str file _) => decide (cn = "__class__") && decide (C' = C) && decide (f' = f) && decide (s = "self") && decide (ix' = ix) && (P.main.file == file) && !(P.main.scope.names.lookup ("super" : Str)).isSome && decide (fd.globals = mainGlobals) && decide (fd.builtins = builtinsNs) &&
              PySem.W.codeIn K (.ref c) fd.qualname && NdefX.nscB [("self" : Str), ix, ("__class__" : Str)] [("self" : Str), ix] [("__class__" : Str)] fd.scope && decide (fd.scope.names.lookup ("super" : Str) = some .globalImplicit) && decide ((ix == ("__debug__" : Str)) = false) && decide ((ix == ("__classdict__" : Str)) = false) && decide (ix = ("index" : Str) ∨ ix = ("most" : Str) ∨ ix = ("place" : Str)) && decide (fd.defaults = .none)
          | _ => false)
        | _, _, _, _ => false)
      | _, _, _ => false)
    | _ => false) && decide (PySem.W.typeIn K (.ref fI) = some (.type "function")) && decide (PySem.W.nsIn K cStatics "thirdparty.any" = some none) && decide (PySem.W.ks_superIn K C C "__init__" = some (some (.builtin "ValueError.__init__"))) && decide (PySem.W.subIn K (.ref C) (.type "ValueError") = some true) && decide (PySem.W.mroIn K C (.ref C) = some true) && decide (PySem.W.findIn K (.ref C) f = some none)
  | _ => false
theorem iniB_ok {P : Program} {K : PySem.W.Frag} {mg : Str → Option Value} {C : Addr} {f : Str} (hs : mg "super" = none) (h : iniB P K C f = true) : ∃ fI fd ps, Ini P K mg C f fI fd ps := by
  unfold iniB at h
  split at h
  · rename_i fI hfi
    simp only [Bool.and_eq_true, decide_eq_true_eq] at h
    obtain ⟨⟨⟨⟨⟨⟨h1, h2⟩, h3⟩, h4⟩, h5⟩, h6⟩, h7⟩ := h
    split at h1
    · rename_i oc od fd osl hl
      split at h1
      · rename_i cn cc c body hcl hco hbo
        split at h1
        · rename_i oc1 od1 C' sl1 oc2 od2 vs sl2 ix f' s q1 ix' q2 hcc hcv hin hpa
          split at h1
          · rename_i file tf hv
            simp only [Bool.and_eq_true, decide_eq_true_eq, Bool.not_eq_true'] at h1
            obtain ⟨⟨⟨⟨⟨⟨⟨⟨⟨⟨⟨⟨⟨⟨⟨rfl, rfl⟩, rfl⟩, rfl⟩, rfl⟩, g6⟩, g7⟩, g8⟩, g9⟩, g10⟩, g11⟩, g12⟩, g13⟩, g14⟩, g15⟩, g16⟩ := h1
            obtain ⟨name, qual, params, body0, scope, globals, closure, dV, kV, doc, pm, an, code, ct, blt⟩ := fd
            dsimp only at hcl hco hbo hpa g8 g9 g10 g11 g12 g16
            subst hcl hco hbo hpa g8 g9 g16
            refine ⟨fI, _, _, ⟨⟨_, name, qual, _, body, scope, .none, kV, doc, pm, an, c, ct, cc, oc, od, osl, _, _, vs, file, tf, ⟨"self", none, q1⟩, rfl, rfl, hl, hcc, rfl, g10, hcv, rfl, hv, g6, g7, NdefX.nscope_by g11, g12, rfl, rfl, iniT_ok hin, g13, g14⟩, hfi, h2, ?_, hs, h3, h4, h5, h6, h7⟩⟩
            intro s us _ hlen
            match us, hlen with
            | [u1, u2], _ =>
              intro M A E Q q
              rcases g15 with rfl | rfl | rfl
              · exact (show wpAny M A (pure ([("self" : Str), ("index" : Str)].zip [u1, u2])) Q E s from wpAny_pure q)
              · exact (show wpAny M A (pure ([("self" : Str), ("most" : Str)].zip [u1, u2])) Q E s from wpAny_pure q)
              · exact (show wpAny M A (pure ([("self" : Str), ("place" : Str)].zip [u1, u2])) Q E s from wpAny_pure q)
          · cases h1
        · cases h1
      · cases h1
    · cases h1
  · cases h
end Wl
/-! The classes of a law, and the table of its words. -/
namespace Wl
open PySem PySem.Spec PyProof.Rows L2
def ercB (P : Program) (K : PySem.W.Frag) (p : Str × Option Str) : Bool := erB K (He.ga K p.1) && (match p.2 with
  | none => PySem.W.excIn K (He.ga K p.1) tailVE "ValueError.__new__"
  | some f => oexB K (He.ga K p.1) && iniB P K (He.ga K p.1) f)
theorem ercB_ok {P : Program} {K : PySem.W.Frag} {mg : Str → Option Value} {x : Str} {fo : Option Str} (hg : mg x = some (.ref (He.ga K x))) (hs : mg "super" = none) (h : ercB P K (x, fo) = true) : ErC P K mg x (He.ga K x) fo := by
  unfold ercB at h
  rw [Bool.and_eq_true] at h
  have e := erB_ok hg h.1
  cases fo with
  | none => exact ⟨e, h.2⟩
  | some f =>
    have h2 : (oexB K (He.ga K x) && iniB P K (He.ga K x) f) = true := h.2
    rw [Bool.and_eq_true] at h2
    exact ⟨e, oexB_ok h2.1, iniB_ok hs h2.2⟩
/-- a verdict -/
def vdB (K : PySem.W.Frag) (C : Addr) (y : Str) : Bool := (if y = "ValueError" then PySem.W.kitOne K (.ref C) (.type "ValueError") else PySem.W.kitOne K (.ref C) (.ref (He.ga K y))).getD false
def entB (K : PySem.W.Frag) (ex : List (Str × Option Str)) (we : Str) (xs ws : List Str) (tl : List (Str × Str)) (p : Nat × Str × Bool) : Bool := match ex[p.1]? with
  | some (x, fo) => excB K (He.ga K x) && xfB K (He.ga K x) && decide (PySem.W.exmOne K (.ref (He.ga K x)) (.ref (He.ga K we)) = some true) && (xs.all fun y => !decide (y = "ValueError") && (PySem.W.kitOne K (.ref (He.ga K x)) (.ref (He.ga K y))).isSome) && (PySem.W.kitOne K (.ref (He.ga K x)) (.type "ValueError")).isSome &&
      decide (wordB (xs.map (vdB K (He.ga K x))) ws (vdB K (He.ga K x) "ValueError") = some p.2.1) && (tl.all fun q => decide (PySem.W.findIn K (.ref (He.ga K x)) q.2 = some none)) && (match p.2.2, fo with
        | false, _ => decide (tlD p.2.1 "" tl = some false)
        | true, some f => decide (tlD p.2.1 f tl = some true)
        | true, none => false)
  | none => false
def eaOf (K : PySem.W.Frag) (ex : List (Str × Option Str)) : Nat → Option (Addr × Option Str) := fun c => (ex[c]?).map fun p => (He.ga K p.1, p.2)
theorem entB_ok {K : PySem.W.Frag} {mg : Str → Option Value} {ex : List (Str × Option Str)} {we : Str} {xs ws : List Str} {tl : List (Str × Str)} {p : Nat × Str × Bool} (hxs : ∀ y ∈ xs, mg y = some (.ref (He.ga K y))) (hve : mg "ValueError" = none) (hbv : bootBuiltins "ValueError" = some (.type "ValueError")) (h : entB K ex we xs ws tl p = true) :
    EntryOk K mg (eaOf K ex) (He.ga K we) xs "ValueError" ws tl p := by
  unfold entB at h
  split at h
  · rename_i x fo hx
    simp only [Bool.and_eq_true, decide_eq_true_eq] at h
    obtain ⟨⟨⟨⟨⟨⟨⟨h1, h2⟩, h3⟩, h4⟩, h5⟩, h6⟩, h7⟩, h8⟩ := h
    refine ⟨He.ga K x, fo, vdB K (He.ga K x), by unfold eaOf; rw [hx]; rfl, excB_ok h1, xfB_ok h2, h3, fun y hy => ?_, ?_, h6, fun q hq => of_decide_eq_true (List.all_eq_true.mp h7 q hq), ?_⟩
    · have := List.all_eq_true.mp h4 y hy
      rw [Bool.and_eq_true] at this
      obtain ⟨b, hb⟩ := Option.isSome_iff_exists.mp this.2
      have hne : ¬ y = "ValueError" := by simpa using this.1
      refine .inl ⟨_, hxs y hy, ?_⟩
      unfold vdB
      rw [if_neg hne, hb]
      rfl
    · obtain ⟨b, hb⟩ := Option.isSome_iff_exists.mp h5
      refine .inr ⟨"ValueError", hve, hbv, by decide, ?_⟩
      unfold vdB
      rw [if_pos rfl, hb]
      rfl
    · obtain ⟨pk, pw, pf⟩ := p
      cases pf with
      | false => exact of_decide_eq_true h8
      | true => cases fo with
        | none => cases h8
        | some f => exact of_decide_eq_true h8
  · cases h
end Wl
/-! `_law_told` recognized. -/
namespace Wl
open PySem PySem.Spec PyProof.Rows L2
def knRd (en : Str) : List Stmt → Option (Str × List Str × List Stmt)
  | .Assign [.Name kn _] (.List es _) _ :: .Expr (.Call (.Attribute (.Name kn' _) m q2) [e] [] q3) _ :: rest => if kn' = kn ∧ m = "append" ∧ (q2.endLine == q3.line) = true then (isiNs en es).bind fun xs => (isiN en e).map fun x => (kn, xs ++ [x], rest) else none
  | .Assign [.Name kn _] (.List es _) _ :: .Assign [.Name kn' _] (.BinOp (.Name kn'' _) .Add (.List es2 _) _) _ :: rest => if kn' = kn ∧ kn'' = kn then (isiNs en es).bind fun xs => (isiNs en es2).map fun ys => (kn, xs ++ ys, rest) else none
  | .Assign [.Name kn _] (.List es _) _ :: rest => (isiNs en es).map fun xs => (kn, xs, rest)
  | _ => none
theorem knRd_ok {en kn : Str} {l rest : List Stmt} {xs : List Str} (h : knRd en l = some (kn, xs, rest)) : ∃ l1, l = l1 ++ rest ∧ HKn en kn xs l1 := by
  unfold knRd at h
  split at h
  · split at h
    · rename_i hc
      obtain ⟨rfl, rfl, hl⟩ := hc
      obtain ⟨ys, h1, h⟩ := Option.bind_eq_some_iff.mp h
      obtain ⟨x, h2, h⟩ := Option.map_eq_some_iff.mp h
      cases h
      exact ⟨[_, _], rfl, .app h1 h2 hl⟩
    · cases h
  · split at h
    · rename_i hc
      obtain ⟨rfl, rfl⟩ := hc
      obtain ⟨ys, h1, h⟩ := Option.bind_eq_some_iff.mp h
      obtain ⟨zs, h2, h⟩ := Option.map_eq_some_iff.mp h
      cases h
      exact ⟨[_, _], rfl, .cat h1 h2⟩
    · cases h
  · obtain ⟨ys, h1, h⟩ := Option.map_eq_some_iff.mp h
    cases h
    exact ⟨[_], rfl, .one h1⟩
  · cases h
def tlRd (fnn en : Str) : List Stmt → Option (List (Str × Str))
  | [.Assign [.Name f1 _] (.IfExp (.Compare (.Name f2 _) [.Eq] [.Constant (.str w0) _ _] _) (.Tuple [.Name f3 _, .Attribute (.Name e1 _) f _] _ _) (.Name f4 _) _) _] => if f1 = fnn ∧ f2 = fnn ∧ f3 = fnn ∧ f4 = fnn ∧ e1 = en then some [(w0, f)] else none
  | [.If (.Compare (.Name f1 _) [.Eq] [.Constant (.str w0) _ _] _) [.Assign [.Name f2 _] (.Tuple [.Name f3 _, .Attribute (.Name e1 _) f _] _ _) _] [] _, .If (.Compare (.Name f4 _) [.Eq] [.Constant (.str w1) _ _] _) [.Assign [.Name f5 _] (.Tuple [.Name f6 _, .Attribute (.Name e2 _) g _] _ _) _] [] _] =>
    if f1 = fnn ∧ f2 = fnn ∧ f3 = fnn ∧ f4 = fnn ∧ f5 = fnn ∧ f6 = fnn ∧ e1 = en ∧ e2 = en then some [(w0, f), (w1, g)] else none
  | _ => none
theorem tlRd_ok {fnn en : Str} {l : List Stmt} {tl : List (Str × Str)} (h : tlRd fnn en l = some tl) : HTl fnn en tl l := by
  unfold tlRd at h
  split at h
  · split at h
    · rename_i hc
      obtain ⟨rfl, rfl, rfl, rfl, rfl⟩ := hc
      cases h
      exact .one
    · cases h
  · split at h
    · rename_i hc
      obtain ⟨rfl, rfl, rfl, rfl, rfl, rfl, rfl, rfl⟩ := hc
      cases h
      exact .two
    · cases h
  · cases h
structure TdV where
  a : Str
  fnn : Str
  en : Str
  kn : Str
  wn : Str
  we : Str
  xs : List Str
  x : Str
  ws : List Str
  tl : List (Str × Str)
deriving DecidableEq
def hbRd (fnn en : Str) (hb : List Stmt) : Option (Str × Str × List Str × Str × List Str × List (Str × Str)) := (knRd en hb).bind fun z => match z.2.2 with
  | .Assign [.Name wn _] (.List es _) _ :: .Assign [.Name f1 _] (.IfExp (.BoolOp .And [.Compare (.Call (.Attribute (.Name k1 _) m1 a2) [.Constant (.bool t1) _ _] [] a3) [.Eq] [.Constant (.int n) _ _] _, ei] _) (.Subscript (.Name w1 _) (.Call (.Attribute (.Name k2 _) m2 b3) [.Constant (.bool t2) _ _] [] b4) _) (.Constant (.str ot) _ _) _) _ :: l2 =>
    if f1 = fnn ∧ k1 = z.1 ∧ k2 = z.1 ∧ w1 = wn ∧ m1 = "count" ∧ m2 = "index" ∧ t1 = true ∧ t2 = true ∧ n = 1 ∧ ot = "other" ∧ (a2.endLine == a3.line) = true ∧ (b3.endLine == b4.line) = true then (strsOf es).bind fun ws => (isiN en ei).bind fun x => (tlRd fnn en l2).map fun tl => (z.1, wn, z.2.1, x, ws, tl) else none
  | _ => none
theorem hbRd_ok {fnn en kn wn x : Str} {hb : List Stmt} {xs ws : List Str} {tl : List (Str × Str)} (h : hbRd fnn en hb = some (kn, wn, xs, x, ws, tl)) : HBd fnn en kn wn xs x ws tl hb := by
  unfold hbRd at h
  obtain ⟨⟨kn0, xs0, rest⟩, h1, h⟩ := Option.bind_eq_some_iff.mp h
  dsimp only at h
  split at h
  · split at h
    · rename_i hc
      obtain ⟨rfl, rfl, rfl, rfl, rfl, rfl, rfl, rfl, rfl, rfl, g1, g2⟩ := hc
      obtain ⟨ws0, h2, h⟩ := Option.bind_eq_some_iff.mp h
      obtain ⟨x0, h3, h⟩ := Option.bind_eq_some_iff.mp h
      obtain ⟨tl0, h4, h⟩ := Option.map_eq_some_iff.mp h
      cases h
      obtain ⟨l1, rfl, K⟩ := knRd_ok h1
      exact .mk K h2 h3 g1 g2 (tlRd_ok h4)
    · cases h
  · cases h
def tdRd : List Stmt → Option TdV
  | [.Assign [.Name f1 _] (.Constant (.str e0) _ _) _, .Try [.Expr (.Call (.Name a _) [] [] _) _] [.ExceptHandler (some (.Name we _)) (some en) hb _] [] [] _, .Return (some (.Name f2 _)) _] => if e0 = "" ∧ f2 = f1 then (hbRd f1 en hb).map fun z => ⟨a, f1, en, z.1, z.2.1, we, z.2.2.1, z.2.2.2.1, z.2.2.2.2.1, z.2.2.2.2.2⟩ else none
  | _ => none
theorem tdRd_ok {bg : List Stmt} {v : TdV} (h : tdRd bg = some v) : ∃ hb, ToldB v.a v.fnn v.en v.we hb bg ∧ HBd v.fnn v.en v.kn v.wn v.xs v.x v.ws v.tl hb := by
  unfold tdRd at h
  split at h
  · split at h
    · rename_i hc
      obtain ⟨rfl, rfl⟩ := hc
      obtain ⟨⟨kn, wn, xs, x, ws, tl⟩, h1, h⟩ := Option.map_eq_some_iff.mp h
      cases h
      exact ⟨_, ⟨_, _, _, _, _, _, _, _, _, _, _, _, rfl⟩, hbRd_ok h1⟩
    · cases h
  · cases h
/-- the def `_law_told` of a law -/
def scB (v : TdV) (sg : Scope) : Bool := ([v.a, v.fnn, v.en, v.kn, v.wn].all fun y => decide (sg.names.lookup y = some .local) && !(y == ("__debug__" : Str)) && !(y == ("__classdict__" : Str))) && ((v.we :: v.x :: ("isinstance" : Str) :: v.xs).all fun y => decide (sg.names.lookup y = some .globalImplicit) && !(y == ("__debug__" : Str)))
theorem tdF_of {K : PySem.W.Frag} {mg : Str → Option Value} {g CW : Addr} {fd : FuncData} {qual : Str} {params : Arguments} {bg : List Stmt} {sg : Scope} {v : TdV} (hg : mg "_law_told" = some (.ref g)) (FD : FunD K "_law_told" qual params bg sg [] [] g fd) (B : Binds K fd [v.a] []) (h : tdRd bg = some v) (S : FnScope [v.a, v.fnn, v.en, v.kn, v.wn] [v.a] sg) (hs : scB v sg = true) (hw : mg v.we = some (.ref CW)) (mi : mg "isinstance" = none)
    (l1 : decide (v.xs.length ≤ 50) = true) (l2 : decide (v.ws.length ≤ 50) = true) (ok : (v.tl.all fun p => decide (cmD .eq (.str p.1) (.str p.1) = some true)) = true) : TdF K mg CW v.xs v.x v.ws v.tl := by
  obtain ⟨hb, t1, t2⟩ := tdRd_ok h
  unfold scB at hs
  rw [Bool.and_eq_true] at hs
  refine ⟨⟨g, fd, qual, params, bg, hb, sg, v.a, v.fnn, v.en, v.kn, v.wn, v.we, hg, FD, B, S, fun y hy => ?_, fun y hy => ?_, t1, t2, hw⟩, mi, of_decide_eq_true l1, of_decide_eq_true l2, fun p hp => of_decide_eq_true (List.all_eq_true.mp ok p hp)⟩
  · have := List.all_eq_true.mp hs.1 y hy
    simpa [and_assoc] using this
  · have := List.all_eq_true.mp hs.2 y hy
    simpa using this
end Wl
/-! From the program's text to the small form. -/
namespace Wl
open PySem PySem.Spec PyProof.Rows L2

section
variable {X : Cx} {aR : AR} {F : Fns} {ea : Expr} {a b : IE} {tg : Expr}
theorem alt_ok {F : Fns} {a b : IE} {env : Env} {r r' : Row} {d : D} (h : ev F (.alt a b) env r = .ok d r') : ev F a env r = .ok d r' ∨ ev F b env r = .ok d r' := by
  have h' : (match ev F a env r with
    | .no => ev F b env r
    | .ok d r => .ok d r
    | .ex e r => .ex e r) = Res.ok d r' := h
  split at h'
  · exact .inr h'
  · rename_i e; exact .inl (by rw [e, h'])
  · cases h'
theorem PE.or {e : Expr} {t u : TE} (h1 : PE X e t) (h2 : PE X e u) : PE X e (fun σ H Q => t σ H Q ∨ u σ H Q) := ⟨fun pins s σ H Q I q => q.elim (h1.run pins s σ H Q I) (h2.run pins s σ H Q I)⟩
theorem PT.or {e : Expr} {t u : TT} (h1 : PT X e t) (h2 : PT X e u) : PT X e (fun σ H Q => t σ H Q ∨ u σ H Q) := ⟨fun pins s σ H Q I q => q.elim (h1.run pins s σ H Q I) (h2.run pins s σ H Q I)⟩
theorem PI.or {e : Expr} {t u : TI} (h1 : PI X tg e t) (h2 : PI X tg e u) : PI X tg e (fun σ H Q => t σ H Q ∨ u σ H Q) := ⟨fun pins s σ H Q I q => q.elim (h1.run pins s σ H Q I) (h2.run pins s σ H Q I)⟩
theorem v_alt (h1 : PE X ea (tEv aR X.K F a)) (h2 : PE X ea (tEv aR X.K F b)) : PE X ea (tEv aR X.K F (.alt a b)) := PE.imp (PE.or h1 h2) fun σ H Q ⟨Z, H0, env, r, ok, d, r', e, q⟩ => by
  rcases alt_ok e with e | e
  · exact .inl (ev_to ok e fun v H' x ro _ rp => q v H' x ro (rp.mono (Le.less fun z m => Mk.lft m)))
  · exact .inr (ev_to ok e fun v H' x ro _ rp => q v H' x ro (rp.mono (Le.less fun z m => Mk.rgt m)))
theorem t_alt (h1 : PT X ea (tEvT aR X.K F a)) (h2 : PT X ea (tEvT aR X.K F b)) : PT X ea (tEvT aR X.K F (.alt a b)) := PT.imp (PT.or h1 h2) fun σ H Q ⟨Z, H0, env, r, ok, d, r', e, q⟩ => by
  rcases alt_ok e with e | e
  · exact .inl (evT_to ok e fun H' x ro _ => q H' x ro)
  · exact .inr (evT_to ok e fun H' x ro _ => q H' x ro)
theorem f_alt (h1 : PE X ea (tEvF aR X.K F a)) (h2 : PE X ea (tEvF aR X.K F b)) : PE X ea (tEvF aR X.K F (.alt a b)) := PE.imp (PE.or h1 h2) fun σ H Q ⟨Z, H0, env, r, ok, d, r', e, q⟩ => by
  rcases alt_ok e with e | e
  · exact .inl ⟨Z, H0, env, r, ok, d, r', e, fun p H' x ro hp o => q p H' x ro hp (o.mono (Le.less fun z m => Mk.lft m) fun _ q _ => q)⟩
  · exact .inr ⟨Z, H0, env, r, ok, d, r', e, fun p H' x ro hp o => q p H' x ro hp (o.mono (Le.less fun z m => Mk.rgt m) fun _ q _ => q)⟩
theorem ItOk.mono {Zm Zm' : Addr → Prop} {dv dv' : Addr → Prop} {J : It} {l : List D} {Hs : Hp} {wk wk' : Bool} (hz : ∀ a, Zm' a → Zm a) (hd : ∀ a, dv a → dv' a) (hw : wk = true → wk' = true) (h : ItOk aR Zm dv J l Hs wk) : ItOk aR Zm' dv' J l Hs wk' := by
  obtain ⟨U, Y, hU, hW, hY⟩ := h
  exact ⟨U, Y, fun a u => ⟨(hU a u).1, (hU a u).2.imp (fun n z => n (hz a z)) (hd a)⟩, hW, fun i H x H' Z' hi le zk y => let ⟨n, d, e, rp⟩ := hY i H x H' Z' hi (fun a o ea t n => le a o ea t fun z => n (hz a z)) zk y; ⟨n, d, e, rp.of hw⟩⟩
theorem b_alt (h1 : PB X ea (tEv aR X.K F a) (tEvT aR X.K F a)) (h2 : PB X ea (tEv aR X.K F b) (tEvT aR X.K F b)) : PB X ea (tEv aR X.K F (.alt a b)) (tEvT aR X.K F (.alt a b)) := ⟨v_alt h1.v h2.v, t_alt h1.t h2.t⟩
end

/-! ### tables -/
structure Tb where
  fs : List (Str × Nat)
  gi : List (Str × Int)
  fr : List Str
  lm : Bool := false
  /-- may defs stand as values; the errors' classes with their fields -/
  fv : Bool := false
  ex : List (Str × Option Str) := []
  /-- may `_law_told` be asked: its table -/
  td : Option (List (Nat × Str × Bool)) := none
def ixS (x : Str) : List Str → Option Nat
  | [] => none
  | y :: l => if y = x then some 0 else (ixS x l).map (· + 1)
theorem ixS_ok {x : Str} : ∀ {l : List Str} {i : Nat}, ixS x l = some i → l[i]? = some x
  | y :: l, i, h => by
    unfold ixS at h
    split at h
    · rename_i e
      cases h
      simp [e]
    · obtain ⟨j, h1, rfl⟩ := Option.map_eq_some_iff.mp h
      simpa using ixS_ok h1
def lookF (x : Str) : List (Str × Nat) → Option (Nat × Nat)
  | [] => none
  | y :: l => if y.1 = x then some (0, y.2) else (lookF x l).map fun p => (p.1 + 1, p.2)
theorem lookF_ok {x : Str} : ∀ {l : List (Str × Nat)} {i n : Nat}, lookF x l = some (i, n) → l[i]? = some (x, n)
  | y :: l, i, n, h => by
    unfold lookF at h
    split at h
    · rename_i e
      cases h
      simp [← e]
    · obtain ⟨j, h1, h2⟩ := Option.map_eq_some_iff.mp h
      cases h2
      simpa using lookF_ok h1
def lookG (x : Str) : List (Str × Int) → Option Int
  | [] => none
  | y :: l => if y.1 = x then some y.2 else lookG x l
theorem lookG_ok {x : Str} : ∀ {l : List (Str × Int)} {n : Int}, lookG x l = some n → (x, n) ∈ l
  | y :: l, n, h => by
    unfold lookG at h
    split at h
    · rename_i e
      cases h
      rw [← e]
      exact List.mem_cons_self
    · exact List.mem_cons_of_mem _ (lookG_ok h)
/-- a body's state of things -/
structure Good (aR : AR) (F : Fns) (T : Tb) (N : List Str) (X : Cx) (sc : Scope) : Prop where
  nd : X.N.Nodup
  n : X.N = N
  calm : X.calm = true
  scope : X.env.scope = sc
  pass : PassesOwn (model X.prog X.w) X.A X.env X.xe
  units : X.A.units + 65 < cLine
  kind : X.env.scope.kind = .function
  fs : ∀ (i : Nat) (x : Str) (np : Nat), T.fs[i]? = some (x, np) → ∃ k g fd ps, X.mg x = some (.ref g) ∧ PySem.W.keepIn X.K (.ref g) = true ∧ Binds X.K fd ps [] ∧ FnOk X.prog X.w X.K X.mg X.base (L2.CX X.prog X.w) k g fd ps (spOf aR X.K np (F i)) ∧ Room k X.A ∧ ∀ l r, F i l r ≠ .no → l.length = np
  fv : T.fv = true → ∀ (i : Nat) (x : Str) (np : Nat), T.fs[i]? = some (x, np) → ∃ g, X.mg x = some (.ref g) ∧ aR.fa i = some g
  fw : ∀ k g, aR.fa k = some g → ∃ (kk np : Nat) (fd : FuncData) (ps : List Str), PySem.W.keepIn X.K (.ref g) = true ∧ Binds X.K fd ps [] ∧ FnOk X.prog X.w X.K X.mg X.base (L2.CX X.prog X.w) kk g fd ps (spOf aR X.K np (F k)) ∧ Room kk X.A ∧ ∀ l r, F k l r ≠ .no → l.length = np
  rm : Room 1 X.A
  td : ∀ tb, T.td = some tb → ∃ (k : Nat) (CW : Addr) (xs : List Str) (x : Str) (ws : List Str) (tl : List (Str × Str)) (c P : Addr), TdF X.K X.mg CW xs x ws tl ∧ (∀ p ∈ tb, EntryOk X.K X.mg aR.ea CW xs x ws tl p) ∧ LamX.TabB X.base X.mg c P ∧ X.env.code = .ref c ∧ (P, X.env.qual ++ "<lambda>") ∈ aR.tt ∧ (∀ q ∈ aR.tt, q.1 = P → q.2 = X.env.qual ++ "<lambda>") ∧ Room (k + 2) X.A ∧ 1 ≤ k ∧
    (∀ (i : Nat) (x : Str) (np : Nat), T.fs[i]? = some (x, np) → ∃ g fd ps, X.mg x = some (.ref g) ∧ PySem.W.keepIn X.K (.ref g) = true ∧ Binds X.K fd ps [] ∧ FnOk X.prog X.w X.K X.mg X.base (L2.CX X.prog X.w) k g fd ps (spOf aR X.K np (F i)) ∧ ∀ l r, F i l r ≠ .no → l.length = np) ∧
    (∀ j g, aR.fa j = some g → ∃ (np : Nat) (fd : FuncData) (ps : List Str), PySem.W.keepIn X.K (.ref g) = true ∧ Binds X.K fd ps [] ∧ FnOk X.prog X.w X.K X.mg X.base (L2.CX X.prog X.w) k g fd ps (spOf aR X.K np (F j)) ∧ ∀ l r, F j l r ≠ .no → l.length = np)
  er : ∀ (c : Nat) (x : Str) (fo : Option Str), T.ex[c]? = some (x, fo) → ∃ C, aR.ea c = some (C, fo) ∧ ErC X.prog X.K X.mg x C fo
  gi : ∀ x n, (x, n) ∈ T.gi → ∃ t, X.mg x = some (.int n t)
  fr : ∀ x, x ∈ T.fr → X.mg x = none
  tb : T.lm = true → X.A.depth < recursionLimit ∧ ∃ c P, X.env.code = .ref c ∧ LamX.TabB X.base X.mg c P ∧ (P, X.env.qual ++ "<lambda>") ∈ aR.tt ∧ ∀ q ∈ aR.tt, q.1 = P → q.2 = X.env.qual ++ "<lambda>"
def visB (sc : Scope) (x : Str) : Bool := match sc.names.lookup x with
  | some .local => true
  | some .cell => true
  | some .free => true
  | _ => false
def locB (sc : Scope) (x : Str) : Bool := match sc.names.lookup x with
  | some .local => true
  | some .cell => true
  | _ => false
def glB (sc : Scope) (x : Str) : Bool := match sc.names.lookup x with
  | some .globalImplicit => true
  | _ => false
def okN (x : Str) : Bool := !(x == ("__debug__" : Str)) && !(x == ("__classdict__" : Str))
section
variable {aR : AR} {F : Fns} {T : Tb} {N : List Str} {X : Cx} {sc : Scope}
theorem Good.vis (G : Good aR F T N X sc) {x : Str} (h : visB sc x = true) : Vis X.env.scope x := by
  unfold visB at h
  rw [G.scope]
  split at h
  · exact .inl (by assumption)
  · exact .inr (.inl (by assumption))
  · exact .inr (.inr (by assumption))
  · cases h
theorem Good.loc (G : Good aR F T N X sc) {x : Str} (h : locB sc x = true) : Loc X.env.scope x := by
  unfold locB at h
  rw [G.scope]
  split at h
  · exact .inl (by assumption)
  · exact .inr (by assumption)
  · cases h
theorem Good.fnl (G : Good aR F T N X sc) (hf : ∀ x, X.env.scope.names.lookup x = some .cell → X.fn x = true) {x : Str} (h : locB sc x = true) : Loc X.env.scope x ∧ (X.fn x = true ∨ X.env.scope.names.lookup x = some .local) := by
  refine ⟨G.loc h, ?_⟩
  rcases G.loc h with h | h
  · exact .inr h
  · exact .inl (hf x h)
theorem Good.gl (G : Good aR F T N X sc) {x : Str} (h : glB sc x = true) : Gl X x := by
  unfold glB at h
  show X.env.scope.names.lookup x = _
  rw [G.scope]
  split at h
  · assumption
  · cases h
theorem okN_ok {x : Str} (h : okN x = true) : (x == ("__debug__" : Str)) = false ∧ (x == ("__classdict__" : Str)) = false := by
  simpa [okN] using h
end
def noStar : Expr → Bool
  | .Starred _ _ => false
  | _ => true
theorem star_of {e : Expr} (h : noStar e = true) (es : List Expr) (env : PySem.Env) : starEach (e :: es) env = (false, eval e env) :: starEach es env := by
  cases e <;> first | rfl | cases h
def noSlice : Expr → Bool
  | .Slice _ _ _ _ => false
  | _ => true
theorem plain_ix {e : Expr} (h : noSlice e = true) : PlainIx e ∧ NoSl e := by
  have : PlainIx e := fun o i => by cases e <;> first | rfl | cases h
  exact ⟨this, this⟩
def noSet : Expr → Bool
  | .Set _ _ _ => false
  | _ => true
theorem noSet_in {op : CmpOp} {e : Expr} (h : noSet e = true) : behindInMarks op e = false := by
  cases e <;> first | rfl | cases h
theorem noSet_for {e : Expr} {env : PySem.Env} (h : noSet e = true) : ∀ x, foldedSetIterable e env x = pure x := by
  intro x
  cases e <;> first | rfl | cases h
/-- its test is the truth of its value -/
def plainT : Expr → Bool
  | .UnaryOp .Not _ _ => false
  | .BoolOp _ _ _ => false
  | .IfExp _ _ _ _ => false
  | .Compare _ _ _ _ => false
  | _ => true
theorem plainT_ok {e : Expr} {env : PySem.Env} (h : plainT e = true) : ∀ whole, isTrue e env whole = (do let v ← whole; standAt e.pos; holding [v] (truthy v)) := by
  intro whole
  cases e <;> first | rfl | (cases h; done) | (rename_i o _ _; cases o <;> first | rfl | cases h)
def opOf : Operator → Option Op
  | .Add => some .add
  | .Sub => some .sub
  | .Mult => some .mul
  | .FloorDiv => some .fdiv
  | .Mod => some .mod
  | _ => none
def isCmp : Expr → Bool
  | .Compare _ _ _ _ => true
  | _ => false
def opOf2 (p : Operator) (b : Expr) : Option Op := if isCmp b = true then (match p with
  | .Add => some .addB
  | _ => opOf p) else opOf p
theorem opOf_ok {p : Operator} {o : Op} (h : opOf p = some o) : oM o p = true := by
  cases p <;> cases h <;> rfl
theorem opOf2_ok {p : Operator} {b : Expr} {o : Op} (h : opOf2 p b = some o) : oM o p = true := by
  unfold opOf2 at h
  split at h
  · split at h
    · cases h; rfl
    · exact opOf_ok h
  · exact opOf_ok h
def cmOf : CmpOp → Option Cm
  | .Eq => some .eq
  | .NotEq => some .ne
  | .Lt => some .lt
  | .LtE => some .le
  | .Gt => some .gt
  | .GtE => some .ge
  | _ => none
theorem cmOf_ok {p : CmpOp} {o : Cm} (h : cmOf p = some o) : cM o p = true := by
  cases p <;> cases h <;> rfl
def tyOf (x : Str) : Option Ty := if x = tyS .int then some .int else if x = tyS .bool then some .bool else if x = tyS .tuple then some .tuple else if x = tyS .list then some .list else if x = tyS .str then some .str else none
theorem tyOf_ok {x : Str} {t : Ty} (h : tyOf x = some t) : x = tyS t := by
  unfold tyOf at h
  repeat (split at h; · cases h; assumption)
  cases h
def metC (o : Expr) : Bool := match o with
  | .Call (.Name _ _) [] _ _ => false
  | _ => true
theorem m1_of {X : Cx} {o e : Expr} {m : Str} {ap cp : Pos} (ho : metC o = true) (he : noStar e = true) (hl : (ap.endLine == cp.line) = true) : M1 X o m ap e cp := by
  refine ⟨?_, ?_, hl, ?_⟩
  · unfold attributeBase
    split
    · cases ho
    · rfl
  · rw [star_of he]
    rfl
  · rw [star_of he]
    rfl
theorem m2_of {X : Cx} {o e f : Expr} {m : Str} {ap cp : Pos} (ho : metC o = true) (he : noStar e = true) (hf : noStar f = true) (hl : (ap.endLine == cp.line) = true) : M2 X o m ap e f cp := by
  refine ⟨?_, ?_, hl, ?_⟩
  · unfold attributeBase
    split
    · cases ho
    · rfl
  · rw [star_of he, star_of hf]
    rfl
  · rw [star_of he, star_of hf]
    rfl
end Wl
/-! Expressions read, and that the reading holds. -/
namespace Wl
open PySem PySem.Spec PyProof.Rows L2

/-- what is to be read -/
inductive Qn where
  | e (sc : Scope) (x : Expr) | a (sc : Scope) (l : List Expr) | b (sc : Scope) (x : Expr) | w (sc : Scope) (op : BoolOp) (l : List Expr)
  | i (sc : Scope) (tg x : Expr) | o (sc : Scope) (x : Option Expr) | g (sc : Scope) (x : Expr)
/-- that it is read rightly -/
def Snd (aR : AR) (F : Fns) (T : Tb) (N : List Str) : Qn → IE → Prop
  | .e sc x, ie => ∀ X, Good aR F T N X sc → PE X x (tEv aR X.K F ie) ∧ PE X x (tEvC aR X.K F ie) ∧ PE X x (tRx aR X.K F (EX X) ie)
  | .a sc l, ie => ∀ X, Good aR F T N X sc → PA X l (tEvA aR X.K F ie) ∧ PA X l (tRxA aR X.K F (EX X) ie)
  | .b sc x, ie => ∀ X, Good aR F T N X sc → PB X x (tEv aR X.K F ie) (tEvT aR X.K F ie)
  | .w sc op l, ie => ∀ X, Good aR F T N X sc → ∃ x l', l = x :: l' ∧ ∀ pos, PBW X (.BoolOp op l pos) (tEv aR X.K F ie) (tEvT aR X.K F ie)
  | .i sc tg x, ie => ∀ X, Good aR F T N X sc → PI X tg x (tEvI aR X.K F ie) ∧ PI X tg x (fun σ H _ => tRz aR X.K F (EX X) ie σ H)
  | .o sc x, ie => ∀ X, Good aR F T N X sc → PO X x (tEvO aR X.K F ie)
  | .g sc x, ie => ∀ X, Good aR F T N X sc → PE X x (tEvG aR X.K F ie)

def inL (x : Str) (l : List Str) : Bool := l.any fun y => decide (y = x)
theorem inL_ok {x : Str} {l : List Str} (h : inL x l = true) : x ∈ l := by
  obtain ⟨y, h1, h2⟩ := List.any_eq_true.mp h
  rw [← of_decide_eq_true h2]
  exact h1
/-- a global that a built-in name stands for -/
def bn (T : Tb) (sc : Scope) (x : Str) : Bool := glB sc x && inL x T.fr
theorem bn_ok {aR : AR} {F : Fns} {T : Tb} {N : List Str} {X : Cx} {sc : Scope} (G : Good aR F T N X sc) {x : Str} (h : bn T sc x = true) : Gl X x ∧ X.mg x = none := by
  unfold bn at h
  rw [Bool.and_eq_true] at h
  exact ⟨G.gl h.1, G.fr x (inL_ok h.2)⟩
/-- raises nothing that is followed -/
def noRx : IE → Bool
  | .call _ _ => false
  | .callv _ _ => false
  | .cons _ _ => false
  | .alt a b => noRx a && noRx b
  | .blt _ a => noRx a
  | .idx a _ => noRx a
  | .dget a _ => noRx a
  | .comp _ _ _ a _ _ _ => noRx a
  | .itL a => noRx a
  | _ => true
theorem noRx_ok {F : Fns} : ∀ {a : IE} {env : Env} {r : Row}, noRx a = true → rx F a env r = none
  | .alt a b, env, r, h => by
    rw [noRx, Bool.and_eq_true] at h
    unfold rx
    split
    · exact noRx_ok h.2
    · exact noRx_ok h.1
  | .blt _ a, env, r, h => noRx_ok (a := a) h
  | .idx a _, env, r, h => noRx_ok (a := a) h
  | .dget a _, env, r, h => noRx_ok (a := a) h
  | .comp _ _ _ a _ _ _, env, r, h => noRx_ok (a := a) h
  | .itL a, env, r, h => noRx_ok (a := a) h
  | .call _ _, _, _, h => by cases h
  | .callv _ _, _, _, h => by cases h
  | .cons _ _, _, _, h => by cases h
  | .var _, _, _, _ => rfl | .int _, _, _, _ => rfl | .bl _, _, _, _ => rfl | .non, _, _, _ => rfl | .str _, _, _, _ => rfl
  | .gint _ _, _, _, _ => rfl | .op _ _ _, _, _, _ => rfl | .neg _, _, _, _ => rfl | .cmp _ _ _, _, _, _ => rfl | .chain _ _ _ _ _, _, _, _ => rfl
  | .isN _ _, _, _, _ => rfl | .inS _ _ _, _, _, _ => rfl | .inD _ _ _, _, _, _ => rfl | .not _, _, _, _ => rfl | .and _ _, _, _, _ => rfl | .or _ _, _, _, _ => rfl
  | .one _, _, _, _ => rfl | .ite _ _ _, _, _, _ => rfl | .nil, _, _, _ => rfl | .star _ _, _, _, _ => rfl | .tup _, _, _, _ => rfl | .lst _, _, _, _ => rfl
  | .slc _ _ _, _, _, _ => rfl | .blt2 _ _ _, _, _, _ => rfl | .isi _ _, _, _, _ => rfl | .isi2 _ _ _, _, _, _ => rfl
  | .tupR _, _, _, _ => rfl | .get1 _ _, _, _, _ => rfl | .get2 _ _ _, _, _, _ => rfl | .dic _ _ _, _, _, _ => rfl | .dic0 _, _, _, _ => rfl | .ind _ _, _, _, _ => rfl | .cnt _ _, _, _, _ => rfl
  | .minK _ _, _, _, _ => rfl | .maxK _ _, _, _, _ => rfl | .srtK _, _, _, _ => rfl | .sset _, _, _, _ => rfl | .tupR2 _ _, _, _, _ => rfl | .lstR1 _, _, _, _ => rfl | .lstR2 _ _, _, _, _ => rfl
  | .isB _ _ _, _, _, _ => rfl | .revL _, _, _, _ => rfl | .rev _ _, _, _, _ => rfl | .itR3 _ _ _, _, _, _ => rfl | .itR1 _, _, _, _ => rfl | .itR2 _ _, _, _, _ => rfl | .itE _, _, _, _ => rfl
  | .itZ _ _, _, _, _ => rfl | .itK _, _, _, _ => rfl | .itI _, _, _, _ => rfl | .fnv _, _, _, _ => rfl | .told _ _, _, _, _ => rfl
def one (a : IE) : Option IE := if isV a then none else if noRx a then some a else none
/-- built-in functions of one thing, by name -/
def bf1 (x : Str) (a : IE) : Option IE :=
  if x = "len" then some (.alt (.blt .len a) (.blt .lenD a))
  else if x = "tuple" then some (.blt .tuple a)
  else if x = "list" then some (.alt (.blt .list a) (.blt .listD a))
  else if x = "sorted" then some (.alt (.alt (.blt .sorted a) (.alt (.blt .sortedT a) (.alt (.blt .sortedL a) (.blt .sortedTL a)))) (.alt (.blt .sortedD a) (.blt .sortedP a)))
  else if x = "sum" then some (.alt (.blt .sum a) (.blt .sumT a))
  else if x = "min" then some (.alt (.blt .min a) (.blt .minD a))
  else if x = "max" then some (.alt (.blt .max a) (.blt .maxD a))
  else if x = "any" then some (.blt .any a)
  else if x = "all" then some (.blt .all a)
  else if x = "int" then some (.blt .int a)
  else none
section
variable {aR : AR} {F : Fns} {T : Tb} {N : List Str} {X : Cx} {sc : Scope} {ea : Expr} {a ie : IE} {p pos : Pos}
/-- what its thing raises -/
theorem x_bltF {f : Bf} {id : String} {x : Str} {r : List V → Hp → VK → Prop} (hc : CallR X (.builtin id) r) (hg : Gl X x) (hm : X.mg x = none) (hv : bootBuiltins x = some (.builtin id)) (hn : x ≠ "__name__") (hdb : (x == ("__debug__" : Str)) = false)
    (ha : PE X ea (tRx aR X.K F (EX X) a)) (hs : starEach [ea] X.env = (false, eval ea X.env) :: starEach [] X.env) : PE X (.Call (.Name x p) [ea] [] pos) (tRx aR X.K F (EX X) (.blt f a)) :=
  PE.imp (pe_callB hc hg hm hv (pa_1 ha hs) hn hdb hs rfl) fun σ H Q q => q
theorem x_bltT {f : Bf} {T : String} {x : Str} {r : List V → Hp → VK → Prop} (hc : CallR X (.type T) r) (hg : Gl X x) (hm : X.mg x = none) (hv : bootBuiltins x = some (.type T)) (hn : x ≠ "__name__") (hdb : (x == ("__debug__" : Str)) = false)
    (ha : PE X ea (tRx aR X.K F (EX X) a)) (hs : starEach [ea] X.env = (false, eval ea X.env) :: starEach [] X.env) : PE X (.Call (.Name x p) [ea] [] pos) (tRx aR X.K F (EX X) (.blt f a)) :=
  PE.imp (pe_callTy hc hg hm hv (pa_1 ha hs) hn hdb hs rfl) fun σ H Q q => q
theorem x_idx {i : IE} {ei : Expr} (hs : PlainIx ei) (ha : PE X ea (tRx aR X.K F (EX X) a)) (hi : PE X ei (tEvC aR X.K F i)) : PE X (.Subscript ea ei pos) (tRx aR X.K F (EX X) (.idx a i)) :=
  PE.imp (pe_ix ix_seq ha hi hs) fun σ H Q q => q
theorem x_dget {i : IE} {ei : Expr} (hu : X.A.units + 64 < cLine) (hs : NoSl ei) (ha : PE X ea (tRx aR X.K F (EX X) a)) (hi : PE X ei (tEvC aR X.K F i)) : PE X (.Subscript ea ei pos) (tRx aR X.K F (EX X) (.dget a i)) :=
  PE.imp (pe_xget hu ha hi hs) fun σ H Q q => q
theorem bf1_ok {x : Str} (G : Good aR F T N X sc) (hb : bn T sc x = true) (hs : noStar ea = true) (ha : PE X ea (tEvC aR X.K F a)) (h : bf1 x a = some ie) : PE X (.Call (.Name x p) [ea] [] pos) (tEv aR X.K F ie) := by
  obtain ⟨hg, hm⟩ := bn_ok G hb
  have st := star_of hs [] X.env
  unfold bf1 at h
  split at h
  · rename_i e; subst e; cases h
    exact v_alt (v_bltF call_len_seq red_len hg hm PySem.boot_len (by decide) (by decide) ha st) (v_bltF cr_lenK red_lenD hg hm PySem.boot_len (by decide) (by decide) ha st)
  split at h
  · rename_i e; subst e; cases h
    exact v_bltT call_tuple_ofS red_tuple hg hm PyProof.Rows.boot_tuple (by decide) (by decide) ha st
  split at h
  · rename_i e; subst e; cases h
    exact v_alt (v_bltT call_list_of red_list hg hm PyProof.Rows.boot_list (by decide) (by decide) ha st) (v_bltT (cr_listD G.calm) red_listD hg hm PyProof.Rows.boot_list (by decide) (by decide) ha st)
  split at h
  · rename_i e; subst e; cases h
    exact v_alt (v_alt (v_bltF cr_sortedI red_sorted hg hm PyProof.Rows.boot_sorted (by decide) (by decide) ha st) (v_alt (v_bltF cr_sortedTI red_sortedT hg hm PyProof.Rows.boot_sorted (by decide) (by decide) ha st) (v_alt (v_bltF cr_sortedLx red_sortedL hg hm PyProof.Rows.boot_sorted (by decide) (by decide) ha st) (v_bltF cr_sortedTLx red_sortedTL hg hm PyProof.Rows.boot_sorted (by decide) (by decide) ha st)))) (v_alt (v_bltF (cr_sortedDT G.calm) red_sortedD hg hm PyProof.Rows.boot_sorted (by decide) (by decide) ha st) (v_bltF (cr_sortDat G.units) red_sortedP hg hm PyProof.Rows.boot_sorted (by decide) (by decide) ha st))
  split at h
  · rename_i e; subst e; cases h
    exact v_alt (v_bltF (cr_sum G.calm) red_sum hg hm PyProof.Rows.boot_sum (by decide) (by decide) ha st) (v_bltF (cr_sumT G.calm) red_sumT hg hm PyProof.Rows.boot_sum (by decide) (by decide) ha st)
  split at h
  · rename_i e; subst e; cases h
    exact v_alt (v_bltF (cr_min G.calm) red_min hg hm PyProof.Rows.boot_min (by decide) (by decide) ha st) (v_bltF (cr_minDat G.calm G.units) red_minD hg hm PyProof.Rows.boot_min (by decide) (by decide) ha st)
  split at h
  · rename_i e; subst e; cases h
    exact v_alt (v_bltF (cr_max G.calm) red_max hg hm PyProof.Rows.boot_max (by decide) (by decide) ha st) (v_bltF (cr_maxDat G.calm G.units) red_maxD hg hm PyProof.Rows.boot_max (by decide) (by decide) ha st)
  split at h
  · rename_i e; subst e; cases h
    exact v_bltF (cr_any G.calm) red_any hg hm PyProof.Rows.boot_any (by decide) (by decide) ha st
  split at h
  · rename_i e; subst e; cases h
    exact v_bltF (cr_all G.calm) red_all hg hm PyProof.Rows.boot_all (by decide) (by decide) ha st
  split at h
  · rename_i e; subst e; cases h
    exact v_bltT call_int1 red_int hg hm PyProof.Rows.boot_int (by decide) (by decide) ha st
  cases h
theorem bf1_x {x : Str} (G : Good aR F T N X sc) (hb : bn T sc x = true) (hs : noStar ea = true) (ha : PE X ea (tRx aR X.K F (EX X) a)) (h : bf1 x a = some ie) : PE X (.Call (.Name x p) [ea] [] pos) (tRx aR X.K F (EX X) ie) := by
  obtain ⟨hg, hm⟩ := bn_ok G hb
  have st := star_of hs [] X.env
  unfold bf1 at h
  split at h
  · rename_i e; subst e; cases h
    exact x_alt (x_bltF call_len_seq hg hm PySem.boot_len (by decide) (by decide) ha st) (x_bltF cr_lenK hg hm PySem.boot_len (by decide) (by decide) ha st)
  split at h
  · rename_i e; subst e; cases h
    exact x_bltT call_tuple_ofS hg hm PyProof.Rows.boot_tuple (by decide) (by decide) ha st
  split at h
  · rename_i e; subst e; cases h
    exact x_alt (x_bltT call_list_of hg hm PyProof.Rows.boot_list (by decide) (by decide) ha st) (x_bltT (cr_listD G.calm) hg hm PyProof.Rows.boot_list (by decide) (by decide) ha st)
  split at h
  · rename_i e; subst e; cases h
    exact x_alt (x_alt (x_bltF cr_sortedI hg hm PyProof.Rows.boot_sorted (by decide) (by decide) ha st) (x_alt (x_bltF cr_sortedTI hg hm PyProof.Rows.boot_sorted (by decide) (by decide) ha st) (x_alt (x_bltF cr_sortedLx hg hm PyProof.Rows.boot_sorted (by decide) (by decide) ha st) (x_bltF cr_sortedTLx hg hm PyProof.Rows.boot_sorted (by decide) (by decide) ha st)))) (x_alt (x_bltF (cr_sortedDT G.calm) hg hm PyProof.Rows.boot_sorted (by decide) (by decide) ha st) (x_bltF (cr_sortDat G.units) hg hm PyProof.Rows.boot_sorted (by decide) (by decide) ha st))
  split at h
  · rename_i e; subst e; cases h
    exact x_alt (x_bltF (cr_sum G.calm) hg hm PyProof.Rows.boot_sum (by decide) (by decide) ha st) (x_bltF (cr_sumT G.calm) hg hm PyProof.Rows.boot_sum (by decide) (by decide) ha st)
  split at h
  · rename_i e; subst e; cases h
    exact x_alt (x_bltF (cr_min G.calm) hg hm PyProof.Rows.boot_min (by decide) (by decide) ha st) (x_bltF (cr_minDat G.calm G.units) hg hm PyProof.Rows.boot_min (by decide) (by decide) ha st)
  split at h
  · rename_i e; subst e; cases h
    exact x_alt (x_bltF (cr_max G.calm) hg hm PyProof.Rows.boot_max (by decide) (by decide) ha st) (x_bltF (cr_maxDat G.calm G.units) hg hm PyProof.Rows.boot_max (by decide) (by decide) ha st)
  split at h
  · rename_i e; subst e; cases h
    exact x_bltF (cr_any G.calm) hg hm PyProof.Rows.boot_any (by decide) (by decide) ha st
  split at h
  · rename_i e; subst e; cases h
    exact x_bltF (cr_all G.calm) hg hm PyProof.Rows.boot_all (by decide) (by decide) ha st
  split at h
  · rename_i e; subst e; cases h
    exact x_bltT call_int1 hg hm PyProof.Rows.boot_int (by decide) (by decide) ha st
  cases h
end
end Wl
/-! One step of the reading of expressions. -/
namespace Wl
open PySem PySem.Spec PyProof.Rows L2

abbrev Rec := Qn → Option IE
def eName (T : Tb) (N : List Str) (sc : Scope) (x : Str) : Option IE := if okN x = true then (if visB sc x = true then (ixS x N).map .var else if glB sc x = true then (match lookG x T.gi with
  | some n => some (.gint x n)
  | none => if T.fv = true then (lookF x T.fs).map fun p => .fnv p.1 else none) else none) else none
def eTup (rec : Rec) (sc : Scope) (l : List Expr) : Option IE := (rec (.a sc l)).map .tup
def eLst (rec : Rec) (sc : Scope) (l : List Expr) : Option IE := (rec (.a sc l)).map .lst
def eOp (rec : Rec) (sc : Scope) (p : Operator) (a b : Expr) : Option IE := (opOf2 p b).bind fun o => (rec (.e sc a)).bind fun x => (rec (.e sc b)).map fun y => .op o x y
def eIx (rec : Rec) (sc : Scope) (a i : Expr) : Option IE := if noSlice i = true then (rec (.e sc a)).bind fun x => (rec (.e sc i)).map fun y => .alt (.idx x y) (.dget x y) else none
def eSl (rec : Rec) (sc : Scope) (a : Expr) (lo hi : Option Expr) : Option IE := (rec (.e sc a)).bind fun x => (rec (.o sc lo)).bind fun y => (rec (.o sc hi)).map fun z => .slc x y z
def eFn (T : Tb) (rec : Rec) (sc : Scope) (x : Str) (l : List Expr) : Option IE := match lookF x T.fs, l with
  | some (i, np), e :: es => if (glB sc x && okN x && noStar e && es.all noStar) = true then (rec (.a sc (e :: es))).map (.call i) else none
  | _, _ => none
/-- a call of what a slot holds -/
def eFv (T : Tb) (N : List Str) (rec : Rec) (sc : Scope) (x : Str) (l : List Expr) : Option IE := match l with
  | e :: es => if (T.fv && visB sc x && okN x && noStar e && es.all noStar) = true then (ixS x N).bind fun i => (rec (.a sc (e :: es))).map (.callv i) else none
  | [] => none
def eB1 (T : Tb) (rec : Rec) (sc : Scope) (x : Str) (e : Expr) : Option IE := if (bn T sc x && noStar e) = true then (rec (.e sc e)).bind fun a => bf1 x a else none
def eB2 (T : Tb) (rec : Rec) (sc : Scope) (x : Str) (e f : Expr) : Option IE := if (bn T sc x && noStar e && noStar f) = true then
    (if x = "min" then (rec (.e sc e)).bind fun a => (rec (.e sc f)).map fun b => .blt2 .min a b
    else if x = "max" then (rec (.e sc e)).bind fun a => (rec (.e sc f)).map fun b => .blt2 .max a b
    else none) else none
def eIsi (T : Tb) (rec : Rec) (sc : Scope) (x : Str) (e t : Expr) : Option IE := if x = "isinstance" then (if (bn T sc x && noStar e) = true then (match t with
    | .Name u _ => if bn T sc u = true then (tyOf u).bind fun t => (rec (.e sc e)).map fun a => .isi t a else none
    | .Tuple [.Name u _, .Name v _] _ _ => if (bn T sc u && bn T sc v) = true then (tyOf u).bind fun t => (tyOf v).bind fun t' => (rec (.e sc e)).map fun a => .isi2 t t' a else none
    | _ => none) else none) else none
def eTr (T : Tb) (rec : Rec) (sc : Scope) (x y : Str) (e : Expr) : Option IE := if x = "tuple" then (if y = "range" then (if (bn T sc x && bn T sc y && noStar e) = true then (rec (.e sc e)).map .tupR else none) else none) else none
def eGet1 (rec : Rec) (sc : Scope) (o k : Expr) (m : Str) (ap cp : Pos) : Option IE := if (metC o && noStar k && ap.endLine == cp.line) = true then (if m = "get" then (rec (.e sc o)).bind fun a => (rec (.e sc k)).map fun b => .get1 a b else if m = "index" then (rec (.e sc o)).bind fun a => (rec (.e sc k)).map fun b => .ind a b else if m = "count" then (rec (.e sc o)).bind fun a => (rec (.e sc k)).map fun b => .cnt a b else none) else none
def eGet2 (rec : Rec) (sc : Scope) (o k z : Expr) (m : Str) (ap cp : Pos) : Option IE := if m = "get" then (if (metC o && noStar k && noStar z && ap.endLine == cp.line) = true then (rec (.e sc o)).bind fun a => (rec (.e sc k)).bind fun b => (rec (.e sc z)).map fun c => .get2 a b c else none) else none

/-- sorted(set(e)), list(range(e)) -/
def eNew1 (T : Tb) (rec : Rec) (sc : Scope) (x y : Str) (e : Expr) : Option IE := if (bn T sc x && bn T sc y && noStar e) = true then
    (if x = "sorted" then (if y = "set" then (rec (.e sc e)).map .sset else none)
    else if x = "list" then (if y = "range" then (rec (.e sc e)).map .lstR1 else none) else none) else none
def eNew2 (T : Tb) (rec : Rec) (sc : Scope) (x y : Str) (e f : Expr) : Option IE := if (bn T sc x && bn T sc y && noStar e && noStar f) = true then
    (if x = "list" then (if y = "range" then (rec (.e sc e)).bind fun a => (rec (.e sc f)).map fun b => .lstR2 a b else none) else none) else none
def eTr2 (T : Tb) (rec : Rec) (sc : Scope) (x y : Str) (e f : Expr) : Option IE := if (bn T sc x && bn T sc y && noStar e && noStar f) = true then
    (if x = "tuple" then (if y = "range" then (rec (.e sc e)).bind fun a => (rec (.e sc f)).map fun b => .tupR2 a b else none) else none) else none
/-- the lambda's scope, by its look -/
def lamScB (x : Str) (s : Scope) : Bool := decide (s.kind = .function) && !s.isCoroutine && !s.isGenerator && decide (s.names = [(x, .local), ("len", .globalImplicit)]) && !decide (x = "len") && !(x == ("__debug__" : Str))
theorem lamSc_by {x : Str} {s : Scope} (h : lamScB x s = true) : LamSc x s := by
  unfold lamScB at h
  simp only [Bool.and_eq_true, Bool.not_eq_true', decide_eq_true_eq, decide_eq_false_iff_not] at h
  exact ⟨h.1.1.1.1.1, h.1.1.1.1.2, h.1.1.1.2, h.1.1.2, h.1.2, h.2⟩
theorem lam_bind (x : Str) (an : Option Expr) (p : Pos) (qual : Str) (body : Expr) (scope : Scope) (cl : List (Str × Addr)) (pm ctv : Value) (c' : Addr) (v : Value) : bindArgs (PySem.W.kla_fn "<lambda>" qual ⟨[], [⟨x, an, p⟩], none, [], [], none, []⟩ body scope cl pm (.ref c') ctv) ⟨[v], []⟩ = pure [(x, v)] := by
  unfold bindArgs
  simp [PySem.W.kla_fn, PySem.seqItems?]
  rfl
/-- sorted(e, key=lambda x: (len(x), x)) -/
def eSrtK (T : Tb) (rec : Rec) (sc : Scope) (f : Str) (e : Expr) (kws : List Keyword) : Option IE := match kws with
  | [⟨some k, .Lambda ⟨[], [⟨x, _, _⟩], none, [], [], none, []⟩ (.Tuple [.Call (.Name ln _) [.Name a _] [] _, .Name b _] _ _) s _, _⟩] =>
    if (T.lm && decide (f = "sorted") && decide (k = "key") && decide (ln = "len") && decide (a = x) && decide (b = x) && bn T sc f && noStar e && inL "len" T.fr && lamScB x s) = true then (rec (.e sc e)).map .srtK else none
  | _ => none

def lamFB (x : Str) (s : Scope) : Bool := decide (s.kind = .function) && !s.isCoroutine && !s.isGenerator && (s.names.all fun y => !(y.2 == .cell)) && (s.names.lookup x == some .local) && !(x == ("__debug__" : Str))
theorem lamF_by {x : Str} {s : Scope} (h : lamFB x s = true) : LamF x s := by
  unfold lamFB at h
  simp only [Bool.and_eq_true, Bool.not_eq_true', decide_eq_true_eq, beq_iff_eq] at h
  exact ⟨h.1.1.1.1.1, h.1.1.1.1.2, h.1.1.1.2, fun y hy z => (by
    have := List.all_eq_true.mp h.1.1.2 y hy
    rw [z] at this
    exact absurd this (by decide)), h.1.2, h.2⟩
/-- min(e, key=lambda a: a[c]), max(e, key=lambda n: (ws[n], n)) -/
def eKey (T : Tb) (N : List Str) (rec : Rec) (sc : Scope) (f : Str) (e : Expr) (kws : List Keyword) : Option IE := match kws with
  | [⟨some k, .Lambda ⟨[], [⟨x, _, _⟩], none, [], [], none, []⟩ (.Subscript (.Name a _) (.Constant (.int c) _ _) _) s _, _⟩] =>
    if (T.lm && decide (f = "min") && decide (k = "key") && decide (a = x) && bn T sc f && noStar e && lamFB x s && (s.names.all fun y => !(y.2 == .free)) && decide (0 ≤ c) && decide (c < 100)) = true then (rec (.e sc e)).map (.minK c.toNat) else none
  | [⟨some k, .Lambda ⟨[], [⟨x, _, _⟩], none, [], [], none, []⟩ (.Tuple [.Subscript (.Name w _) (.Name a _) _, .Name b _] _ _) s _, _⟩] =>
    if (T.lm && decide (f = "max") && decide (k = "key") && decide (a = x) && decide (b = x) && bn T sc f && noStar e && lamFB x s && (sc.names.lookup w == some .cell) && (s.names.all fun y => !(y.2 == .free) || y.1 == w) && (s.names.lookup w == some .free) && (s.names.any fun y => y.1 == w && y.2 == .free) && okN w) = true then (ixS w N).bind fun i => (rec (.e sc e)).map (.maxK i) else none
  | _ => none
section
variable {aR : AR} {F : Fns} {T : Tb} {N : List Str} {X : Cx} {sc : Scope} {rec : Rec} {ie : IE} {p pos : Pos}
/-- both readings -/
theorem both {e : Expr} (h : PE X e (tEv aR X.K F ie)) (hv : isV ie = false) (hr : PE X e (tRx aR X.K F (EX X) ie) := by exact rz_no fun _ _ => (by first | rfl | (unfold rx; split <;> rfl) | (unfold rx; split <;> first | rfl | (unfold rx; split <;> rfl)))) : PE X e (tEv aR X.K F ie) ∧ PE X e (tEvC aR X.K F ie) ∧ PE X e (tRx aR X.K F (EX X) ie) := ⟨h, c_of h hv, hr⟩
theorem eName_ok {x : Str} (G : Good aR F T N X sc) (h : eName T N sc x = some ie) : PE X (.Name x p) (tEv aR X.K F ie) ∧ PE X (.Name x p) (tEvC aR X.K F ie) ∧ PE X (.Name x p) (tRx aR X.K F (EX X) ie) := by
  unfold eName at h
  split at h
  · rename_i ho
    obtain ⟨h1, h2⟩ := okN_ok ho
    split at h
    · rename_i hv
      obtain ⟨i, e1, rfl⟩ := Option.map_eq_some_iff.mp h
      have hN : X.N[i]? = some x := by rw [G.n]; exact ixS_ok e1
      exact ⟨v_var hN (G.vis hv) h1 h2, v_varC hN (G.vis hv) h1 h2, rz_no fun _ _ => rfl⟩
    · split at h
      · rename_i hg
        split at h
        · rename_i n e1
          cases h
          obtain ⟨t, ht⟩ := G.gi x n (lookG_ok e1)
          exact both (v_gint (G.gl hg) ht h1) rfl
        · split at h
          · rename_i hfv
            obtain ⟨q, e1, rfl⟩ := Option.map_eq_some_iff.mp h
            obtain ⟨k, np⟩ := q
            obtain ⟨g, m1, m2⟩ := G.fv hfv k x np (lookF_ok e1)
            exact both (v_fnv (G.gl hg) m1 m2 h1) rfl
          · cases h
      · cases h
  · cases h
theorem stars_none : ∀ {es : List Expr} {env : PySem.Env} {pos : Pos}, es.all noStar = true → (backTo pos (starEach es env)).any (·.1) = false
  | [], _, _, _ => rfl
  | e :: es, env, pos, h => by
    rw [List.all_cons, Bool.and_eq_true] at h
    rw [star_of h.1]
    exact stars_none h.2
variable (R : ∀ q ie, rec q = some ie → Snd aR F T N q ie)
include R
theorem reX {e : Expr} (G : Good aR F T N X sc) (h : rec (.e sc e) = some ie) : PE X e (tRx aR X.K F (EX X) ie) := (R _ _ h X G).2.2
theorem re {e : Expr} (G : Good aR F T N X sc) (h : rec (.e sc e) = some ie) : PE X e (tEv aR X.K F ie) := (R _ _ h X G).1
theorem reC {e : Expr} (G : Good aR F T N X sc) (h : rec (.e sc e) = some ie) : PE X e (tEvC aR X.K F ie) := (R _ _ h X G).2.1
theorem eOp_ok {a b : Expr} {o : Operator} (G : Good aR F T N X sc) (h : eOp rec sc o a b = some ie) : PE X (.BinOp a o b pos) (tEv aR X.K F ie) ∧ PE X (.BinOp a o b pos) (tEvC aR X.K F ie) ∧ PE X (.BinOp a o b pos) (tRx aR X.K F (EX X) ie) := by
  unfold eOp at h
  obtain ⟨o', h1, h⟩ := Option.bind_eq_some_iff.mp h
  obtain ⟨x, h2, h⟩ := Option.bind_eq_some_iff.mp h
  obtain ⟨y, h3, rfl⟩ := Option.map_eq_some_iff.mp h
  exact both (v_op (opOf2_ok h1) (reC R G h2) (reC R G h3)) rfl
theorem eIx_ok {a i : Expr} (G : Good aR F T N X sc) (h : eIx rec sc a i = some ie) : PE X (.Subscript a i pos) (tEv aR X.K F ie) ∧ PE X (.Subscript a i pos) (tEvC aR X.K F ie) ∧ PE X (.Subscript a i pos) (tRx aR X.K F (EX X) ie) := by
  unfold eIx at h
  split at h
  · rename_i hs
    obtain ⟨x, h2, h⟩ := Option.bind_eq_some_iff.mp h
    obtain ⟨y, h3, rfl⟩ := Option.map_eq_some_iff.mp h
    have hp := plain_ix hs
    exact both (v_alt (v_idx hp.1 (reC R G h2) (reC R G h3)) (v_dget (by have := G.units; omega) hp.2 (reC R G h2) (reC R G h3))) rfl (x_alt (x_idx hp.1 (reX R G h2) (reC R G h3)) (x_dget (by have := G.units; omega) hp.2 (reX R G h2) (reC R G h3)))
  · cases h
theorem eSl_ok {a : Expr} {lo hi : Option Expr} {p2 : Pos} (G : Good aR F T N X sc) (h : eSl rec sc a lo hi = some ie) : PE X (.Subscript a (.Slice lo hi none p2) pos) (tEv aR X.K F ie) ∧ PE X (.Subscript a (.Slice lo hi none p2) pos) (tEvC aR X.K F ie) ∧ PE X (.Subscript a (.Slice lo hi none p2) pos) (tRx aR X.K F (EX X) ie) := by
  unfold eSl at h
  obtain ⟨x, h2, h⟩ := Option.bind_eq_some_iff.mp h
  obtain ⟨y, h3, h⟩ := Option.bind_eq_some_iff.mp h
  obtain ⟨z, h4, rfl⟩ := Option.map_eq_some_iff.mp h
  exact both (v_slc (reC R G h2) (R _ _ h3 X G) (R _ _ h4 X G)) rfl
theorem eFn_ok {x : Str} {l : List Expr} (G : Good aR F T N X sc) (h : eFn T rec sc x l = some ie) : PE X (.Call (.Name x p) l [] pos) (tEv aR X.K F ie) ∧ PE X (.Call (.Name x p) l [] pos) (tEvC aR X.K F ie) ∧ PE X (.Call (.Name x p) l [] pos) (tRx aR X.K F (EX X) ie) := by
  unfold eFn at h
  split at h
  · rename_i i np e es hl
    split at h
    · rename_i hb
      simp only [Bool.and_eq_true] at hb
      obtain ⟨a, h2, rfl⟩ := Option.map_eq_some_iff.mp h
      obtain ⟨k, g, fd, ps, m1, m2, m3, m4, m5, m6⟩ := G.fs i x np (lookF_ok hl)
      exact both (v_call m4 m6 m5 (G.gl hb.1.1.1) m1 m2 m3 (R _ _ h2 X G).1 (okN_ok hb.1.1.2).1 (star_of hb.1.2 es X.env) (stars_none hb.2)) rfl (x_call m4 m6 m5 (G.gl hb.1.1.1) m1 m2 m3 (R _ _ h2 X G).1 (R _ _ h2 X G).2 (okN_ok hb.1.1.2).1 (star_of hb.1.2 es X.env) (stars_none hb.2))
    · cases h
  · cases h
theorem eFv_ok {x : Str} {l : List Expr} (G : Good aR F T N X sc) (h : eFv T N rec sc x l = some ie) : PE X (.Call (.Name x p) l [] pos) (tEv aR X.K F ie) ∧ PE X (.Call (.Name x p) l [] pos) (tEvC aR X.K F ie) ∧ PE X (.Call (.Name x p) l [] pos) (tRx aR X.K F (EX X) ie) := by
  unfold eFv at h
  split at h
  · rename_i e es
    split at h
    · rename_i hb
      simp only [Bool.and_eq_true] at hb
      obtain ⟨i, h1, h⟩ := Option.bind_eq_some_iff.mp h
      obtain ⟨a, h2, rfl⟩ := Option.map_eq_some_iff.mp h
      obtain ⟨o1, o2⟩ := okN_ok hb.1.1.2
      have hN : X.N[i]? = some x := by rw [G.n]; exact ixS_ok h1
      exact both (v_callv hN (G.vis hb.1.1.1.2) o1 o2 G.fw (R _ _ h2 X G).1 (star_of hb.1.2 es X.env) (stars_none hb.2)) rfl (x_callv hN (G.vis hb.1.1.1.2) o1 o2 G.fw (R _ _ h2 X G).1 (star_of hb.1.2 es X.env) (stars_none hb.2))
    · cases h
  · cases h
theorem eB1_ok {x : Str} {e : Expr} (G : Good aR F T N X sc) (h : eB1 T rec sc x e = some ie) : PE X (.Call (.Name x p) [e] [] pos) (tEv aR X.K F ie) ∧ PE X (.Call (.Name x p) [e] [] pos) (tEvC aR X.K F ie) ∧ PE X (.Call (.Name x p) [e] [] pos) (tRx aR X.K F (EX X) ie) := by
  unfold eB1 at h
  split at h
  · rename_i hb
    rw [Bool.and_eq_true] at hb
    obtain ⟨a, h2, h⟩ := Option.bind_eq_some_iff.mp h
    refine both (bf1_ok G hb.1 hb.2 (reC R G h2) h) ?_ (bf1_x G hb.1 hb.2 (reX R G h2) h)
    unfold bf1 at h
    repeat (split at h; · cases h; rfl)
    cases h
  · cases h
theorem eB2_ok {x : Str} {e f : Expr} (G : Good aR F T N X sc) (h : eB2 T rec sc x e f = some ie) : PE X (.Call (.Name x p) [e, f] [] pos) (tEv aR X.K F ie) ∧ PE X (.Call (.Name x p) [e, f] [] pos) (tEvC aR X.K F ie) ∧ PE X (.Call (.Name x p) [e, f] [] pos) (tRx aR X.K F (EX X) ie) := by
  unfold eB2 at h
  split at h
  · rename_i hb
    simp only [Bool.and_eq_true] at hb
    obtain ⟨hg, hm⟩ := bn_ok G hb.1.1
    split at h
    · rename_i ex; subst ex
      obtain ⟨a, h2, h⟩ := Option.bind_eq_some_iff.mp h
      obtain ⟨b, h3, rfl⟩ := Option.map_eq_some_iff.mp h
      exact both (v_min2 G.calm hg hm (reC R G h2) (reC R G h3) (star_of hb.1.2 _ _) (star_of hb.2 _ _)) rfl
    · split at h
      · rename_i ex; subst ex
        obtain ⟨a, h2, h⟩ := Option.bind_eq_some_iff.mp h
        obtain ⟨b, h3, rfl⟩ := Option.map_eq_some_iff.mp h
        exact both (v_max2 G.calm hg hm (reC R G h2) (reC R G h3) (star_of hb.1.2 _ _) (star_of hb.2 _ _)) rfl
      · cases h
  · cases h
theorem eIsi_ok {x : Str} {e t : Expr} (G : Good aR F T N X sc) (h : eIsi T rec sc x e t = some ie) : PE X (.Call (.Name x p) [e, t] [] pos) (tEv aR X.K F ie) ∧ PE X (.Call (.Name x p) [e, t] [] pos) (tEvC aR X.K F ie) ∧ PE X (.Call (.Name x p) [e, t] [] pos) (tRx aR X.K F (EX X) ie) := by
  unfold eIsi at h
  split at h
  · rename_i ex; subst ex
    split at h
    · rename_i hb
      simp only [Bool.and_eq_true] at hb
      obtain ⟨hg, hm⟩ := bn_ok G hb.1
      split at h
      · split at h
        · rename_i hu
          obtain ⟨t, h1, h⟩ := Option.bind_eq_some_iff.mp h
          obtain ⟨a, h2, rfl⟩ := Option.map_eq_some_iff.mp h
          have eu := tyOf_ok h1
          subst eu
          obtain ⟨hg2, hm2⟩ := bn_ok G hu
          exact both (v_isi hg hm hg2 hm2 (reC R G h2) (star_of hb.2 _ _)) rfl
        · cases h
      · split at h
        · rename_i hu
          rw [Bool.and_eq_true] at hu
          obtain ⟨t, h1, h⟩ := Option.bind_eq_some_iff.mp h
          obtain ⟨t', h1', h⟩ := Option.bind_eq_some_iff.mp h
          obtain ⟨a, h2, rfl⟩ := Option.map_eq_some_iff.mp h
          have eu := tyOf_ok h1
          have eu' := tyOf_ok h1'
          subst eu eu'
          obtain ⟨hg2, hm2⟩ := bn_ok G hu.1
          obtain ⟨hg3, hm3⟩ := bn_ok G hu.2
          exact both (v_isi2 hg hm hg2 hm2 hg3 hm3 (reC R G h2) (star_of hb.2 _ _)) rfl
        · cases h
      · cases h
    · cases h
  · cases h
theorem eTr_ok {x y : Str} {e : Expr} {p2 pos2 : Pos} (G : Good aR F T N X sc) (h : eTr T rec sc x y e = some ie) : PE X (.Call (.Name x p) [.Call (.Name y p2) [e] [] pos2] [] pos) (tEv aR X.K F ie) ∧ PE X (.Call (.Name x p) [.Call (.Name y p2) [e] [] pos2] [] pos) (tEvC aR X.K F ie) ∧ PE X (.Call (.Name x p) [.Call (.Name y p2) [e] [] pos2] [] pos) (tRx aR X.K F (EX X) ie) := by
  unfold eTr at h
  split at h
  · rename_i ex; subst ex
    split at h
    · rename_i ey; subst ey
      split at h
      · rename_i hb
        simp only [Bool.and_eq_true] at hb
        obtain ⟨a, h2, rfl⟩ := Option.map_eq_some_iff.mp h
        obtain ⟨hg, hm⟩ := bn_ok G hb.1.1
        obtain ⟨hg2, hm2⟩ := bn_ok G hb.1.2
        exact both (v_tupR G.calm hg hm hg2 hm2 (reC R G h2) (star_of hb.2 _ _)) rfl
      · cases h
    · cases h
  · cases h
theorem eGet1_ok {o k : Expr} {m : Str} {ap cp : Pos} (G : Good aR F T N X sc) (h : eGet1 rec sc o k m ap cp = some ie) : PE X (.Call (.Attribute o m ap) [k] [] cp) (tEv aR X.K F ie) ∧ PE X (.Call (.Attribute o m ap) [k] [] cp) (tEvC aR X.K F ie) ∧ PE X (.Call (.Attribute o m ap) [k] [] cp) (tRx aR X.K F (EX X) ie) := by
  unfold eGet1 at h
  split at h
  · rename_i hb
    simp only [Bool.and_eq_true] at hb
    split at h
    · rename_i em; subst em
      obtain ⟨a, h2, h⟩ := Option.bind_eq_some_iff.mp h
      obtain ⟨b, h3, rfl⟩ := Option.map_eq_some_iff.mp h
      exact both (v_get1 (by have := G.units; omega) (m1_of hb.1.1 hb.1.2 hb.2) (reC R G h2) (reC R G h3)) rfl
    split at h
    · rename_i em; subst em
      obtain ⟨a, h2, h⟩ := Option.bind_eq_some_iff.mp h
      obtain ⟨b, h3, rfl⟩ := Option.map_eq_some_iff.mp h
      exact both (v_ind G.units (m1_of hb.1.1 hb.1.2 hb.2) (star_of hb.1.2 _ _) (reC R G h2) (reC R G h3)) rfl
    split at h
    · rename_i em; subst em
      obtain ⟨a, h2, h⟩ := Option.bind_eq_some_iff.mp h
      obtain ⟨b, h3, rfl⟩ := Option.map_eq_some_iff.mp h
      exact both (v_cnt (m1_of hb.1.1 hb.1.2 hb.2) (star_of hb.1.2 _ _) (reC R G h2) (reC R G h3)) rfl
    · cases h
  · cases h
theorem eGet2_ok {o k z : Expr} {m : Str} {ap cp : Pos} (G : Good aR F T N X sc) (h : eGet2 rec sc o k z m ap cp = some ie) : PE X (.Call (.Attribute o m ap) [k, z] [] cp) (tEv aR X.K F ie) ∧ PE X (.Call (.Attribute o m ap) [k, z] [] cp) (tEvC aR X.K F ie) ∧ PE X (.Call (.Attribute o m ap) [k, z] [] cp) (tRx aR X.K F (EX X) ie) := by
  unfold eGet2 at h
  split at h
  · rename_i em; subst em
    split at h
    · rename_i hb
      simp only [Bool.and_eq_true] at hb
      obtain ⟨a, h2, h⟩ := Option.bind_eq_some_iff.mp h
      obtain ⟨b, h3, h⟩ := Option.bind_eq_some_iff.mp h
      obtain ⟨c, h4, rfl⟩ := Option.map_eq_some_iff.mp h
      exact both (v_get2 (by have := G.units; omega) (m2_of hb.1.1.1 hb.1.1.2 hb.1.2 hb.2) (reC R G h2) (reC R G h3) (re R G h4)) rfl
    · cases h
  · cases h
theorem eNew1_ok {x y : Str} {e : Expr} {p2 pos2 : Pos} (G : Good aR F T N X sc) (h : eNew1 T rec sc x y e = some ie) : PE X (.Call (.Name x p) [.Call (.Name y p2) [e] [] pos2] [] pos) (tEvF aR X.K F ie) ∧ isV ie = false ∧ noRx ie = true := by
  unfold eNew1 at h
  split at h
  · rename_i hb
    simp only [Bool.and_eq_true] at hb
    obtain ⟨hg, hm⟩ := bn_ok G hb.1.1
    obtain ⟨hg2, hm2⟩ := bn_ok G hb.1.2
    split at h
    · rename_i ex; subst ex
      split at h
      · rename_i ey; subst ey
        obtain ⟨a, h2, rfl⟩ := Option.map_eq_some_iff.mp h
        exact ⟨f_sset G.calm hg hm hg2 hm2 (reC R G h2) (star_of hb.2 _ _), rfl, rfl⟩
      · cases h
    · split at h
      · rename_i ex; subst ex
        split at h
        · rename_i ey; subst ey
          obtain ⟨a, h2, rfl⟩ := Option.map_eq_some_iff.mp h
          exact ⟨f_lstR1 G.calm hg hm hg2 hm2 (reC R G h2) (star_of hb.2 _ _), rfl, rfl⟩
        · cases h
      · cases h
  · cases h
theorem eSrtK_ok {f : Str} {e : Expr} {kws : List Keyword} (G : Good aR F T N X sc) (h : eSrtK T rec sc f e kws = some ie) : PE X (.Call (.Name f p) [e] kws pos) (tEvF aR X.K F ie) ∧ isV ie = false ∧ noRx ie = true := by
  unfold eSrtK at h
  split at h
  · split at h
    · rename_i hb
      simp only [Bool.and_eq_true, decide_eq_true_eq] at hb
      obtain ⟨⟨⟨⟨⟨⟨⟨⟨⟨h1, h2⟩, h3⟩, h4⟩, h5⟩, h6⟩, h7⟩, h8⟩, h9⟩, h10⟩ := hb
      subst h2; subst h3; subst h4; subst h5; subst h6
      obtain ⟨a, h11, rfl⟩ := Option.map_eq_some_iff.mp h
      obtain ⟨hg, hm⟩ := bn_ok G h7
      obtain ⟨hdp, c, P, k1, k2, k3, k4⟩ := G.tb h1
      exact ⟨f_srtK G.calm G.units hdp hg hm (G.fr _ (inL_ok h9)) k2 k1 k3 k4 (lamSc_by h10) rfl (fun pm ctv c' v => lam_bind _ _ _ _ _ _ _ pm ctv c' v) (star_of h8 _ _) (reC R G h11), rfl, rfl⟩
    · cases h
  · cases h
theorem eKey_ok {f : Str} {e : Expr} {kws : List Keyword} (G : Good aR F T N X sc) (h : eKey T N rec sc f e kws = some ie) : PE X (.Call (.Name f p) [e] kws pos) (tEv aR X.K F ie) ∧ PE X (.Call (.Name f p) [e] kws pos) (tEvC aR X.K F ie) ∧ PE X (.Call (.Name f p) [e] kws pos) (tRx aR X.K F (EX X) ie) := by
  unfold eKey at h
  split at h
  · split at h
    · rename_i hb
      simp only [Bool.and_eq_true, decide_eq_true_eq] at hb
      obtain ⟨⟨⟨⟨⟨⟨⟨⟨⟨h1, h2⟩, h3⟩, h4⟩, h5⟩, h6⟩, h7⟩, h8⟩, h9⟩, h10⟩ := hb
      subst h2; subst h3; subst h4
      obtain ⟨a, h11, rfl⟩ := Option.map_eq_some_iff.mp h
      obtain ⟨hg, hm⟩ := bn_ok G h5
      obtain ⟨hdp, c, P, k1, k2, k3, k4⟩ := G.tb h1
      rename_i ci _ _ _ _ _ _ _ _ _ _
      obtain ⟨cn, rfl⟩ := Int.eq_ofNat_of_zero_le h9
      exact both (v_minK (cn := cn) G.calm G.units hdp hg hm k2 k1 k3 k4 (lamF_by h7) (fun y hy z => by
        have := List.all_eq_true.mp h8 y hy
        rw [z] at this
        cases this) (by omega) rfl (fun pm ctv c' v => lam_bind _ _ _ _ _ _ _ pm ctv c' v) (star_of h6 _ _) (reC R G h11)) rfl
    · cases h
  · split at h
    · rename_i hb
      simp only [Bool.and_eq_true, decide_eq_true_eq, beq_iff_eq] at hb
      obtain ⟨⟨⟨⟨⟨⟨⟨⟨⟨⟨⟨⟨h1, h2⟩, h3⟩, h4⟩, h5⟩, h6⟩, h7⟩, h8⟩, h9⟩, h10⟩, h11⟩, h12⟩, h13⟩ := hb
      subst h2; subst h3; subst h4; subst h5
      obtain ⟨i, hi, h⟩ := Option.bind_eq_some_iff.mp h
      obtain ⟨a, h14, rfl⟩ := Option.map_eq_some_iff.mp h
      obtain ⟨hg, hm⟩ := bn_ok G h6
      obtain ⟨hdp, c, P, k1, k2, k3, k4⟩ := G.tb h1
      obtain ⟨o1, o2⟩ := okN_ok h13
      obtain ⟨yw, hyw, hyw2⟩ := List.any_eq_true.mp h12
      rw [Bool.and_eq_true, beq_iff_eq] at hyw2
      have eyw : yw.2 = .free := by
        cases hz : yw.2 <;> first | rfl | (rw [hz] at hyw2; exact absurd hyw2.2 (by decide))
      exact both (v_maxK (i := i) G.calm G.units hdp hg hm k2 k1 k3 k4 (lamF_by h8) (by rw [G.n]; exact ixS_ok hi) (by rw [G.scope]; exact h9) (fun y hy z => by
        have := List.all_eq_true.mp h10 y hy
        rw [z] at this
        simpa using this) (by have := hyw; rw [← hyw2.1, ← eyw]; exact this) h11 o1 o2 rfl (fun pm ctv c' v => lam_bind _ _ _ _ _ _ _ pm ctv c' v) (star_of h7 _ _) (reC R G h14)) rfl
    · cases h
  · cases h
theorem eNew2_ok {x y : Str} {e f : Expr} {p2 pos2 : Pos} (G : Good aR F T N X sc) (h : eNew2 T rec sc x y e f = some ie) : PE X (.Call (.Name x p) [.Call (.Name y p2) [e, f] [] pos2] [] pos) (tEvF aR X.K F ie) ∧ isV ie = false ∧ noRx ie = true := by
  unfold eNew2 at h
  split at h
  · rename_i hb
    simp only [Bool.and_eq_true] at hb
    obtain ⟨hg, hm⟩ := bn_ok G hb.1.1.1
    obtain ⟨hg2, hm2⟩ := bn_ok G hb.1.1.2
    split at h
    · rename_i ex; subst ex
      split at h
      · rename_i ey; subst ey
        obtain ⟨a, h2, h⟩ := Option.bind_eq_some_iff.mp h
        obtain ⟨b, h3, rfl⟩ := Option.map_eq_some_iff.mp h
        exact ⟨f_lstR2 G.calm hg hm hg2 hm2 (reC R G h2) (reC R G h3) (star_of hb.1.2 _ _) (star_of hb.2 _ _), rfl, rfl⟩
      · cases h
    · cases h
  · cases h
theorem eTr2_ok {x y : Str} {e f : Expr} {p2 pos2 : Pos} (G : Good aR F T N X sc) (h : eTr2 T rec sc x y e f = some ie) : PE X (.Call (.Name x p) [.Call (.Name y p2) [e, f] [] pos2] [] pos) (tEv aR X.K F ie) ∧ PE X (.Call (.Name x p) [.Call (.Name y p2) [e, f] [] pos2] [] pos) (tEvC aR X.K F ie) ∧ PE X (.Call (.Name x p) [.Call (.Name y p2) [e, f] [] pos2] [] pos) (tRx aR X.K F (EX X) ie) := by
  unfold eTr2 at h
  split at h
  · rename_i hb
    simp only [Bool.and_eq_true] at hb
    obtain ⟨hg, hm⟩ := bn_ok G hb.1.1.1
    obtain ⟨hg2, hm2⟩ := bn_ok G hb.1.1.2
    split at h
    · rename_i ex; subst ex
      split at h
      · rename_i ey; subst ey
        obtain ⟨a, h2, h⟩ := Option.bind_eq_some_iff.mp h
        obtain ⟨b, h3, rfl⟩ := Option.map_eq_some_iff.mp h
        exact both (v_tupR2 G.calm hg hm hg2 hm2 (reC R G h2) (reC R G h3) (star_of hb.1.2 _ _) (star_of hb.2 _ _)) rfl
      · cases h
    · cases h
  · cases h
end
end Wl
/-! Tests, lists of arguments, iterables, comprehensions, new things; the whole reading. -/
namespace Wl
open PySem PySem.Spec PyProof.Rows L2

/-! ### tests -/
def bCmp (rec : Rec) (sc : Scope) (o : CmpOp) (a b : Expr) : Option IE := match o, b with
  | .In, _ => if noSet b = true then (rec (.e sc a)).bind fun x => (rec (.e sc b)).map fun y => .alt (.inS false x y) (.inD false x y) else none
  | .NotIn, _ => if noSet b = true then (rec (.e sc a)).bind fun x => (rec (.e sc b)).map fun y => .alt (.inS true x y) (.inD true x y) else none
  | .Is, .Constant .none _ _ => (rec (.e sc a)).map (.isN false)
  | .IsNot, .Constant .none _ _ => (rec (.e sc a)).map (.isN true)
  | .Is, .Constant (.bool k) _ _ => (rec (.e sc a)).map (.isB false k)
  | .IsNot, .Constant (.bool k) _ _ => (rec (.e sc a)).map (.isB true k)
  | _, _ => (cmOf o).bind fun c => (rec (.e sc a)).bind fun x => (rec (.e sc b)).map fun y => .cmp c x y
def bCh (rec : Rec) (sc : Scope) (o o' : CmpOp) (a b c : Expr) : Option IE := (cmOf o).bind fun p => (cmOf o').bind fun p' => (rec (.e sc a)).bind fun x => (rec (.e sc b)).bind fun y => (rec (.e sc c)).map fun z => .chain p p' x y z
def bAny (rec : Rec) (sc : Scope) (x : Expr) : Option IE := match x with
  | .Compare a [o] [b] _ => bCmp rec sc o a b
  | .Compare a [o, o'] [b, c] _ => bCh rec sc o o' a b c
  | .UnaryOp .Not a _ => (rec (.b sc a)).map .not
  | .BoolOp op l _ => rec (.w sc op l)
  | x => if plainT x = true then rec (.e sc x) else none
def wAny (rec : Rec) (sc : Scope) (op : BoolOp) (l : List Expr) : Option IE := match op, l with
  | _, [x] => (rec (.b sc x)).map .one
  | .And, x :: y :: l => (rec (.b sc x)).bind fun a => (rec (.w sc .And (y :: l))).map (.and a)
  | .Or, x :: y :: l => (rec (.b sc x)).bind fun a => (rec (.w sc .Or (y :: l))).map (.or a)
  | _, _ => none
def aAny (rec : Rec) (sc : Scope) (l : List Expr) : Option IE := match l with
  | [] => some .nil
  | .Starred x _ :: l => (rec (.e sc x)).bind fun a => (rec (.a sc l)).map (.star a)
  | x :: l => if noStar x = true then (rec (.e sc x)).bind fun a => (rec (.a sc l)).map (.cons a) else none
def oAny (rec : Rec) (sc : Scope) (x : Option Expr) : Option IE := match x with
  | none => some .non
  | some x => (rec (.e sc x)).bind fun a => some (.op .add (.int 0) a)
/-! ### iterables -/
def isTupX : Expr → Bool
  | .Tuple _ _ _ => true
  | _ => false
def iAny (T : Tb) (rec : Rec) (sc : Scope) (tg x : Expr) : Option IE := match x with
  | .Call (.Name f p) [a] [] pos =>
    if f = "range" then (if (bn T sc f && noStar a) = true then (rec (.e sc a)).map .itR1 else none)
    else if f = "enumerate" then (if (bn T sc f && noStar a && isTupX tg) = true then (rec (.e sc a)).map .itE else none)
    else (rec (.e sc (.Call (.Name f p) [a] [] pos))).map .itL
  | .Call (.Name f p) [a, b] [] pos =>
    if f = "range" then (if (bn T sc f && noStar a && noStar b) = true then (rec (.e sc a)).bind fun x => (rec (.e sc b)).map fun y => .itR2 x y else none)
    else if f = "zip" then (if (bn T sc f && noStar a && noStar b && isTupX tg) = true then (rec (.e sc a)).bind fun x => (rec (.e sc b)).map fun y => .itZ x y else none)
    else (rec (.e sc (.Call (.Name f p) [a, b] [] pos))).map .itL
  | .Call (.Name f p) [a, b, c] [] pos =>
    if f = "range" then (if (bn T sc f && noStar a && noStar b && noStar c) = true then (rec (.e sc a)).bind fun x => (rec (.e sc b)).bind fun y => (rec (.e sc c)).map fun z => .itR3 x y z else none)
    else (rec (.e sc (.Call (.Name f p) [a, b, c] [] pos))).map .itL
  | x => (rec (.e sc x)).map .itL
section
variable {aR : AR} {F : Fns} {T : Tb} {N : List Str} {X : Cx} {sc : Scope} {rec : Rec} {ie : IE} {p pos : Pos}
variable (R : ∀ q ie, rec q = some ie → Snd aR F T N q ie)
include R
theorem bCmp_ok {o : CmpOp} {a b : Expr} (G : Good aR F T N X sc) (h : bCmp rec sc o a b = some ie) : PB X (.Compare a [o] [b] pos) (tEv aR X.K F ie) (tEvT aR X.K F ie) := by
  have hu := G.units
  unfold bCmp at h
  split at h
  · split at h
    · rename_i hs
      obtain ⟨x, h2, h⟩ := Option.bind_eq_some_iff.mp h
      obtain ⟨y, h3, rfl⟩ := Option.map_eq_some_iff.mp h
      exact b_alt (v_inS (n := false) hu (noSet_in hs) (reC R G h2) (reC R G h3)) (v_inD (n := false) (by omega) (noSet_in hs) (reC R G h2) (reC R G h3))
    · cases h
  · split at h
    · rename_i hs
      obtain ⟨x, h2, h⟩ := Option.bind_eq_some_iff.mp h
      obtain ⟨y, h3, rfl⟩ := Option.map_eq_some_iff.mp h
      exact b_alt (v_inS (n := true) hu (noSet_in hs) (reC R G h2) (reC R G h3)) (v_inD (n := true) (by omega) (noSet_in hs) (reC R G h2) (reC R G h3))
    · cases h
  · obtain ⟨x, h2, rfl⟩ := Option.map_eq_some_iff.mp h
    exact v_isN (n := false) (reC R G h2)
  · obtain ⟨x, h2, rfl⟩ := Option.map_eq_some_iff.mp h
    exact v_isN (n := true) (reC R G h2)
  · obtain ⟨x, h2, rfl⟩ := Option.map_eq_some_iff.mp h
    exact v_isB (n := false) (reC R G h2)
  · obtain ⟨x, h2, rfl⟩ := Option.map_eq_some_iff.mp h
    exact v_isB (n := true) (reC R G h2)
  · obtain ⟨c, h1, h⟩ := Option.bind_eq_some_iff.mp h
    obtain ⟨x, h2, h⟩ := Option.bind_eq_some_iff.mp h
    obtain ⟨y, h3, rfl⟩ := Option.map_eq_some_iff.mp h
    exact v_cmp (by omega) (cmOf_ok h1) (reC R G h2) (reC R G h3)
theorem bCh_ok {o o' : CmpOp} {a b c : Expr} (G : Good aR F T N X sc) (h : bCh rec sc o o' a b c = some ie) : PB X (.Compare a [o, o'] [b, c] pos) (tEv aR X.K F ie) (tEvT aR X.K F ie) := by
  have hu := G.units
  unfold bCh at h
  obtain ⟨c, h1, h⟩ := Option.bind_eq_some_iff.mp h
  obtain ⟨c', h1', h⟩ := Option.bind_eq_some_iff.mp h
  obtain ⟨x, h2, h⟩ := Option.bind_eq_some_iff.mp h
  obtain ⟨y, h3, h⟩ := Option.bind_eq_some_iff.mp h
  obtain ⟨z, h4, rfl⟩ := Option.map_eq_some_iff.mp h
  exact v_chain (by omega) (cmOf_ok h1) (cmOf_ok h1') (reC R G h2) (reC R G h3) (reC R G h4)
theorem bAny_ok {x : Expr} (G : Good aR F T N X sc) (h : bAny rec sc x = some ie) : PB X x (tEv aR X.K F ie) (tEvT aR X.K F ie) := by
  unfold bAny at h
  split at h
  · exact bCmp_ok R G h
  · exact bCh_ok R G h
  · obtain ⟨a, h2, rfl⟩ := Option.map_eq_some_iff.mp h
    exact v_not (R _ _ h2 X G)
  · obtain ⟨_, _, _, h2⟩ := R _ _ h X G
    exact (h2 _).pb
  · split at h
    · rename_i hp
      exact v_b (re R G h) (plainT_ok hp)
    · cases h
theorem wAny_ok {op : BoolOp} {l : List Expr} (G : Good aR F T N X sc) (h : wAny rec sc op l = some ie) : ∃ x l', l = x :: l' ∧ ∀ pos, PBW X (.BoolOp op l pos) (tEv aR X.K F ie) (tEvT aR X.K F ie) := by
  unfold wAny at h
  split at h
  · obtain ⟨a, h2, rfl⟩ := Option.map_eq_some_iff.mp h
    exact ⟨_, _, rfl, fun pos => v_one (R _ _ h2 X G)⟩
  · obtain ⟨a, h2, h⟩ := Option.bind_eq_some_iff.mp h
    obtain ⟨b, h3, rfl⟩ := Option.map_eq_some_iff.mp h
    obtain ⟨_, _, _, h4⟩ := R _ _ h3 X G
    exact ⟨_, _, rfl, fun pos => v_and (R _ _ h2 X G) (h4 pos)⟩
  · obtain ⟨a, h2, h⟩ := Option.bind_eq_some_iff.mp h
    obtain ⟨b, h3, rfl⟩ := Option.map_eq_some_iff.mp h
    obtain ⟨_, _, _, h4⟩ := R _ _ h3 X G
    exact ⟨_, _, rfl, fun pos => v_or (R _ _ h2 X G) (h4 pos)⟩
  · cases h
theorem aAny_ok {l : List Expr} (G : Good aR F T N X sc) (h : aAny rec sc l = some ie) : PA X l (tEvA aR X.K F ie) ∧ PA X l (tRxA aR X.K F (EX X) ie) := by
  unfold aAny at h
  split at h
  · cases h; exact ⟨a_nil, rzA_no fun _ _ => rfl⟩
  · obtain ⟨a, h2, h⟩ := Option.bind_eq_some_iff.mp h
    obtain ⟨b, h3, rfl⟩ := Option.map_eq_some_iff.mp h
    exact ⟨a_star (reC R G h2) (R _ _ h3 X G).1, rzA_no fun _ _ => rfl⟩
  · split at h
    · rename_i hs
      obtain ⟨a, h2, h⟩ := Option.bind_eq_some_iff.mp h
      obtain ⟨b, h3, rfl⟩ := Option.map_eq_some_iff.mp h
      exact ⟨a_cons (re R G h2) (R _ _ h3 X G).1 (star_of hs _ _), xa_cons (re R G h2) (reX R G h2) (R _ _ h3 X G).1 (R _ _ h3 X G).2 (star_of hs _ _)⟩
    · cases h
theorem iAny_ok {tg x : Expr} (G : Good aR F T N X sc) (h : iAny T rec sc tg x = some ie) : PI X tg x (tEvI aR X.K F ie) ∧ PI X tg x (fun σ H _ => tRz aR X.K F (EX X) ie σ H) := by
  unfold iAny at h
  split at h
  · split at h
    · rename_i ef; subst ef
      split at h
      · rename_i hb
        rw [Bool.and_eq_true] at hb
        obtain ⟨a, h2, rfl⟩ := Option.map_eq_some_iff.mp h
        exact ⟨i_R1 (bn_ok G hb.1).1 (bn_ok G hb.1).2 (reC R G h2) (star_of hb.2 _ _), xi_no fun _ _ => rfl⟩
      · cases h
    · split at h
      · rename_i ef; subst ef
        split at h
        · rename_i hb
          simp only [Bool.and_eq_true] at hb
          obtain ⟨a, h2, rfl⟩ := Option.map_eq_some_iff.mp h
          cases tg <;> first | exact ⟨i_E (bn_ok G hb.1.1).1 (bn_ok G hb.1.1).2 (reC R G h2) (star_of hb.1.2 _ _), xi_no fun _ _ => rfl⟩ | exact absurd hb.2 (by simp [isTupX])
        · cases h
      · obtain ⟨a, h2, rfl⟩ := Option.map_eq_some_iff.mp h
        exact ⟨i_L (reC R G h2), xi_L (reX R G h2)⟩
  · split at h
    · rename_i ef; subst ef
      split at h
      · rename_i hb
        simp only [Bool.and_eq_true] at hb
        obtain ⟨a, h2, h⟩ := Option.bind_eq_some_iff.mp h
        obtain ⟨b, h3, rfl⟩ := Option.map_eq_some_iff.mp h
        exact ⟨i_R2 (bn_ok G hb.1.1).1 (bn_ok G hb.1.1).2 (reC R G h2) (reC R G h3) (by rw [star_of hb.1.2, star_of hb.2]; rfl) (star_of hb.2 _ _), xi_no fun _ _ => rfl⟩
      · cases h
    · split at h
      · rename_i ef; subst ef
        split at h
        · rename_i hb
          simp only [Bool.and_eq_true] at hb
          obtain ⟨a, h2, h⟩ := Option.bind_eq_some_iff.mp h
          obtain ⟨b, h3, rfl⟩ := Option.map_eq_some_iff.mp h
          cases tg <;> first | exact ⟨i_Z (bn_ok G hb.1.1.1).1 (bn_ok G hb.1.1.1).2 (reC R G h2) (reC R G h3) (star_of hb.1.1.2 _ _) (star_of hb.1.2 _ _), xi_no fun _ _ => rfl⟩ | exact absurd hb.2 (by simp [isTupX])
        · cases h
      · obtain ⟨a, h2, rfl⟩ := Option.map_eq_some_iff.mp h
        exact ⟨i_L (reC R G h2), xi_L (reX R G h2)⟩
  · split at h
    · rename_i ef; subst ef
      split at h
      · rename_i hb
        simp only [Bool.and_eq_true] at hb
        obtain ⟨a, h2, h⟩ := Option.bind_eq_some_iff.mp h
        obtain ⟨b, h3, h⟩ := Option.bind_eq_some_iff.mp h
        obtain ⟨c, h4, rfl⟩ := Option.map_eq_some_iff.mp h
        exact ⟨i_R3 (bn_ok G hb.1.1.1).1 (bn_ok G hb.1.1.1).2 (reC R G h2) (reC R G h3) (reC R G h4) (star_of hb.1.1.2 _ _) (star_of hb.1.2 _ _) (star_of hb.2 _ _), xi_no fun _ _ => rfl⟩
      · cases h
    · obtain ⟨a, h2, rfl⟩ := Option.map_eq_some_iff.mp h
      exact ⟨i_L (reC R G h2), xi_L (reX R G h2)⟩
  · obtain ⟨a, h2, rfl⟩ := Option.map_eq_some_iff.mp h
    exact ⟨i_L (reC R G h2), xi_L (reX R G h2)⟩
end
end Wl
/-! Comprehensions, new things; the whole reading of expressions. -/
namespace Wl
open PySem PySem.Spec PyProof.Rows L2

/-- a block's scope, as it stands within sc -/
def relS (sc scope : Scope) : Scope := { scope with names := scope.names.map fun (n, k) => if (k == .free && sc.kind == .function && sc.names.lookup n == some .cell) then (n, .cell) else (n, k) }
theorem lookup_relS {sc : Scope} {x : Str} {j : NameKind} (hj : j ≠ .free) : ∀ {l : List (Str × NameKind)}, l.lookup x = some j →
    (l.map fun (n, k) => if (k == NameKind.free && sc.kind == .function && sc.names.lookup n == some .cell) then (n, NameKind.cell) else (n, k)).lookup x = some j
  | [], h => by simp at h
  | (n, k) :: r, h => by
    have ih := @lookup_relS sc x j hj r
    show List.lookup x ((if (k == NameKind.free && sc.kind == .function && sc.names.lookup n == some .cell) = true then (n, NameKind.cell) else (n, k)) :: _) = _
    cases hx : x == n with
    | true =>
      simp only [List.lookup_cons, hx] at h
      cases h
      have hk : (j == NameKind.free && sc.kind == .function && sc.names.lookup n == some .cell) = false := by
        cases j <;> first | rfl | exact absurd rfl hj
      rw [hk]
      simp [List.lookup_cons, hx]
    | false =>
      simp only [List.lookup_cons, hx] at h
      by_cases hc : (k == NameKind.free && sc.kind == .function && sc.names.lookup n == some .cell) = true
      · rw [if_pos hc]; simp only [List.lookup_cons, hx]; exact ih h
      · rw [if_neg hc]; simp only [List.lookup_cons, hx]; exact ih h
def names : List Expr → Option (List Str)
  | [] => some []
  | .Name x _ :: l => (names l).map (x :: ·)
  | _ :: _ => none
/-- the targets: one name, or a tuple of names -/
theorem wk_of {it : IE} {b : Bool} (h : ¬ (wkI it && b) = true) : wkI it = true → (!b) = true := fun z => by
  rw [z] at h
  cases b <;> simp_all
def tgOf : Expr → Option (Bool × List Str)
  | .Name x _ => some (true, [x])
  | .Tuple l _ _ => (names l).map fun xs => (false, xs)
  | _ => none
def ixs (N : List Str) : List Str → Option (List Nat)
  | [] => some []
  | x :: l => (ixS x N).bind fun i => (ixs N l).map (i :: ·)
def condQ (rec : Rec) (sc : Scope) : List Expr → Option (Bool × IE)
  | [] => some (false, .non)
  | [c] => (rec (.b sc c)).map fun c => (true, c)
  | _ => none
def eComp0 (N : List Str) (rec : Rec) (sc : Scope) (elt : Expr) (gens : List Comprehension) (scope : Scope) : Option IE := match gens with
  | [⟨tgx, iter, ifs, 0⟩] => (tgOf tgx).bind fun t => (ixs N t.2).bind fun tg =>
    if (blkC N sc scope (t.2.zip tg) && t.2.all (locB scope) && noSet iter) = true then
      (rec (.i sc tgx iter)).bind fun it => if (wkI it && t.1) = true then none else (condQ rec (relS sc scope) ifs).bind fun c => (rec (.e (relS sc scope) elt)).map fun e => .comp (al it ++ tg) tg t.1 it c.1 c.2 e
    else none
  | _ => none
/-- [.. for a, b in d.items() if ..] -/
def eCompI (N : List Str) (rec : Rec) (sc : Scope) (elt : Expr) (gens : List Comprehension) (scope : Scope) : Option IE := match gens with
  | [⟨.Tuple es kk tp, .Call (.Attribute (.Name d _) m ap) [] [] cp, ifs, 0⟩] => if m = "items" then (tgOf (.Tuple es kk tp)).bind fun t => (ixs N t.2).bind fun tg => (ixS d N).bind fun i =>
    if (blkC N sc scope (t.2.zip tg) && t.2.all (locB scope) && visB sc d && okN d && ap.endLine == cp.line) = true then
      (condQ rec (relS sc scope) ifs).bind fun c => (rec (.e (relS sc scope) elt)).map fun e => .comp (i :: (al (.itI (.var i)) ++ tg)) tg t.1 (.itI (.var i)) c.1 c.2 e
    else none else none
  | _ => none
def eComp2 (N : List Str) (rec : Rec) (sc : Scope) (elt : Expr) (gens : List Comprehension) (scope : Scope) : Option IE := (eComp0 N rec sc elt gens scope).orElse fun _ => eCompI N rec sc elt gens scope
/-- [.. for a in _law_ways(..) if ..]: the call gives a dict -/
def eCompK (N : List Str) (rec : Rec) (sc : Scope) (elt : Expr) (gens : List Comprehension) (scope : Scope) : Option IE := match gens with
  | [⟨tgx, .Call (.Name f fp) args kws cp, ifs, 0⟩] => if f = "_law_ways" then (tgOf tgx).bind fun t => (ixs N t.2).bind fun tg =>
    if (blkC N sc scope (t.2.zip tg) && t.2.all (locB scope) && noSet (.Call (.Name f fp) args kws cp)) = true then
      (rec (.e sc (.Call (.Name f fp) args kws cp))).bind fun a => (condQ rec (relS sc scope) ifs).bind fun c => (rec (.e (relS sc scope) elt)).map fun e => .comp (al a ++ tg) tg t.1 (.itK a) c.1 c.2 e
    else none else none
  | _ => none
def eComp (N : List Str) (rec : Rec) (sc : Scope) (elt : Expr) (gens : List Comprehension) (scope : Scope) : Option IE := match eCompK N rec sc elt gens scope with
  | some a => some a
  | none => eComp2 N rec sc elt gens scope
def gCall (T : Tb) (rec : Rec) (sc : Scope) (f : Str) (e : Expr) : Option IE :=
    if f = "list" then (if (bn T sc f && noStar e) = true then (rec (.e sc e)).map fun a => .alt (.blt .list a) (.blt .listD a) else none)
    else if f = "sorted" then (if (bn T sc f && noStar e) = true then (rec (.e sc e)).map fun a => .alt (.alt (.blt .sorted a) (.alt (.blt .sortedT a) (.blt .sortedL a))) (.blt .sortedD a) else none)
    else none
/-- a key that is a tuple, by its look -/
def tupKey : Expr → Bool
  | .Tuple _ _ _ => true
  | .Call _ _ _ _ => true
  | _ => false
/-- new things -/
def gAny (T : Tb) (N : List Str) (rec : Rec) (sc : Scope) (x : Expr) : Option IE := match x with
  | .List l _ => eLst rec sc l
  | .Subscript a (.Slice none none (some (.UnaryOp .USub (.Constant (.int 1) _ _) _)) _) _ => (rec (.e sc a)).map .revL
  | .ListComp e gs s _ => eComp N rec sc e gs s
  | .Call (.Name f _) [.Call (.Name g gp) [e] [] gs] [] _ => (eNew1 T rec sc f g e).orElse fun _ => gCall T rec sc f (.Call (.Name g gp) [e] [] gs)
  | .Call (.Name f _) [.Call (.Name g gp) [e, e'] [] gs] [] _ => (eNew2 T rec sc f g e e').orElse fun _ => gCall T rec sc f (.Call (.Name g gp) [e, e'] [] gs)
  | .Call (.Name f _) [e] [] _ => gCall T rec sc f e
  | .Call (.Name f _) [e] (kw :: kws) _ => eSrtK T rec sc f e (kw :: kws)
  | .BinOp a o b _ => match o with
    | .Add => if isCmp b = true then none else eOp rec sc .Add a b
    | .Mult => if isCmp b = true then none else eOp rec sc .Mult a b
    | _ => none
  | .Dict [] [] _ => some (.dic0 false)
  | .Dict [some k] [v] _ => (rec (.e sc k)).bind fun a => (rec (.e sc v)).map fun b => .alt (.dic (tupKey k) a b) (.dic (!tupKey k) a b)
  | _ => none
def eIte (rec : Rec) (sc : Scope) (c a b : Expr) : Option IE := (rec (.b sc c)).bind fun x => (rec (.e sc a)).bind fun y => (rec (.e sc b)).map fun z => .ite x y z
def eAny (T : Tb) (N : List Str) (rec : Rec) (sc : Scope) (x : Expr) : Option IE := match x with
  | .Name x _ => eName T N sc x
  | .Constant c _ _ => match c with
    | .int n => some (.int n)
    | .bool b => some (.bl b)
    | .none => some .non
    | .str s => some (.str s)
    | _ => none
  | .BinOp a o b _ => eOp rec sc o a b
  | .UnaryOp .USub a _ => (rec (.e sc a)).map .neg
  | .UnaryOp .Not _ _ => (rec (.b sc x)).bind one
  | .Compare _ _ _ _ => (rec (.b sc x)).bind one
  | .BoolOp _ _ _ => (rec (.b sc x)).bind one
  | .IfExp c a b _ => eIte rec sc c a b
  | .Tuple l _ _ => eTup rec sc l
  | .List l _ => eLst rec sc l
  | .Subscript a (.Slice none none (some (.UnaryOp .USub (.Constant (.int 1) _ _) _)) _) _ => (rec (.e sc a)).map fun x => .alt (.revL x) (.rev false x)
  | .Subscript a (.Slice none (some (.Constant (.int 0) _ _)) (some (.UnaryOp .USub (.Constant (.int 1) _ _) _)) _) _ => (rec (.e sc a)).map (.rev true)
  | .Subscript a (.Slice lo hi none _) _ => eSl rec sc a lo hi
  | .Subscript a i _ => eIx rec sc a i
  | .Call (.Name f _) l [] _ => match lookF f T.fs with
    | some _ => eFn T rec sc f l
    | none => if (T.fv && visB sc f) = true then eFv T N rec sc f l else match l with
      | [.Call (.Name g _) [e] [] _] => (eTr T rec sc f g e).orElse fun _ => (eNew1 T rec sc f g e).orElse fun _ => eB1 T rec sc f (l.headD (.Starred x x.pos))
      | [.Call (.Name g _) [e, e'] [] _] => (eTr2 T rec sc f g e e').orElse fun _ => (eNew2 T rec sc f g e e').orElse fun _ => eB1 T rec sc f (l.headD (.Starred x x.pos))
      | [e] => eB1 T rec sc f e
      | [e, t] => (eIsi T rec sc f e t).orElse fun _ => eB2 T rec sc f e t
      | _ => none
  | .Call (.Name f _) [e] (kw :: kws) _ => (eSrtK T rec sc f e (kw :: kws)).orElse fun _ => eKey T N rec sc f e (kw :: kws)
  | .Call (.Attribute o m ap) [k] [] cp => eGet1 rec sc o k m ap cp
  | .Call (.Attribute o m ap) [k, z] [] cp => eGet2 rec sc o k z m ap cp
  | .ListComp e gs s _ => eComp N rec sc e gs s
  | .Dict [] [] _ => some (.dic0 false)
  | .Dict [some k] [v] _ => (rec (.e sc k)).bind fun a => (rec (.e sc v)).map fun b => .alt (.dic (tupKey k) a b) (.dic (!tupKey k) a b)
  | _ => none
section
variable {aR : AR} {F : Fns} {T : Tb} {N : List Str} {X : Cx} {sc : Scope} {rec : Rec} {ie : IE} {p pos : Pos}
theorem or_else {α : Type} {a : Option α} {b : Unit → Option α} {x : α} (h : a.orElse b = some x) : a = some x ∨ b () = some x := by
  cases a with
  | none => exact .inr h
  | some y => exact .inl h
/-- within a comprehension's block -/
theorem Good.blk (G : Good aR F T N X sc) {scope : Scope} (hk : scope.kind = .function) (s : Shared) (H : Hp) (C : Addr) (cl : List (Str × Addr)) (fp : List Addr) : Good aR F T N (X.blk s H scope (compEnvC scope cl C X.env) fp) (relS sc scope) where
  nd := G.nd
  n := G.n
  calm := G.calm
  scope := by
    show relS X.env.scope scope = relS sc scope
    rw [G.scope]
  pass := PassesOwn.never
  units := G.units
  kind := hk
  fs := G.fs
  rm := G.rm
  td := G.td
  fv := G.fv
  fw := G.fw
  er := G.er
  gi := G.gi
  fr := G.fr
  tb := G.tb
theorem blk_loc {scope : Scope} {s : Shared} {H : Hp} {C : Addr} {cl : List (Str × Addr)} {fp : List Addr} {x : Str} (h : locB scope x = true) :
    Loc (X.blk s H scope (compEnvC scope cl C X.env) fp).env.scope x ∧ ((X.blk s H scope (compEnvC scope cl C X.env) fp).fn x = true ∨ (X.blk s H scope (compEnvC scope cl C X.env) fp).env.scope.names.lookup x = some .local) := by
  unfold locB at h
  split at h
  · rename_i e
    have := lookup_relS (sc := X.env.scope) (by decide : NameKind.local ≠ .free) e
    exact ⟨.inl this, .inr this⟩
  · rename_i e
    have := lookup_relS (sc := X.env.scope) (by decide : NameKind.cell ≠ .free) e
    refine ⟨.inr this, .inl ?_⟩
    show (scope.names.lookup x == some .cell) = true
    rw [e]; rfl
  · cases h
theorem ixs_ok : ∀ {xs : List Str} {is : List Nat}, ixs N xs = some is → is.length = xs.length ∧ ∀ (j : Nat) (x : Str) (i : Nat), xs[j]? = some x → is[j]? = some i → N[i]? = some x
  | [], is, h => by cases h; exact ⟨rfl, fun j x i h1 h2 => by simp at h1⟩
  | x :: xs, is, h => by
    unfold ixs at h
    obtain ⟨i, h1, h⟩ := Option.bind_eq_some_iff.mp h
    obtain ⟨is', h2, rfl⟩ := Option.map_eq_some_iff.mp h
    obtain ⟨l, k⟩ := ixs_ok h2
    refine ⟨by simp [l], fun j y i' h3 h4 => ?_⟩
    cases j with
    | zero => simp at h3 h4; subst h3 h4; exact ixS_ok h1
    | succ j => exact k j y i' (by simpa using h3) (by simpa using h4)
theorem names_gs (G : Good aR F T N X sc) {lb : Str → Bool} (hl : ∀ x, lb x = true → Loc X.env.scope x ∧ (X.fn x = true ∨ X.env.scope.names.lookup x = some .local)) : ∀ {l : List Expr} {xs : List Str} {is : List Nat}, names l = some xs → ixs N xs = some is → xs.all lb = true → PGs X l (gs is) ∧ (assignEach l X.env).length = is.length ∧ (assignEach l X.env).findIdx? (·.1) = none
  | [], xs, is, h1, h2, h3 => by
    cases h1; cases h2
    exact ⟨pgs_nil, rfl, rfl⟩
  | e :: l, xs, is, h1, h2, h3 => by
    cases e <;> first | (cases h1; done) | skip
    rename_i x pos
    have h1 : (names l).map (x :: ·) = some xs := h1
    obtain ⟨ys, h4, rfl⟩ := Option.map_eq_some_iff.mp h1
    unfold ixs at h2
    obtain ⟨i, h5, h2⟩ := Option.bind_eq_some_iff.mp h2
    obtain ⟨js, h6, rfl⟩ := Option.map_eq_some_iff.mp h2
    rw [List.all_cons, Bool.and_eq_true] at h3
    obtain ⟨k1, k2, k3⟩ := names_gs G hl h4 h6 h3.2
    refine ⟨pgs_cons (pg_name G.nd (by rw [G.n]; exact ixS_ok h5) (hl _ h3.1).1 (hl _ h3.1).2) k1 rfl, ?_, ?_⟩
    · show (assignEach l X.env).length + 1 = js.length + 1
      rw [k2]
    · show List.findIdx? (·.1) ((false, assign (.Name x pos) X.env) :: assignEach l X.env) = none
      rw [List.findIdx?_cons, k3]
      rfl
theorem tg_ok (G : Good aR F T N X sc) {lb : Str → Bool} (hl : ∀ x, lb x = true → Loc X.env.scope x ∧ (X.fn x = true ∨ X.env.scope.names.lookup x = some .local)) {tgx : Expr} {t : Bool × List Str} {is : List Nat} (h1 : tgOf tgx = some t) (h2 : ixs N t.2 = some is) (h3 : t.2.all lb = true) : PG X tgx (gT X.K t.1 is) := by
  unfold tgOf at h1
  split at h1
  · cases h1
    rename_i x pos
    unfold ixs at h2
    obtain ⟨i, h5, h2⟩ := Option.bind_eq_some_iff.mp h2
    cases h2
    have h3 : lb x = true := by simpa using h3
    exact t_one G.nd (by rw [G.n]; exact ixS_ok h5) (hl _ h3).1 (hl _ h3).2
  · obtain ⟨xs, h4, rfl⟩ := Option.map_eq_some_iff.mp h1
    obtain ⟨k1, k2, k3⟩ := names_gs G hl h4 h2 h3
    exact t_tup G.calm k1 k2 k3
  · cases h1
theorem zip_snd {α β : Type} : ∀ {xs : List α} {ys : List β}, ys.length = xs.length → (xs.zip ys).map (·.2) = ys
  | [], [], _ => rfl
  | x :: xs, y :: ys, h => by simp [zip_snd (xs := xs) (ys := ys) (by simpa using h)]
  | [], _ :: _, h => by simp at h
  | _ :: _, [], h => by simp at h
theorem o_add {ea : Expr} {a : IE} (ha : PE X ea (tEvC aR X.K F a)) : PO X (some ea) (tEvO aR X.K F (.op .add (.int 0) a)) := PO.imp (po_some ha) fun σ H Q ⟨Z, H0, env, r, ok, d, r', i, e, p, q⟩ => by
  obtain ⟨u, r1, e1, e2⟩ := Res.bind_ok e
  cases e1
  obtain ⟨y, r2, e3, e4⟩ := Res.bind_ok e2
  obtain ⟨e5, rfl⟩ := Res.of_ok e4
  refine evC_to ok e3 fun v H' x ro ok' rp => ?_
  cases y <;> first | (cases e5; done) | skip
  rename_i j
  cases e5
  have p' : (if smallI (0 + j) = true then some (some (0 + j)) else none) = some i := p
  rw [Int.zero_add] at p'
  split at p'
  · cases p'
    exact ⟨j, rp, q H' x ro⟩
  · cases p'
/-- what its iterable raises -/
theorem x_comp {elt tgx iter : Expr} {ifs : List Expr} {scope : Scope} {own : List (Str × Nat)} {fr tg : List Nat} {sole cd : Bool} {it c e : IE} {g : TG} {tt : TT} {te : TE} (hc : X.calm = true) (hN : X.N.Nodup)
    (hi : PI X tgx iter (fun σ H _ => tRz aR X.K F (EX X) it σ H)) (ok : BlkOk X.N X.env.scope scope own)
    (hg : ∀ (s : Shared) (H : Hp) (C : Addr) (cl : List (Str × Addr)) (fp : List Addr), PG (X.blk s H scope (compEnvC scope cl C X.env) fp) tgx g)
    (ht : ∀ (s : Shared) (H : Hp) (C : Addr) (cl : List (Str × Addr)) (fp : List Addr), PTs (X.blk s H scope (compEnvC scope cl C X.env) fp) ifs tt)
    (he : ∀ (s : Shared) (H : Hp) (C : Addr) (cl : List (Str × Addr)) (fp : List Addr), PE (X.blk s H scope (compEnvC scope cl C X.env) fp) elt te)
    (hs : ∀ x, foldedSetIterable iter X.env x = pure x) : PE X (.ListComp elt [⟨tgx, iter, ifs, 0⟩] scope pos) (tRx aR X.K F (EX X) (.comp fr tg sole it cd c e)) := PE.imp (pe_lc (pos := pos) hc hN hi ok hg ht he hs) fun σ H Q q => q
variable (R : ∀ q ie, rec q = some ie → Snd aR F T N q ie)
include R
theorem condQ_ok (G : Good aR F T N X sc) {l : List Expr} {c : Bool × IE} (h : condQ rec sc l = some c) : PTs X l (tCd aR X.K F c.1 c.2) := by
  unfold condQ at h
  split at h
  · cases h; exact pts_nil
  · obtain ⟨a, h2, rfl⟩ := Option.map_eq_some_iff.mp h
    exact pts_one (R _ _ h2 X G).t
  · cases h
theorem eComp0_ok {elt : Expr} {gens : List Comprehension} {scope : Scope} (G : Good aR F T N X sc) (h : eComp0 N rec sc elt gens scope = some ie) : PE X (.ListComp elt gens scope pos) (tEvF aR X.K F ie) ∧ isV ie = false ∧ PE X (.ListComp elt gens scope pos) (tRx aR X.K F (EX X) ie) := by
  unfold eComp0 at h
  split at h
  · rename_i tgx iter ifs
    obtain ⟨t, h1, h⟩ := Option.bind_eq_some_iff.mp h
    obtain ⟨tg, h2, h⟩ := Option.bind_eq_some_iff.mp h
    split at h
    · rename_i hb
      simp only [Bool.and_eq_true] at hb
      obtain ⟨it, h3, h⟩ := Option.bind_eq_some_iff.mp h
      split at h
      · cases h
      rename_i hw
      obtain ⟨c, h4, h⟩ := Option.bind_eq_some_iff.mp h
      obtain ⟨e, h5, rfl⟩ := Option.map_eq_some_iff.mp h
      have bo := blkOk_by hb.1.1
      have bo' : BlkOk X.N X.env.scope scope (t.2.zip tg) := by rw [G.n, G.scope]; exact bo
      refine ⟨v_compF G.calm G.nd (R _ _ h3 X G).1 bo' (zip_snd (ixs_ok h2).1) (fun s H C cl fp => tg_ok (G.blk bo.kind s H C cl fp) (lb := locB scope) (fun x hx => blk_loc hx) h1 h2 hb.1.2) (fun s H C cl fp => condQ_ok R (G.blk bo.kind s H C cl fp) h4)
        (fun s H C cl fp => (R _ _ h5 _ (G.blk bo.kind s H C cl fp)).1) (noSet_for hb.2) (fun i hi => List.mem_append_left _ hi) (fun i hi => List.mem_append_right _ hi) (wk_of hw), rfl, x_comp (te := tEv aR X.K F e) (tt := tCd aR X.K F c.1 c.2) (g := gT X.K t.1 tg) G.calm G.nd (R _ _ h3 X G).2 bo' (fun s H C cl fp => tg_ok (G.blk bo.kind s H C cl fp) (lb := locB scope) (fun x hx => blk_loc hx) h1 h2 hb.1.2) (fun s H C cl fp => condQ_ok R (G.blk bo.kind s H C cl fp) h4) (fun s H C cl fp => (R _ _ h5 _ (G.blk bo.kind s H C cl fp)).1) (noSet_for hb.2)⟩
    · cases h
  · cases h
theorem eCompI_ok {elt : Expr} {gens : List Comprehension} {scope : Scope} (G : Good aR F T N X sc) (h : eCompI N rec sc elt gens scope = some ie) : PE X (.ListComp elt gens scope pos) (tEvF aR X.K F ie) ∧ isV ie = false ∧ PE X (.ListComp elt gens scope pos) (tRx aR X.K F (EX X) ie) := by
  unfold eCompI at h
  split at h
  · rename_i es kk tp d p0 m ap cp ifs
    split at h
    · rename_i em; subst em
      obtain ⟨t, h1, h⟩ := Option.bind_eq_some_iff.mp h
      obtain ⟨tg, h2, h⟩ := Option.bind_eq_some_iff.mp h
      obtain ⟨i, h3, h⟩ := Option.bind_eq_some_iff.mp h
      split at h
      · rename_i hb
        simp only [Bool.and_eq_true] at hb
        obtain ⟨c, h4, h⟩ := Option.bind_eq_some_iff.mp h
        obtain ⟨e, h5, rfl⟩ := Option.map_eq_some_iff.mp h
        have bo := blkOk_by hb.1.1.1.1
        have bo' : BlkOk X.N X.env.scope scope (t.2.zip tg) := by rw [G.n, G.scope]; exact bo
        obtain ⟨o1, o2⟩ := okN_ok hb.1.2
        refine ⟨e_lock (.inl rfl) List.mem_cons_self (v_compC G.calm G.nd (i_I (by rw [G.n]; exact ixS_ok h3) (G.vis hb.1.1.2) o1 o2 rfl hb.2) bo' (zip_snd (ixs_ok h2).1) (fun s H C cl fp => tg_ok (G.blk bo.kind s H C cl fp) (lb := locB scope) (fun x hx => blk_loc hx) h1 h2 hb.1.1.1.2) (fun s H C cl fp => condQ_ok R (G.blk bo.kind s H C cl fp) h4)
          (fun s H C cl fp => (R _ _ h5 _ (G.blk bo.kind s H C cl fp)).1) (noSet_for rfl) (fun i hi => List.mem_cons_of_mem _ (List.mem_append_left _ hi)) (fun i hi => List.mem_cons_of_mem _ (List.mem_append_right _ hi)) (fun _ => by obtain ⟨_, _, rfl⟩ := Option.map_eq_some_iff.mp h1; rfl)), rfl, rz_no fun _ _ => rfl⟩
      · cases h
    · cases h
  · cases h
theorem eComp2_ok {elt : Expr} {gens : List Comprehension} {scope : Scope} (G : Good aR F T N X sc) (h : eComp2 N rec sc elt gens scope = some ie) : PE X (.ListComp elt gens scope pos) (tEvF aR X.K F ie) ∧ isV ie = false ∧ PE X (.ListComp elt gens scope pos) (tRx aR X.K F (EX X) ie) := by
  rcases or_else h with h | h
  · exact eComp0_ok R G h
  · exact eCompI_ok R G h
theorem eCompK_ok {elt : Expr} {gens : List Comprehension} {scope : Scope} (G : Good aR F T N X sc) (h : eCompK N rec sc elt gens scope = some ie) : PE X (.ListComp elt gens scope pos) (tEvF aR X.K F ie) ∧ isV ie = false ∧ PE X (.ListComp elt gens scope pos) (tRx aR X.K F (EX X) ie) := by
  unfold eCompK at h
  split at h
  · rename_i tgx f fp args kws cp ifs
    split at h
    · obtain ⟨t, h1, h⟩ := Option.bind_eq_some_iff.mp h
      obtain ⟨tg, h2, h⟩ := Option.bind_eq_some_iff.mp h
      split at h
      · rename_i hb
        simp only [Bool.and_eq_true] at hb
        obtain ⟨a, h3, h⟩ := Option.bind_eq_some_iff.mp h
        obtain ⟨c, h4, h⟩ := Option.bind_eq_some_iff.mp h
        obtain ⟨e, h5, rfl⟩ := Option.map_eq_some_iff.mp h
        have bo := blkOk_by hb.1.1
        have bo' : BlkOk X.N X.env.scope scope (t.2.zip tg) := by rw [G.n, G.scope]; exact bo
        refine ⟨v_compK G.calm G.nd (R _ _ h3 X G).1 bo' (zip_snd (ixs_ok h2).1) (fun s H C cl fp => tg_ok (G.blk bo.kind s H C cl fp) (lb := locB scope) (fun x hx => blk_loc hx) h1 h2 hb.1.2) (fun s H C cl fp => condQ_ok R (G.blk bo.kind s H C cl fp) h4)
          (fun s H C cl fp => (R _ _ h5 _ (G.blk bo.kind s H C cl fp)).1) (noSet_for hb.2) (fun i hi => List.mem_append_left _ hi) (fun i hi => List.mem_append_right _ hi), rfl, rz_no fun _ _ => rfl⟩
      · cases h
    · cases h
  · cases h
theorem eComp_ok {elt : Expr} {gens : List Comprehension} {scope : Scope} (G : Good aR F T N X sc) (h : eComp N rec sc elt gens scope = some ie) : PE X (.ListComp elt gens scope pos) (tEvF aR X.K F ie) ∧ isV ie = false ∧ PE X (.ListComp elt gens scope pos) (tRx aR X.K F (EX X) ie) := by
  unfold eComp at h
  split at h
  · rename_i a e
    cases h
    exact eCompK_ok R G e
  · exact eComp2_ok R G h
theorem eLst_ok {l : List Expr} (G : Good aR F T N X sc) (h : eLst rec sc l = some ie) : PE X (.List l pos) (tEvF aR X.K F ie) ∧ isV ie = false ∧ noRx ie = true := by
  unfold eLst at h
  obtain ⟨a, h2, rfl⟩ := Option.map_eq_some_iff.mp h
  exact ⟨f_lst (R _ _ h2 X G).1, rfl, rfl⟩
theorem gCall_ok {f : Str} {e : Expr} (G : Good aR F T N X sc) (h : gCall T rec sc f e = some ie) : PE X (.Call (.Name f p) [e] [] pos) (tEvG aR X.K F ie) := by
  unfold gCall at h
  split at h
  · rename_i ef; subst ef
    split at h
    · rename_i hb
      rw [Bool.and_eq_true] at hb
      obtain ⟨a, h2, rfl⟩ := Option.map_eq_some_iff.mp h
      exact g_of (f_alt (f_list (bn_ok G hb.1).1 (bn_ok G hb.1).2 (reC R G h2) (star_of hb.2 _ _)) (f_listD G.calm (bn_ok G hb.1).1 (bn_ok G hb.1).2 (reC R G h2) (star_of hb.2 _ _)))
    · cases h
  · split at h
    · rename_i ef; subst ef
      split at h
      · rename_i hb
        rw [Bool.and_eq_true] at hb
        obtain ⟨a, h2, rfl⟩ := Option.map_eq_some_iff.mp h
        exact g_of (f_alt (f_alt (f_sorted (bn_ok G hb.1).1 (bn_ok G hb.1).2 (reC R G h2) (star_of hb.2 _ _)) (f_alt (f_sortedT (bn_ok G hb.1).1 (bn_ok G hb.1).2 (reC R G h2) (star_of hb.2 _ _)) (f_sortedL (bn_ok G hb.1).1 (bn_ok G hb.1).2 (reC R G h2) (star_of hb.2 _ _)))) (f_sortedD G.calm (bn_ok G hb.1).1 (bn_ok G hb.1).2 (reC R G h2) (star_of hb.2 _ _)))
      · cases h
    · cases h
theorem gAny_ok {x : Expr} (G : Good aR F T N X sc) (h : gAny T N rec sc x = some ie) : PE X x (tEvG aR X.K F ie) := by
  unfold gAny at h
  split at h
  · exact g_of (eLst_ok R G h).1
  · obtain ⟨a, h2, rfl⟩ := Option.map_eq_some_iff.mp h
    exact g_of (f_revL (reC R G h2))
  · exact g_of (eComp_ok R G h).1
  · rcases or_else h with h | h
    · exact g_of (eNew1_ok R G h).1
    · exact gCall_ok R G h
  · rcases or_else h with h | h
    · exact g_of (eNew2_ok R G h).1
    · exact gCall_ok R G h
  · exact gCall_ok R G h
  · exact g_of (eSrtK_ok R G h).1
  · split at h
    · split at h
      · cases h
      rename_i hcm
      unfold eOp at h
      obtain ⟨o', h1, h⟩ := Option.bind_eq_some_iff.mp h
      obtain ⟨x, h2, h⟩ := Option.bind_eq_some_iff.mp h
      obtain ⟨y, h3, rfl⟩ := Option.map_eq_some_iff.mp h
      unfold opOf2 at h1
      rw [if_neg hcm] at h1
      cases h1
      exact f_op rfl (.inl rfl) (reC R G h2) (reC R G h3)
    · split at h
      · cases h
      rename_i hcm
      unfold eOp at h
      obtain ⟨o', h1, h⟩ := Option.bind_eq_some_iff.mp h
      obtain ⟨x, h2, h⟩ := Option.bind_eq_some_iff.mp h
      obtain ⟨y, h3, rfl⟩ := Option.map_eq_some_iff.mp h
      unfold opOf2 at h1
      rw [if_neg hcm] at h1
      cases h1
      exact f_op rfl (.inr rfl) (reC R G h2) (reC R G h3)
    · cases h
  · cases h
    exact g_of f_dic0
  · obtain ⟨a, h2, h⟩ := Option.bind_eq_some_iff.mp h
    obtain ⟨b, h3, rfl⟩ := Option.map_eq_some_iff.mp h
    exact g_of (f_alt (f_dicB (by have := G.units; omega) (reC R G h2) (re R G h3)) (f_dicB (by have := G.units; omega) (reC R G h2) (re R G h3)))
  · cases h
theorem one_ok {x : Expr} (G : Good aR F T N X sc) (h : (rec (.b sc x)).bind one = some ie) : PE X x (tEv aR X.K F ie) ∧ PE X x (tEvC aR X.K F ie) ∧ PE X x (tRx aR X.K F (EX X) ie) := by
  obtain ⟨a, h1, h2⟩ := Option.bind_eq_some_iff.mp h
  unfold one at h2
  split at h2
  · cases h2
  · rename_i hv
    split at h2
    · rename_i hn
      cases h2
      exact both (R _ _ h1 X G).v (by simpa using hv) (rz_no fun _ _ => noRx_ok hn)
    · cases h2
theorem eAny_ok {x : Expr} (G : Good aR F T N X sc) (h : eAny T N rec sc x = some ie) : PE X x (tEv aR X.K F ie) ∧ PE X x (tEvC aR X.K F ie) ∧ PE X x (tRx aR X.K F (EX X) ie) := by
  unfold eAny at h
  split at h
  · exact eName_ok G h
  · split at h
    · cases h; exact both v_int rfl
    · cases h; exact both v_bl rfl
    · cases h; exact both v_non rfl
    · cases h; exact both v_str rfl
    · cases h
  · exact eOp_ok R G h
  · obtain ⟨a, h2, rfl⟩ := Option.map_eq_some_iff.mp h
    exact both (v_neg (reC R G h2)) rfl
  · exact one_ok R G h
  · exact one_ok R G h
  · exact one_ok R G h
  · unfold eIte at h
    obtain ⟨x, h2, h⟩ := Option.bind_eq_some_iff.mp h
    obtain ⟨y, h3, h⟩ := Option.bind_eq_some_iff.mp h
    obtain ⟨z, h4, rfl⟩ := Option.map_eq_some_iff.mp h
    exact both (v_ite (R _ _ h2 X G).t (re R G h3) (re R G h4)) rfl
  · unfold eTup at h
    obtain ⟨a, h2, rfl⟩ := Option.map_eq_some_iff.mp h
    exact both (v_tup (R _ _ h2 X G).1) rfl
  · obtain ⟨k1, k2, k3⟩ := eLst_ok R G h
    exact both (f_of k1) k2 (rz_no fun _ _ => noRx_ok k3)
  · obtain ⟨a, h2, rfl⟩ := Option.map_eq_some_iff.mp h
    exact both (v_alt (f_of (f_revL (reC R G h2))) (v_rev (b := false) rfl (reC R G h2))) rfl
  · obtain ⟨a, h2, rfl⟩ := Option.map_eq_some_iff.mp h
    exact both (v_rev (b := true) ⟨_, _, rfl⟩ (reC R G h2)) rfl
  · exact eSl_ok R G h
  · exact eIx_ok R G h
  · split at h
    · exact eFn_ok R G h
    · split at h
      · exact eFv_ok R G h
      split at h
      · rcases or_else h with h | h
        · exact eTr_ok R G h
        · rcases or_else h with h | h
          · obtain ⟨k1, k2, k3⟩ := eNew1_ok R G h
            exact both (f_of k1) k2 (rz_no fun _ _ => noRx_ok k3)
          · exact eB1_ok R G h
      · rcases or_else h with h | h
        · exact eTr2_ok R G h
        · rcases or_else h with h | h
          · obtain ⟨k1, k2, k3⟩ := eNew2_ok R G h
            exact both (f_of k1) k2 (rz_no fun _ _ => noRx_ok k3)
          · exact eB1_ok R G h
      · exact eB1_ok R G h
      · rcases or_else h with h | h
        · exact eIsi_ok R G h
        · exact eB2_ok R G h
      · cases h
  · rcases or_else h with h | h
    · obtain ⟨k1, k2, k3⟩ := eSrtK_ok R G h
      exact both (f_of k1) k2 (rz_no fun _ _ => noRx_ok k3)
    · exact eKey_ok R G h
  · exact eGet1_ok R G h
  · exact eGet2_ok R G h
  · obtain ⟨k1, k2, k3⟩ := eComp_ok R G h
    exact both (f_of k1) k2 k3
  · cases h
    exact both (f_of f_dic0) rfl
  · obtain ⟨a, h2, h⟩ := Option.bind_eq_some_iff.mp h
    obtain ⟨b, h3, rfl⟩ := Option.map_eq_some_iff.mp h
    exact both (f_of (f_alt (f_dicB (by have := G.units; omega) (reC R G h2) (re R G h3)) (f_dicB (by have := G.units; omega) (reC R G h2) (re R G h3)))) rfl
  · cases h
end
end Wl
/-! The whole reading of expressions; what assignments ask. -/
namespace Wl
open PySem PySem.Spec PyProof.Rows L2

/-- within a lambda -/
def Tb.in0 (T : Tb) : Tb := { T with lm := false, td := none }
def lamPB (params : Arguments) : Option (List Str) := match params with
  | ⟨[], [], none, [], [], none, []⟩ => some []
  | ⟨[], [⟨nm, none, _⟩], none, [], [], none, [.Constant (.int n) _ _]⟩ => if n = 0 then some [nm] else none
  | _ => none
theorem lamPB_ok {params : Arguments} {ds : List Str} (h : lamPB params = some ds) : LamP params ds := by
  unfold lamPB at h
  split at h
  · cases h; exact .inl ⟨rfl, rfl⟩
  · split at h
    · rename_i e
      cases h
      subst e
      exact .inr ⟨_, _, _, _, rfl, rfl⟩
    · cases h
  · cases h
def eTold (T : Tb) (N : List Str) (recL : Rec) (sc : Scope) (x : Expr) : Option IE := match T.td, x with
  | some tb, .Call (.Name f _) [.Lambda params body scope _] [] _ => if f = "_law_told" ∧ glB sc f = true then (lamPB params).bind fun ds => if lamDB N sc scope ds = true then (recL (.e scope body)).bind fun c => if fol c = true then some (.told tb c) else none else none else none
  | _, _ => none
def stepQ (T : Tb) (N : List Str) (recL rec : Rec) : Rec
  | .e sc x => (eTold T N recL sc x).orElse fun _ => eAny T N rec sc x
  | .a sc l => aAny rec sc l
  | .b sc x => bAny rec sc x
  | .w sc op l => wAny rec sc op l
  | .i sc tg x => iAny T rec sc tg x
  | .o sc x => oAny rec sc x
  | .g sc x => gAny T N rec sc x
def readQ0 (T : Tb) (N : List Str) : Nat → Rec
  | 0 => fun _ => none
  | n + 1 => stepQ T N (fun _ => none) (readQ0 T N n)
def readQ (T : Tb) (N : List Str) : Nat → Rec
  | 0 => fun _ => none
  | n + 1 => stepQ T N (readQ0 T.in0 N 60) (readQ T N n)
section
variable {aR : AR} {F : Fns} {T : Tb} {N : List Str} {X : Cx} {sc : Scope} {rec recL : Rec} {ie : IE} {p pos : Pos}
/-- within a lambda that `_law_told` gets -/
theorem Good.lam (G : Good aR F T N X sc) {tb : List (Nat × Str × Bool)} (htd : T.td = some tb) {scope : Scope} {ds : List Str} (D : LamD N sc scope ds) : ∃ k CW xs x ws tl c P, TdF X.K X.mg CW xs x ws tl ∧ (∀ p ∈ tb, EntryOk X.K X.mg aR.ea CW xs x ws tl p) ∧ LamX.TabB X.base X.mg c P ∧ X.env.code = .ref c ∧ (P, X.env.qual ++ "<lambda>") ∈ aR.tt ∧ (∀ q ∈ aR.tt, q.1 = P → q.2 = X.env.qual ++ "<lambda>") ∧ Room (k + 2) X.A ∧
    ∀ (f c' : Addr) (E : XK) (A : Around) (outer : List PySem.Env) (s : Shared) (H : Hp), Room k (A.deeper (LamX.lamEnv X scope s.heap.objs.size f c')) → Good aR F T.in0 N (LamX.lamCx X A outer s H E scope f c') scope := by
  obtain ⟨k, CW, xs, x, ws, tl, c, P, t1, t2, t3, t4, t5, t6, t7, t8, t9, t10⟩ := G.td tb htd
  refine ⟨k, CW, xs, x, ws, tl, c, P, t1, t2, t3, t4, t5, t6, t7, fun f c' E A outer s H hr => ?_⟩
  exact {
    nd := G.nd
    n := G.n
    calm := rfl
    scope := rfl
    pass := passes_of (E₁ := fun e' s'' => L2.CX X.prog X.w outer H s E e' s'') rfl
    units := by have := hr.un; show (A.deeper _).units + 65 < cLine; omega
    kind := D.ns.kind
    rm := hr.mono t8
    td := fun tb h => by cases h
    fs := fun i x np h => let ⟨g, fd, ps, m1, m2, m3, m4, m5⟩ := t9 i x np h; ⟨k, g, fd, ps, m1, m2, m3, m4, hr, m5⟩
    fv := G.fv
    fw := fun j g h => let ⟨np, fd, ps, m1, m2, m3, m4⟩ := t10 j g h; ⟨k, np, fd, ps, m1, m2, m3, hr, m4⟩
    er := G.er
    gi := G.gi
    fr := G.fr
    tb := fun h => by cases h }
theorem eTold_ok (RL : ∀ q ie, recL q = some ie → Snd aR F T.in0 N q ie) {x : Expr} (G : Good aR F T N X sc) (h : eTold T N recL sc x = some ie) : PE X x (tEv aR X.K F ie) ∧ PE X x (tEvC aR X.K F ie) ∧ PE X x (tRx aR X.K F (EX X) ie) := by
  unfold eTold at h
  split at h
  · rename_i tb f fp params body scope lp cp htd
    split at h
    · rename_i hc
      obtain ⟨rfl, hgl⟩ := hc
      obtain ⟨ds, h1, h⟩ := Option.bind_eq_some_iff.mp h
      split at h
      · rename_i hd
        obtain ⟨c, h2, h⟩ := Option.bind_eq_some_iff.mp h
        split at h
        · rename_i hf
          cases h
          have D := lamD_by hd
          obtain ⟨k, CW, xs, x, ws, tl, cd, P, t1, t2, t3, t4, t5, t6, t7, hG⟩ := G.lam htd D
          have D' : LamD X.N X.env.scope scope ds := by rw [G.n, G.scope]; exact D
          refine both (v_told t1 (G.gl hgl) t3 t4 t5 t6 D' (lamPB_ok h1) t7 (fun f c' E A outer s H hr => ?_) t2 hf) rfl
          obtain ⟨k1, _, k3⟩ := RL _ _ h2 _ (hG f c' E A outer s H hr)
          exact PE.or2 k1 (PE.imp k3 fun σ H Q ⟨Z, H0, env, r, ok, ex, r', e, q⟩ => ⟨Z, H0, env, r, ok, ex, r', e, fun cls d H' x ro w => ⟨E, takes_of rfl rfl rfl rfl, q cls d H' x ro w⟩⟩)
        · cases h
      · cases h
    · cases h
  · cases h
theorem step_ok (RL : ∀ q ie, recL q = some ie → Snd aR F T.in0 N q ie) (R : ∀ q ie, rec q = some ie → Snd aR F T N q ie) : ∀ q ie, stepQ T N recL rec q = some ie → Snd aR F T N q ie
  | .e sc x, ie, h => fun X G => by
    rcases or_else (show (eTold T N recL sc x).orElse _ = some ie from h) with h | h
    · exact eTold_ok RL G h
    · exact eAny_ok R G h
  | .a sc l, ie, h => fun X G => aAny_ok R G h
  | .b sc x, ie, h => fun X G => bAny_ok R G h
  | .w sc op l, ie, h => fun X G => wAny_ok R G h
  | .i sc tg x, ie, h => fun X G => iAny_ok R G h
  | .o sc x, ie, h => fun X G => by
    have h : oAny rec sc x = some ie := h
    unfold oAny at h
    split at h
    · cases h; exact o_none
    · obtain ⟨a, h2, h⟩ := Option.bind_eq_some_iff.mp h
      cases h
      exact o_add (reC R G h2)
  | .g sc x, ie, h => fun X G => gAny_ok R G h
theorem read_ok0 : ∀ (n : Nat) (q : Qn) (ie : IE), readQ0 T N n q = some ie → Snd aR F T N q ie
  | 0, _, _, h => by cases h
  | n + 1, q, ie, h => step_ok (fun _ _ h => by cases h) (read_ok0 n) q ie h
theorem read_ok : ∀ (n : Nat) (q : Qn) (ie : IE), readQ T N n q = some ie → Snd aR F T N q ie
  | 0, _, _, h => by cases h
  | n + 1, q, ie, h => step_ok (read_ok0 60) (read_ok n) q ie h
end

/-! ### what assignments ask -/
def noComp : Expr → Bool
  | .ListComp _ _ _ _ => false
  | .SetComp _ _ _ _ => false
  | .DictComp _ _ _ _ _ => false
  | _ => true
theorem sw_no {e : Expr} {t : Option Expr} {n : Nat} {env : PySem.Env} (h : noComp e = true) : swapsWith e t n env = pure false := by
  cases e <;> first | rfl | cases h
theorem sw_no' {e t : Expr} {n : Nat} {env : PySem.Env} (h : noComp e = true) : swapsWithSole [t] e n env = pure false := by
  show swapsWith e (some t) n env = pure false
  exact sw_no h
/-- a comprehension assigned to a name on its line -/
def swB (sc : Scope) (x : Str) (p : Pos) (scope : Scope) (vp : Pos) : Bool := sc.names.lookup x == some .local && p.line == vp.line && !(scope.names.any fun (n, k) => n == x && (k == .local || k == .cell))
theorem sw_lc {elt : Expr} {gs : List Comprehension} {scope : Scope} {vp p : Pos} {x : Str} {n : Nat} {env : PySem.Env} (hk : env.scope.kind = .function) : swapsWith (.ListComp elt gs scope vp) (some (.Name x p)) n env = pure (swB env.scope x p scope vp) := by
  have hb : env.blockKind = .function := by
    unfold Env.blockKind
    rw [hk]
    rfl
  show pure (env.blockKind == .function && env.kindOf x == some .local && p.line == vp.line && !(scope.names.any fun (n, k) => n == x && (k == .local || k == .cell))) = _
  rw [hb]
  rfl
def swOf (sc : Scope) (ts vs : List Expr) : Option (Option (List Str)) :=
  if (!(ts.length == 2 || ts.length == 3) || vs.length != ts.length) = true then some none
  else if (vs.any fun | .Starred .. => true | _ => false) = true then some none
  else
    if ((ts.filterMap fun
      | .Name id pos => if (sc.names.lookup id == some .local && pos.line == (ts.head?.map (·.pos.line)).getD 0) = true then some id else none
      | _ => none).length != ts.length || (ts.filterMap fun
      | .Name id pos => if (sc.names.lookup id == some .local && pos.line == (ts.head?.map (·.pos.line)).getD 0) = true then some id else none
      | _ => none).eraseDups.length != (ts.filterMap fun
      | .Name id pos => if (sc.names.lookup id == some .local && pos.line == (ts.head?.map (·.pos.line)).getD 0) = true then some id else none
      | _ => none).length) = true then some none
    else if vs.all (foldedForSure 8) = true then some none
    else if vs.all (constantsAlone 8) = true then none
    else some (some (ts.filterMap fun
      | .Name id pos => if (sc.names.lookup id == some .local && pos.line == (ts.head?.map (·.pos.line)).getD 0) = true then some id else none
      | _ => none))
theorem swOf_ok {ts vs : List Expr} {k1 k2 : Nat} {p1 p2 : Pos} {env : PySem.Env} {r : Option (List Str)} (hk : env.scope.kind = .function) (h : swOf env.scope ts vs = some r) : swappedStores [.Tuple ts k1 p1] (.Tuple vs k2 p2) env = pure r := by
  have hb : env.blockKind = .function := by
    unfold Env.blockKind
    rw [hk]
    rfl
  have hb2 : (env.blockKind != .function) = false := by rw [hb]; rfl
  unfold swappedStores
  unfold swOf at h
  simp only [hb2, Bool.or_false]
  split at h
  · rename_i c
    cases h
    exact if_pos c
  rename_i c1
  refine (if_neg c1).trans ?_
  split at h
  · rename_i c
    cases h
    exact if_pos c
  rename_i c2
  refine (if_neg c2).trans ?_
  split at h
  · rename_i c
    cases h
    exact if_pos c
  rename_i c3
  refine (if_neg c3).trans ?_
  split at h
  · rename_i c
    cases h
    exact if_pos c
  rename_i c4
  refine (if_neg c4).trans ?_
  split at h
  · cases h
  rename_i c5
  cases h
  exact if_neg c5
end Wl
/-! Statements read. -/
namespace Wl
open PySem PySem.Spec PyProof.Rows L2

section
variable {X : Cx} {aR : AR} {F : Fns} {a b : IS} {st : Stmt}
theorem altS_ok {F : Fns} {a b : IS} {env : Env} {r r' : Row} {d : Fl} (h : evS F (.alt a b) env r = .ok d r') : evS F a env r = .ok d r' ∨ evS F b env r = .ok d r' := by
  have h' : (match evS F a env r with
    | .no => evS F b env r
    | .ok d r => .ok d r
    | .ex e r => .ex e r) = Res.ok d r' := h
  split at h'
  · exact .inr h'
  · rename_i e; exact .inl (by rw [e, h'])
  · cases h'
theorem psr_no {ie : IE} (h : ∀ env r, rx F ie env r = none) : PS X st (tRxS aR X.K F (EX X) ie) := ⟨fun pins s σ H D I ⟨Z, H0, env, r, ok, ex, r', e, q⟩ => by rw [h] at e; cases e⟩
theorem s_alt (h1 : PS X st (tEvS aR X.K F (EX X) a)) (h2 : PS X st (tEvS aR X.K F (EX X) b)) : PS X st (tEvS aR X.K F (EX X) (.alt a b)) :=
  ⟨fun pins s σ H D I ⟨Z, H0, env, r, ok, f, r', e, q⟩ => by
    rcases altS_ok e with e | e
    · exact h1.run pins s σ H D I ⟨Z, H0, env, r, ok, f, r', e, q⟩
    · exact h2.run pins s σ H D I ⟨Z, H0, env, r, ok, f, r', e, q⟩⟩
end

/-- a function's own: its table, names, the names of what it writes -/
structure Fx where
  T : Tb
  N : List Str
  mt : List Str
/-- {} for a name that is told twice among the written: its keys are tuples -/
def gDk (c : Fx) (rq : Rec) (sc : Scope) (x : Str) (e : Expr) : Option IE := match e with
  | .Dict [] [] _ => some (.dic0 (inL x (c.mt.erase x)))
  | e => rq (.g sc e)
def rhs (c : Fx) (rq : Rec) (sc : Scope) (x : Str) (e : Expr) : Option (Bool × IE) := if inL x c.mt = true then ((gDk c rq sc x e).map fun a => (true, a)).orElse fun _ => (rq (.e sc e)).map fun a => (false, a) else (rq (.e sc e)).map fun a => (false, a)
def parL (c : Fx) (rq : Rec) (sc : Scope) : List Expr → List Expr → Option (List (Nat × Bool × IE))
  | [], [] => some []
  | .Name x _ :: ts, e :: es => if (noStar e && locB sc x) = true then (ixS x c.N).bind fun i => (rhs c rq sc x e).bind fun q => (parL c rq sc ts es).map fun l => (i, q.1, q.2) :: l else none
  | _, _ => none
def asgN (c : Fx) (rq : Rec) (sc : Scope) (x : Str) (p : Pos) (e : Expr) : Option IS := if locB sc x = true then (ixS x c.N).bind fun i => match e with
    | .ListComp elt gs scope vp => if swB sc x p scope vp = true then (eComp2 c.N rq sc elt gs scope).map fun a => .asg (al a) i (inL x c.mt) a else (rhs c rq sc x e).map fun q => .asg (al q.2) i q.1 q.2
    | e => if noComp e = true then (rhs c rq sc x e).map fun q => .asg (al q.2) i q.1 q.2 else none
  else none
def asgT (c : Fx) (rq : Rec) (sc : Scope) (ts : List Expr) (e : Expr) : Option IS := match e with
  | .Tuple vs _ _ => match swOf sc ts vs, parL c rq sc ts vs with
    | some none, some l => if l.length ≤ 100 then some (.par (l.flatMap fun x => al x.2.2) l) else none
    | some (some ys), some l => (names ts).bind fun xs => if ys = xs ∧ xs.Nodup ∧ xs.all (fun x => decide (sc.names.lookup x = some .local)) = true ∧ (l.length = 2 ∨ l.length = 3) then some (.par (l.flatMap fun x => al x.2.2) l) else none
    | _, _ => none
  | e => if noComp e = true then (names ts).bind fun xs => (ixs c.N xs).bind fun is => if xs.all (locB sc) = true then (rq (.e sc e)).map fun a => .asgT (al a) is a else none else none
def asgS (c : Fx) (rq : Rec) (sc : Scope) (x : Str) (k e : Expr) : Option IS := if (visB sc x && okN x && noSlice k && noComp e) = true then (ixS x c.N).bind fun i => (rq (.e sc e)).bind fun a => (rq (.e sc k)).map fun b => .alt (.setL (al a) i b a) (.setD (al a) i b a) else none
def mtS (c : Fx) (rq : Rec) (sc : Scope) (x m : Str) (e : Expr) (ap cp : Pos) : Option IS := if (visB sc x && okN x && noStar e && ap.endLine == cp.line) = true then (ixS x c.N).bind fun i => (rq (.e sc e)).bind fun a =>
    if m = "append" then some (.app (al a) i a) else if m = "extend" then some (.ext (al a) i a) else none
  else none
/-- x = ys.pop(); a, b = ys.pop(); xs.append(ys.pop(k)); xs.remove(e) -/
def popN (c : Fx) (sc : Scope) (x : Str) (e : Expr) : Option IS := match e with
  | .Call (.Attribute (.Name y _) m ap) [] [] cp => if m = "pop" then (if (locB sc x && visB sc y && okN y && ap.endLine == cp.line) = true then (ixS x c.N).bind fun i => (ixS y c.N).map fun j => .pop i j else none) else none
  | _ => none
def popTu (c : Fx) (sc : Scope) (ts : List Expr) (e : Expr) : Option IS := match e with
  | .Call (.Attribute (.Name y _) m ap) [] [] cp => if m = "pop" then (if (visB sc y && okN y && ap.endLine == cp.line) = true then (names ts).bind fun xs => (ixs c.N xs).bind fun is => if xs.all (locB sc) = true then (ixS y c.N).map fun j => .popT is j else none else none) else none
  | _ => none
def mt2 (c : Fx) (rq : Rec) (sc : Scope) (x m : Str) (e : Expr) (ap cp : Pos) : Option IS := if (visB sc x && okN x && noStar e && ap.endLine == cp.line) = true then (ixS x c.N).bind fun i =>
    if m = "append" then (match e with
      | .Call (.Attribute (.Name y _) m2 ap2) [k] [] cp2 => if m2 = "pop" then (if (visB sc y && okN y && noStar k && ap2.endLine == cp2.line) = true then (ixS y c.N).bind fun j => (rq (.e sc k)).map fun k' => .apop (al k') i j k' else none) else none
      | _ => none)
    else if m = "remove" then (rq (.e sc e)).map fun a => .alt (.rem i a) (.remD i a) else none
  else none
def expS (rq : Rec) (sc : Scope) (e : Expr) : Option IS := if noComp e = true then (rq (.e sc e)).map .exp else none
/-- xs[k] op= e -/
def augX (c : Fx) (rq : Rec) (sc : Scope) (x : Str) (k : Expr) (o : Operator) (e : Expr) : Option IS := if (visB sc x && okN x && noSlice k) = true then (opOf o).bind fun o' => (ixS x c.N).bind fun i => (rq (.e sc k)).bind fun b => (rq (.e sc e)).map fun a => if (o' = .add ∨ o' = .sub) then .alt (.augL o' i b a) (.augD o' i b a) else .augL o' i b a else none
/-- for .. in d.items(); for .. in d, where d is told to be a dict -/
def forX (c : Fx) (sc : Scope) (rec : List Stmt → IS) (tg x : Expr) (a : List Stmt) : Option IS := match x with
  | .Call (.Attribute (.Name d _) m ap) [] [] cp => if m = "items" then (if (isTupX tg && visB sc d && okN d && ap.endLine == cp.line) = true then (tgOf tg).bind fun t => (ixs c.N t.2).bind fun is => (ixS d c.N).bind fun i => if t.2.all (locB sc) = true then some (.for_ (i :: (al (.itI (.var i)) ++ dvs (.itI (.var i)))) is t.1 (.itI (.var i)) (rec a)) else none else none) else none
  | .Name d _ => if inL ⟨d.cps.push 35⟩ c.mt = true then (if (visB sc d && okN d) = true then (tgOf tg).bind fun t => (ixs c.N t.2).bind fun is => (ixS d c.N).bind fun i => if t.2.all (locB sc) = true then some (.for_ (i :: (al (.itK (.var i)) ++ dvs (.itK (.var i)))) is t.1 (.itK (.var i)) (rec a)) else none else none) else none
  | _ => none
def lookE (x : Str) : List (Str × Option Str) → Option (Nat × Option Str)
  | [] => none
  | y :: l => if y.1 = x then some (0, y.2) else (lookE x l).map fun p => (p.1 + 1, p.2)
theorem lookE_ok {x : Str} : ∀ {l : List (Str × Option Str)} {i : Nat} {n : Option Str}, lookE x l = some (i, n) → l[i]? = some (x, n)
  | y :: l, i, n, h => by
    unfold lookE at h
    split at h
    · rename_i e
      cases h
      simp [← e]
    · obtain ⟨j, h1, h2⟩ := Option.map_eq_some_iff.mp h
      cases h2
      simpa using lookE_ok h1
/-- raise C(), raise C(e) -/
def rsS (c : Fx) (rq : Rec) (sc : Scope) (x : Str) (l : List Expr) : Option IS := if (glB sc x && okN x) = true then (match lookE x c.T.ex, l with
  | some (k, none), [] => some (.raise0 k)
  | some (k, some _), [e] => if noStar e = true then (rq (.e sc e)).map (.raise1 k) else none
  | _, _ => none) else none
/-- one statement; rec: a block -/
def sOne (c : Fx) (rq : Rec) (sc : Scope) (rec : List Stmt → IS) (x : Stmt) : Option IS := match x with
  | .Raise (some (.Call (.Name x _) l [] _)) none _ => rsS c rq sc x l
  | .Pass _ => some .pass
  | .Break _ => some .brk
  | .Continue _ => some .cnt
  | .Return none _ => some .ret0
  | .Return (some e) _ => (rq (.e sc e)).map .ret
  | .Expr e _ => match e with
    | .Call (.Attribute (.Name x _) m ap) [e'] [] cp => (mt2 c rq sc x m e' ap cp).orElse fun _ => (mtS c rq sc x m e' ap cp).orElse fun _ => expS rq sc e
    | _ => expS rq sc e
  | .Assign [t] e _ => match t with
    | .Name x p => (popN c sc x e).orElse fun _ => asgN c rq sc x p e
    | .Tuple ts _ _ => (popTu c sc ts e).orElse fun _ => asgT c rq sc ts e
    | .Subscript (.Name x _) k _ => asgS c rq sc x k e
    | _ => none
  | .AugAssign (.Name x _) o e _ => if locB sc x = true then (opOf o).bind fun o' => (ixS x c.N).bind fun i => (rq (.e sc e)).map fun a => .aug o' i a else none
  | .AugAssign (.Subscript (.Name x _) k _) o e _ => augX c rq sc x k o e
  | .If t a b _ => (rq (.b sc t)).map fun t => .ite t (rec a) (rec b)
  | .While t a [] _ => (rq (.b sc t)).map fun t => .whl t (rec a)
  | .For tg x a [] _ => (forX c sc rec tg x a).orElse fun _ => if noSet x = true then (tgOf tg).bind fun t => (ixs c.N t.2).bind fun is => if t.2.all (locB sc) = true then (rq (.i sc tg x)).bind fun it => if (wkI it && t.1) = true then none else some (.for_ (al it ++ dvs it) is t.1 it (rec a)) else none else none
  | _ => none
def sAll (c : Fx) (rq : Rec) (sc : Scope) (rec : List Stmt → IS) : List Stmt → IS
  | [] => .nil
  | x :: l => .cons ((sOne c rq sc rec x).getD .die) (sAll c rq sc rec l)
def readS (c : Fx) (rq : Rec) (sc : Scope) : Nat → List Stmt → IS
  | 0 => fun _ => .die
  | n + 1 => sAll c rq sc (readS c rq sc n)

section
variable {aR : AR} {F : Fns} {c : Fx} {X : Cx} {sc : Scope} {rq : Rec} {ie : IE} {p pos : Pos} {is : IS}
variable (R : ∀ q ie, rq q = some ie → Snd aR F c.T c.N q ie) (G : Good aR F c.T c.N X sc) (hf : ∀ x, X.env.scope.names.lookup x = some .cell → X.fn x = true)
/-- a value to be assigned -/
def tRhs (aR : AR) (K : PySem.W.Frag) (F : Fns) (q : Bool × IE) : TE := if q.1 = true then tEvG aR K F q.2 else tEv aR K F q.2
include R G
theorem gDk_ok {x : Str} {e : Expr} {a : IE} (h : gDk c rq sc x e = some a) : PE X e (tEvG aR X.K F a) := by
  unfold gDk at h
  split at h
  · cases h
    exact g_of f_dic0
  · exact R _ _ h X G
theorem rhs_ok {x : Str} {e : Expr} {q : Bool × IE} (h : rhs c rq sc x e = some q) : PE X e (tRhs aR X.K F q) := by
  unfold rhs at h
  split at h
  · rcases or_else h with h | h
    · obtain ⟨a, h2, rfl⟩ := Option.map_eq_some_iff.mp h
      exact gDk_ok R G h2
    · obtain ⟨a, h2, rfl⟩ := Option.map_eq_some_iff.mp h
      exact re R G h2
  · obtain ⟨a, h2, rfl⟩ := Option.map_eq_some_iff.mp h
    exact re R G h2
theorem rhs_x {x : Str} {e : Expr} {q : Bool × IE} (h : rhs c rq sc x e = some q) (hq : q.1 = false) : PE X e (tRx aR X.K F (EX X) q.2) := by
  unfold rhs at h
  split at h
  · rcases or_else h with h | h
    · obtain ⟨a, h2, rfl⟩ := Option.map_eq_some_iff.mp h
      cases hq
    · obtain ⟨a, h2, rfl⟩ := Option.map_eq_some_iff.mp h
      exact reX R G h2
  · obtain ⟨a, h2, rfl⟩ := Option.map_eq_some_iff.mp h
    exact reX R G h2
theorem parL_ok : ∀ {ts es : List Expr} {l : List (Nat × Bool × IE)}, parL c rq sc ts es = some l → PA X es (tPs aR X.K F l) ∧ ∃ xs, names ts = some xs ∧ ixs c.N xs = some (l.map (·.1)) ∧ xs.all (locB sc) = true
  | [], [], l, h => by cases h; exact ⟨pa_nil, [], rfl, rfl, rfl⟩
  | [], _ :: _, l, h => by cases h
  | t :: ts, [], l, h => by cases t <;> cases h
  | t :: ts, e :: es, l, h => by
    cases t <;> first | (cases h; done) | skip
    rename_i x px
    have h : (if (noStar e && locB sc x) = true then (ixS x c.N).bind fun i => (rhs c rq sc x e).bind fun q => (parL c rq sc ts es).map fun l => (i, q.1, q.2) :: l else none) = some l := h
    split at h
    · rename_i hb
      rw [Bool.and_eq_true] at hb
      obtain ⟨i, h1, h⟩ := Option.bind_eq_some_iff.mp h
      obtain ⟨q, h2, h⟩ := Option.bind_eq_some_iff.mp h
      obtain ⟨l', h3, rfl⟩ := Option.map_eq_some_iff.mp h
      obtain ⟨k, xs, k1, k2, k3⟩ := parL_ok h3
      refine ⟨pa_cons (rhs_ok R G h2) k (star_of hb.1 es X.env), x :: xs, ?_, ?_, ?_⟩
      · show (names ts).map (x :: ·) = _
        rw [k1]; rfl
      · show ((ixS x c.N).bind fun i => (ixs c.N xs).map (i :: ·)) = _
        rw [h1, k2]; rfl
      · rw [List.all_cons, hb.2, k3]; rfl
    · cases h
theorem mtS_ok {x m : Str} {e : Expr} {p0 ap cp : Pos} (h : mtS c rq sc x m e ap cp = some is) : PS X (.Expr (.Call (.Attribute (.Name x p0) m ap) [e] [] cp) pos) (tEvS aR X.K F (EX X) is) := by
  unfold mtS at h
  split at h
  · rename_i hb
    simp only [Bool.and_eq_true] at hb
    obtain ⟨i, h1, h⟩ := Option.bind_eq_some_iff.mp h
    obtain ⟨a, h2, h9⟩ := Option.bind_eq_some_iff.mp h
    obtain ⟨o1, o2⟩ := okN_ok hb.1.1.2
    have hN : X.N[i]? = some x := by rw [G.n]; exact ixS_ok h1
    split at h9
    · rename_i em; subst em
      cases h9
      exact s_app hN (G.vis hb.1.1.1) o1 o2 (re R G h2) (fun _ q => q) (m1_of rfl hb.1.2 hb.2) (star_of hb.1.2 _ _) rfl
    · split at h9
      · rename_i em; subst em
        cases h9
        exact s_ext hN (G.vis hb.1.1.1) o1 o2 (re R G h2) (fun _ q => q) (m1_of rfl hb.1.2 hb.2) (star_of hb.1.2 _ _) rfl
      · cases h9
  · cases h
theorem mt2_ok {x m : Str} {e : Expr} {p0 ap cp : Pos} (h : mt2 c rq sc x m e ap cp = some is) : PS X (.Expr (.Call (.Attribute (.Name x p0) m ap) [e] [] cp) pos) (tEvS aR X.K F (EX X) is) := by
  unfold mt2 at h
  split at h
  · rename_i hb
    simp only [Bool.and_eq_true] at hb
    obtain ⟨i, h1, h9⟩ := Option.bind_eq_some_iff.mp h
    obtain ⟨o1, o2⟩ := okN_ok hb.1.1.2
    have hN : X.N[i]? = some x := by rw [G.n]; exact ixS_ok h1
    split at h9
    · rename_i em; subst em
      split at h9
      · split at h9
        · rename_i em; subst em
          split at h9
          · rename_i hc
            simp only [Bool.and_eq_true] at hc
            obtain ⟨j, h2, h9⟩ := Option.bind_eq_some_iff.mp h9
            obtain ⟨k', h3, rfl⟩ := Option.map_eq_some_iff.mp h9
            obtain ⟨u1, u2⟩ := okN_ok hc.1.1.2
            exact s_apop hN (G.vis hb.1.1.1) o1 o2 (by rw [G.n]; exact ixS_ok h2) (G.vis hc.1.1.1) u1 u2 (reC R G h3) (m1_of rfl hb.1.2 hb.2) (m1_of rfl hc.1.2 hc.2) (star_of hc.1.2 _ _)
          · cases h9
        · cases h9
      · cases h9
    · split at h9
      · rename_i em; subst em
        obtain ⟨a, h2, rfl⟩ := Option.map_eq_some_iff.mp h9
        have hs := star_of hb.1.2 [] X.env
        exact s_alt (s_rem hN (G.vis hb.1.1.1) o1 o2 (reC R G h2) (m1_of rfl hb.1.2 hb.2) hs) (s_remD G.units hN (G.vis hb.1.1.1) o1 o2 (reC R G h2) (m1_of rfl hb.1.2 hb.2) hs)
      · cases h9
  · cases h
omit R in
theorem popN_ok {x : Str} {e : Expr} (hf : ∀ x, X.env.scope.names.lookup x = some .cell → X.fn x = true) (h : popN c sc x e = some is) : PS X (.Assign [.Name x p] e pos) (tEvS aR X.K F (EX X) is) := by
  unfold popN at h
  split at h
  · split at h
    · rename_i em; subst em
      split at h
      · rename_i hb
        simp only [Bool.and_eq_true] at hb
        obtain ⟨i, h1, h⟩ := Option.bind_eq_some_iff.mp h
        obtain ⟨j, h2, rfl⟩ := Option.map_eq_some_iff.mp h
        obtain ⟨l1, l2⟩ := G.fnl hf hb.1.1.1
        obtain ⟨u1, u2⟩ := okN_ok hb.1.2
        exact s_pop G.nd (by rw [G.n]; exact ixS_ok h1) l1 l2 (by rw [G.n]; exact ixS_ok h2) (G.vis hb.1.1.2) u1 u2 hb.2
      · cases h
    · cases h
  · cases h
omit R in
theorem popTu_ok {ts : List Expr} {e : Expr} {k : Nat} (hf : ∀ x, X.env.scope.names.lookup x = some .cell → X.fn x = true) (h : popTu c sc ts e = some is) : PS X (.Assign [.Tuple ts k p] e pos) (tEvS aR X.K F (EX X) is) := by
  unfold popTu at h
  split at h
  · split at h
    · rename_i em; subst em
      split at h
      · rename_i hb
        simp only [Bool.and_eq_true] at hb
        obtain ⟨xs, n1, h⟩ := Option.bind_eq_some_iff.mp h
        obtain ⟨is', n2, h⟩ := Option.bind_eq_some_iff.mp h
        split at h
        · rename_i n3
          obtain ⟨j, h2, rfl⟩ := Option.map_eq_some_iff.mp h
          obtain ⟨g1, g2, g3⟩ := names_gs G (lb := locB sc) (fun x hx => G.fnl hf hx) n1 n2 n3
          obtain ⟨u1, u2⟩ := okN_ok hb.1.2
          exact s_popT (by rw [G.n]; exact ixS_ok h2) (G.vis hb.1.1) u1 u2 hb.2 fun he => ps_asg he (t_tup G.calm g1 g2 g3) (sw_no' rfl) rfl rfl
        · cases h
      · cases h
    · cases h
  · cases h
theorem expS_ok {e : Expr} (h : expS rq sc e = some is) : PS X (.Expr e pos) (tEvS aR X.K F (EX X) is) := by
  unfold expS at h
  split at h
  · rename_i hb
    obtain ⟨a, h2, rfl⟩ := Option.map_eq_some_iff.mp h
    exact s_exp (re R G h2) (reX R G h2) (sw_no hb)
  · cases h
theorem asgS_ok {x : Str} {k e : Expr} {p0 sp : Pos} (h : asgS c rq sc x k e = some is) : PS X (.Assign [.Subscript (.Name x p0) k sp] e pos) (tEvS aR X.K F (EX X) is) := by
  unfold asgS at h
  split at h
  · rename_i hb
    simp only [Bool.and_eq_true] at hb
    obtain ⟨i, h1, h⟩ := Option.bind_eq_some_iff.mp h
    obtain ⟨a, h2, h⟩ := Option.bind_eq_some_iff.mp h
    obtain ⟨b, h3, rfl⟩ := Option.map_eq_some_iff.mp h
    obtain ⟨o1, o2⟩ := okN_ok hb.1.1.2
    have hN : X.N[i]? = some x := by rw [G.n]; exact ixS_ok h1
    refine s_alt (s_setL hN (G.vis hb.1.1.1) o1 o2 (re R G h2) (reC R G h3) (fun _ q => q) (fun he hg => ps_asg he hg (sw_no' hb.2) rfl rfl) ?_) (s_setD (by have := G.units; omega) hN (G.vis hb.1.1.1) o1 o2 (re R G h2) (reC R G h3) (fun _ q => q) (sw_no hb.2))
    intro v
    cases k <;> first | rfl | exact absurd hb.1.2 (by simp [noSlice])
  · cases h
theorem asg_sw0 {elt : Expr} {gens : List Comprehension} {scope : Scope} {vp p : Pos} {x : Str} {i : Nat} (hx : c.N[i]? = some x) (h : eComp0 c.N rq sc elt gens scope = some ie) (hs : swB sc x p scope vp = true) :
    PS X (.Assign [.Name x p] (.ListComp elt gens scope vp) pos) (tAsg (tEvF aR X.K F ie) (gName i)) := by
  unfold eComp0 at h
  split at h
  · rename_i tgx iter ifs
    obtain ⟨t, h1, h⟩ := Option.bind_eq_some_iff.mp h
    obtain ⟨tg, h2, h⟩ := Option.bind_eq_some_iff.mp h
    split at h
    · rename_i hb
      simp only [Bool.and_eq_true] at hb
      obtain ⟨it, h3, h⟩ := Option.bind_eq_some_iff.mp h
      split at h
      · cases h
      rename_i hwk
      obtain ⟨cc, h4, h⟩ := Option.bind_eq_some_iff.mp h
      obtain ⟨e, h5, rfl⟩ := Option.map_eq_some_iff.mp h
      have bo := blkOk_by hb.1.1
      have bo' : BlkOk X.N X.env.scope scope (t.2.zip tg) := by rw [G.n, G.scope]; exact bo
      have hl : X.env.scope.names.lookup x = some .local := by
        unfold swB at hs
        simp only [Bool.and_eq_true] at hs
        rw [G.scope]
        exact eq_of_beq hs.1.1
      have hw := sw_lc (elt := elt) (gs := [⟨tgx, iter, ifs, 0⟩]) (scope := scope) (vp := vp) (p := p) (x := x) (n := pos.line) (env := X.env) G.kind
      rw [G.scope, hs] at hw
      have k := ps_setLc (te := tEv aR X.K F e) (tt := tCd aR X.K F cc.1 cc.2) (g := gT X.K t.1 tg) (i := i) (elt := elt) (pos := vp) (spos := pos) (py := p) G.calm G.nd (by rw [G.n]; exact hx) hl hw (R _ _ h3 X G).1 bo' (fun s H C cl fp => tg_ok (G.blk bo.kind s H C cl fp) (lb := locB scope) (fun x hx => blk_loc hx) h1 h2 hb.1.2) (fun s H C cl fp => condQ_ok R (G.blk bo.kind s H C cl fp) h4)
        (fun s H C cl fp => (R _ _ h5 _ (G.blk bo.kind s H C cl fp)).1) (noSet_for hb.2)
      rw [zip_snd (ixs_ok h2).1] at k
      exact PS.imp k fun D σ H q => comp_reads (fun i hi => List.mem_append_left _ hi) (fun i hi => List.mem_append_right _ hi) (wk_of hwk) σ H _ q
    · cases h
  · cases h
theorem asg_swI {elt : Expr} {gens : List Comprehension} {scope : Scope} {vp p : Pos} {x : Str} {i : Nat} (hx : c.N[i]? = some x) (h : eCompI c.N rq sc elt gens scope = some ie) (hs : swB sc x p scope vp = true) :
    PS X (.Assign [.Name x p] (.ListComp elt gens scope vp) pos) (tAsg (tEvF aR X.K F ie) (gName i)) := by
  unfold eCompI at h
  split at h
  · rename_i es kk tp d p0 m ap cp ifs
    split at h
    · rename_i em; subst em
      obtain ⟨t, h1, h⟩ := Option.bind_eq_some_iff.mp h
      obtain ⟨tg, h2, h⟩ := Option.bind_eq_some_iff.mp h
      obtain ⟨j, h3, h⟩ := Option.bind_eq_some_iff.mp h
      split at h
      · rename_i hb
        simp only [Bool.and_eq_true] at hb
        obtain ⟨cc, h4, h⟩ := Option.bind_eq_some_iff.mp h
        obtain ⟨e, h5, rfl⟩ := Option.map_eq_some_iff.mp h
        have bo := blkOk_by hb.1.1.1.1
        have bo' : BlkOk X.N X.env.scope scope (t.2.zip tg) := by rw [G.n, G.scope]; exact bo
        obtain ⟨o1, o2⟩ := okN_ok hb.1.2
        have hl : X.env.scope.names.lookup x = some .local := by
          unfold swB at hs
          simp only [Bool.and_eq_true] at hs
          rw [G.scope]
          exact eq_of_beq hs.1.1
        have hw := sw_lc (elt := elt) (gs := [⟨.Tuple es kk tp, .Call (.Attribute (.Name d p0) "items" ap) [] [] cp, ifs, 0⟩]) (scope := scope) (vp := vp) (p := p) (x := x) (n := pos.line) (env := X.env) G.kind
        rw [G.scope, hs] at hw
        have k := ps_setLc (te := tEv aR X.K F e) (tt := tCd aR X.K F cc.1 cc.2) (g := gT X.K t.1 tg) (i := i) (elt := elt) (pos := vp) (spos := pos) (py := p) G.calm G.nd (by rw [G.n]; exact hx) hl hw (i_I (aR := aR) (F := F) (by rw [G.n]; exact ixS_ok h3) (G.vis hb.1.1.2) o1 o2 rfl hb.2) bo' (fun s H C cl fp => tg_ok (G.blk bo.kind s H C cl fp) (lb := locB scope) (fun x hx => blk_loc hx) h1 h2 hb.1.1.1.2) (fun s H C cl fp => condQ_ok R (G.blk bo.kind s H C cl fp) h4)
          (fun s H C cl fp => (R _ _ h5 _ (G.blk bo.kind s H C cl fp)).1) (noSet_for rfl)
        rw [zip_snd (ixs_ok h2).1] at k
        exact a_lock (.inl rfl) List.mem_cons_self (PS.imp k fun D σ H ⟨hf, q⟩ => ⟨hf, comp_reads (fun i hi => List.mem_cons_of_mem _ (List.mem_append_left _ hi)) (fun i hi => List.mem_cons_of_mem _ (List.mem_append_right _ hi)) (fun _ => by obtain ⟨_, _, rfl⟩ := Option.map_eq_some_iff.mp h1; rfl) σ H _ q⟩)
      · cases h
    · cases h
  · cases h
theorem asg_sw {elt : Expr} {gens : List Comprehension} {scope : Scope} {vp p : Pos} {x : Str} {i : Nat} (hx : c.N[i]? = some x) (h : eComp2 c.N rq sc elt gens scope = some ie) (hs : swB sc x p scope vp = true) :
    PS X (.Assign [.Name x p] (.ListComp elt gens scope vp) pos) (tAsg (tEvF aR X.K F ie) (gName i)) := by
  rcases or_else h with h | h
  · exact asg_sw0 R G hx h hs
  · exact asg_swI R G hx h hs
theorem asg_swx0 {elt : Expr} {gens : List Comprehension} {scope : Scope} {vp p : Pos} {x : Str} {i : Nat} (hx : c.N[i]? = some x) (h : eComp0 c.N rq sc elt gens scope = some ie) (hs : swB sc x p scope vp = true) :
    PS X (.Assign [.Name x p] (.ListComp elt gens scope vp) pos) (tRxS aR X.K F (EX X) ie) := by
  unfold eComp0 at h
  split at h
  · rename_i tgx iter ifs
    obtain ⟨t, h1, h⟩ := Option.bind_eq_some_iff.mp h
    obtain ⟨tg, h2, h⟩ := Option.bind_eq_some_iff.mp h
    split at h
    · rename_i hb
      simp only [Bool.and_eq_true] at hb
      obtain ⟨it, h3, h⟩ := Option.bind_eq_some_iff.mp h
      split at h
      · cases h
      rename_i hwk
      obtain ⟨cc, h4, h⟩ := Option.bind_eq_some_iff.mp h
      obtain ⟨e, h5, rfl⟩ := Option.map_eq_some_iff.mp h
      have bo := blkOk_by hb.1.1
      have bo' : BlkOk X.N X.env.scope scope (t.2.zip tg) := by rw [G.n, G.scope]; exact bo
      have hl : X.env.scope.names.lookup x = some .local := by
        unfold swB at hs
        simp only [Bool.and_eq_true] at hs
        rw [G.scope]
        exact eq_of_beq hs.1.1
      have hw := sw_lc (elt := elt) (gs := [⟨tgx, iter, ifs, 0⟩]) (scope := scope) (vp := vp) (p := p) (x := x) (n := pos.line) (env := X.env) G.kind
      rw [G.scope, hs] at hw
      have k := ps_setLc (te := tEv aR X.K F e) (tt := tCd aR X.K F cc.1 cc.2) (g := gT X.K t.1 tg) (i := i) (elt := elt) (pos := vp) (spos := pos) (py := p) G.calm G.nd (by rw [G.n]; exact hx) hl hw (R _ _ h3 X G).2 bo' (fun s H C cl fp => tg_ok (G.blk bo.kind s H C cl fp) (lb := locB scope) (fun x hx => blk_loc hx) h1 h2 hb.1.2) (fun s H C cl fp => condQ_ok R (G.blk bo.kind s H C cl fp) h4)
        (fun s H C cl fp => (R _ _ h5 _ (G.blk bo.kind s H C cl fp)).1) (noSet_for hb.2)
      exact PS.imp k fun D σ H q => q
    · cases h
  · cases h
theorem asg_swx {elt : Expr} {gens : List Comprehension} {scope : Scope} {vp p : Pos} {x : Str} {i : Nat} (hx : c.N[i]? = some x) (h : eComp2 c.N rq sc elt gens scope = some ie) (hs : swB sc x p scope vp = true) :
    PS X (.Assign [.Name x p] (.ListComp elt gens scope vp) pos) (tRxS aR X.K F (EX X) ie) := by
  rcases or_else h with h | h
  · exact asg_swx0 R G hx h hs
  · unfold eCompI at h
    split at h
    · split at h
      · obtain ⟨t, h1, h⟩ := Option.bind_eq_some_iff.mp h
        obtain ⟨tg, h2, h⟩ := Option.bind_eq_some_iff.mp h
        obtain ⟨j, h3, h⟩ := Option.bind_eq_some_iff.mp h
        split at h
        · obtain ⟨cc, h4, h⟩ := Option.bind_eq_some_iff.mp h
          obtain ⟨e, h5, rfl⟩ := Option.map_eq_some_iff.mp h
          exact psr_no fun _ _ => rfl
        · cases h
      · cases h
    · cases h
include hf
theorem asgN_ok {x : Str} {e : Expr} (h : asgN c rq sc x p e = some is) : PS X (.Assign [.Name x p] e pos) (tEvS aR X.K F (EX X) is) := by
  unfold asgN at h
  split at h
  · rename_i hl
    obtain ⟨i, h1, h⟩ := Option.bind_eq_some_iff.mp h
    have hx := ixS_ok h1
    obtain ⟨l1, l2⟩ := G.fnl hf hl
    have gen : ∀ {e : Expr} {q : Bool × IE}, swapsWith e (some (.Name x p)) pos.line X.env = pure false → rhs c rq sc x e = some q → PS X (.Assign [.Name x p] e pos) (tEvS aR X.K F (EX X) (.asg (al q.2) i q.1 q.2)) := by
      intro e q hs hq
      have k := ps_set (pos := pos) G.nd (by rw [G.n]; exact hx) l1 (rhs_ok R G hq) hs l2
      obtain ⟨o, a⟩ := q
      cases o with
      | true => exact s_asgO k fun _ q => q
      | false => exact s_asgF k (PS.imp (ps_set (pos := pos) G.nd (by rw [G.n]; exact hx) l1 (rhs_x R G hq rfl) hs l2) fun D σ H q => q) fun _ q => q
    split at h
    · rename_i elt gs scope vp _
      split at h
      · rename_i hs
        obtain ⟨a, h2, rfl⟩ := Option.map_eq_some_iff.mp h
        have k := asg_sw (pos := pos) R G hx h2 hs
        cases inL x c.mt with
        | true => exact s_asgO (PS.imp k fun D σ H ⟨Z, H0, env, r, ok, d, r', e, _, q⟩ => ⟨Z, H0, env, r, ok, d, r', e, q⟩) fun _ q => q
        | false => exact s_asgF (PS.imp k fun D σ H q => fF_pt q) (asg_swx (pos := pos) R G hx h2 hs) fun _ q => q
      · rename_i hs
        obtain ⟨q, h2, rfl⟩ := Option.map_eq_some_iff.mp h
        have hw := sw_lc (elt := elt) (gs := gs) (scope := scope) (vp := vp) (p := p) (x := x) (n := pos.line) (env := X.env) G.kind
        rw [G.scope, (by simpa using hs : swB sc x p scope vp = false)] at hw
        exact gen hw h2
    · split at h
      · rename_i hn
        obtain ⟨q, h2, rfl⟩ := Option.map_eq_some_iff.mp h
        exact gen (sw_no hn) h2
      · cases h
  · cases h
end
end Wl
/-! Blocks read. -/
namespace Wl
open PySem PySem.Spec PyProof.Rows L2

section
variable {aR : AR} {F : Fns} {c : Fx} {X : Cx} {sc : Scope} {rq : Rec} {ie : IE} {p pos : Pos} {is : IS}
variable (R : ∀ q ie, rq q = some ie → Snd aR F c.T c.N q ie) (G : Good aR F c.T c.N X sc) (hf : ∀ x, X.env.scope.names.lookup x = some .cell → X.fn x = true)
theorem names_len : ∀ {ts : List Expr} {xs : List Str}, names ts = some xs → xs.length = ts.length
  | [], _, h => by cases h; rfl
  | t :: ts, _, h => by
    cases t <;> first | (cases h; done) | skip
    have h : (names ts).map (_ :: ·) = some _ := h
    obtain ⟨ys, h1, rfl⟩ := Option.map_eq_some_iff.mp h
    simp [names_len h1]
theorem names_two {ts : List Expr} {x y : Str} (h : names ts = some [x, y]) : ∃ p q, ts = [.Name x p, .Name y q] := by
  match ts, h with
  | [a, b], h =>
    cases a <;> first | (cases h; done) | skip
    cases b <;> first | (cases h; done) | skip
    cases h
    exact ⟨_, _, rfl⟩
  | [], h => cases h
  | [a], h => exact absurd (names_len h) (by simp)
  | a :: b :: d :: r, h => exact absurd (names_len h) (by simp)
theorem names_three {ts : List Expr} {x y z : Str} (h : names ts = some [x, y, z]) : ∃ p q r, ts = [.Name x p, .Name y q, .Name z r] := by
  match ts, h with
  | [a, b, d], h =>
    cases a <;> first | (cases h; done) | skip
    cases b <;> first | (cases h; done) | skip
    cases d <;> first | (cases h; done) | skip
    cases h
    exact ⟨_, _, _, rfl⟩
  | [], h => cases h
  | [a], h => exact absurd (names_len h) (by simp)
  | [a, b], h => exact absurd (names_len h) (by simp)
  | a :: b :: d :: e :: r, h => exact absurd (names_len h) (by simp)
theorem ixs_map {N : List Str} : ∀ {xs : List Str} {is : List Nat}, ixs N xs = some is → ∀ (j : Nat) (i : Nat), is[j]? = some i → ∃ x, xs[j]? = some x ∧ N[i]? = some x := fun {xs is} h j i hi => by
  obtain ⟨h1, h2⟩ := ixs_ok h
  have hj : j < xs.length := by rw [← h1]; exact (List.getElem?_eq_some_iff.mp hi).1
  exact ⟨xs[j], List.getElem?_eq_getElem hj, h2 j _ i (List.getElem?_eq_getElem hj) hi⟩
theorem ixs_ne {N : List Str} {xs : List Str} {is : List Nat} (hn : xs.Nodup) (h : ixs N xs = some is) {j k a b : Nat} (hj : is[j]? = some a) (hk : is[k]? = some b) (hjk : j ≠ k) : a ≠ b := fun e => by
  obtain ⟨x, x1, x2⟩ := ixs_map h j a hj
  obtain ⟨y, y1, y2⟩ := ixs_map h k b hk
  rw [← e, x2] at y2
  cases y2
  obtain ⟨l1, e1⟩ := List.getElem?_eq_some_iff.mp x1
  obtain ⟨l2, e2⟩ := List.getElem?_eq_some_iff.mp y1
  have pw := List.pairwise_iff_getElem.mp hn
  rcases Nat.lt_or_gt_of_ne hjk with q | q
  · exact pw j k l1 l2 q (e1.trans e2.symm)
  · exact pw k j l2 l1 q (e2.trans e1.symm)
theorem parL_len : ∀ {ts es : List Expr} {l : List (Nat × Bool × IE)}, parL c rq sc ts es = some l → es.length = l.length
  | [], [], l, h => by cases h; rfl
  | [], _ :: _, l, h => by cases h
  | t :: ts, [], l, h => by cases t <;> cases h
  | t :: ts, e :: es, l, h => by
    cases t <;> first | (cases h; done) | skip
    rename_i x px
    have h : (if (noStar e && locB sc x) = true then (ixS x c.N).bind fun i => (rhs c rq sc x e).bind fun q => (parL c rq sc ts es).map fun l => (i, q.1, q.2) :: l else none) = some l := h
    split at h
    · obtain ⟨i, h1, h⟩ := Option.bind_eq_some_iff.mp h
      obtain ⟨q, h2, h⟩ := Option.bind_eq_some_iff.mp h
      obtain ⟨l', h3, rfl⟩ := Option.map_eq_some_iff.mp h
      simp [parL_len h3]
    · cases h
include R G hf
theorem asgT_ok {ts : List Expr} {e : Expr} {k : Nat} (h : asgT c rq sc ts e = some is) : PS X (.Assign [.Tuple ts k p] e pos) (tEvS aR X.K F (EX X) is) := by
  unfold asgT at h
  split at h
  · rename_i vs k2 p2
    split at h
    · rename_i l hw hl
      have hsz : l.length ≤ 100 ∧ .par (l.flatMap fun x => al x.2.2) l = is := by
        split at h
        · exact ⟨‹_›, Option.some.inj h⟩
        · cases h
      obtain ⟨hsz, rfl⟩ := hsz
      obtain ⟨ha, xs, n1, n2, n3⟩ := parL_ok R G hl
      obtain ⟨g1, g2, g3⟩ := names_gs G (lb := locB sc) (fun x hx => G.fnl hf hx) n1 n2 n3
      refine s_parN ?_ ?_ (fun u hu j hj => List.mem_flatMap.mpr ⟨u, hu, hj⟩)
      · exact ps_asg (pe_tup ha) (t_tup G.calm g1 g2 g3) (sw_no' rfl) (swOf_ok G.kind (by rw [G.scope]; exact hw)) rfl
      · exact Nat.le_trans hsz (by decide)
    · rename_i ys l hw hl
      obtain ⟨xs, h1, h⟩ := Option.bind_eq_some_iff.mp h
      split at h
      · rename_i hc
        cases h
        obtain ⟨rfl, nd, hloc, hlen⟩ := hc
        obtain ⟨ha, xs, n1, n2, n3⟩ := parL_ok R G hl
        rw [h1] at n1
        cases n1
        have hsw := swOf_ok (k1 := k) (k2 := k2) (p1 := p) (p2 := p2) G.kind (by rw [G.scope]; exact hw)
        have hL : ∀ x ∈ ys, X.env.scope.names.lookup x = some .local := fun x hx => by rw [G.scope]; exact of_decide_eq_true (List.all_eq_true.mp hloc x hx)
        have hvl : vs.length = l.length := parL_len hl
        have hyl : ys.length = l.length := by have := (ixs_ok n2).1; rw [List.length_map] at this; exact this.symm
        rcases hlen with hlen | hlen
        · obtain ⟨u, v, rfl⟩ := len2 hlen
          obtain ⟨x, y, rfl⟩ := len2 (hyl.trans hlen)
          obtain ⟨a, b, rfl⟩ := len2 (hvl.trans hlen)
          obtain ⟨px, py, rfl⟩ := names_two h1
          refine s_par2 ?_ (fun w hw j hj => List.mem_flatMap.mpr ⟨w, hw, hj⟩)
          exact ps_par G.calm G.nd (by rw [G.n]; exact (ixs_ok n2).2 0 x u.1 rfl rfl) (by rw [G.n]; exact (ixs_ok n2).2 1 y v.1 rfl rfl) (ixs_ne nd n2 (j := 0) (k := 1) rfl rfl (by decide)) (hL x (by simp)) (hL y (by simp)) ha hsw (sw_no' rfl)
        · obtain ⟨u, v, w, rfl⟩ := len3 hlen
          obtain ⟨x, y, z, rfl⟩ := len3 (hyl.trans hlen)
          obtain ⟨a, b, d, rfl⟩ := len3 (hvl.trans hlen)
          obtain ⟨px, py, pz, rfl⟩ := names_three h1
          refine s_par3 ?_ (fun w hw j hj => List.mem_flatMap.mpr ⟨w, hw, hj⟩)
          exact ps_par3 G.calm G.nd (by rw [G.n]; exact (ixs_ok n2).2 0 x u.1 rfl rfl) (by rw [G.n]; exact (ixs_ok n2).2 1 y v.1 rfl rfl) (by rw [G.n]; exact (ixs_ok n2).2 2 z w.1 rfl rfl)
            (ixs_ne nd n2 (j := 0) (k := 1) rfl rfl (by decide)) (ixs_ne nd n2 (j := 0) (k := 2) rfl rfl (by decide)) (ixs_ne nd n2 (j := 1) (k := 2) rfl rfl (by decide)) (hL x (by simp)) (hL y (by simp)) (hL z (by simp)) ha hsw (sw_no' rfl)
      · cases h
    · cases h
  · rename_i hnt
    split at h
    · rename_i hn
      obtain ⟨xs, n1, h⟩ := Option.bind_eq_some_iff.mp h
      obtain ⟨is', n2, h⟩ := Option.bind_eq_some_iff.mp h
      split at h
      · rename_i n3
        obtain ⟨a, h2, rfl⟩ := Option.map_eq_some_iff.mp h
        obtain ⟨g1, g2, g3⟩ := names_gs G (lb := locB sc) (fun x hx => G.fnl hf hx) n1 n2 n3
        refine s_asgT ?_ fun _ q => q
        refine ps_asg (re R G h2) (t_tup G.calm g1 g2 g3) (sw_no' hn) ?_ rfl
        cases e <;> first | rfl | exact (hnt _ _ _ rfl).elim
      · cases h
    · cases h
omit hf in
theorem augX_ok {x : Str} {k e : Expr} {o : Operator} {p0 sp : Pos} (h : augX c rq sc x k o e = some is) : PS X (.AugAssign (.Subscript (.Name x p0) k sp) o e pos) (tEvS aR X.K F (EX X) is) := by
  unfold augX at h
  split at h
  · rename_i hb
    simp only [Bool.and_eq_true] at hb
    obtain ⟨o', h0, h⟩ := Option.bind_eq_some_iff.mp h
    obtain ⟨i, h1, h⟩ := Option.bind_eq_some_iff.mp h
    obtain ⟨b, h2, h⟩ := Option.bind_eq_some_iff.mp h
    obtain ⟨a, h3, h⟩ := Option.map_eq_some_iff.mp h
    obtain ⟨o1, o2⟩ := okN_ok hb.1.2
    have hN : X.N[i]? = some x := by rw [G.n]; exact ixS_ok h1
    have hs : ∀ ov iv new, augStore k ov iv new = (do holding [new, ov, iv] (setItem ov iv new); release [new, ov, iv] []; pure .next) := fun ov iv new => by
      cases k <;> first | rfl | exact absurd hb.2 (by simp [noSlice])
    have l := s_augL (pos := pos) (p0 := p0) (spos := sp) hN (G.vis hb.1.1) o1 o2 (opOf_ok h0) (reC R G h2) (re R G h3) hs
    split at h
    · rename_i h2o
      cases h
      exact s_alt l (s_augD (by have := G.units; omega) hN (G.vis hb.1.1) o1 o2 (opOf_ok h0) h2o (reC R G h2) (re R G h3) hs)
    · cases h
      exact l
  · cases h
omit R in
theorem forX_ok {rec : List Stmt → IS} (Rec : ∀ l, PSs X l (tEvS aR X.K F (EX X) (rec l))) {tg x : Expr} {tb : List Stmt} (h : forX c sc rec tg x tb = some is) : PS X (.For tg x tb [] pos) (tEvS aR X.K F (EX X) is) := by
  unfold forX at h
  split at h
  · rename_i d p0 m ap cp
    split at h
    · rename_i em; subst em
      split at h
      · rename_i hb
        simp only [Bool.and_eq_true] at hb
        obtain ⟨t, h1, h⟩ := Option.bind_eq_some_iff.mp h
        obtain ⟨is, h2, h⟩ := Option.bind_eq_some_iff.mp h
        obtain ⟨i, h4, h⟩ := Option.bind_eq_some_iff.mp h
        split at h
        · rename_i h3
          cases h
          obtain ⟨o1, o2⟩ := okN_ok hb.1.2
          refine s_lock (.inl rfl) List.mem_cons_self ?_
          have hg := tg_ok G (lb := locB sc) (fun x hx => G.fnl hf hx) h1 h2 h3
          cases tg <;> first | exact s_forC G.pass G.calm (i_I (by rw [G.n]; exact ixS_ok h4) (G.vis hb.1.1.2) o1 o2 rfl hb.2) hg (Rec _) (noSet_for rfl) (fun i hi => List.mem_cons_of_mem _ (List.mem_append_left _ hi)) (fun i hi => List.mem_cons_of_mem _ (List.mem_append_right _ hi)) (fun _ => by obtain ⟨_, _, rfl⟩ := Option.map_eq_some_iff.mp h1; rfl) | exact absurd hb.1.1.1 (by simp [isTupX])
        · cases h
      · cases h
    · cases h
  · rename_i d p0
    split at h
    · split at h
      · rename_i hb
        simp only [Bool.and_eq_true] at hb
        obtain ⟨t, h1, h⟩ := Option.bind_eq_some_iff.mp h
        obtain ⟨is, h2, h⟩ := Option.bind_eq_some_iff.mp h
        obtain ⟨i, h4, h⟩ := Option.bind_eq_some_iff.mp h
        split at h
        · rename_i h3
          cases h
          obtain ⟨o1, o2⟩ := okN_ok hb.2
          refine s_lock (.inr rfl) List.mem_cons_self ?_
          have hg := tg_ok G (lb := locB sc) (fun x hx => G.fnl hf hx) h1 h2 h3
          exact s_forC G.pass G.calm (i_K (by rw [G.n]; exact ixS_ok h4) (G.vis hb.1) o1 o2) hg (Rec _) (noSet_for rfl) (fun i hi => List.mem_cons_of_mem _ (List.mem_append_left _ hi)) (fun i hi => List.mem_cons_of_mem _ (List.mem_append_right _ hi)) (fun z => by cases z)
        · cases h
      · cases h
    · cases h
  · cases h
omit hf in
theorem rsS_ok {x : Str} {l : List Expr} {p0 cp : Pos} (h : rsS c rq sc x l = some is) : PS X (.Raise (some (.Call (.Name x p0) l [] cp)) none pos) (tEvS aR X.K F (EX X) is) := by
  unfold rsS at h
  split at h
  · rename_i hb
    simp only [Bool.and_eq_true] at hb
    have hg := G.gl hb.1
    obtain ⟨o1, o2⟩ := okN_ok hb.2
    split at h
    · rename_i k hk
      cases h
      obtain ⟨C, h1, h2⟩ := G.er k x none (lookE_ok hk)
      exact s_raise0 G.calm (er_mk0 h2 hg o1) h1
    · rename_i k f e hk
      split at h
      · rename_i hs
        obtain ⟨a, h3, rfl⟩ := Option.map_eq_some_iff.mp h
        obtain ⟨C, h1, h2⟩ := G.er k x (some f) (lookE_ok hk)
        exact s_raise1 (te := fun _ _ _ => True) G.calm (fun te ht => er_mk1 h2 hg G.rm o1 ht (star_of hs [] X.env)) (re R G h3) h1
      · cases h
    · cases h
  · cases h
theorem sOne_ok {rec : List Stmt → IS} (Rec : ∀ l, PSs X l (tEvS aR X.K F (EX X) (rec l))) {x : Stmt} (h : sOne c rq sc rec x = some is) : PS X x (tEvS aR X.K F (EX X) is) := by
  unfold sOne at h
  split at h
  · exact rsS_ok R G h
  · cases h; exact s_pass
  · cases h; exact s_brk
  · cases h; exact s_cnt
  · cases h; exact s_ret0
  · obtain ⟨a, h2, rfl⟩ := Option.map_eq_some_iff.mp h
    exact s_ret (re R G h2) (reX R G h2)
  · split at h
    · rcases or_else h with h | h
      · exact mt2_ok R G h
      · rcases or_else h with h | h
        · exact mtS_ok R G h
        · exact expS_ok R G h
    · exact expS_ok R G h
  · split at h
    · rcases or_else h with h | h
      · exact popN_ok G hf h
      · exact asgN_ok R G hf h
    · rcases or_else h with h | h
      · exact popTu_ok G hf h
      · exact asgT_ok R G hf h
    · exact asgS_ok R G h
    · cases h
  · split at h
    · rename_i hl
      obtain ⟨o, h1, h⟩ := Option.bind_eq_some_iff.mp h
      obtain ⟨i, h2, h⟩ := Option.bind_eq_some_iff.mp h
      obtain ⟨a, h3, rfl⟩ := Option.map_eq_some_iff.mp h
      obtain ⟨l1, l2⟩ := G.fnl hf hl
      exact s_aug G.nd (by rw [G.n]; exact ixS_ok h2) l1 l2 (opOf_ok h1) (re R G h3)
    · cases h
  · exact augX_ok R G h
  · obtain ⟨a, h2, rfl⟩ := Option.map_eq_some_iff.mp h
    exact s_ite (R _ _ h2 X G).t (Rec _) (Rec _)
  · obtain ⟨a, h2, rfl⟩ := Option.map_eq_some_iff.mp h
    exact s_whl G.pass (R _ _ h2 X G).t (Rec _)
  · rcases or_else h with h | h
    · exact forX_ok G hf Rec h
    split at h
    · rename_i hn
      obtain ⟨t, h1, h⟩ := Option.bind_eq_some_iff.mp h
      obtain ⟨is, h2, h⟩ := Option.bind_eq_some_iff.mp h
      split at h
      · rename_i h3
        obtain ⟨it, h4, h⟩ := Option.bind_eq_some_iff.mp h
        split at h
        · cases h
        rename_i hw
        cases h
        exact s_for G.pass G.calm (R _ _ h4 X G).1 (tg_ok G (lb := locB sc) (fun x hx => G.fnl hf hx) h1 h2 h3) (Rec _) (noSet_for hn) (fun i hi => List.mem_append_left _ hi) (fun i hi => List.mem_append_right _ hi) (wk_of hw)
      · cases h
    · cases h
  · cases h
theorem sAll_ok {rec : List Stmt → IS} (Rec : ∀ l, PSs X l (tEvS aR X.K F (EX X) (rec l))) : ∀ l, PSs X l (tEvS aR X.K F (EX X) (sAll c rq sc rec l))
  | [] => s_nil
  | x :: l => by
    refine s_cons ?_ (sAll_ok Rec l)
    cases h : sOne c rq sc rec x with
    | none => exact s_die
    | some is => exact sOne_ok R G hf Rec h
theorem readS_ok : ∀ n l, PSs X l (tEvS aR X.K F (EX X) (readS c rq sc n l))
  | 0, l => ⟨fun pins s σ H D I ⟨Z, H0, env, r, ok, f, r', e, q⟩ => by cases e⟩
  | n + 1, l => sAll_ok R G hf (readS_ok n) l
end
end Wl
/-! Functions, programs. -/
namespace Wl
open PySem PySem.Spec PyProof.Rows L2

/-- one def: its text, parameters, names, what it writes; whether it is the drawer -/
structure FunI where
  name : Str
  qual : Str
  params : Arguments
  body : List Stmt
  scope : Scope
  ps : List Str
  N : List Str
  mt : List Str
  tk : Bool
  lm : Bool := false
def DEEP : Nat := 60
def readF (T : Tb) (N mt : List Str) (sc : Scope) (l : List Stmt) : IS := readS ⟨T, N, mt⟩ (readQ T N DEEP) sc DEEP l
/-- the tables for one def: may it make a lambda -/
def tbL (T : Tb) (l : Bool) : Tb := { T with lm := l, td := none }
def FunI.fd (T : Tb) (i : FunI) : FDef := if i.tk = true then .taken else .fn i.ps.length i.N.length (readF (tbL T i.lm) i.N i.mt i.scope i.body)
def FunI.np (i : FunI) : Nat := i.ps.length
/-- the module as it stands -/
structure MdOk (P : Program) (w : World) (K : PySem.W.Frag) (mg : Str → Option Value) (fa : Nat → Option Addr) (ea : Nat → Option (Addr × Option Str)) (T : Tb) (L : List FunI) : Prop where
  fv : T.fv = true → ∀ (i : Nat) (f : FunI), L[i]? = some f → ∃ g, mg f.name = some (.ref g) ∧ fa i = some g
  fi : ∀ (k : Nat) (g : Addr), fa k = some g → ∃ f, L[k]? = some f ∧ mg f.name = some (.ref g)
  er : ∀ (c : Nat) (x : Str) (fo : Option Str), T.ex[c]? = some (x, fo) → ∃ C, ea c = some (C, fo) ∧ ErC P K mg x C fo
  ts : T.fs = L.map fun i => (i.name, i.ps.length)
  fn : ∀ (i : Nat) (f : FunI), L[i]? = some f → ∃ g fd, mg f.name = some (.ref g) ∧ FunD K f.name f.qual f.params f.body f.scope [] [] g fd ∧ Binds K fd f.ps []
  gi : ∀ x n, (x, n) ∈ T.gi → ∃ t, mg x = some (.int n t)
  fr : ∀ x, x ∈ T.fr → mg x = none
  sc : ∀ (i : Nat) (f : FunI), L[i]? = some f → FnScope f.N f.ps f.scope
  tk : ∀ (i : Nat) (f : FunI), L[i]? = some f → f.tk = true → f.ps.length = 2
section
variable {P : Program} {w : World} {K : PySem.W.Frag} {mg : Str → Option Value} {base : Heap} {T : Tb} {L : List FunI} {aR : AR}
theorem run_len {P : List FDef} : ∀ {k i : Nat} {l : List D} {r : Row}, run P k i l r ≠ .no → ∃ fd, P[i]? = some fd ∧ match fd with
    | .fn np _ _ => l.length = np
    | .taken => l.length = 2
  | 0, _, _, _, h => (h rfl).elim
  | k + 1, i, l, r, h => by
    have h : (match P[i]? with
      | some fd => runF (run P k) fd l r
      | none => .no) ≠ Res.no := h
    split at h
    · rename_i fd e
      refine ⟨fd, e, ?_⟩
      unfold runF at h
      split at h
      · split at h
        · assumption
        · exact (h rfl).elim
      · split at h
        · rfl
        · exact (h rfl).elim
    · exact (h rfl).elim
theorem run_np (M : MdOk P w K mg aR.fa aR.ea T L) {k i : Nat} {f : FunI} (hi : L[i]? = some f) {l : List D} {r : Row} (h : run (L.map (FunI.fd T)) k i l r ≠ .no) : l.length = f.ps.length := by
  obtain ⟨fd, h1, h2⟩ := run_len h
  rw [List.getElem?_map, hi] at h1
  cases h1
  unfold FunI.fd at h2
  split at h2
  · rename_i e
    split at e
    · cases e
    · cases e; exact h2
  · rename_i e
    split at e
    · rename_i ht
      rw [M.tk i f hi ht]; exact h2
    · cases e
/-- the state at a def's start -/
theorem ok_start {Z : Addr → Prop} {H : Hp} {N ps : List Str} {vs : List V} {ds : List D} {r : Row} (hl : vs.length = ps.length) (hN : ps.length ≤ N.length) (zr : Z aR) (zk : ∀ a, Z a → ∃ o, H a = some o ∧ lk o) (ro : RowOk aR K H r) (rp : Reps aR H Z ds vs) :
    Ok aR K Z H (L2.start N vs) H (ds.map .fz ++ List.replicate (N.length - ps.length) .un) r := by
  have hd : vs.length = ds.length := rp.length
  have noOw : ∀ (i : Nat) (d : D), (ds.map Sl.fz ++ List.replicate (N.length - ps.length) Sl.un)[i]? ≠ some (.ow d) := fun i d h => by
    have := List.mem_of_getElem? h
    rcases List.mem_append.mp this with q | q
    · obtain ⟨x, _, e⟩ := List.mem_map.mp q; cases e
    · have := List.eq_of_mem_replicate q; cases this
  refine ⟨?_, ro, zr, zk, fun i d h => ?_, fun i d h => absurd h (noOw i d), fun i j d d' a h _ _ _ => absurd h (noOw i d), .refl, fun a ha => by obtain ⟨_, _, _, _, _, k⟩ := ro; exact k a ha⟩
  · unfold L2.start
    simp
    omega
  · by_cases c : i < ds.length
    · rw [List.getElem?_append_left (by simpa using c), List.getElem?_map] at h
      obtain ⟨d', h1, h2⟩ := Option.map_eq_some_iff.mp h
      cases h2
      obtain ⟨v, h3, h4⟩ := rp.get h1
      refine ⟨v, ?_, h4.mono (Le.less fun a m => ?_)⟩
      · unfold L2.start
        rw [List.getElem?_append_left (by rw [List.length_map]; omega), List.getElem?_map, h3]
        rfl
      · rcases m with m | ⟨j, d, h5, _⟩
        · exact m
        · exact absurd h5 (noOw j d)
    · rw [List.getElem?_append_right (by rw [List.length_map]; omega)] at h
      have := List.mem_of_getElem? h
      have := List.eq_of_mem_replicate this
      cases this
/-- what the makers of lambdas stand on: code objects and tables -/
def LmOk (K : PySem.W.Frag) (mg : Str → Option Value) (base : Heap) (tt : List (Addr × Str)) (L : List FunI) : Prop := ∀ (i : Nat) (f : FunI) (g : Addr) (fd : FuncData), L[i]? = some f → f.lm = true → mg f.name = some (.ref g) → FunD K f.name f.qual f.params f.body f.scope [] [] g fd →
  ∃ c P, fd.code = .ref c ∧ LamX.TabB base mg c P ∧ (P, (f.qual ++ ".<locals>.") ++ "<lambda>") ∈ tt ∧ ∀ q ∈ tt, q.1 = P → q.2 = (f.qual ++ ".<locals>.") ++ "<lambda>"
theorem _root_.L2.FunD.okC {P : Program} {w : World} {K : PySem.W.Frag} {mg : Str → Option Value} {base : Heap} {x qual : Str} {params : Arguments} {body : List Stmt} {scope : Scope} {dvs : List V} {kws : List (Str × V)} {f : Addr} {fd : FuncData} {CX : CXT} {N ps : List Str} {k : Nat} {sp : Sp} (F : FunD K x qual params body scope dvs kws f fd) (S : FnScope N ps scope) (len : ∀ vs H Q E, sp vs H Q E → vs.length = ps.length)
    (hbody : ∀ (A : Around) (outer : List PySem.Env) (s : Shared) (H : Hp) (vs : List V) (Q : VK) (E : XK), Room k (A.deeper (envOfC qual scope s.heap.objs.size f fd.code)) → sp vs H Q E →
      ∃ t, PSs (cxOf CX P w K mg base N qual scope f fd.code A outer s H E) body t ∧ t { nx := fun _ H' => Q .non H', rt := Q } (L2.start N vs) H) : FnOk P w K mg base CX (k + 1) f fd ps sp := by
  obtain ⟨oc, od, dV, kV, doc, pm, an, cdv, ct, osl, rfl, lk, hcd, _, _⟩ := F.ex
  exact fn_of lk hcd S len fun A outer s H vs Q E hr hsp => hbody A outer s H vs Q E hr hsp
/-- a body's context -/
theorem good_of (M : MdOk P w K mg aR.fa aR.ea T L) {k : Nat} {N ps : List Str} {qual : Str} {scope : Scope} {f : Addr} {cdv : Value} {A : Around} {outer : List PySem.Env} {s : Shared} {H : Hp} {E : XK} {lm : Bool} (S : FnScope N ps scope) (htb : lm = true → ∃ c P, cdv = .ref c ∧ LamX.TabB base mg c P ∧ (P, (qual ++ ".<locals>.") ++ "<lambda>") ∈ aR.tt ∧ ∀ q ∈ aR.tt, q.1 = P → q.2 = (qual ++ ".<locals>.") ++ "<lambda>") (hr : Room (k + 1) (A.deeper (envOfC qual scope s.heap.objs.size f cdv)))
    (IH : ∀ (i : Nat) (f : FunI) (g : Addr) (fd : FuncData), L[i]? = some f → mg f.name = some (.ref g) → FunD K f.name f.qual f.params f.body f.scope [] [] g fd → FnOk P w K mg base (L2.CX P w) (k + 1) g fd f.ps (spOf aR K f.ps.length (run (L.map (FunI.fd T)) k i))) :
    Good aR (run (L.map (FunI.fd T)) k) (tbL T lm) N (cxOf (L2.CX P w) P w K mg base N qual scope f cdv A outer s H E) scope where
  nd := S.nd
  n := rfl
  calm := rfl
  scope := rfl
  pass := passes_of (E₁ := fun e' s'' => L2.CX P w outer H s E e' s'') rfl
  td := fun tb h => nomatch h
  rm := ⟨hr.hd, by have := hr.dp; show (A.deeper _).depth + 3 * 1 + 5 < _; omega, by have := hr.un; show (A.deeper _).units + 16 * 1 + 200 < _; omega⟩
  units := by have := hr.un; show (A.deeper _).units + 65 < cLine; omega
  kind := S.kind
  tb := fun hl => ⟨by have := hr.dp; show (A.deeper _).depth < _; omega, htb hl⟩
  fs := fun i x np h => by
    rw [show (tbL T lm).fs = T.fs from rfl, M.ts, List.getElem?_map] at h
    obtain ⟨f, h1, h2⟩ := Option.map_eq_some_iff.mp h
    cases h2
    obtain ⟨g, fd, m1, m2, m3⟩ := M.fn i f h1
    exact ⟨k + 1, g, fd, f.ps, m1, m2.kp, m3, IH i f g fd h1 m1 m2, hr, fun l r e => run_np M h1 e⟩
  fv := fun hv i x np h => by
    rw [show (tbL T lm).fs = T.fs from rfl, M.ts, List.getElem?_map] at h
    obtain ⟨f, h1, h2⟩ := Option.map_eq_some_iff.mp h
    cases h2
    exact M.fv hv i f h1
  fw := fun i g hg => by
    obtain ⟨f, h1, h0⟩ := M.fi i g hg
    obtain ⟨g', fd, m1, m2, m3⟩ := M.fn i f h1
    rw [m1] at h0
    cases h0
    exact ⟨k + 1, f.ps.length, fd, f.ps, m2.kp, m3, IH i f g fd h1 m1 m2, hr, fun l r e => run_np M h1 e⟩
  er := M.er
  gi := M.gi
  fr := M.fr
/-- what the drawer promises -/
def TkOk (P : Program) (w : World) (K : PySem.W.Frag) (mg : Str → Option Value) (base : Heap) (f : FunI) : Prop := ∀ (aR : AR) (k : Nat) (g : Addr) (fd : FuncData), FunD K f.name f.qual f.params f.body f.scope [] [] g fd →
  FnOk P w K mg base CX0 (k + 1) g fd f.ps (spOf aR K f.ps.length fun as r => runF (fun _ _ _ => .no) .taken as r)
/-- a def's body runs as its reading tells -/
theorem body_ok {F : Fns} {N ps : List Str} {is : IS} {vs : List V} {H : Hp} {Q : VK} {E E0 : XK} {D : Ends} (hN : ps.length ≤ N.length)
    (hnx : ∀ σ H', Q .non H' → D.nx σ H') (hrt : ∀ v H', Q v H' → D.rt v H') (hex : ∀ cls d H', E cls d H' → E0 cls d H')
    (h : spOf aR K ps.length (fun as r => runF F (.fn ps.length N.length is) as r) vs H Q E) : tEvS aR K F E0 is D (L2.start N vs) H := by
  obtain ⟨hl, Z, ds, r, zr, zk, ro, rp, h⟩ := h
  have e0 : ∀ x : Res Wl.D, runF F (.fn ps.length N.length is) ds r = x → x ≠ .no → ∃ f r1, evS F is (ds.map .fz ++ List.replicate (N.length - ps.length) .un) r = .ok f r1 ∧ endF f r1 = x := by
    intro x hx hn
    have hx : (if ds.length = ps.length then endR (evS F is (ds.map .fz ++ List.replicate (N.length - ps.length) .un) r) else .no) = x := hx
    split at hx
    · revert hx
      cases evS F is (ds.map .fz ++ List.replicate (N.length - ps.length) .un) r with
      | ok f r1 => exact fun hx => ⟨f, r1, rfl, hx⟩
      | ex e r1 => exact fun hx => (hn hx.symm).elim
      | no => exact fun hx => (hn hx.symm).elim
    · exact (hn hx.symm).elim
  rcases h with ⟨d, r', e, q⟩ | ⟨ex, r', e, q⟩
  · obtain ⟨f, r1, e1, e2⟩ := e0 _ e (fun z => by cases z)
    refine evS_to (ok_start hl hN zr zk ro rp) e1 ?_
    unfold endF at e2
    split at e2
    · cases e2
      exact fun v H' x ro' rp' => hrt v H' (q v H' x ro' rp')
    · cases e2
      exact fun σ' H' ok' l => hnx σ' H' (q .non H' ok'.ext ok'.row rfl)
    · cases e2
    · cases e2
  · obtain ⟨f, r1, e1, e2⟩ := e0 _ e (fun z => by cases z)
    refine evS_to (ok_start hl hN zr zk ro rp) e1 ?_
    unfold endF at e2
    split at e2
    · cases e2
    · cases e2
    · cases e2
      exact fun cls d H' x ro' w => hex cls d H' (q cls d H' x ro' w)
    · cases e2
/-- the defs of the table, by their levels -/
theorem fs_at (M : MdOk P w K mg aR.fa aR.ea T L) {k : Nat} (IH : ∀ (i : Nat) (f : FunI) (g : Addr) (fd : FuncData), L[i]? = some f → mg f.name = some (.ref g) → FunD K f.name f.qual f.params f.body f.scope [] [] g fd → FnOk P w K mg base (L2.CX P w) (k + 1) g fd f.ps (spOf aR K f.ps.length (run (L.map (FunI.fd T)) k i))) :
    (∀ (i : Nat) (x : Str) (np : Nat), T.fs[i]? = some (x, np) → ∃ g fd ps, mg x = some (.ref g) ∧ PySem.W.keepIn K (.ref g) = true ∧ Binds K fd ps [] ∧ FnOk P w K mg base (L2.CX P w) (k + 1) g fd ps (spOf aR K np (run (L.map (FunI.fd T)) k i)) ∧ ∀ l r, run (L.map (FunI.fd T)) k i l r ≠ .no → l.length = np) ∧
    (∀ j g, aR.fa j = some g → ∃ (np : Nat) (fd : FuncData) (ps : List Str), PySem.W.keepIn K (.ref g) = true ∧ Binds K fd ps [] ∧ FnOk P w K mg base (L2.CX P w) (k + 1) g fd ps (spOf aR K np (run (L.map (FunI.fd T)) k j)) ∧ ∀ l r, run (L.map (FunI.fd T)) k j l r ≠ .no → l.length = np) := by
  refine ⟨fun i x np h => ?_, fun i g hg => ?_⟩
  · rw [M.ts, List.getElem?_map] at h
    obtain ⟨f, h1, h2⟩ := Option.map_eq_some_iff.mp h
    cases h2
    obtain ⟨g, fd, m1, m2, m3⟩ := M.fn i f h1
    exact ⟨g, fd, f.ps, m1, m2.kp, m3, IH i f g fd h1 m1 m2, fun l r e => run_np M h1 e⟩
  · obtain ⟨f, h1, h0⟩ := M.fi i g hg
    obtain ⟨g', fd, m1, m2, m3⟩ := M.fn i f h1
    rw [m1] at h0
    cases h0
    exact ⟨f.ps.length, fd, f.ps, m2.kp, m3, IH i f g fd h1 m1 m2, fun l r e => run_np M h1 e⟩
/-- a promise that raises nothing serves everywhere -/
theorem fn_up {k : Nat} {g : Addr} {fd : FuncData} {ps : List Str} {sp : Sp} (h : FnOk P w K mg base CX0 k g fd ps sp) : FnOk P w K mg base (L2.CX P w) k g fd ps sp := ⟨h.len, fun A outer s H args us vs Q E hr e0 hb rv q => codeAny_mono (h.run A outer s H args us vs Q E hr e0 hb rv q) fun r s' c => by
  cases r with
  | ok f => cases f <;> exact c
  | error e => exact c.elim⟩
theorem level (M : MdOk P w K mg aR.fa aR.ea T L) (hT : ∀ (i : Nat) (f : FunI), L[i]? = some f → f.tk = true → TkOk P w K mg base f) (hL : LmOk K mg base aR.tt L) : ∀ (k i : Nat) (f : FunI) (g : Addr) (fd : FuncData), L[i]? = some f → mg f.name = some (.ref g) → FunD K f.name f.qual f.params f.body f.scope [] [] g fd →
    FnOk P w K mg base (L2.CX P w) (k + 1) g fd f.ps (spOf aR K f.ps.length (run (L.map (FunI.fd T)) k i))
  | 0, i, f, g, fd, hi, hm, hF => ⟨fun vs H Q E h => h.1, fun A outer s H args us vs Q E hr e0 hb rv h => by
      obtain ⟨_, Z, ds, r, _, _, _, _, ⟨d, r', e, _⟩ | ⟨d, r', e, _⟩⟩ := h <;> cases e⟩
  | k + 1, i, f, g, fd, hi, hm, hF => by
    have IH := level M hT hL k
    have S := M.sc i f hi
    have hN : f.ps.length ≤ f.N.length := by have := congrArg List.length S.pre; rw [List.length_take] at this; omega
    have hrun : ∀ as r, run (L.map (FunI.fd T)) (k + 1) i as r = runF (run (L.map (FunI.fd T)) k) (f.fd T) as r := fun as r => by
      show (match (L.map (FunI.fd T))[i]? with
        | some fd => runF (run (L.map (FunI.fd T)) k) fd as r
        | none => .no) = _
      rw [List.getElem?_map, hi]
      rfl
    by_cases ht : f.tk = true
    · refine (fn_up (hT i f hi ht aR (k + 1) g fd hF)).imp fun vs H Q E h => ?_
      obtain ⟨hl, Z, ds, r, zr, zk, ro, rp, h⟩ := h
      refine ⟨hl, Z, ds, r, zr, zk, ro, rp, ?_⟩
      simp only [hrun, FunI.fd, if_pos ht] at h
      exact h
    · refine hF.okC S (fun vs H Q E h => h.1) fun A outer s H vs Q E hr h => ⟨_, readS_ok (c := ⟨tbL T f.lm, f.N, f.mt⟩) (read_ok DEEP) (good_of (E := E) (s := s) (H := H) (outer := outer) M S (fun hl => hL i f g fd hi hl hm hF) hr IH) (fun _ _ => rfl) DEEP f.body, ?_⟩
      refine body_ok (Q := Q) (E := E) hN (fun _ _ q => q) (fun _ _ q => q) (fun cls d H' q => ⟨E, takes_of rfl rfl rfl rfl, q⟩) ?_
      obtain ⟨hl, Z, ds, r, zr, zk, ro, rp, h⟩ := h
      refine ⟨hl, Z, ds, r, zr, zk, ro, rp, ?_⟩
      simp only [hrun, FunI.fd, if_neg ht] at h
      exact h
end
end Wl
/-! The drawer of numbers. -/
namespace Wl
open PySem PySem.Spec PyProof.Rows L2

abbrev NT : List Str := ["_law_row", "_law_many", "_law_found", "_law_cell"]
abbrev rowX (K : PySem.W.Frag) (k : Int) : TE := tOp (rIxL K) (tVar 0) (tC (.int k))
abbrev putX (k : Int) (te : TE) : TS := tAsg te (gSub (tVar 0) (tC (.int k)) rSetL)
abbrev modX (a b : TE) : TE := tOp (rI (fun _ j => 0 < j) fun i j => .int (i % j)) a b
abbrev divX (a b : TE) : TE := tOp (rI CDiv fun i j => .int (i / j)) a b
abbrev addX (a b : TE) : TE := tOp (rI0 fun i j => .int (i + j)) a b
abbrev subX (a b : TE) : TE := tOp (rI0 fun i j => .int (i - j)) a b
abbrev mulX (a b : TE) : TE := tOp (rI CMul fun i j => .int (i * j)) a b
abbrev intX (a : TE) : TE := tCB (fun xs H Q => (∃ i, xs = [.int i] ∧ Q (.int i) H) ∨ ∃ k, xs = [.bl k] ∧ Q (.int (if k = true then 1 else 0)) H) (tCons a tNil)
abbrev lenX (K : PySem.W.Frag) (a : TE) : TE := tCB (fun xs H Q => ∃ p ys, xs = [.ref p] ∧ (SqL K H p ys ∨ SqT K H p ys) ∧ Q (.int ys.length) H) (tCons a tNil)
abbrev kX (n : Int) : TE := tC (.int n)
abbrev gtX (a b : TE) : TT := tTest (tOp (rI0 fun i j => .bl (decide (j < i))) a b)
abbrev geX (a b : TE) : TT := tTest (tOp (rI0 fun i j => .bl (decide (j ≤ i))) a b)
abbrev tTaken (K : PySem.W.Frag) : TS :=
  tSeq (tIfS (gtX (rowX K 3) (kX 0)) (tSeq (tAsg (modX (intX (rowX K 3)) (tVar 1)) (gName 2)) (tSeq (putX 3 (divX (rowX K 3) (tVar 1))) (tRet (tVar 2)))) tNext)
  (tSeq (putX 1 (addX (rowX K 1) (kX 1)))
  (tSeq (tIfS (gtX (rowX K 1) (lenX K (rowX K 0))) (tSeq (putX 2 (modX (intX (addX (mulX (rowX K 2) (kX 48271)) (kX 11))) (kX 2147483647))) (tRet (modX (intX (divX (rowX K 2) (kX 7))) (tVar 1)))) tNext)
  (tSeq (tAsg (tOp (rIxL K) (rowX K 0) (subX (rowX K 1) (kX 1))) (gName 3))
  (tSeq (putX 2 (modX (intX (addX (addX (mulX (rowX K 2) (kX 48271)) (tVar 3)) (kX 11))) (kX 2147483647)))
  (tSeq (tIfS (geX (tVar 3) (tOp (rI CPow fun i j => .int (i ^ j.toNat)) (kX 10) (kX 18))) (putX 3 (divX (tVar 3) (tVar 1))) tNext)
    (tRet (modX (intX (tVar 3)) (tVar 1))))))))
section
variable {aR sA : Addr} {K : PySem.W.Frag} {H : Hp} {σ : L2.St} {Q : VK} {p h c : Int}
theorem toRow {k : Int} {v : V} {l : List V} (h0 : σ[0]? = some (some (.ref aR))) (hr : H aR = some (.lst l)) (e : atI l k = some v) (q : Q v H) : rowX K k σ H Q := ⟨_, h0, aR, l, k, v, rfl, rfl, .inl (.inl hr), e, q⟩
end
theorem runF_taken {F : Fns} {ds : List D} {r r' : Row} {d : D} (h : runF F .taken ds r = .ok d r') : ∃ m x, ds = [.row, .int m] ∧ taken r m = some (x, r') ∧ d = .int x := by
  simp only [runF] at h
  split at h
  · split at h
    · rename_i e; cases h; exact ⟨_, _, rfl, e, rfl⟩
    · cases h
  · cases h
theorem upd_upd {H : Hp} {a : Addr} {o o' : HO} : upd (upd H a o) a o' = upd H a o' := by
  funext b
  by_cases q : b = a
  · rw [q, upd_same, upd_same]
  · rw [upd_ne q, upd_ne q, upd_ne q]
theorem taken_pure {aR : AR} {K : PySem.W.Frag} {vs : List V} {H : Hp} {Q : VK} {E : XK} (hh : spOf aR K 2 (fun as r => runF (fun _ _ _ => .no) .taken as r) vs H Q E) : tTaken K { nx := fun _ H' => Q .non H', rt := Q } (L2.start NT vs) H := by
  obtain ⟨hl, Z, ds, r, zr, zk, ro, rp, hh⟩ := hh
  rcases hh with ⟨d, r', e, q⟩ | ⟨ex, r', e, q⟩
  case inr =>
    simp only [runF] at e
    split at e
    · split at e <;> cases e
    · cases e
  obtain ⟨m, x, rfl, et, rfl⟩ := runF_taken e
  obtain ⟨v0, vr, rfl, h0, v1, vr2, rfl, h1, h2⟩ := rp
  cases h0; cases h1; cases h2
  obtain ⟨sA, hR, hS, hp0, hT, hK⟩ := ro
  have ext : ∀ o, nt o = true → Ext aR H (upd H aR o) := fun o t => ⟨fun a u n ea _ => by rw [upd_ne n]; exact ea, fun a f u e => by
    by_cases c : a = aR.row
    · subst c
      have := f o upd_same
      rw [t] at this; cases this
    · exact f u (by rw [upd_ne c]; exact e)⟩
  -- the script is not the row
  have nA : H sA = some (.lst (r.sc.map V.int)) → sA ≠ aR.row := fun e z => by
    rw [z, hR] at e
    have e := (HO.lst.inj (Option.some.inj e)).symm
    cases h : r.sc with
    | nil => rw [h] at e; cases e
    | cons a l => rw [h] at e; cases e
  have nS : ∀ o, SqG aR K (upd H aR o) sA (r.sc.map V.int) := fun o => hS.keep (fun o' u eo => by
    rw [upd_ne (fun z => by rw [z, hR] at eo; cases eo)]
    exact eo) (fun _ e => by rw [upd_ne (nA e)]; exact e)
  have nT : ∀ o, LamX.Tabs aR.tt (upd H aR o) := fun o => tabs_upd hT hR rfl (fun c q z => by unfold LamX.CodeO at z; cases z)
  have nK : ∀ o b, nt o = true → aR.sc = some b → ∃ u, upd H aR o b = some u ∧ nt u = true := fun o b t eb => by
    by_cases c : b = aR.row
    · rw [c]; exact ⟨_, upd_same, t⟩
    · rw [upd_ne c]; exact hK b eb
  have fin : r'.sc = r.sc → 0 ≤ r'.p → Q (.int x) (upd H aR (.lst [.ref sA, .int r'.p, .int r'.h, .int r'.c])) := fun hsc hp2 => by
    refine q _ _ (ext _ rfl) ⟨sA, upd_same, ?_, hp2, nT _, fun b => nK _ b rfl⟩ rfl
    rw [hsc]
    exact nS _
  unfold taken at et
  split at et
  · rename_i hm
    have hm : 0 < m ∧ m < 1073741824 := by simpa using hm
    show tTaken K _ [some (.ref aR), some (.int m), none, none] H
    refine toRow (v := .int r.c) rfl hR rfl ⟨r.c, 0, rfl, rfl, _, rfl, ?_⟩
    split at et
    · rename_i hc
      cases et
      rw [if_pos (decide_eq_true hc)]
      refine toRow (v := .int r.c) rfl hR rfl (.inl ⟨r.c, rfl, _, rfl, r.c, m, rfl, rfl, hm.1, ?_⟩)
      refine toRow (v := .int r.c) rfl hR rfl ⟨_, rfl, r.c, m, rfl, rfl, hm, ?_⟩
      exact ⟨_, rfl, aR, _, 3, 3, rfl, rfl, hR, rfl, _, rfl, fin rfl hp0⟩
    · rename_i hc
      rw [if_neg (by simpa using hc)]
      refine toRow (v := .int r.p) rfl hR rfl ⟨r.p, 1, rfl, rfl, _, rfl, aR, _, 1, 1, rfl, rfl, hR, rfl, ?_⟩
      have hR1 : upd H aR (.lst [.ref sA, .int (r.p + 1), .int r.h, .int r.c]) aR = some (.lst [.ref sA, .int (r.p + 1), .int r.h, .int r.c]) := upd_same
      have hS1 := (nS (.lst [.ref sA, .int (r.p + 1), .int r.h, .int r.c])).seq
      refine toRow (v := .int (r.p + 1)) rfl hR1 rfl (toRow (v := .ref sA) rfl hR1 rfl ⟨sA, _, rfl, .inl hS1, r.p + 1, _, rfl, rfl, _, rfl, ?_⟩)
      split at et
      · rename_i hl
        cases et
        rw [if_pos (by rw [List.length_map]; exact decide_eq_true hl)]
        refine toRow (v := .int r.h) rfl hR1 rfl ⟨r.h, 48271, rfl, rfl, .inr ⟨by decide, by decide⟩, _, 11, rfl, rfl, .inl ⟨_, rfl, _, 2147483647, rfl, rfl, (by decide : (0 : Int) < 2147483647), _, rfl, aR, _, 2, 2, rfl, rfl, hR1, rfl, ?_⟩⟩
        refine toRow (v := .int ((r.h * 48271 + 11) % 2147483647)) rfl upd_same rfl ⟨_, 7, rfl, rfl, ⟨(by decide : (0 : Int) < 7), (by decide : (7 : Int) < 1073741824)⟩, .inl ⟨_, rfl, _, rfl, _, m, rfl, rfl, hm.1, ?_⟩⟩
        show Q _ _
        rw [upd_upd]
        exact fin rfl (by show 0 ≤ r.p + 1; omega)
      · rename_i hl
        rw [if_neg (by rw [List.length_map]; simpa using hl)]
        split at et
        · cases et
        · rename_i y hy
          cases et
          have hlt : r.p.toNat < r.sc.length := (List.getElem?_eq_some_iff.mp hy).1
          have hat : atI (r.sc.map V.int) (r.p + 1 - 1) = some (.int y) := by
            rw [show r.p + 1 - 1 = ((r.p.toNat : Nat) : Int) by omega]
            exact atI_nat (by rw [List.getElem?_map, hy]; rfl)
          refine toRow (v := .ref sA) rfl hR1 rfl (toRow (v := .int (r.p + 1)) rfl hR1 rfl ⟨_, 1, rfl, rfl, sA, _, _, _, rfl, rfl, hS1, hat, ?_⟩)
          refine toRow (v := .int r.h) rfl hR1 rfl ⟨r.h, 48271, rfl, rfl, .inr ⟨by decide, by decide⟩, _, rfl, _, y, rfl, rfl, _, 11, rfl, rfl, .inl ⟨_, rfl, _, 2147483647, rfl, rfl, (by decide : (0 : Int) < 2147483647), _, rfl, aR, _, 2, 2, rfl, rfl, hR1, rfl, ?_⟩⟩
          have hp : (10 : Int) ^ (18 : Int).toNat = 1000000000000000000 := by decide
          refine ⟨_, rfl, 10, 18, rfl, rfl, ⟨by decide, by decide, by decide⟩, y, _, rfl, rfl, _, rfl, ?_⟩
          rw [hp]
          show (if decide (1000000000000000000 ≤ y) = true then _ else _)
          by_cases hy2 : 1000000000000000000 ≤ y
          · rw [if_pos (decide_eq_true hy2)]
            refine ⟨_, rfl, _, rfl, y, m, rfl, rfl, hm, _, rfl, aR, _, 3, 3, rfl, rfl, upd_same, rfl, _, rfl, .inl ⟨_, rfl, _, rfl, _, m, rfl, rfl, hm.1, ?_⟩⟩
            show Q _ _
            rw [upd_upd, upd_upd]
            have := fin rfl (by show 0 ≤ r.p + 1; omega)
            rw [if_pos hy2] at this
            exact this
          · rw [if_neg (by simpa using hy2)]
            refine ⟨_, rfl, .inl ⟨_, rfl, _, rfl, _, m, rfl, rfl, hm.1, ?_⟩⟩
            show Q _ _
            rw [upd_upd]
            have := fin rfl (by show 0 ≤ r.p + 1; omega)
            rw [if_neg hy2] at this
            exact this
  · cases et
end Wl
/-! The law's own def. -/
namespace Wl
open PySem PySem.Spec PyProof.Rows L2

def spLaw (K : PySem.W.Frag) (tt : List (Addr × Str)) (n : Nat) : Sp := fun vs H Q _ => ∃ (a : Addr) (ns : List Int), vs = [.ref a] ∧ ns.length ≤ n ∧ SqL K H a (ns.map V.int) ∧ LamX.Tabs tt H ∧ ∀ H', Q (.bl true) H'
def tAny {α : Type} (t : α → TS) : TS := fun D σ H => ∃ a, t a D σ H
theorem pss_any {α : Type} {X : Cx} {l : List Stmt} {t : α → TS} (h : ∀ a, PSs X l (t a)) : PSs X l (tAny t) := ⟨fun pins s σ H D I ⟨a, q⟩ => (h a).run pins s σ H D I q⟩
abbrev rowSt (seed : Int) (p1 p2 p3 p4 p5 p6 p7 : Pos) (j1 j2 j3 : Nat) : Stmt := .Assign [.Name "_law_row" p1] (.List [.Name "_law_script" p2, .Constant (.int 0) j1 p3, .Constant (.int seed) j2 p4, .Constant (.int 0) j3 p5] p6) p7
/-- the same, where nothing is let out; with the table of `_law_told` -/
theorem Good.nox {aR : AR} {F : Fns} {T : Tb} {N : List Str} {sc : Scope} {P : Program} {w : World} {K : PySem.W.Frag} {mg : Str → Option Value} {base : Heap} {qual : Str} {scope : Scope} {f : Addr} {cdv : Value} {A : Around} {outer : List PySem.Env} {s : Shared} {H : Hp} {E : XK} {tdx : Option (List (Nat × Str × Bool))} (G : Good aR F (tbL T false) N (cxOf (L2.CX P w) P w K mg base N qual scope f cdv A outer s H E) sc) (hlm : T.lm = false)
    (htd : ∀ tb, tdx = some tb → ∃ (k : Nat) (CW : Addr) (xs : List Str) (x : Str) (ws : List Str) (tl : List (Str × Str)) (c Pt : Addr), TdF K mg CW xs x ws tl ∧ (∀ p ∈ tb, EntryOk K mg aR.ea CW xs x ws tl p) ∧ LamX.TabB base mg c Pt ∧ cdv = .ref c ∧ (Pt, (qual ++ ".<locals>.") ++ "<lambda>") ∈ aR.tt ∧ (∀ q ∈ aR.tt, q.1 = Pt → q.2 = (qual ++ ".<locals>.") ++ "<lambda>") ∧ Room (k + 2) (A.deeper (envOfC qual scope s.heap.objs.size f cdv)) ∧ 1 ≤ k ∧
      (∀ (i : Nat) (x : Str) (np : Nat), T.fs[i]? = some (x, np) → ∃ g fd ps, mg x = some (.ref g) ∧ PySem.W.keepIn K (.ref g) = true ∧ Binds K fd ps [] ∧ FnOk P w K mg base (L2.CX P w) k g fd ps (spOf aR K np (F i)) ∧ ∀ l r, F i l r ≠ .no → l.length = np) ∧
      (∀ j g, aR.fa j = some g → ∃ (np : Nat) (fd : FuncData) (ps : List Str), PySem.W.keepIn K (.ref g) = true ∧ Binds K fd ps [] ∧ FnOk P w K mg base (L2.CX P w) k g fd ps (spOf aR K np (F j)) ∧ ∀ l r, F j l r ≠ .no → l.length = np)) :
    Good aR F { T with td := tdx } N (cxOf CX0 P w K mg base N qual scope f cdv A outer s H E).nox sc where
  nd := G.nd
  n := G.n
  calm := G.calm
  scope := G.scope
  pass := PassesOwn.never
  rm := G.rm
  td := htd
  units := G.units
  kind := G.kind
  fs := G.fs
  fv := G.fv
  fw := G.fw
  er := G.er
  gi := G.gi
  fr := G.fr
  tb := fun h => by rw [show ({ T with td := tdx } : Tb).lm = T.lm from rfl, hlm] at h; cases h
def env0 (n : Nat) : Env := .un :: .fz .row :: List.replicate n .un
section
variable {P : Program} {w : World} {K : PySem.W.Frag} {mg : Str → Option Value} {base : Heap} {T : Tb} {L : List FunI}
theorem law_fn (tt : List (Addr × Str)) (fa : Nat → Option Addr) (ea : Nat → Option (Addr × Option Str)) (tdx : Option (List (Nat × Str × Bool))) (M : MdOk P w K mg fa ea T L) (hT : ∀ (i : Nat) (f : FunI), L[i]? = some f → f.tk = true → TkOk P w K mg base f) {name qual : Str} {params : Arguments} {body rest : List Stmt} {scope : Scope} {N' mt : List Str} {k n : Nat} {g : Addr} {fd : FuncData}
    {seed : Int} {p1 p2 p3 p4 p5 p6 p7 : Pos} {j1 j2 j3 : Nat} (hF : FunD K name qual params body scope [] [] g fd) (S : FnScope ("_law_script" :: "_law_row" :: N') ["_law_script"] scope) (hb : body = rowSt seed p1 p2 p3 p4 p5 p6 p7 j1 j2 j3 :: rest)
    (hlm : T.lm = false) (hTd : ∀ tb, tdx = some tb → ∃ (CW : Addr) (xs : List Str) (x : Str) (ws : List Str) (tl : List (Str × Str)), TdF K mg CW xs x ws tl ∧ ∀ p ∈ tb, EntryOk K mg ea CW xs x ws tl p)
    (hLw : ∀ tb, tdx = some tb → ∃ c Pt, fd.code = .ref c ∧ LamX.TabB base mg c Pt ∧ (Pt, (qual ++ ".<locals>.") ++ "<lambda>") ∈ tt ∧ ∀ q ∈ tt, q.1 = Pt → q.2 = (qual ++ ".<locals>.") ++ "<lambda>") (hL : LmOk K mg base tt L) (hrow : locB scope "_law_row" = true)
    (hrun : ∀ ns : List Int, ns.length ≤ n → ∃ r', evS (run (L.map (FunI.fd T)) k) (readF { T with td := tdx } ("_law_script" :: "_law_row" :: N') mt scope rest) (env0 N'.length) ⟨ns, 0, seed, 0⟩ = .ok (.rt (.bl true)) r') :
    FnOk P w K mg base CX0 (k + 4) g fd ["_law_script"] (spLaw K tt n) := by
  subst hb
  refine hF.okC S (fun vs H Q E h => ?_) fun A outer s H vs Q E hr h => ⟨tSeq (tAsg (tLst (tCons (tVar 0) (tCons (kX 0) (tCons (kX seed) (tCons (kX 0) tNil))))) (gName 1)) (tAny fun z : Addr × Option Addr => tEvS ⟨z.1, z.2, tt, fa, ea⟩ K (run (L.map (FunI.fd T)) k) (EX (cxOf CX0 P w K mg base ("_law_script" :: "_law_row" :: N') qual scope g fd.code A outer s H E).nox) (readF { T with td := tdx } ("_law_script" :: "_law_row" :: N') mt scope rest)), PSs.nox ?_, ?_⟩
  · obtain ⟨a, ns, rfl, _⟩ := h; rfl
  · have hv : Vis scope "_law_script" := (S.par "_law_script" (List.mem_singleton.mpr rfl)).imp id .inl
    have hl : Loc scope "_law_row" := by
      unfold locB at hrow
      split at hrow
      · exact .inl (by assumption)
      · exact .inr (by assumption)
      · cases hrow
    refine pss_cons (ps_set (i := 1) S.nd rfl hl (pe_lst (pa_cons (pe_var rfl hv (by decide) (by decide)) (pa_cons pe_int (pa_cons pe_int (pa_cons pe_int pa_nil))))) rfl (.inl rfl)) (pss_any fun z => ?_)
    exact readS_ok (c := ⟨{ T with td := tdx }, "_law_script" :: "_law_row" :: N', mt⟩) (read_ok DEEP) ((good_of (aR := ⟨z.1, z.2, tt, fa, ea⟩) (lm := false) (E := E) (s := s) (H := H) (outer := outer) M S (fun z => nomatch z) (hr.mono (by omega)) (level (aR := ⟨z.1, z.2, tt, fa, ea⟩) M hT hL k)).nox hlm fun tb htb => by
      obtain ⟨CW, xs, x, ws, tl, t1, t2⟩ := hTd tb htb
      obtain ⟨c, Pt, c1, c2, c3, c4⟩ := hLw tb htb
      obtain ⟨f1, f2⟩ := fs_at (aR := ⟨z.1, z.2, tt, fa, ea⟩) M (level (aR := ⟨z.1, z.2, tt, fa, ea⟩) M hT hL k)
      exact ⟨k + 1, CW, xs, x, ws, tl, c, Pt, t1, t2, c2, c1, c3, c4, hr, by omega, f1, f2⟩) (fun _ _ => rfl) DEEP rest
  · obtain ⟨a, ns, rfl, hn, hS, hT', hQ⟩ := h
    refine ⟨_, rfl, by show 4 ≤ sizeLine; decide, fun p hp => ?_⟩
    obtain ⟨r', e⟩ := hrun ns hn
    obtain ⟨sc, hG, hK⟩ : ∃ sc : Option Addr, SqG ⟨p, sc, tt, fa, ea⟩ K (upd H p (.lst [.ref a, .int 0, .int seed, .int 0])) a (ns.map V.int) ∧ ∀ b, sc = some b → ∃ o, upd H p (.lst [.ref a, .int 0, .int seed, .int 0]) b = some o ∧ nt o = true := by
      rcases hS with (h | ⟨o, h⟩) | h
      · have e2 : upd H p (.lst [.ref a, .int 0, .int seed, .int 0]) a = some (.lst (ns.map V.int)) := by rw [upd_ne (ne_of_none h hp)]; exact h
        exact ⟨some a, .inr ⟨rfl, e2⟩, fun b eb => by cases eb; exact ⟨_, e2, rfl⟩⟩
      · exact ⟨none, .inl (.inl ⟨o, by rw [upd_ne (ne_of_none h hp)]; exact h⟩), fun b eb => by cases eb⟩
      · exact ⟨none, .inl (.inr h), fun b eb => by cases eb⟩
    refine ⟨(p, sc), fun x => x = p, upd H p (.lst [.ref a, .int 0, .int seed, .int 0]), env0 N'.length, ⟨ns, 0, seed, 0⟩, ?_, _, r', e, fun v H' _ _ rp => ?_⟩
    · have noOw : ∀ (i : Nat) (d : D), (env0 N'.length)[i]? ≠ some (.ow d) := fun i d h => by
        have := List.mem_of_getElem? h
        rcases List.mem_cons.mp this with q | q
        · cases q
        · rcases List.mem_cons.mp q with q | q
          · cases q
          · have := List.eq_of_mem_replicate q; cases this
      refine ⟨?_, ⟨a, upd_same, hG, (Int.le_refl 0 : (0 : Int) ≤ 0), hT'.ext (keep_new hp), hK⟩, rfl, fun x hx => ?_, fun i d h => ?_, fun i d h => absurd h (noOw i d), fun i j d d' x h _ _ _ => absurd h (noOw i d), .refl, hK⟩
      · simp [L2.start, env0]
      · rw [hx]; exact ⟨_, upd_same, trivial⟩
      · match i, h with
        | 0, h => cases h
        | 1, h =>
          cases h
          exact ⟨.ref p, rfl, rfl⟩
        | i + 2, h =>
          have := List.mem_of_getElem? (show (List.replicate N'.length Sl.un)[i]? = some (.fz d) from h)
          have := List.eq_of_mem_replicate this
          cases this
    · obtain rfl : v = V.bl true := rp
      exact hQ H'
end
end Wl
/-! The end of a law whose defs make a lambda. -/
namespace Wl
open PySem PySem.Spec PyProof.Rows L2
/-- no empty record -/
def noT (o : Obj) : Bool := match o.data with
  | .fields vs => !vs.isEmpty
  | _ => true
def frN (g : Addr → Option Obj) (as : List Addr) : PySem.W.Frag := (He.frG g as).filter fun p => noT p.2
theorem mem_lk {a : Addr} {o : Obj} : ∀ {l : List (Addr × Obj)}, l.lookup a = some o → (a, o) ∈ l
  | [], h => by cases h
  | p :: l, h => by
    rw [List.lookup_cons] at h
    split at h
    · rename_i e
      cases h
      have : a = p.1 := by simpa using e
      subst this
      exact List.mem_cons_self
    · exact List.mem_cons_of_mem _ (mem_lk h)
theorem frN_at {g : Addr → Option Obj} {as : List Addr} {a : Addr} {o : Obj} (h : (frN g as).lookup a = some o) : g a = some o ∧ noT o = true := by
  have h' : List.lookup a ((He.frG g as).filter fun p => noT p.2) = some o := h
  obtain ⟨h1, h2⟩ := List.mem_filter.mp (mem_lk h')
  refine ⟨?_, h2⟩
  unfold He.frG at h1
  obtain ⟨b, _, hb⟩ := List.mem_filterMap.mp h1
  obtain ⟨u, hu, e⟩ := Option.map_eq_some_iff.mp hb
  cases e
  exact hu
/-- the table of a function's code -/
def tabA (g : Addr → Option Obj) (o : Obj) : Option Addr := match o.data with
  | .func fd => match fd.code with
    | .ref c => match g c with
      | some oc => match oc.data with
        | .fields vs => match (vs[11]? : Option Value) with
          | some (Value.ref P) => some P
          | _ => none
        | _ => none
      | none => none
    | _ => none
  | _ => none
def funN (o : Obj) : Option Str := match o.data with
  | .func fd => match fd.code with
    | .ref _ => some fd.name
    | _ => none
  | _ => none
def mkN (ys : List Str) (o : Obj) : Bool := match funN o with
  | some x => ys.any fun y => y == x
  | none => false
def tabsN (g : Addr → Option Obj) (ys : List Str) : PySem.W.Frag → Option (List (Str × Addr))
  | [] => some []
  | p :: K => (tabsN g ys K).bind fun l => if mkN ys p.2 = true then (match funN p.2, tabA g p.2 with
    | some x, some P => some ((x, P) :: l)
    | _, _ => none) else some l
def sepT : Option (List (Str × Addr)) → Bool
  | some l => l.all fun p => l.all fun q => !(p.2 == q.2) || p.1 == q.1
  | none => false
/-- the defs that make lambdas have tables of their own -/
def SepOk (K : PySem.W.Frag) (h : Heap) (ys : List Str) : Prop := ∃ L : List (Str × Addr), (∀ p ∈ L, ∀ q ∈ L, p.2 = q.2 → p.1 = q.1) ∧ ∀ a o fd, K.lookup a = some o → o.data = .func fd → fd.name ∈ ys → (∃ c, fd.code = .ref c) → ∃ c oc vs P, fd.code = .ref c ∧ h.get? c = some oc ∧ oc.data = .fields vs ∧ vs[11]? = some (.ref P) ∧ (fd.name, P) ∈ L
theorem tabA_some {g : Addr → Option Obj} {o : Obj} {P : Addr} {fd : FuncData} (hd : o.data = .func fd) (h : tabA g o = some P) : ∃ c oc vs, fd.code = .ref c ∧ g c = some oc ∧ oc.data = .fields vs ∧ vs[11]? = some (.ref P) := by
  unfold tabA at h
  rw [hd] at h
  dsimp only at h
  split at h
  · rename_i c hc
    split at h
    · rename_i oc ho
      split at h
      · rename_i vs hv
        split at h
        · rename_i P' hP
          cases h
          exact ⟨c, oc, vs, hc, ho, hv, hP⟩
        · cases h
      · cases h
    · cases h
  · cases h
theorem tabsN_mem {g : Addr → Option Obj} {ys : List Str} : ∀ {K : PySem.W.Frag} {L : List (Str × Addr)}, tabsN g ys K = some L → ∀ p ∈ K, ∀ fd, p.2.data = .func fd → fd.name ∈ ys → (∃ c, fd.code = .ref c) → ∃ P, tabA g p.2 = some P ∧ (fd.name, P) ∈ L
  | [], L, h, p, hp, _, _, _, _ => by cases hp
  | q :: K, L, h, p, hp, fd, hd, hy, hcc => by
    unfold tabsN at h
    obtain ⟨l, h1, h2⟩ := Option.bind_eq_some_iff.mp h
    have fn : funN p.2 = some fd.name := by
      obtain ⟨cc, hcc⟩ := hcc
      unfold funN
      rw [hd]
      dsimp only
      rw [hcc]
    have mk : mkN ys p.2 = true := by
      unfold mkN
      rw [fn]
      exact List.any_eq_true.mpr ⟨_, hy, by simp⟩
    rcases List.mem_cons.mp hp with rfl | hp
    · rw [if_pos mk, fn] at h2
      cases ht : tabA g p.2 with
      | none => rw [ht] at h2; cases h2
      | some P => rw [ht] at h2; cases h2; exact ⟨P, rfl, List.mem_cons_self⟩
    · obtain ⟨P, e1, e2⟩ := tabsN_mem h1 p hp fd hd hy hcc
      refine ⟨P, e1, ?_⟩
      split at h2
      · split at h2
        · cases h2; exact List.mem_cons_of_mem _ e2
        · cases h2
      · cases h2; exact e2
/-- the defs ys make lambdas: their code objects and their tables -/
def Makers (K : PySem.W.Frag) (mg : Str → Option Value) (base : Heap) (ys : List (Str × Str)) (tt : List (Addr × Str)) : Prop := ∀ y ∈ ys, ∃ a c P, mg y.1 = some (.ref a) ∧ (∀ o fd, K.lookup a = some o → o.data = .func fd → fd.code = .ref c) ∧ LamX.TabB base mg c P ∧ (P, y.2) ∈ tt ∧ ∀ q ∈ tt, q.1 = P → q.2 = y.2
theorem LmOk.of {K : PySem.W.Frag} {mg : Str → Option Value} {base : Heap} {ys : List (Str × Str)} {tt : List (Addr × Str)} {L : List FunI} (M : Makers K mg base ys tt) (h : ∀ (i : Nat) (f : FunI), L[i]? = some f → f.lm = true → (f.name, (f.qual ++ ".<locals>.") ++ "<lambda>") ∈ ys) : LmOk K mg base tt L := fun i f g fd hi hl hm hF => by
  obtain ⟨a, c, P, m1, m2, m3, m4, m5⟩ := M _ (h i f hi hl)
  rw [m1] at hm
  cases hm
  obtain ⟨oc, od, dV, kV, doc, pm, an, cdv, ct, osl, e1, lk, _⟩ := hF.ex
  exact ⟨c, P, m2 _ fd lk rfl, m3, m4, m5⟩
theorem funD_in {K : PySem.W.Frag} {mg : Str → Option Value} {x qual : Str} {params : Arguments} {body : List Stmt} {scope : Scope} {dvs : List V} {kws : List (Str × V)} {g : Addr} {fd : FuncData} (hm : mg x = some (.ref g)) (F : FunD K x qual params body scope dvs kws g fd) : ∃ a o fd, mg x = some (.ref a) ∧ K.lookup a = some o ∧ o.data = .func fd ∧ fd.name = x := by
  obtain ⟨oc, od, dV, kV, doc, pm, an, cdv, ct, osl, rfl, lk, _⟩ := F.ex
  exact ⟨g, _, _, hm, lk, rfl, rfl⟩
theorem pickAll {α β : Type} [Inhabited β] {R : α → β → Prop} {l : List α} (h : ∀ a ∈ l, ∃ b, R a b) : ∃ g : α → β, ∀ a ∈ l, R a (g a) := by
  classical
  refine ⟨fun a => if e : ∃ b, R a b then Classical.choose e else default, fun a ha => ?_⟩
  show R a (if e : ∃ b, R a b then Classical.choose e else default)
  rw [dif_pos (h a ha)]
  exact Classical.choose_spec (h a ha)
end Wl
/-! The end of a law that asks for errors. -/
namespace Wl
open PySem PySem.Spec PyProof.Rows L2
def hookE (n : Nat) (ys : List Str) (eb : PySem.W.Frag → Bool) (fa : List He.Fa) (fn : List He.DefD) : PySem.W.Hook where
  α := (He.AlD × Bool) × Bool
  obs := fun s => ((He.obsD fa fn (frN s.heap.get? (cStatics :: He.asD s.heap.get? n)), sepT (tabsN s.heap.get? ys (frN s.heap.get? (cStatics :: He.asD s.heap.get? n)))), eb (frN s.heap.get? (cStatics :: He.asD s.heap.get? n)))
  val := fun _ => ((He.valD fn, true), true)
  says := fun _ h => ∃ K : PySem.W.Frag, K.In h ∧ He.SaysD fa fn K ∧ (∀ a o, K.lookup a = some o → noT o = true) ∧ SepOk K h ys ∧ eb K = true
  of := fun _ s e => ⟨frN s.heap.get? (cStatics :: He.asD s.heap.get? n), fun a o h => (frN_at h).1, congrArg (fun z : (He.AlD × Bool) × Bool => z.1.1) e, fun a o h => (frN_at h).2, by
    have e2 : sepT (tabsN s.heap.get? ys (frN s.heap.get? (cStatics :: He.asD s.heap.get? n))) = true := congrArg (fun z : (He.AlD × Bool) × Bool => z.1.2) e
    refine ⟨?_, congrArg (fun z : (He.AlD × Bool) × Bool => z.2) e⟩
    cases hL : tabsN s.heap.get? ys (frN s.heap.get? (cStatics :: He.asD s.heap.get? n)) with
    | none => rw [hL] at e2; cases e2
    | some L =>
      rw [hL] at e2
      refine ⟨L, fun p hp q hq z => ?_, fun a o fd hl hd hy hcc => ?_⟩
      · have := List.all_eq_true.mp (List.all_eq_true.mp e2 p hp) q hq
        rw [z] at this
        simpa using this
      · obtain ⟨P, e3, e4⟩ := tabsN_mem hL (a, o) (mem_lk hl) fd hd hy hcc
        obtain ⟨c, oc, vs, k1, k2, k3, k4⟩ := tabA_some hd e3
        exact ⟨c, oc, vs, P, k1, k2, k3, k4, e4⟩⟩
  keeps := fun _ _ _ ⟨K, hK, c, d, ⟨L, s1, s2⟩, eb1⟩ k => ⟨K, PySem.W.Frag.In.keeps hK k, c, d, ⟨L, s1, fun a o fd hl hd hy hcc => let ⟨cc, oc, vs, P, k1, k2, k3⟩ := s2 a o fd hl hd hy hcc; ⟨cc, oc, vs, P, k1, k _ _ k2, k3⟩⟩, eb1⟩
def obsEG (n : Nat) (ys : List Str) (eb : PySem.W.Frag → Bool) (fa : List He.Fa) (fn : List He.DefD) (g : Addr → Option Obj) : (He.AlD × Bool) × Bool := ((He.obsD fa fn (frN g (cStatics :: He.asD g n)), sepT (tabsN g ys (frN g (cStatics :: He.asD g n)))), eb (frN g (cStatics :: He.asD g n)))
theorem obsEG_eq {n : Nat} {ys : List Str} {eb : PySem.W.Frag → Bool} {fa : List He.Fa} {fn : List He.DefD} {g : Addr → Option Obj} {s : Shared} (h : ∀ a, g a = s.heap.get? a) : obsEG n ys eb fa fn g = (hookE n ys eb fa fn).obs s := by
  have e : g = s.heap.get? := funext h
  rw [e] <;> rfl
theorem walk_lamE {l : PySem.W.OpenLaw} {n k : Nat} {q : Program} {loose : List Str} {XP : (Str → Option Value) → Heap → Prop} {d : DefRec} {fa : List He.Fa} {fn : List He.DefD} {x : Str} {ys : List (Str × Str)} {eb : PySem.W.Frag → Bool} {dn : Nat}
    (hn : l.most = some n) (hn2 : n ≤ sizeLine) (hdf : d.params.defaults = []) (hr : Room k callerA) (hy : (ys.all fun y => (recsOf q).any fun e => e.name == y.1) = true) (hd : ∀ y ∈ ys, ∀ z ∈ ys, y.1 = z.1 → y.2 = z.2)
    (hin : ∀ (mg : Str → Option Value) (h : Heap) (K : PySem.W.Frag), K.In h → He.SaysD fa fn K → h.Ns mainGlobals mg → ∀ y ∈ ys, ∃ a o fd, mg y.1 = some (.ref a) ∧ K.lookup a = some o ∧ o.data = .func fd ∧ fd.name = y.1)
    (F : ∀ (w : World) (mg : Str → Option Value) (g0 : Addr) (h : Heap) (K : PySem.W.Frag), K.In h → He.SaysD fa fn K → eb K = true → h.Ns mainGlobals mg → mg d.name = some (.ref g0) →
      ∃ fd : FuncData, (∀ (s : Shared) (u : Value), BindsTo s fd ⟨[u], []⟩ [(x, u)]) ∧ ∀ (base : Heap) (tt : List (Addr × Str)), K.In base → base.Ns mainGlobals mg → Makers K mg base ys tt → FnOk l.prog w K mg base CX0 k g0 fd [x] (spLaw K tt n)) :
    PySem.W.WalkO q loose XP (hookE dn (ys.map (·.1)) eb fa fn).says l.row.toRowW d [] (fun f vs => PySem.call f vs) := by
  refine Att.attach_callB hn hdf fun w s₀ s₁ mg mb fa' o pm cd doc a vs ns G Y ho hd' hcd hmg hobj hints hlen hbits hg => ?_
  obtain ⟨K, KX, c, hK, ⟨L, sL1, sL2⟩, heb⟩ := Y
  have hin' := hin mg _ K KX c G.T.g
  have tabs : ∀ y ∈ ys, ∃ p : Addr × Addr × Addr, mg y.1 = some (.ref p.1) ∧ (∀ o fd, K.lookup p.1 = some o → o.data = .func fd → fd.code = .ref p.2.1) ∧ PySem.W.CodeHd s₁.heap p.2.1 p.2.2 ∧ s₁.heap.get? p.2.2 = some { cls := .none, data := .fields #[] } ∧ (y.1, p.2.2) ∈ L := by
    intro y hyy
    obtain ⟨dL, hm, hn1⟩ := List.any_eq_true.mp (List.all_eq_true.mp hy y hyy)
    have hn3 : dL.name = y.1 := beq_iff_eq.mp hn1
    obtain ⟨a', o', fd', c', P', h1, h2, h3, h4, h5, h6⟩ := G.T.tab dL hm
    rw [hn3] at h1
    have hP : s₁.heap.get? P' = some { cls := .none, data := .fields #[] } := h6.2
    obtain ⟨a2, o2, fd2, g1, g2, g3, g4⟩ := hin' y hyy
    rw [h1] at g1
    cases g1
    have same : ∀ o fd, K.lookup a' = some o → o.data = .func fd → fd.code = .ref c' := fun o fd e1 e2 => by
      have e3 := KX _ _ e1
      rw [h2] at e3
      cases e3
      rw [h3] at e2
      cases e2
      exact h4
    have hc5 := PySem.W.CodeHd.of h5 h6
    obtain ⟨c3, oc3, vs3, P3, k1, k2, k3, k4, k5⟩ := sL2 a' o2 fd2 g2 g3 (by rw [g4]; exact List.mem_map.mpr ⟨y, hyy, rfl⟩) ⟨_, same o2 fd2 g2 g3⟩
    have e4 := same o2 fd2 g2 g3
    rw [k1] at e4
    cases e4
    have eP : P3 = P' := by
      obtain ⟨oo, vv, _, _, _, _, _, _, _, q1, _, q2, q3, _⟩ := id hc5
      rw [k2] at q1
      cases q1
      rw [k3] at q2
      cases q2
      rw [k4] at q3
      cases q3
      rfl
    rw [eP, g4] at k5
    exact ⟨(a', c', P'), h1, same, hc5, hP, k5⟩
  obtain ⟨g, hg'⟩ := pickAll tabs
  obtain ⟨fd, hb, hF⟩ := F w mg fa' _ K KX c heb G.T.g hmg
  refine LamX.law_callTs (cs := ys.map fun y => ((g y).2.1, (g y).2.2)) (k := k) (sp := spLaw K (ys.map fun y => ((g y).2.2, y.2)) n) KX G.T.g G.T.b G.T.builtins G.T.nolimit hg (fun p hp => ?_) (fun p hp => ?_) (fun p hp => ?_) G.T.bmain hobj hints (Nat.le_trans hlen hn2) hr (fun base k1 k2 k3 => hF base _ k1 k2 fun y hyy => ?_) hb (fun H hH hS => ⟨a, ns, rfl, hlen, hS, fun p hp => ?_, fun _ => rfl⟩) fun H e s' z => z
  · obtain ⟨y, hyy, rfl⟩ := List.mem_map.mp hp
    exact (hg' y hyy).2.2.2.1
  · obtain ⟨y, hyy, rfl⟩ := List.mem_map.mp hp
    cases e : K.lookup (g y).2.2 with
    | none => rfl
    | some o =>
      have e1 := KX _ _ e
      rw [(hg' y hyy).2.2.2.1] at e1
      cases e1
      have := hK _ _ e
      cases this
  · obtain ⟨y, hyy, rfl⟩ := List.mem_map.mp hp
    exact (hg' y hyy).2.2.1
  · obtain ⟨q1, q2, q3, q4, q5⟩ := hg' y hyy
    refine ⟨(g y).1, (g y).2.1, (g y).2.2, q1, q2, k3 _ (List.mem_map.mpr ⟨y, hyy, rfl⟩), List.mem_map.mpr ⟨y, hyy, rfl⟩, fun t ht hz => ?_⟩
    obtain ⟨z, hzz, rfl⟩ := List.mem_map.mp ht
    exact hd z hzz y hyy (sL1 _ (hg' z hzz).2.2.2.2 _ q5 hz)
  · obtain ⟨y, hyy, rfl⟩ := List.mem_map.mp hp
    exact LamX.TabS.nil (hH ((g y).2.1, (g y).2.2) (List.mem_map.mpr ⟨y, hyy, rfl⟩))
end Wl
/-! A law over menus, run piece by piece. -/
namespace Wl
open PySem PySem.Spec PyProof.Rows L2
def takeS : Nat → IS → IS
  | 0, _ => .nil
  | n + 1, .cons a b => .cons a (takeS n b)
  | _ + 1, _ => .die
def dropS : Nat → IS → IS
  | 0, s => s
  | n + 1, .cons _ b => dropS n b
  | _ + 1, s => s
theorem evS_cons' {F : Fns} {a b : IS} {env : Env} {r : Row} : evS F (.cons a b) env r = (evS F a env r).bind fun f r => match f with
    | .nx e => evS F b e r
    | .bk e => .ok (.bk e) r
    | .ct e => .ok (.ct e) r
    | .rt d => .ok (.rt d) r
    | .rs e => .ok (.rs e) r := by
  conv => lhs; unfold evS
  try congr 1
theorem evS_cut {F : Fns} {env1 : Env} {r1 : Row} {x : Res Fl} : ∀ (n : Nat) (s : IS) {env : Env} {r : Row}, evS F (takeS n s) env r = .ok (.nx env1) r1 → evS F (dropS n s) env1 r1 = x → evS F s env r = x
  | 0, s, env, r, h, k => by
    cases h
    exact k
  | n + 1, s, env, r, h, k => by
    cases s <;> first | (cases h; done) | skip
    rename_i a b
    rw [takeS, evS_cons'] at h
    rw [evS_cons']
    cases ha : evS F a env r with
    | no => rw [ha] at h; cases h
    | ex e r2 => rw [ha] at h; cases h
    | ok f r2 =>
      rw [ha] at h
      cases f with
      | nx e => exact evS_cut n b h k
      | bk e => cases h
      | ct e => cases h
      | rt d => cases h
      | rs e => cases h
/-- a row that is drawn from -/
theorem taken_some {r : Row} {m : Int} (h0 : 0 < m) (h1 : m < 1073741824) (hp : 0 ≤ r.p) : ∃ x r', taken r m = some (x, r') ∧ 0 ≤ x ∧ x < m ∧ 0 ≤ r'.p := by
  unfold taken
  rw [if_pos (by simp [h0, h1])]
  split
  · exact ⟨_, _, rfl, Int.emod_nonneg _ (by omega), Int.emod_lt_of_pos _ h0, hp⟩
  · split
    · exact ⟨_, _, rfl, Int.emod_nonneg _ (by omega), Int.emod_lt_of_pos _ h0, by show 0 ≤ r.p + 1; omega⟩
    · rename_i hl
      have hlt : r.p.toNat < r.sc.length := by omega
      rw [List.getElem?_eq_getElem hlt]
      exact ⟨_, _, rfl, Int.emod_nonneg _ (by omega), Int.emod_lt_of_pos _ h0, by show 0 ≤ r.p + 1; omega⟩
/-- `_law_pick` -/
def bp (tk : Nat) : IS := .cons (.ret (.alt (.idx (.var 1) (.call tk (.cons (.var 0) (.cons (.alt (.blt .len (.var 1)) (.blt .lenD (.var 1))) .nil)))) (.dget (.var 1) (.call tk (.cons (.var 0) (.cons (.alt (.blt .len (.var 1)) (.blt .lenD (.var 1))) .nil)))))) .nil
theorem pick_run {G : Fns} {tk : Nat} {l : List D} {r r1 : Row} {x : Int} {d : D} (ht : G tk [.row, .int l.length] r = .ok (.int x) r1) (hd : atD l x = some d) : runF G (.fn 2 2 (bp tk)) [.row, .lst l] r = .ok d r1 := by
  have e1 : ev G (.call tk (.cons (.var 0) (.cons (.alt (.blt .len (.var 1)) (.blt .lenD (.var 1))) .nil))) [.fz .row, .fz (.lst l)] r = .ok (.int x) r1 := by
    show G tk [.row, .int l.length] r = _
    exact ht
  have e2 : ev G (.idx (.var 1) (.call tk (.cons (.var 0) (.cons (.alt (.blt .len (.var 1)) (.blt .lenD (.var 1))) .nil)))) [.fz .row, .fz (.lst l)] r = .ok d r1 := by
    show (ev G (.call tk (.cons (.var 0) (.cons (.alt (.blt .len (.var 1)) (.blt .lenD (.var 1))) .nil))) [.fz .row, .fz (.lst l)] r).bind _ = _
    rw [e1]
    show Res.of (atD l x) r1 = _
    rw [hd]
    rfl
  show endR (evS G (bp tk) [.fz .row, .fz (.lst l)] r) = _
  have e3 : evS G (bp tk) [.fz .row, .fz (.lst l)] r = .ok (.rt d) r1 := by
    unfold bp evS
    unfold evS
    unfold ev
    rw [e2]
    rfl
  rw [e3]
  rfl
theorem asgT_ev {F : Fns} {fz tg : List Nat} {e : IE} {env : Env} {r r1 : Row} {d : D} (h : ev F e env r = .ok d r1) : evS F (.asgT fz tg e) env r = match bindT tg false d (frz env fz) with
    | some e => .ok (.nx e) r1
    | none => .no := by
  show (ev F e env r).bind _ = _
  rw [h]
  rfl
theorem asg_ev {F : Fns} {fz : List Nat} {i : Nat} {own : Bool} {e : IE} {env : Env} {r r1 : Row} {d : D} (h : ev F e env r = .ok d r1) : evS F (.asg fz i own e) env r = if own && !(isL d && decide (i < env.length)) then .no else .ok (.nx (st (frz env fz) i own d)) r1 := by
  show Res.fl (ev F e env r) _ _ = _
  rw [h]
  rfl
def ixA (l : List D) (x : Nat) : D := l.getD x .non
theorem draw_ev {F G G' : Fns} {pk tk rw : Nat} {e : IE} {env : Env} {r : Row} {l : List D} (hrow : rd env rw = some .row) (he : ev F e env r = .ok (.lst l) r) (hF : F pk [.row, .lst l] r = runF G (.fn 2 2 (bp tk)) [.row, .lst l] r) (hG : ∀ as r, G tk as r = runF G' .taken as r) (h0 : 0 < l.length) (h1 : l.length < 1000) (hp : 0 ≤ r.p) :
    ∃ (x : Nat) (r1 : Row), x < l.length ∧ 0 ≤ r1.p ∧ ev F (.call pk (.cons (.var rw) (.cons e .nil))) env r = .ok (ixA l x) r1 := by
  obtain ⟨x, r1, ht, g1, g2, g3⟩ := taken_some (r := r) (m := l.length) (by omega) (by omega) hp
  have hx : x.toNat < l.length := by omega
  refine ⟨x.toNat, r1, hx, g3, ?_⟩
  have hd : atD l x = some (ixA l x.toNat) := by
    have e1 : x = ((x.toNat : Nat) : Int) := by omega
    unfold atD ixA
    rw [e1]
    exact atI_nat (by rw [List.getD_eq_getElem?_getD, Int.toNat_natCast, List.getElem?_eq_getElem hx]; rfl)
  have e2 : ev F (.cons (.var rw) (.cons e .nil)) env r = .ok (.tup [.row, .lst l]) r := by
    show (Res.of (rd env rw) r).bind _ = _
    rw [hrow]
    show ((ev F e env r).bind fun x r => _).bind _ = _
    rw [he]
    rfl
  show (ev F (.cons (.var rw) (.cons e .nil)) env r).bind _ = _
  rw [e2]
  show F pk [.row, .lst l] r = _
  rw [hF]
  refine pick_run ?_ hd
  rw [hG]
  show (match taken r (l.length : Int) with
    | some (x, r) => Res.ok (D.int x) r
    | none => .no) = _
  rw [ht]
def sStr (s : Str) : String := "\"" ++ s.toString ++ "\""
mutual
def shD : D → String
  | .non => ".non"
  | .bl b => s!"(.bl {b})"
  | .int i => s!"(.int ({i}))"
  | .str s => "(.str " ++ sStr s ++ ")"
  | .tup l => "(.tup [" ++ shDs l ++ "])"
  | .lst l => "(.lst [" ++ shDs l ++ "])"
  | .row => ".row"
  | .fn k => s!"(.fn {k})"
  | .dct _ _ _ => "?"
def shDs : List D → String
  | [] => ""
  | [x] => shD x
  | x :: l => shD x ++ ", " ++ shDs l
end
end Wl
/-! A law over menus: its statements one by one, each draw with its own cases. -/
namespace Wl
open PySem PySem.Spec PyProof.Rows L2
def ixT (l : List D) (x k : Nat) : D := match l.getD x .non with
  | .tup m => m.getD k .non
  | _ => .non
def Goal (F : Fns) (s : IS) (env : Env) (r : Row) : Prop := ∃ r', evS F s env r = .ok (.rt (.bl true)) r'
theorem good_seg {F : Fns} {s : IS} {q n m : Nat} {env env1 : Env} {r : Row} (hk : dropS n (dropS q s) = dropS m s) (h : evS F (takeS n (dropS q s)) env r = .ok (.nx env1) r) (k : Goal F (dropS m s) env1 r) : Goal F (dropS q s) env r := by
  obtain ⟨r', k⟩ := k
  exact ⟨r', evS_cut n _ h (by rw [hk]; exact k)⟩
theorem good_one {F : Fns} {s a : IS} {q m : Nat} {env env1 : Env} {r r1 : Row} (hs : dropS q s = .cons a (dropS m s)) (h : evS F a env r = .ok (.nx env1) r1) (k : Goal F (dropS m s) env1 r1) : Goal F (dropS q s) env r := by
  obtain ⟨r', k⟩ := k
  refine ⟨r', ?_⟩
  rw [hs, evS_cons', h]
  exact k
def drawE (pk : Nat) (e : IE) : IE := .call pk (.cons (.var 1) (.cons e .nil))
/-- what serves to draw -/
structure Drw (F : Fns) (pk : Nat) : Prop where
  ex : ∃ (G G' : Fns) (tk : Nat), (∀ l r, F pk [.row, .lst l] r = runF G (.fn 2 2 (bp tk)) [.row, .lst l] r) ∧ ∀ as r, G tk as r = runF G' .taken as r
theorem Drw.ev {F : Fns} {pk : Nat} (H : Drw F pk) {e : IE} {env : Env} {r : Row} {l : List D} (hrow : rd env 1 = some .row) (he : Wl.ev F e env r = .ok (.lst l) r) (h0 : 0 < l.length) (h1 : l.length < 1000) (hp : 0 ≤ r.p) : ∃ (x : Nat) (r1 : Row), x < l.length ∧ 0 ≤ r1.p ∧ Wl.ev F (drawE pk e) env r = .ok (ixA l x) r1 := by
  obtain ⟨G, G', tk, hF, hG⟩ := H.ex
  exact draw_ev hrow he (hF l r) hG h0 h1 hp
theorem good_asg {F : Fns} {pk : Nat} (H : Drw F pk) {fz : List Nat} {i q m : Nat} {e : IE} {env : Env} {l : List D} {s : IS} (hs : dropS q s = .cons (.asg fz i false (drawE pk e)) (dropS m s)) (hrow : rd env 1 = some .row) (he : ∀ r, ev F e env r = .ok (.lst l) r) (h0 : 0 < l.length) (h1 : l.length < 1000) (env' : Nat → Env) (hv : ∀ x, st (frz env fz) i false (ixA l x) = env' x) {r : Row} (hp : 0 ≤ r.p) (k : ∀ x r1, x < l.length → 0 ≤ r1.p → Goal F (dropS m s) (env' x) r1) : Goal F (dropS q s) env r := by
  obtain ⟨x, r1, hx, h2, e1⟩ := H.ev hrow (he r) h0 h1 hp
  refine good_one hs ?_ (k x r1 hx h2)
  rw [asg_ev e1, ← hv x]
  rfl
theorem good_asgT {F : Fns} {pk : Nat} (H : Drw F pk) {fz tg : List Nat} {q m : Nat} {e : IE} {env : Env} {l : List D} {s : IS} (hs : dropS q s = .cons (.asgT fz tg (drawE pk e)) (dropS m s)) (hrow : rd env 1 = some .row) (he : ∀ r, ev F e env r = .ok (.lst l) r) (h0 : 0 < l.length) (h1 : l.length < 1000) (env' : Nat → Env) (hv : ∀ x, x < l.length → bindT tg false (ixA l x) (frz env fz) = some (env' x)) {r : Row} (hp : 0 ≤ r.p) (k : ∀ x r1, x < l.length → 0 ≤ r1.p → Goal F (dropS m s) (env' x) r1) : Goal F (dropS q s) env r := by
  obtain ⟨x, r1, hx, h2, e1⟩ := H.ev hrow (he r) h0 h1 hp
  refine good_one hs ?_ (k x r1 hx h2)
  rw [asgT_ev e1, hv x hx]
theorem par_ev {F : Fns} {fz : List Nat} {l : List (Nat × Bool × IE)} {env e1 : Env} {r r1 : Row} (h : evP F l env (frz env fz) r = .ok e1 r1) : evS F (.par fz l) env r = .ok (.nx e1) r1 := by
  show (evP F l env (frz env fz) r).bind _ = _
  rw [h]
  rfl
theorem evP_cons {F : Fns} {i : Nat} {own : Bool} {e : IE} {l : List (Nat × Bool × IE)} {env env' : Env} {r r1 : Row} {d : D} {x : Res Env} (h : ev F e env r = .ok d r1) (ho : (own && !(isL d && decide (i < env'.length))) = false) (k : evP F l env (st env' i own d) r1 = x) : evP F ((i, own, e) :: l) env env' r = x := by
  show (ev F e env r).bind _ = _
  rw [h]
  show (if _ then _ else _) = _
  rw [if_neg (by rw [ho]; simp)]
  exact k
theorem good_par1 {F : Fns} {pk : Nat} (H : Drw F pk) {fz : List Nat} {i j q m : Nat} {own : Bool} {e e' : IE} {env : Env} {l : List D} {d : D} {s : IS} (hs : dropS q s = .cons (.par fz [(i, false, drawE pk e), (j, own, e')]) (dropS m s)) (hrow : rd env 1 = some .row) (he : ∀ r, ev F e env r = .ok (.lst l) r) (h0 : 0 < l.length) (h1 : l.length < 1000) (he' : ∀ r, ev F e' env r = .ok d r) (ho : ∀ x, (own && !(isL d && decide (j < (st (frz env fz) i false (ixA l x)).length))) = false) (env' : Nat → Env) (hv : ∀ x, st (st (frz env fz) i false (ixA l x)) j own d = env' x) {r : Row} (hp : 0 ≤ r.p) (k : ∀ x r1, x < l.length → 0 ≤ r1.p → Goal F (dropS m s) (env' x) r1) : Goal F (dropS q s) env r := by
  obtain ⟨x, r1, hx, h2, e1⟩ := H.ev hrow (he r) h0 h1 hp
  refine good_one hs (par_ev (evP_cons e1 (by simp) (evP_cons (he' r1) (ho x) ?_))) (k x r1 hx h2)
  rw [hv x]
  rfl
theorem told2_ev {F : Fns} {tb : List (Nat × Str × Bool)} {f : Nat} {a p : IE} {env : Env} {r r1 : Row} {da d w : D} (ha : ev F a env r = .ok da r) (hP : ev F p env r = .ok d r1) (hF : toldR tb (F f [da, d] r1) = .ok w r1) : ev F (.told tb (.call f (.cons a (.cons p .nil)))) env r = .ok w r1 := by
  have e2 : ev F (.cons a (.cons p .nil)) env r = .ok (.tup [da, d]) r1 := by
    show (ev F a env r).bind _ = _
    rw [ha]
    show ((ev F p env r).bind fun x r => _).bind _ = _
    rw [hP]
    rfl
  show toldR tb ((ev F (.cons a (.cons p .nil)) env r).bind _) = _
  rw [e2]
  exact hF
theorem app_swap {F : Fns} {fz : List Nat} {i : Nat} {e e' : IE} {env : Env} {r r1 : Row} {d : D} (h : ev F e env r = .ok d r1) (h' : ev F e' env r1 = .ok d r1) : evS F (.app fz i e) env r = evS F (.app fz i e') env r1 := by
  show (ev F e env r).bind _ = (ev F e' env r1).bind _
  rw [h, h']
/-- a draw among what a def is given, within `_law_told`, to a list -/
theorem good_app {F : Fns} {pk : Nat} (H : Drw F pk) {tb : List (Nat × Str × Bool)} {fz : List Nat} {i f q m : Nat} {a e : IE} {env env' : Env} {l : List D} {da : D} {w : Str} {s : IS} (hs : dropS q s = .cons (.app fz i (.told tb (.call f (.cons a (.cons (drawE pk e) .nil))))) (dropS m s)) (hrow : rd env 1 = some .row) (he : ∀ r, ev F e env r = .ok (.lst l) r) (h0 : 0 < l.length) (h1 : l.length < 1000) (ha : ∀ r, ev F a env r = .ok da r) (hT : ∀ x, x < l.length → ∀ r, toldR tb (F f [da, ixA l x] r) = .ok (.str w) r) (hv : ∀ r, evS F (.app fz i (.str w)) env r = .ok (.nx env') r) {r : Row} (hp : 0 ≤ r.p) (k : ∀ r1 : Row, 0 ≤ r1.p → Goal F (dropS m s) env' r1) : Goal F (dropS q s) env r := by
  obtain ⟨x, r1, hx, h2, e1⟩ := H.ev hrow (he r) h0 h1 hp
  refine good_one hs ?_ (k r1 h2)
  rw [app_swap (e' := .str w) (told2_ev (ha r) e1 (hT x hx r1)) rfl]
  exact hv r1
end Wl
namespace Wl
open PySem PySem.Spec PyProof.Rows L2

def topS (i : Nat) : Stmt := PySem.Challenge.pw_walledin_k08_known_traps.main.body.getD i (.Pass ⟨0, 0, 0, 0⟩)
def f0 : FunI := ⟨"is_int", "is_int", defArgs (topS 8), defBody (topS 8), defScope (topS 8), ["value"], ["value"], [], false, false⟩
def f1 : FunI := ⟨"is_from", "is_from", defArgs (topS 9), defBody (topS 9), defScope (topS 9), ["value", "least", "most"], ["value", "least", "most"], [], false, false⟩
def f2 : FunI := ⟨"is_wall", "is_wall", defArgs (topS 10), defBody (topS 10), defScope (topS 10), ["value", "many"], ["value", "many", "low", "high", "side"], [], false, false⟩
def f3 : FunI := ⟨"need_yard", "need_yard", defArgs (topS 11), defBody (topS 11), defScope (topS 11), ["value"], ["value", "index", "wall"], [], false, false⟩
def f4 : FunI := ⟨"need_lot", "need_lot", defArgs (topS 12), defBody (topS 12), defScope (topS 12), ["yard", "value"], ["yard", "value", "one", "a", "b"], [], false, false⟩
def f5 : FunI := ⟨"need_room", "need_room", defArgs (topS 13), defBody (topS 13), defScope (topS 13), ["yard", "value"], ["yard", "value"], [], false, false⟩
def f6 : FunI := ⟨"sides_of", "sides_of", defArgs (topS 14), defBody (topS 14), defScope (topS 14), ["wall"], ["wall", "low", "high", "side"], [], false, false⟩
def f7 : FunI := ⟨"every", "every", defArgs (topS 15), defBody (topS 15), defScope (topS 15), ["yard"], ["yard"], [], false, false⟩
def f8 : FunI := ⟨"reached", "reached", defArgs (topS 16), defBody (topS 16), defScope (topS 16), ["yard", "lot"], ["yard", "lot", "found", "rising", "number", "low", "high", "side", "one", "other"], ["found"], false, false⟩
def f9 : FunI := ⟨"rest_of", "rest_of", defArgs (topS 17), defBody (topS 17), defScope (topS 17), ["yard", "lot"], ["yard", "lot", "number"], [], false, false⟩
def f10 : FunI := ⟨"is_ready", "is_ready", defArgs (topS 19), defBody (topS 19), defScope (topS 19), ["yard", "lot", "number"], ["yard", "lot", "number", "rooms", "room"], [], false, false⟩
def f11 : FunI := ⟨"is_growth", "is_growth", defArgs (topS 20), defBody (topS 20), defScope (topS 20), ["yard", "lot"], ["yard", "lot", "rooms", "room", "number"], [], false, false⟩
def f12 : FunI := ⟨"need_within", "need_within", defArgs (topS 21), defBody (topS 21), defScope (topS 21), ["yard", "rooms"], ["yard", "rooms", "room", "a", "b"], [], false, false⟩
def f13 : FunI := ⟨"lots_of_rooms", "lots_of_rooms", defArgs (topS 23), defBody (topS 23), defScope (topS 23), ["many"], ["many", "found", "room", "lot"], [], false, true⟩
def f14 : FunI := ⟨"around", "around", defArgs (topS 24), defBody (topS 24), defScope (topS 24), ["yard", "rooms"], ["yard", "rooms", "number", "wall"], [], false, false⟩
def f15 : FunI := ⟨"is_trap_of", "is_trap_of", defArgs (topS 25), defBody (topS 25), defScope (topS 25), ["yard", "rooms"], ["yard", "rooms", "wall", "number", "side"], [], false, false⟩
def f16 : FunI := ⟨"is_trap", "is_trap", defArgs (topS 26), defBody (topS 26), defScope (topS 26), ["yard", "rooms"], ["yard", "rooms"], [], false, false⟩
def f17 : FunI := ⟨"greatest_trap", "greatest_trap", defArgs (topS 27), defBody (topS 27), defScope (topS 27), ["yard"], ["yard", "come", "rooms", "room"], [], false, false⟩
def f18 : FunI := ⟨"traps", "traps", defArgs (topS 28), defBody (topS 28), defScope (topS 28), ["yard"], ["yard", "rooms"], [], false, false⟩
def f19 : FunI := ⟨"least_traps", "least_traps", defArgs (topS 29), defBody (topS 29), defScope (topS 29), ["yard"], ["yard", "found", "rooms", "room", "less"], ["found"], false, false⟩
def f20 : FunI := ⟨"walls_around", "walls_around", defArgs (topS 30), defBody (topS 30), defScope (topS 30), ["yard", "rooms"], ["yard", "rooms"], [], false, false⟩
def f21 : FunI := ⟨"trap_of_room", "trap_of_room", defArgs (topS 31), defBody (topS 31), defScope (topS 31), ["yard", "room"], ["yard", "room", "found", "rising", "wall", "side", "other"], ["found"], false, false⟩
def f22 : FunI := ⟨"least_trap_with", "least_trap_with", defArgs (topS 32), defBody (topS 32), defScope (topS 32), ["yard", "room"], ["yard", "room", "rooms"], [], false, false⟩
def f23 : FunI := ⟨"cures", "cures", defArgs (topS 33), defBody (topS 33), defScope (topS 33), ["yard"], ["yard", "found", "number", "walls", "at", "wall", "other", "come", "room"], ["found"], false, false⟩
def f24 : FunI := ⟨"is_open", "is_open", defArgs (topS 35), defBody (topS 35), defScope (topS 35), ["yard", "lot"], ["yard", "lot"], [], false, false⟩
def f25 : FunI := ⟨"heart_of", "heart_of", defArgs (topS 36), defBody (topS 36), defScope (topS 36), ["yard", "lot"], ["yard", "lot", "rooms", "number", "room"], [], false, false⟩
def f26 : FunI := ⟨"heart", "heart", defArgs (topS 37), defBody (topS 37), defScope (topS 37), ["yard", "lot"], ["yard", "lot"], [], false, false⟩
def f27 : FunI := ⟨"without", "without", defArgs (topS 38), defBody (topS 38), defScope (topS 38), ["lot", "number"], ["lot", "number", "one"], [], false, false⟩
def f28 : FunI := ⟨"can_go_of", "can_go_of", defArgs (topS 39), defBody (topS 39), defScope (topS 39), ["yard", "lot"], ["yard", "lot", "found", "number", "rest"], ["found"], false, false⟩
def f29 : FunI := ⟨"can_go", "can_go", defArgs (topS 40), defBody (topS 40), defScope (topS 40), ["yard", "lot"], ["yard", "lot"], [], false, false⟩
def f30 : FunI := ⟨"can_come_of", "can_come_of", defArgs (topS 41), defBody (topS 41), defScope (topS 41), ["yard", "lot"], ["yard", "lot", "rooms", "some", "one", "room"], [], false, false⟩
def f31 : FunI := ⟨"can_come", "can_come", defArgs (topS 42), defBody (topS 42), defScope (topS 42), ["yard", "lot"], ["yard", "lot"], [], false, false⟩
def f32 : FunI := ⟨"layers_of", "layers_of", defArgs (topS 43), defBody (topS 43), defScope (topS 43), ["yard"], ["yard", "found", "some", "lot", "number"], ["some", "found", "some"], false, false⟩
def f33 : FunI := ⟨"open_lots", "open_lots", defArgs (topS 44), defBody (topS 44), defScope (topS 44), ["yard"], ["yard", "found", "layer"], ["found"], false, false⟩
def f34 : FunI := ⟨"count_open", "count_open", defArgs (topS 45), defBody (topS 45), defScope (topS 45), ["yard"], ["yard", "sizes", "layer"], [], false, false⟩
def f35 : FunI := ⟨"only_open", "only_open", defArgs (topS 46), defBody (topS 46), defScope (topS 46), ["yard", "lot"], ["yard", "lot", "number"], [], false, false⟩
def f36 : FunI := ⟨"all_gaps", "all_gaps", defArgs (topS 47), defBody (topS 47), defScope (topS 47), ["yard"], ["yard"], [], false, false⟩
def f37 : FunI := ⟨"_law_taken", "_law_taken", defArgs (topS 49), defBody (topS 49), defScope (topS 49), ["_law_row", "_law_many"], ["_law_row", "_law_many", "_law_found", "_law_cell"], ["_law_row"], true, false⟩
def f38 : FunI := ⟨"_law_pick", "_law_pick", defArgs (topS 50), defBody (topS 50), defScope (topS 50), ["_law_row", "_law_things"], ["_law_row", "_law_things"], [], false, false⟩
def f39 : FunI := ⟨"_law_told", "_law_told", defArgs (topS 51), defBody (topS 51), defScope (topS 51), ["_law_work"], ["_law_work", "_law_found", "_law_known", "_law_words"], [], false, false⟩
def fL : FunI := ⟨"law", "law", defArgs (topS 52), defBody (topS 52), defScope (topS 52), ["_law_script"], ["_law_script", "_law_row", "_law_line", "_law_back", "_law_some", "_law_yard", "_law_index", "_law_words", "_law_work", "_law_more", "_law_lot", "_law_rooms", "_law_other"], ["_law_words"], false, false⟩
def LL : List FunI := [f0, f1, f2, f3, f4, f5, f6, f7, f8, f9, f10, f11, f12, f13, f14, f15, f16, f17, f18, f19, f20, f21, f22, f23, f24, f25, f26, f27, f28, f29, f30, f31, f32, f33, f34, f35, f36, f37, f38, f39]
def TT : Tb := ⟨LL.map fun i => (i.name, i.ps.length), [("MOST_ROOMS", 9), ("MOST_WALLS", 12)], ["len", "tuple", "sorted", "any", "all", "int", "isinstance", "range", "enumerate", "zip", "bool"], false, true, [("WallError", none), ("BadYard", some "index"), ("BadLot", none), ("BadRoom", none)], none⟩
def tdx : Option (List (Nat × Str × Bool)) := some [(2, "lot", false), (3, "room", false), (1, "yard", true)]
def p0 : IS := IS.cons (IS.ret (IE.and (IE.isi (Ty.int) (IE.var 0)) (IE.one (IE.not (IE.isi (Ty.bool) (IE.var 0)))))) (IS.nil)
def p1 : IS := IS.cons (IS.ret (IE.and (IE.call 0 (IE.cons (IE.var 0) (IE.nil))) (IE.one (IE.chain (Cm.le) (Cm.le) (IE.var 1) (IE.var 0) (IE.var 2))))) (IS.nil)
def p2 : IS := IS.cons (IS.ite (IE.or (IE.not (IE.isi (Ty.tuple) (IE.var 0))) (IE.one (IE.cmp (Cm.ne) (IE.alt (IE.blt (Bf.len) (IE.var 0)) (IE.blt (Bf.lenD) (IE.var 0))) (IE.int 3)))) (IS.cons (IS.ret (IE.bl false)) (IS.nil)) (IS.nil)) (IS.cons (IS.asgT [0] [2, 3, 4] (IE.var 0)) (IS.cons (IS.ret (IE.and (IE.call 1 (IE.cons (IE.var 2) (IE.cons (IE.int 0) (IE.cons (IE.op (Op.sub) (IE.var 1) (IE.int 1)) (IE.nil))))) (IE.and (IE.call 1 (IE.cons (IE.var 3) (IE.cons (IE.int 0) (IE.cons (IE.op (Op.sub) (IE.var 1) (IE.int 1)) (IE.nil))))) (IE.and (IE.cmp (Cm.lt) (IE.var 2) (IE.var 3)) (IE.one (IE.call 1 (IE.cons (IE.var 4) (IE.cons (IE.int 0) (IE.cons (IE.int 2) (IE.nil)))))))))) (IS.nil)))
def p3 : IS := IS.cons (IS.ite (IE.or (IE.not (IE.isi (Ty.tuple) (IE.var 0))) (IE.or (IE.cmp (Cm.ne) (IE.alt (IE.blt (Bf.len) (IE.var 0)) (IE.blt (Bf.lenD) (IE.var 0))) (IE.int 2)) (IE.one (IE.not (IE.call 1 (IE.cons (IE.alt (IE.idx (IE.var 0) (IE.int 0)) (IE.dget (IE.var 0) (IE.int 0))) (IE.cons (IE.int 1) (IE.cons (IE.gint "MOST_ROOMS" 9) (IE.nil))))))))) (IS.cons (IS.raise1 1 (IE.non)) (IS.nil)) (IS.nil)) (IS.cons (IS.ite (IE.or (IE.not (IE.isi (Ty.tuple) (IE.alt (IE.idx (IE.var 0) (IE.int 1)) (IE.dget (IE.var 0) (IE.int 1))))) (IE.one (IE.cmp (Cm.gt) (IE.alt (IE.blt (Bf.len) (IE.alt (IE.idx (IE.var 0) (IE.int 1)) (IE.dget (IE.var 0) (IE.int 1)))) (IE.blt (Bf.lenD) (IE.alt (IE.idx (IE.var 0) (IE.int 1)) (IE.dget (IE.var 0) (IE.int 1))))) (IE.gint "MOST_WALLS" 12)))) (IS.cons (IS.raise1 1 (IE.non)) (IS.nil)) (IS.nil)) (IS.cons (IS.for_ [] [1, 2] false (IE.itE (IE.alt (IE.idx (IE.var 0) (IE.int 1)) (IE.dget (IE.var 0) (IE.int 1)))) (IS.cons (IS.ite (IE.not (IE.call 2 (IE.cons (IE.var 2) (IE.cons (IE.alt (IE.idx (IE.var 0) (IE.int 0)) (IE.dget (IE.var 0) (IE.int 0))) (IE.nil))))) (IS.cons (IS.raise1 1 (IE.var 1)) (IS.nil)) (IS.nil)) (IS.nil))) (IS.nil)))
def p4 : IS := IS.cons (IS.ite (IE.or (IE.not (IE.isi (Ty.tuple) (IE.var 1))) (IE.one (IE.not (IE.blt (Bf.all) (IE.comp [2] [2] true (IE.itL (IE.var 1)) false (IE.non) (IE.call 1 (IE.cons (IE.var 2) (IE.cons (IE.int 0) (IE.cons (IE.op (Op.sub) (IE.alt (IE.blt (Bf.len) (IE.alt (IE.idx (IE.var 0) (IE.int 1)) (IE.dget (IE.var 0) (IE.int 1)))) (IE.blt (Bf.lenD) (IE.alt (IE.idx (IE.var 0) (IE.int 1)) (IE.dget (IE.var 0) (IE.int 1))))) (IE.int 1)) (IE.nil)))))))))) (IS.cons (IS.raise0 2) (IS.nil)) (IS.nil)) (IS.cons (IS.ite (IE.blt (Bf.any) (IE.comp [3, 4] [3, 4] false (IE.itZ (IE.var 1) (IE.slc (IE.var 1) (IE.op (Op.add) (IE.int 0) (IE.int 1)) (IE.non))) false (IE.non) (IE.cmp (Cm.ge) (IE.var 3) (IE.var 4)))) (IS.cons (IS.raise0 2) (IS.nil)) (IS.nil)) (IS.nil))
def p5 : IS := IS.cons (IS.ite (IE.not (IE.call 1 (IE.cons (IE.var 1) (IE.cons (IE.int 0) (IE.cons (IE.op (Op.sub) (IE.alt (IE.idx (IE.var 0) (IE.int 0)) (IE.dget (IE.var 0) (IE.int 0))) (IE.int 1)) (IE.nil)))))) (IS.cons (IS.raise0 3) (IS.nil)) (IS.nil)) (IS.nil)
def p6 : IS := IS.cons (IS.asgT [0] [1, 2, 3] (IE.var 0)) (IS.cons (IS.ret (IE.alt (IE.idx (IE.lst (IE.cons (IE.tup (IE.cons (IE.var 1) (IE.nil))) (IE.cons (IE.tup (IE.cons (IE.var 2) (IE.nil))) (IE.cons (IE.tup (IE.cons (IE.var 1) (IE.cons (IE.var 2) (IE.nil)))) (IE.nil))))) (IE.var 3)) (IE.dget (IE.lst (IE.cons (IE.tup (IE.cons (IE.var 1) (IE.nil))) (IE.cons (IE.tup (IE.cons (IE.var 2) (IE.nil))) (IE.cons (IE.tup (IE.cons (IE.var 1) (IE.cons (IE.var 2) (IE.nil)))) (IE.nil))))) (IE.var 3)))) (IS.nil))
def p7 : IS := IS.cons (IS.ret (IE.tupR (IE.alt (IE.blt (Bf.len) (IE.alt (IE.idx (IE.var 0) (IE.int 1)) (IE.dget (IE.var 0) (IE.int 1)))) (IE.blt (Bf.lenD) (IE.alt (IE.idx (IE.var 0) (IE.int 1)) (IE.dget (IE.var 0) (IE.int 1))))))) (IS.nil)
def p8 : IS := IS.cons (IS.par [] [(2, true, IE.lst (IE.cons (IE.int 0) (IE.nil))), (3, false, IE.bl true)]) (IS.cons (IS.whl (IE.var 3) (IS.cons (IS.asg [] 3 false (IE.bl false)) (IS.cons (IS.for_ [1] [4] true (IE.itL (IE.var 1)) (IS.cons (IS.asgT [] [5, 6, 7] (IE.alt (IE.idx (IE.alt (IE.idx (IE.var 0) (IE.int 1)) (IE.dget (IE.var 0) (IE.int 1))) (IE.var 4)) (IE.dget (IE.alt (IE.idx (IE.var 0) (IE.int 1)) (IE.dget (IE.var 0) (IE.int 1))) (IE.var 4)))) (IS.cons (IS.for_ [5, 6, 6, 5] [8, 9] false (IE.itL (IE.tup (IE.cons (IE.tup (IE.cons (IE.var 5) (IE.cons (IE.var 6) (IE.nil)))) (IE.cons (IE.tup (IE.cons (IE.var 6) (IE.cons (IE.var 5) (IE.nil)))) (IE.nil))))) (IS.cons (IS.ite (IE.and (IE.alt (IE.inS false (IE.var 8) (IE.var 2)) (IE.inD false (IE.var 8) (IE.var 2))) (IE.and (IE.alt (IE.inS true (IE.var 9) (IE.var 2)) (IE.inD true (IE.var 9) (IE.var 2))) (IE.one (IE.alt (IE.inS false (IE.var 8) (IE.call 6 (IE.cons (IE.alt (IE.idx (IE.alt (IE.idx (IE.var 0) (IE.int 1)) (IE.dget (IE.var 0) (IE.int 1))) (IE.var 4)) (IE.dget (IE.alt (IE.idx (IE.var 0) (IE.int 1)) (IE.dget (IE.var 0) (IE.int 1))) (IE.var 4))) (IE.nil)))) (IE.inD false (IE.var 8) (IE.call 6 (IE.cons (IE.alt (IE.idx (IE.alt (IE.idx (IE.var 0) (IE.int 1)) (IE.dget (IE.var 0) (IE.int 1))) (IE.var 4)) (IE.dget (IE.alt (IE.idx (IE.var 0) (IE.int 1)) (IE.dget (IE.var 0) (IE.int 1))) (IE.var 4))) (IE.nil)))))))) (IS.cons (IS.app [9] 2 (IE.var 9)) (IS.cons (IS.asg [] 3 false (IE.bl true)) (IS.nil))) (IS.nil)) (IS.nil))) (IS.nil)))) (IS.nil)))) (IS.cons (IS.ret (IE.alt (IE.alt (IE.blt (Bf.sorted) (IE.var 2)) (IE.alt (IE.blt (Bf.sortedT) (IE.var 2)) (IE.alt (IE.blt (Bf.sortedL) (IE.var 2)) (IE.blt (Bf.sortedTL) (IE.var 2))))) (IE.alt (IE.blt (Bf.sortedD) (IE.var 2)) (IE.blt (Bf.sortedP) (IE.var 2))))) (IS.nil)))
def p9 : IS := IS.cons (IS.ret (IE.blt (Bf.tuple) (IE.comp [0, 2] [2] true (IE.itL (IE.call 7 (IE.cons (IE.var 0) (IE.nil)))) true (IE.alt (IE.inS true (IE.var 2) (IE.var 1)) (IE.inD true (IE.var 2) (IE.var 1))) (IE.var 2)))) (IS.nil)
def p10 : IS := IS.cons (IS.asg [0, 1] 3 false (IE.call 8 (IE.cons (IE.var 0) (IE.cons (IE.var 1) (IE.nil))))) (IS.cons (IS.ret (IE.blt (Bf.any) (IE.comp [4] [4] true (IE.itL (IE.call 6 (IE.cons (IE.alt (IE.idx (IE.alt (IE.idx (IE.var 0) (IE.int 1)) (IE.dget (IE.var 0) (IE.int 1))) (IE.var 2)) (IE.dget (IE.alt (IE.idx (IE.var 0) (IE.int 1)) (IE.dget (IE.var 0) (IE.int 1))) (IE.var 2))) (IE.nil)))) false (IE.non) (IE.alt (IE.inS false (IE.var 4) (IE.var 3)) (IE.inD false (IE.var 4) (IE.var 3)))))) (IS.nil))
def p11 : IS := IS.cons (IS.asg [0, 1] 2 false (IE.call 8 (IE.cons (IE.var 0) (IE.cons (IE.var 1) (IE.nil))))) (IS.cons (IS.ret (IE.blt (Bf.all) (IE.comp [4] [4] true (IE.itL (IE.var 1)) false (IE.non) (IE.blt (Bf.any) (IE.comp [3] [3] true (IE.itL (IE.call 6 (IE.cons (IE.alt (IE.idx (IE.alt (IE.idx (IE.var 0) (IE.int 1)) (IE.dget (IE.var 0) (IE.int 1))) (IE.var 4)) (IE.dget (IE.alt (IE.idx (IE.var 0) (IE.int 1)) (IE.dget (IE.var 0) (IE.int 1))) (IE.var 4))) (IE.nil)))) false (IE.non) (IE.alt (IE.inS false (IE.var 3) (IE.var 2)) (IE.inD false (IE.var 3) (IE.var 2)))))))) (IS.nil))
def p12 : IS := IS.cons (IS.ite (IE.not (IE.isi (Ty.tuple) (IE.var 1))) (IS.cons (IS.raise0 3) (IS.nil)) (IS.nil)) (IS.cons (IS.for_ [1] [2] true (IE.itL (IE.var 1)) (IS.cons (IS.exp (IE.call 5 (IE.cons (IE.var 0) (IE.cons (IE.var 2) (IE.nil))))) (IS.nil))) (IS.cons (IS.ite (IE.blt (Bf.any) (IE.comp [3, 4] [3, 4] false (IE.itZ (IE.var 1) (IE.slc (IE.var 1) (IE.op (Op.add) (IE.int 0) (IE.int 1)) (IE.non))) false (IE.non) (IE.cmp (Cm.ge) (IE.var 3) (IE.var 4)))) (IS.cons (IS.raise0 3) (IS.nil)) (IS.nil)) (IS.nil)))
def p13 : IS := IS.cons (IS.asg [] 1 false (IE.lst (IE.cons (IE.tup (IE.nil)) (IE.nil)))) (IS.cons (IS.for_ [] [2] true (IE.itR2 (IE.int 1) (IE.var 0)) (IS.cons (IS.asg [2, 3] 1 false (IE.op (Op.add) (IE.var 1) (IE.comp [3] [3] true (IE.itL (IE.var 1)) false (IE.non) (IE.tup (IE.star (IE.var 3) (IE.cons (IE.var 2) (IE.nil))))))) (IS.nil))) (IS.cons (IS.ret (IE.srtK (IE.var 1))) (IS.nil)))
def p14 : IS := IS.cons (IS.ret (IE.comp [2, 3] [2, 3] false (IE.itE (IE.alt (IE.idx (IE.var 0) (IE.int 1)) (IE.dget (IE.var 0) (IE.int 1)))) true (IE.cmp (Cm.ne) (IE.alt (IE.inS false (IE.alt (IE.idx (IE.var 3) (IE.int 0)) (IE.dget (IE.var 3) (IE.int 0))) (IE.var 1)) (IE.inD false (IE.alt (IE.idx (IE.var 3) (IE.int 0)) (IE.dget (IE.var 3) (IE.int 0))) (IE.var 1))) (IE.alt (IE.inS false (IE.alt (IE.idx (IE.var 3) (IE.int 1)) (IE.dget (IE.var 3) (IE.int 1))) (IE.var 1)) (IE.inD false (IE.alt (IE.idx (IE.var 3) (IE.int 1)) (IE.dget (IE.var 3) (IE.int 1))) (IE.var 1)))) (IE.var 2))) (IS.nil)
def p15 : IS := IS.cons (IS.ite (IE.or (IE.cmp (Cm.eq) (IE.var 1) (IE.tup (IE.nil))) (IE.one (IE.alt (IE.inS false (IE.int 0) (IE.var 1)) (IE.inD false (IE.int 0) (IE.var 1))))) (IS.cons (IS.ret (IE.bl false)) (IS.nil)) (IS.nil)) (IS.cons (IS.ite (IE.blt (Bf.all) (IE.comp [2] [2] true (IE.itL (IE.alt (IE.idx (IE.var 0) (IE.int 1)) (IE.dget (IE.var 0) (IE.int 1)))) false (IE.non) (IE.and (IE.alt (IE.inS true (IE.alt (IE.idx (IE.var 2) (IE.int 0)) (IE.dget (IE.var 2) (IE.int 0))) (IE.var 1)) (IE.inD true (IE.alt (IE.idx (IE.var 2) (IE.int 0)) (IE.dget (IE.var 2) (IE.int 0))) (IE.var 1))) (IE.one (IE.alt (IE.inS true (IE.alt (IE.idx (IE.var 2) (IE.int 1)) (IE.dget (IE.var 2) (IE.int 1))) (IE.var 1)) (IE.inD true (IE.alt (IE.idx (IE.var 2) (IE.int 1)) (IE.dget (IE.var 2) (IE.int 1))) (IE.var 1))))))) (IS.cons (IS.ret (IE.bl false)) (IS.nil)) (IS.nil)) (IS.cons (IS.for_ [0, 1] [3] true (IE.itL (IE.call 14 (IE.cons (IE.var 0) (IE.cons (IE.var 1) (IE.nil))))) (IS.cons (IS.ite (IE.blt (Bf.any) (IE.comp [4] [4] true (IE.itL (IE.call 6 (IE.cons (IE.alt (IE.idx (IE.alt (IE.idx (IE.var 0) (IE.int 1)) (IE.dget (IE.var 0) (IE.int 1))) (IE.var 3)) (IE.dget (IE.alt (IE.idx (IE.var 0) (IE.int 1)) (IE.dget (IE.var 0) (IE.int 1))) (IE.var 3))) (IE.nil)))) false (IE.non) (IE.alt (IE.inS true (IE.var 4) (IE.var 1)) (IE.inD true (IE.var 4) (IE.var 1))))) (IS.cons (IS.ret (IE.bl false)) (IS.nil)) (IS.nil)) (IS.nil))) (IS.cons (IS.ret (IE.bl true)) (IS.nil))))
def p16 : IS := IS.cons (IS.exp (IE.call 3 (IE.cons (IE.var 0) (IE.nil)))) (IS.cons (IS.exp (IE.call 12 (IE.cons (IE.var 0) (IE.cons (IE.var 1) (IE.nil))))) (IS.cons (IS.ret (IE.call 15 (IE.cons (IE.var 0) (IE.cons (IE.var 1) (IE.nil))))) (IS.nil)))
def p17 : IS := IS.cons (IS.exp (IE.call 3 (IE.cons (IE.var 0) (IE.nil)))) (IS.cons (IS.asg [0, 0] 1 false (IE.call 8 (IE.cons (IE.var 0) (IE.cons (IE.call 7 (IE.cons (IE.var 0) (IE.nil))) (IE.nil))))) (IS.cons (IS.asg [3, 3] 2 false (IE.blt (Bf.tuple) (IE.comp [3] [3] true (IE.itR2 (IE.int 1) (IE.alt (IE.idx (IE.var 0) (IE.int 0)) (IE.dget (IE.var 0) (IE.int 0)))) true (IE.alt (IE.inS true (IE.var 3) (IE.var 1)) (IE.inD true (IE.var 3) (IE.var 1))) (IE.var 3)))) (IS.cons (IS.ret (IE.ite (IE.call 15 (IE.cons (IE.var 0) (IE.cons (IE.var 2) (IE.nil)))) (IE.var 2) (IE.non))) (IS.nil))))
def p18 : IS := IS.cons (IS.exp (IE.call 3 (IE.cons (IE.var 0) (IE.nil)))) (IS.cons (IS.ret (IE.comp [1] [1] true (IE.itL (IE.call 13 (IE.cons (IE.alt (IE.idx (IE.var 0) (IE.int 0)) (IE.dget (IE.var 0) (IE.int 0))) (IE.nil)))) true (IE.call 15 (IE.cons (IE.var 0) (IE.cons (IE.var 1) (IE.nil)))) (IE.var 1))) (IS.nil))
def p19 : IS := IS.cons (IS.exp (IE.call 3 (IE.cons (IE.var 0) (IE.nil)))) (IS.cons (IS.asg [] 1 true (IE.lst (IE.nil))) (IS.cons (IS.for_ [0] [2] true (IE.itL (IE.call 18 (IE.cons (IE.var 0) (IE.nil)))) (IS.cons (IS.ite (IE.not (IE.blt (Bf.any) (IE.comp [4] [4] true (IE.itL (IE.var 1)) false (IE.non) (IE.blt (Bf.all) (IE.comp [3] [3] true (IE.itL (IE.var 4)) false (IE.non) (IE.alt (IE.inS false (IE.var 3) (IE.var 2)) (IE.inD false (IE.var 3) (IE.var 2)))))))) (IS.cons (IS.app [2] 1 (IE.var 2)) (IS.nil)) (IS.nil)) (IS.nil))) (IS.cons (IS.ret (IE.var 1)) (IS.nil))))
def p20 : IS := IS.cons (IS.exp (IE.call 3 (IE.cons (IE.var 0) (IE.nil)))) (IS.cons (IS.exp (IE.call 12 (IE.cons (IE.var 0) (IE.cons (IE.var 1) (IE.nil))))) (IS.cons (IS.ret (IE.blt (Bf.tuple) (IE.call 14 (IE.cons (IE.var 0) (IE.cons (IE.var 1) (IE.nil)))))) (IS.nil)))
def p21 : IS := IS.cons (IS.par [1] [(2, true, IE.lst (IE.cons (IE.var 1) (IE.nil))), (3, false, IE.bl true)]) (IS.cons (IS.whl (IE.var 3) (IS.cons (IS.asg [] 3 false (IE.bl false)) (IS.cons (IS.for_ [] [4] true (IE.itL (IE.alt (IE.idx (IE.var 0) (IE.int 1)) (IE.dget (IE.var 0) (IE.int 1)))) (IS.cons (IS.for_ [4] [5] true (IE.itL (IE.call 6 (IE.cons (IE.var 4) (IE.nil)))) (IS.cons (IS.asg [] 6 false (IE.op (Op.sub) (IE.op (Op.add) (IE.alt (IE.idx (IE.var 4) (IE.int 0)) (IE.dget (IE.var 4) (IE.int 0))) (IE.alt (IE.idx (IE.var 4) (IE.int 1)) (IE.dget (IE.var 4) (IE.int 1)))) (IE.var 5))) (IS.cons (IS.ite (IE.and (IE.alt (IE.inS false (IE.var 6) (IE.var 2)) (IE.inD false (IE.var 6) (IE.var 2))) (IE.one (IE.alt (IE.inS true (IE.var 5) (IE.var 2)) (IE.inD true (IE.var 5) (IE.var 2))))) (IS.cons (IS.app [5] 2 (IE.var 5)) (IS.cons (IS.asg [] 3 false (IE.bl true)) (IS.nil))) (IS.nil)) (IS.nil)))) (IS.nil))) (IS.nil)))) (IS.cons (IS.ret (IE.blt (Bf.tuple) (IE.alt (IE.alt (IE.blt (Bf.sorted) (IE.var 2)) (IE.alt (IE.blt (Bf.sortedT) (IE.var 2)) (IE.alt (IE.blt (Bf.sortedL) (IE.var 2)) (IE.blt (Bf.sortedTL) (IE.var 2))))) (IE.alt (IE.blt (Bf.sortedD) (IE.var 2)) (IE.blt (Bf.sortedP) (IE.var 2)))))) (IS.nil)))
def p22 : IS := IS.cons (IS.exp (IE.call 3 (IE.cons (IE.var 0) (IE.nil)))) (IS.cons (IS.exp (IE.call 12 (IE.cons (IE.var 0) (IE.cons (IE.tup (IE.cons (IE.var 1) (IE.nil))) (IE.nil))))) (IS.cons (IS.asg [0, 1] 2 false (IE.call 21 (IE.cons (IE.var 0) (IE.cons (IE.var 1) (IE.nil))))) (IS.cons (IS.ret (IE.ite (IE.call 15 (IE.cons (IE.var 0) (IE.cons (IE.var 2) (IE.nil)))) (IE.var 2) (IE.non))) (IS.nil))))
def p23 : IS := IS.cons (IS.exp (IE.call 3 (IE.cons (IE.var 0) (IE.nil)))) (IS.cons (IS.asg [] 1 true (IE.lst (IE.nil))) (IS.cons (IS.for_ [0] [2] true (IE.itL (IE.call 7 (IE.cons (IE.var 0) (IE.nil)))) (IS.cons (IS.asg [5, 4, 5] 3 false (IE.comp [4, 5] [4, 5] false (IE.itE (IE.alt (IE.idx (IE.var 0) (IE.int 1)) (IE.dget (IE.var 0) (IE.int 1)))) false (IE.non) (IE.ite (IE.cmp (Cm.eq) (IE.var 4) (IE.var 2)) (IE.tup (IE.star (IE.slc (IE.var 5) (IE.non) (IE.op (Op.add) (IE.int 0) (IE.int 2))) (IE.cons (IE.int 2) (IE.nil)))) (IE.var 5)))) (IS.cons (IS.asg [] 6 false (IE.tup (IE.cons (IE.alt (IE.idx (IE.var 0) (IE.int 0)) (IE.dget (IE.var 0) (IE.int 0))) (IE.cons (IE.blt (Bf.tuple) (IE.var 3)) (IE.nil))))) (IS.cons (IS.asg [6, 6] 7 false (IE.call 8 (IE.cons (IE.var 6) (IE.cons (IE.call 7 (IE.cons (IE.var 6) (IE.nil))) (IE.nil))))) (IS.cons (IS.ite (IE.not (IE.call 15 (IE.cons (IE.var 6) (IE.cons (IE.blt (Bf.tuple) (IE.comp [8] [8] true (IE.itR2 (IE.int 1) (IE.alt (IE.idx (IE.var 0) (IE.int 0)) (IE.dget (IE.var 0) (IE.int 0)))) true (IE.alt (IE.inS true (IE.var 8) (IE.var 7)) (IE.inD true (IE.var 8) (IE.var 7))) (IE.var 8))) (IE.nil))))) (IS.cons (IS.app [2] 1 (IE.var 2)) (IS.nil)) (IS.nil)) (IS.nil)))))) (IS.cons (IS.ret (IE.blt (Bf.tuple) (IE.var 1))) (IS.nil))))
def p24 : IS := IS.cons (IS.exp (IE.call 3 (IE.cons (IE.var 0) (IE.nil)))) (IS.cons (IS.exp (IE.call 4 (IE.cons (IE.var 0) (IE.cons (IE.var 1) (IE.nil))))) (IS.cons (IS.ret (IE.call 11 (IE.cons (IE.var 0) (IE.cons (IE.var 1) (IE.nil))))) (IS.nil)))
def p25 : IS := IS.cons (IS.asg [0, 1] 2 false (IE.call 8 (IE.cons (IE.var 0) (IE.cons (IE.var 1) (IE.nil))))) (IS.cons (IS.ret (IE.blt (Bf.tuple) (IE.comp [3] [3] true (IE.itL (IE.var 1)) true (IE.blt (Bf.any) (IE.comp [4] [4] true (IE.itL (IE.call 6 (IE.cons (IE.alt (IE.idx (IE.alt (IE.idx (IE.var 0) (IE.int 1)) (IE.dget (IE.var 0) (IE.int 1))) (IE.var 3)) (IE.dget (IE.alt (IE.idx (IE.var 0) (IE.int 1)) (IE.dget (IE.var 0) (IE.int 1))) (IE.var 3))) (IE.nil)))) false (IE.non) (IE.alt (IE.inS false (IE.var 4) (IE.var 2)) (IE.inD false (IE.var 4) (IE.var 2))))) (IE.var 3)))) (IS.nil))
def p26 : IS := IS.cons (IS.exp (IE.call 3 (IE.cons (IE.var 0) (IE.nil)))) (IS.cons (IS.exp (IE.call 4 (IE.cons (IE.var 0) (IE.cons (IE.var 1) (IE.nil))))) (IS.cons (IS.ret (IE.call 25 (IE.cons (IE.var 0) (IE.cons (IE.var 1) (IE.nil))))) (IS.nil)))
def p27 : IS := IS.cons (IS.ret (IE.blt (Bf.tuple) (IE.comp [2] [2] true (IE.itL (IE.var 0)) true (IE.cmp (Cm.ne) (IE.var 2) (IE.var 1)) (IE.var 2)))) (IS.nil)
def p28 : IS := IS.cons (IS.asg [] 2 true (IE.lst (IE.nil))) (IS.cons (IS.for_ [1] [3] true (IE.itL (IE.var 1)) (IS.cons (IS.asg [1, 3] 4 false (IE.call 27 (IE.cons (IE.var 1) (IE.cons (IE.var 3) (IE.nil))))) (IS.cons (IS.ite (IE.and (IE.call 10 (IE.cons (IE.var 0) (IE.cons (IE.var 4) (IE.cons (IE.var 3) (IE.nil))))) (IE.one (IE.call 11 (IE.cons (IE.var 0) (IE.cons (IE.var 4) (IE.nil)))))) (IS.cons (IS.app [3] 2 (IE.var 3)) (IS.nil)) (IS.nil)) (IS.nil)))) (IS.cons (IS.ret (IE.blt (Bf.tuple) (IE.var 2))) (IS.nil)))
def p29 : IS := IS.cons (IS.exp (IE.call 3 (IE.cons (IE.var 0) (IE.nil)))) (IS.cons (IS.exp (IE.call 4 (IE.cons (IE.var 0) (IE.cons (IE.var 1) (IE.nil))))) (IS.cons (IS.ret (IE.ite (IE.call 11 (IE.cons (IE.var 0) (IE.cons (IE.var 1) (IE.nil)))) (IE.call 28 (IE.cons (IE.var 0) (IE.cons (IE.var 1) (IE.nil)))) (IE.non))) (IS.nil)))
def p30 : IS := IS.cons (IS.asg [0, 1] 2 false (IE.call 8 (IE.cons (IE.var 0) (IE.cons (IE.var 1) (IE.nil))))) (IS.cons (IS.asg [0, 1] 3 false (IE.call 9 (IE.cons (IE.var 0) (IE.cons (IE.var 1) (IE.nil))))) (IS.cons (IS.ret (IE.blt (Bf.tuple) (IE.comp [4] [4] true (IE.itL (IE.var 3)) true (IE.blt (Bf.any) (IE.comp [5] [5] true (IE.itL (IE.call 6 (IE.cons (IE.alt (IE.idx (IE.alt (IE.idx (IE.var 0) (IE.int 1)) (IE.dget (IE.var 0) (IE.int 1))) (IE.var 4)) (IE.dget (IE.alt (IE.idx (IE.var 0) (IE.int 1)) (IE.dget (IE.var 0) (IE.int 1))) (IE.var 4))) (IE.nil)))) false (IE.non) (IE.alt (IE.inS false (IE.var 5) (IE.var 2)) (IE.inD false (IE.var 5) (IE.var 2))))) (IE.var 4)))) (IS.nil)))
def p31 : IS := IS.cons (IS.exp (IE.call 3 (IE.cons (IE.var 0) (IE.nil)))) (IS.cons (IS.exp (IE.call 4 (IE.cons (IE.var 0) (IE.cons (IE.var 1) (IE.nil))))) (IS.cons (IS.ret (IE.ite (IE.call 11 (IE.cons (IE.var 0) (IE.cons (IE.var 1) (IE.nil)))) (IE.call 30 (IE.cons (IE.var 0) (IE.cons (IE.var 1) (IE.nil)))) (IE.non))) (IS.nil)))
def p32 : IS := IS.cons (IS.asg [] 1 true (IE.lst (IE.cons (IE.lst (IE.cons (IE.tup (IE.nil)) (IE.nil))) (IE.nil)))) (IS.cons (IS.whl (IE.cmp (Cm.ne) (IE.alt (IE.idx (IE.var 1) (IE.neg (IE.int 1))) (IE.dget (IE.var 1) (IE.neg (IE.int 1)))) (IE.lst (IE.nil))) (IS.cons (IS.asg [] 2 true (IE.dic0 true)) (IS.cons (IS.for_ [] [3] true (IE.itL (IE.alt (IE.idx (IE.var 1) (IE.neg (IE.int 1))) (IE.dget (IE.var 1) (IE.neg (IE.int 1))))) (IS.cons (IS.for_ [0, 3] [4] true (IE.itL (IE.call 30 (IE.cons (IE.var 0) (IE.cons (IE.var 3) (IE.nil))))) (IS.cons (IS.alt (IS.setL [] 2 (IE.blt (Bf.tuple) (IE.alt (IE.alt (IE.blt (Bf.sorted) (IE.lst (IE.star (IE.var 3) (IE.cons (IE.var 4) (IE.nil))))) (IE.alt (IE.blt (Bf.sortedT) (IE.lst (IE.star (IE.var 3) (IE.cons (IE.var 4) (IE.nil))))) (IE.alt (IE.blt (Bf.sortedL) (IE.lst (IE.star (IE.var 3) (IE.cons (IE.var 4) (IE.nil))))) (IE.blt (Bf.sortedTL) (IE.lst (IE.star (IE.var 3) (IE.cons (IE.var 4) (IE.nil)))))))) (IE.alt (IE.blt (Bf.sortedD) (IE.lst (IE.star (IE.var 3) (IE.cons (IE.var 4) (IE.nil))))) (IE.blt (Bf.sortedP) (IE.lst (IE.star (IE.var 3) (IE.cons (IE.var 4) (IE.nil)))))))) (IE.bl true)) (IS.setD [] 2 (IE.blt (Bf.tuple) (IE.alt (IE.alt (IE.blt (Bf.sorted) (IE.lst (IE.star (IE.var 3) (IE.cons (IE.var 4) (IE.nil))))) (IE.alt (IE.blt (Bf.sortedT) (IE.lst (IE.star (IE.var 3) (IE.cons (IE.var 4) (IE.nil))))) (IE.alt (IE.blt (Bf.sortedL) (IE.lst (IE.star (IE.var 3) (IE.cons (IE.var 4) (IE.nil))))) (IE.blt (Bf.sortedTL) (IE.lst (IE.star (IE.var 3) (IE.cons (IE.var 4) (IE.nil)))))))) (IE.alt (IE.blt (Bf.sortedD) (IE.lst (IE.star (IE.var 3) (IE.cons (IE.var 4) (IE.nil))))) (IE.blt (Bf.sortedP) (IE.lst (IE.star (IE.var 3) (IE.cons (IE.var 4) (IE.nil)))))))) (IE.bl true))) (IS.nil))) (IS.nil))) (IS.cons (IS.app [] 1 (IE.alt (IE.alt (IE.blt (Bf.sorted) (IE.var 2)) (IE.alt (IE.blt (Bf.sortedT) (IE.var 2)) (IE.alt (IE.blt (Bf.sortedL) (IE.var 2)) (IE.blt (Bf.sortedTL) (IE.var 2))))) (IE.alt (IE.blt (Bf.sortedD) (IE.var 2)) (IE.blt (Bf.sortedP) (IE.var 2))))) (IS.nil))))) (IS.cons (IS.ret (IE.slc (IE.var 1) (IE.non) (IE.op (Op.add) (IE.int 0) (IE.neg (IE.int 1))))) (IS.nil)))
def p33 : IS := IS.cons (IS.exp (IE.call 3 (IE.cons (IE.var 0) (IE.nil)))) (IS.cons (IS.asg [] 1 true (IE.lst (IE.nil))) (IS.cons (IS.for_ [0] [2] true (IE.itL (IE.call 32 (IE.cons (IE.var 0) (IE.nil)))) (IS.cons (IS.ext [2] 1 (IE.var 2)) (IS.nil))) (IS.cons (IS.ret (IE.var 1)) (IS.nil))))
def p34 : IS := IS.cons (IS.exp (IE.call 3 (IE.cons (IE.var 0) (IE.nil)))) (IS.cons (IS.asg [0, 2] 1 false (IE.comp [0, 2] [2] true (IE.itL (IE.call 32 (IE.cons (IE.var 0) (IE.nil)))) false (IE.non) (IE.alt (IE.blt (Bf.len) (IE.var 2)) (IE.blt (Bf.lenD) (IE.var 2))))) (IS.cons (IS.ret (IE.blt (Bf.tuple) (IE.op (Op.add) (IE.var 1) (IE.op (Op.mul) (IE.lst (IE.cons (IE.int 0) (IE.nil))) (IE.op (Op.sub) (IE.op (Op.add) (IE.alt (IE.blt (Bf.len) (IE.alt (IE.idx (IE.var 0) (IE.int 1)) (IE.dget (IE.var 0) (IE.int 1)))) (IE.blt (Bf.lenD) (IE.alt (IE.idx (IE.var 0) (IE.int 1)) (IE.dget (IE.var 0) (IE.int 1))))) (IE.int 1)) (IE.alt (IE.blt (Bf.len) (IE.var 1)) (IE.blt (Bf.lenD) (IE.var 1)))))))) (IS.nil)))
def p35 : IS := IS.cons (IS.exp (IE.call 3 (IE.cons (IE.var 0) (IE.nil)))) (IS.cons (IS.exp (IE.call 4 (IE.cons (IE.var 0) (IE.cons (IE.var 1) (IE.nil))))) (IS.cons (IS.ret (IE.tup (IE.cons (IE.alt (IE.idx (IE.var 0) (IE.int 0)) (IE.dget (IE.var 0) (IE.int 0))) (IE.cons (IE.blt (Bf.tuple) (IE.comp [2] [2] true (IE.itL (IE.var 1)) false (IE.non) (IE.alt (IE.idx (IE.alt (IE.idx (IE.var 0) (IE.int 1)) (IE.dget (IE.var 0) (IE.int 1))) (IE.var 2)) (IE.dget (IE.alt (IE.idx (IE.var 0) (IE.int 1)) (IE.dget (IE.var 0) (IE.int 1))) (IE.var 2))))) (IE.nil))))) (IS.nil)))
def p36 : IS := IS.cons (IS.exp (IE.call 3 (IE.cons (IE.var 0) (IE.nil)))) (IS.cons (IS.ret (IE.call 25 (IE.cons (IE.var 0) (IE.cons (IE.call 7 (IE.cons (IE.var 0) (IE.nil))) (IE.nil))))) (IS.nil))
def p38 : IS := IS.cons (IS.ret (IE.alt (IE.idx (IE.var 1) (IE.call 37 (IE.cons (IE.var 0) (IE.cons (IE.alt (IE.blt (Bf.len) (IE.var 1)) (IE.blt (Bf.lenD) (IE.var 1))) (IE.nil))))) (IE.dget (IE.var 1) (IE.call 37 (IE.cons (IE.var 0) (IE.cons (IE.alt (IE.blt (Bf.len) (IE.var 1)) (IE.blt (Bf.lenD) (IE.var 1))) (IE.nil))))))) (IS.nil)
def p39 : IS := IS.cons (IS.asg [] 1 false (IE.str "")) (IS.cons (IS.die) (IS.cons (IS.ret (IE.var 1)) (IS.nil)))
def st0 : IS := IS.par [] [(2, false, IE.tup (IE.cons (IE.int 3) (IE.cons (IE.tup (IE.cons (IE.tup (IE.cons (IE.int 0) (IE.cons (IE.int 1) (IE.cons (IE.int 0) (IE.nil))))) (IE.cons (IE.tup (IE.cons (IE.int 1) (IE.cons (IE.int 2) (IE.cons (IE.int 0) (IE.nil))))) (IE.nil)))) (IE.nil)))), (3, false, IE.tup (IE.cons (IE.int 3) (IE.cons (IE.tup (IE.cons (IE.tup (IE.cons (IE.int 0) (IE.cons (IE.int 1) (IE.cons (IE.int 0) (IE.nil))))) (IE.cons (IE.tup (IE.cons (IE.int 1) (IE.cons (IE.int 2) (IE.cons (IE.int 1) (IE.nil))))) (IE.nil)))) (IE.nil))))]
def st1 : IS := IS.ite (IE.or (IE.cmp (Cm.ne) (IE.call 33 (IE.cons (IE.var 2) (IE.nil))) (IE.lst (IE.cons (IE.tup (IE.nil)) (IE.cons (IE.tup (IE.cons (IE.int 0) (IE.nil))) (IE.cons (IE.tup (IE.cons (IE.int 0) (IE.cons (IE.int 1) (IE.nil)))) (IE.nil)))))) (IE.or (IE.cmp (Cm.ne) (IE.call 34 (IE.cons (IE.var 2) (IE.nil))) (IE.tup (IE.cons (IE.int 1) (IE.cons (IE.int 1) (IE.cons (IE.int 1) (IE.nil)))))) (IE.one (IE.cmp (Cm.ne) (IE.call 34 (IE.cons (IE.var 3) (IE.nil))) (IE.tup (IE.cons (IE.int 1) (IE.cons (IE.int 1) (IE.cons (IE.int 0) (IE.nil))))))))) (IS.cons (IS.ret (IE.bl false)) (IS.nil)) (IS.nil)
def st2 : IS := IS.ite (IE.or (IE.isB true false (IE.call 24 (IE.cons (IE.var 2) (IE.cons (IE.tup (IE.cons (IE.int 1) (IE.nil))) (IE.nil))))) (IE.or (IE.cmp (Cm.ne) (IE.call 26 (IE.cons (IE.var 2) (IE.cons (IE.tup (IE.cons (IE.int 1) (IE.nil))) (IE.nil)))) (IE.tup (IE.nil))) (IE.one (IE.cmp (Cm.ne) (IE.call 29 (IE.cons (IE.var 2) (IE.cons (IE.tup (IE.cons (IE.int 0) (IE.cons (IE.int 1) (IE.nil)))) (IE.nil)))) (IE.tup (IE.cons (IE.int 1) (IE.nil))))))) (IS.cons (IS.ret (IE.bl false)) (IS.nil)) (IS.nil)
def st3 : IS := IS.ite (IE.cmp (Cm.ne) (IE.call 31 (IE.cons (IE.var 2) (IE.cons (IE.tup (IE.cons (IE.int 0) (IE.nil))) (IE.nil)))) (IE.tup (IE.cons (IE.int 1) (IE.nil)))) (IS.cons (IS.ret (IE.bl false)) (IS.nil)) (IS.nil)
def st4 : IS := IS.ite (IE.or (IE.isN true (IE.call 29 (IE.cons (IE.var 2) (IE.cons (IE.tup (IE.cons (IE.int 1) (IE.nil))) (IE.nil))))) (IE.or (IE.isN true (IE.call 31 (IE.cons (IE.var 2) (IE.cons (IE.tup (IE.cons (IE.int 1) (IE.nil))) (IE.nil))))) (IE.one (IE.cmp (Cm.ne) (IE.call 36 (IE.cons (IE.var 3) (IE.nil))) (IE.tup (IE.cons (IE.int 0) (IE.nil))))))) (IS.cons (IS.ret (IE.bl false)) (IS.nil)) (IS.nil)
def st5 : IS := IS.ite (IE.or (IE.cmp (Cm.ne) (IE.call 35 (IE.cons (IE.var 2) (IE.cons (IE.tup (IE.cons (IE.int 1) (IE.nil))) (IE.nil)))) (IE.tup (IE.cons (IE.int 3) (IE.cons (IE.tup (IE.cons (IE.tup (IE.cons (IE.int 1) (IE.cons (IE.int 2) (IE.cons (IE.int 0) (IE.nil))))) (IE.nil))) (IE.nil))))) (IE.or (IE.cmp (Cm.ne) (IE.call 29 (IE.cons (IE.var 2) (IE.cons (IE.tup (IE.nil)) (IE.nil)))) (IE.tup (IE.nil))) (IE.one (IE.cmp (Cm.ne) (IE.call 31 (IE.cons (IE.var 2) (IE.cons (IE.tup (IE.nil)) (IE.nil)))) (IE.tup (IE.cons (IE.int 0) (IE.nil))))))) (IS.cons (IS.ret (IE.bl false)) (IS.nil)) (IS.nil)
def st6 : IS := IS.ite (IE.or (IE.cmp (Cm.ne) (IE.call 18 (IE.cons (IE.var 3) (IE.nil))) (IE.lst (IE.cons (IE.tup (IE.cons (IE.int 2) (IE.nil))) (IE.nil)))) (IE.or (IE.cmp (Cm.ne) (IE.call 17 (IE.cons (IE.var 3) (IE.nil))) (IE.tup (IE.cons (IE.int 2) (IE.nil)))) (IE.one (IE.cmp (Cm.ne) (IE.call 19 (IE.cons (IE.var 3) (IE.nil))) (IE.lst (IE.cons (IE.tup (IE.cons (IE.int 2) (IE.nil))) (IE.nil))))))) (IS.cons (IS.ret (IE.bl false)) (IS.nil)) (IS.nil)
def st7 : IS := IS.ite (IE.cmp (Cm.ne) (IE.call 23 (IE.cons (IE.var 3) (IE.nil))) (IE.tup (IE.cons (IE.int 1) (IE.nil)))) (IS.cons (IS.ret (IE.bl false)) (IS.nil)) (IS.nil)
def st8 : IS := IS.ite (IE.or (IE.isB true true (IE.call 16 (IE.cons (IE.var 3) (IE.cons (IE.tup (IE.cons (IE.int 2) (IE.nil))) (IE.nil))))) (IE.or (IE.isB true false (IE.call 16 (IE.cons (IE.var 3) (IE.cons (IE.tup (IE.cons (IE.int 1) (IE.cons (IE.int 2) (IE.nil)))) (IE.nil))))) (IE.one (IE.isB true false (IE.call 16 (IE.cons (IE.var 3) (IE.cons (IE.tup (IE.nil)) (IE.nil)))))))) (IS.cons (IS.ret (IE.bl false)) (IS.nil)) (IS.nil)
def st9 : IS := IS.ite (IE.or (IE.cmp (Cm.ne) (IE.call 18 (IE.cons (IE.var 2) (IE.nil))) (IE.lst (IE.nil))) (IE.or (IE.isN true (IE.call 17 (IE.cons (IE.var 2) (IE.nil)))) (IE.one (IE.cmp (Cm.ne) (IE.call 23 (IE.cons (IE.var 2) (IE.nil))) (IE.tup (IE.cons (IE.int 0) (IE.cons (IE.int 1) (IE.nil)))))))) (IS.cons (IS.ret (IE.bl false)) (IS.nil)) (IS.nil)
def st10 : IS := IS.ite (IE.cmp (Cm.ne) (IE.call 20 (IE.cons (IE.var 3) (IE.cons (IE.tup (IE.cons (IE.int 1) (IE.nil))) (IE.nil)))) (IE.tup (IE.cons (IE.int 0) (IE.cons (IE.int 1) (IE.nil))))) (IS.cons (IS.ret (IE.bl false)) (IS.nil)) (IS.nil)
def st11 : IS := IS.ite (IE.or (IE.cmp (Cm.ne) (IE.call 18 (IE.cons (IE.tup (IE.cons (IE.int 3) (IE.cons (IE.tup (IE.cons (IE.tup (IE.cons (IE.int 1) (IE.cons (IE.int 2) (IE.cons (IE.int 2) (IE.nil))))) (IE.nil))) (IE.nil)))) (IE.nil))) (IE.lst (IE.cons (IE.tup (IE.cons (IE.int 1) (IE.cons (IE.int 2) (IE.nil)))) (IE.nil)))) (IE.one (IE.isB true false (IE.call 16 (IE.cons (IE.tup (IE.cons (IE.int 3) (IE.cons (IE.tup (IE.nil)) (IE.nil)))) (IE.cons (IE.tup (IE.cons (IE.int 1) (IE.nil))) (IE.nil))))))) (IS.cons (IS.ret (IE.bl false)) (IS.nil)) (IS.nil)
def st12 : IS := IS.ite (IE.isN true (IE.call 22 (IE.cons (IE.var 3) (IE.cons (IE.int 1) (IE.nil))))) (IS.cons (IS.ret (IE.bl false)) (IS.nil)) (IS.nil)
def st13 : IS := IS.ite (IE.or (IE.cmp (Cm.ne) (IE.call 22 (IE.cons (IE.var 3) (IE.cons (IE.int 2) (IE.nil)))) (IE.tup (IE.cons (IE.int 2) (IE.nil)))) (IE.one (IE.isN true (IE.call 22 (IE.cons (IE.var 3) (IE.cons (IE.int 0) (IE.nil))))))) (IS.cons (IS.ret (IE.bl false)) (IS.nil)) (IS.nil)
def st14 : IS := IS.ite (IE.isB true false (IE.call 16 (IE.cons (IE.var 3) (IE.cons (IE.tup (IE.cons (IE.int 0) (IE.cons (IE.int 2) (IE.nil)))) (IE.nil))))) (IS.cons (IS.ret (IE.bl false)) (IS.nil)) (IS.nil)
def st15 : IS := IS.asg [] 4 false (IE.lst (IE.cons (IE.tup (IE.cons (IE.non) (IE.cons (IE.non) (IE.nil)))) (IE.cons (IE.tup (IE.cons (IE.tup (IE.cons (IE.int 3) (IE.nil))) (IE.cons (IE.non) (IE.nil)))) (IE.cons (IE.tup (IE.cons (IE.tup (IE.cons (IE.int 0) (IE.cons (IE.tup (IE.nil)) (IE.nil)))) (IE.cons (IE.non) (IE.nil)))) (IE.cons (IE.tup (IE.cons (IE.tup (IE.cons (IE.int 2) (IE.cons (IE.lst (IE.cons (IE.tup (IE.cons (IE.int 0) (IE.cons (IE.int 1) (IE.cons (IE.int 0) (IE.nil))))) (IE.nil))) (IE.nil)))) (IE.cons (IE.non) (IE.nil)))) (IE.cons (IE.tup (IE.cons (IE.tup (IE.cons (IE.int 2) (IE.cons (IE.tup (IE.cons (IE.tup (IE.cons (IE.int 0) (IE.cons (IE.int 1) (IE.cons (IE.int 3) (IE.nil))))) (IE.nil))) (IE.nil)))) (IE.cons (IE.int 0) (IE.nil)))) (IE.nil)))))))
def st16 : IS := IS.asgT [1] [5, 6] (IE.call 38 (IE.cons (IE.var 1) (IE.cons (IE.op (Op.add) (IE.var 4) (IE.lst (IE.cons (IE.tup (IE.cons (IE.tup (IE.cons (IE.int 2) (IE.cons (IE.tup (IE.cons (IE.tup (IE.cons (IE.int 0) (IE.cons (IE.int 1) (IE.cons (IE.int 0) (IE.nil))))) (IE.cons (IE.tup (IE.cons (IE.int 1) (IE.cons (IE.int 0) (IE.cons (IE.int 0) (IE.nil))))) (IE.nil)))) (IE.nil)))) (IE.cons (IE.int 1) (IE.nil)))) (IE.nil)))) (IE.nil))))
def st17 : IS := IS.asg [] 7 true (IE.lst (IE.nil))
def st18 : IS := IS.for_ [] [8] true (IE.itL (IE.lst (IE.cons (IE.fnv 36) (IE.cons (IE.fnv 33) (IE.cons (IE.fnv 34) (IE.cons (IE.fnv 18) (IE.cons (IE.fnv 17) (IE.cons (IE.fnv 19) (IE.cons (IE.fnv 23) (IE.nil)))))))))) (IS.cons (IS.app [] 7 (IE.told [(2, "lot", false), (3, "room", false), (1, "yard", true)] (IE.callv 8 (IE.cons (IE.var 5) (IE.nil))))) (IS.nil))
def st19 : IS := IS.for_ [] [9] true (IE.itL (IE.lst (IE.cons (IE.fnv 24) (IE.cons (IE.fnv 26) (IE.cons (IE.fnv 29) (IE.cons (IE.fnv 31) (IE.cons (IE.fnv 35) (IE.cons (IE.fnv 16) (IE.cons (IE.fnv 20) (IE.cons (IE.fnv 22) (IE.nil))))))))))) (IS.cons (IS.app [] 7 (IE.told [(2, "lot", false), (3, "room", false), (1, "yard", true)] (IE.callv 9 (IE.cons (IE.var 5) (IE.cons (IE.non) (IE.nil)))))) (IS.nil))
def st20 : IS := IS.ite (IE.cmp (Cm.ne) (IE.var 7) (IE.op (Op.mul) (IE.lst (IE.cons (IE.tup (IE.cons (IE.str "yard") (IE.cons (IE.var 6) (IE.nil)))) (IE.nil))) (IE.int 15))) (IS.cons (IS.ret (IE.bl false)) (IS.nil)) (IS.nil)
def st21 : IS := IS.asg [1] 10 false (IE.call 38 (IE.cons (IE.var 1) (IE.cons (IE.lst (IE.cons (IE.non) (IE.cons (IE.tup (IE.cons (IE.int 2) (IE.nil))) (IE.cons (IE.tup (IE.cons (IE.int 1) (IE.cons (IE.int 0) (IE.nil)))) (IE.cons (IE.tup (IE.cons (IE.int 0) (IE.cons (IE.int 0) (IE.nil)))) (IE.cons (IE.lst (IE.cons (IE.int 0) (IE.nil))) (IE.cons (IE.tup (IE.cons (IE.bl true) (IE.nil))) (IE.cons (IE.tup (IE.cons (IE.neg (IE.int 1)) (IE.nil))) (IE.nil))))))))) (IE.nil))))
def st22 : IS := IS.par [1] [(11, false, IE.call 38 (IE.cons (IE.var 1) (IE.cons (IE.lst (IE.cons (IE.non) (IE.cons (IE.tup (IE.cons (IE.int 3) (IE.nil))) (IE.cons (IE.tup (IE.cons (IE.int 2) (IE.cons (IE.int 1) (IE.nil)))) (IE.cons (IE.tup (IE.cons (IE.int 1) (IE.cons (IE.int 1) (IE.nil)))) (IE.cons (IE.lst (IE.cons (IE.int 1) (IE.nil))) (IE.cons (IE.tup (IE.cons (IE.bl true) (IE.nil))) (IE.cons (IE.tup (IE.cons (IE.neg (IE.int 1)) (IE.nil))) (IE.nil))))))))) (IE.nil)))), (7, true, IE.lst (IE.nil))]
def st23 : IS := IS.for_ [] [12] true (IE.itL (IE.lst (IE.cons (IE.fnv 24) (IE.cons (IE.fnv 26) (IE.cons (IE.fnv 29) (IE.cons (IE.fnv 31) (IE.cons (IE.fnv 35) (IE.nil)))))))) (IS.cons (IS.app [] 7 (IE.told [(2, "lot", false), (3, "room", false), (1, "yard", true)] (IE.callv 12 (IE.cons (IE.var 2) (IE.cons (IE.var 10) (IE.nil)))))) (IS.nil))
def st24 : IS := IS.asg [] 7 true (IE.op (Op.add) (IE.var 7) (IE.lst (IE.cons (IE.told [(2, "lot", false), (3, "room", false), (1, "yard", true)] (IE.call 16 (IE.cons (IE.var 2) (IE.cons (IE.var 11) (IE.nil))))) (IE.cons (IE.told [(2, "lot", false), (3, "room", false), (1, "yard", true)] (IE.call 20 (IE.cons (IE.var 2) (IE.cons (IE.var 11) (IE.nil))))) (IE.nil)))))
def st25 : IS := IS.app [] 7 (IE.told [(2, "lot", false), (3, "room", false), (1, "yard", true)] (IE.call 22 (IE.cons (IE.var 2) (IE.cons (IE.call 38 (IE.cons (IE.var 1) (IE.cons (IE.lst (IE.cons (IE.non) (IE.cons (IE.neg (IE.int 1)) (IE.cons (IE.int 3) (IE.cons (IE.bl true) (IE.cons (IE.tup (IE.cons (IE.int 1) (IE.nil))) (IE.nil))))))) (IE.nil)))) (IE.nil)))))
def st26 : IS := IS.ret (IE.cmp (Cm.eq) (IE.var 7) (IE.op (Op.add) (IE.op (Op.mul) (IE.lst (IE.cons (IE.str "lot") (IE.nil))) (IE.int 5)) (IE.op (Op.mul) (IE.lst (IE.cons (IE.str "room") (IE.nil))) (IE.int 3))))
def PL : List FDef := [.fn 1 1 p0, .fn 3 3 p1, .fn 2 5 p2, .fn 1 3 p3, .fn 2 5 p4, .fn 2 2 p5, .fn 1 4 p6, .fn 1 1 p7, .fn 2 10 p8, .fn 2 3 p9, .fn 3 5 p10, .fn 2 5 p11, .fn 2 5 p12, .fn 1 4 p13, .fn 2 4 p14, .fn 2 5 p15, .fn 2 2 p16, .fn 1 4 p17, .fn 1 2 p18, .fn 1 5 p19, .fn 2 2 p20, .fn 2 7 p21, .fn 2 3 p22, .fn 1 9 p23, .fn 2 2 p24, .fn 2 5 p25, .fn 2 2 p26, .fn 2 3 p27, .fn 2 5 p28, .fn 2 2 p29, .fn 2 6 p30, .fn 2 2 p31, .fn 1 5 p32, .fn 1 3 p33, .fn 1 3 p34, .fn 2 3 p35, .fn 1 1 p36, .taken, .fn 2 2 p38, .fn 1 4 p39]
def lawL : IS := .cons st0 (.cons st1 (.cons st2 (.cons st3 (.cons st4 (.cons st5 (.cons st6 (.cons st7 (.cons st8 (.cons st9 (.cons st10 (.cons st11 (.cons st12 (.cons st13 (.cons st14 (.cons st15 (.cons st16 (.cons st17 (.cons st18 (.cons st19 (.cons st20 (.cons st21 (.cons st22 (.cons st23 (.cons st24 (.cons st25 (.cons st26 (.nil)))))))))))))))))))))))))))
set_option maxHeartbeats 0
theorem PL_eq : LL.map (FunI.fd TT) = PL := by kernel_rfl
theorem lawL_eq : readF { TT with td := tdx } ("_law_script" :: "_law_row" :: fL.N.drop 2) fL.mt fL.scope (fL.body.drop 1) = lawL := by kernel_rfl
abbrev FF : Fns := run PL 60
theorem pT : PL[37]? = some .taken := by kernel_rfl
theorem pP : PL[38]? = some (.fn 2 2 (bp 37)) := by kernel_rfl
theorem drw : Drw FF 38 := ⟨run PL 59, run PL 58, 37, fun l r => by
  show (match PL[38]? with
    | some fd => runF (run PL 59) fd [.row, .lst l] r
    | none => .no) = _
  rw [pP], fun as r => by
  show (match PL[37]? with
    | some fd => runF (run PL 58) fd as r
    | none => .no) = _
  rw [pT]⟩
def M0 : List D := [(.tup [.non, .non]), (.tup [(.tup [(.int (3))]), .non]), (.tup [(.tup [(.int (0)), (.tup [])]), .non]), (.tup [(.tup [(.int (2)), (.lst [(.tup [(.int (0)), (.int (1)), (.int (0))])])]), .non]), (.tup [(.tup [(.int (2)), (.tup [(.tup [(.int (0)), (.int (1)), (.int (3))])])]), (.int (0))]), (.tup [(.tup [(.int (2)), (.tup [(.tup [(.int (0)), (.int (1)), (.int (0))]), (.tup [(.int (1)), (.int (0)), (.int (0))])])]), (.int (1))])]
def M1 : List D := [.non, (.tup [(.int (2))]), (.tup [(.int (1)), (.int (0))]), (.tup [(.int (0)), (.int (0))]), (.lst [(.int (0))]), (.tup [(.bl true)]), (.tup [(.int (-1))])]
def M2 : List D := [.non, (.tup [(.int (3))]), (.tup [(.int (2)), (.int (1))]), (.tup [(.int (1)), (.int (1))]), (.lst [(.int (1))]), (.tup [(.bl true)]), (.tup [(.int (-1))])]
def M3 : List D := [.non, (.int (-1)), (.int (3)), (.bl true), (.tup [(.int (1))])]
def zl0 : Sl := (.ow (.lst [(.tup [(.str "yard"), .non]), (.tup [(.str "yard"), .non]), (.tup [(.str "yard"), .non]), (.tup [(.str "yard"), .non]), (.tup [(.str "yard"), .non]), (.tup [(.str "yard"), .non]), (.tup [(.str "yard"), .non]), (.tup [(.str "yard"), .non]), (.tup [(.str "yard"), .non]), (.tup [(.str "yard"), .non]), (.tup [(.str "yard"), .non]), (.tup [(.str "yard"), .non]), (.tup [(.str "yard"), .non]), (.tup [(.str "yard"), .non]), (.tup [(.str "yard"), .non])]))
def zl1 : Sl := (.ow (.lst [(.tup [(.str "yard"), (.int (0))]), (.tup [(.str "yard"), (.int (0))]), (.tup [(.str "yard"), (.int (0))]), (.tup [(.str "yard"), (.int (0))]), (.tup [(.str "yard"), (.int (0))]), (.tup [(.str "yard"), (.int (0))]), (.tup [(.str "yard"), (.int (0))]), (.tup [(.str "yard"), (.int (0))]), (.tup [(.str "yard"), (.int (0))]), (.tup [(.str "yard"), (.int (0))]), (.tup [(.str "yard"), (.int (0))]), (.tup [(.str "yard"), (.int (0))]), (.tup [(.str "yard"), (.int (0))]), (.tup [(.str "yard"), (.int (0))]), (.tup [(.str "yard"), (.int (0))])]))
def zl2 : Sl := (.ow (.lst [(.tup [(.str "yard"), (.int (1))]), (.tup [(.str "yard"), (.int (1))]), (.tup [(.str "yard"), (.int (1))]), (.tup [(.str "yard"), (.int (1))]), (.tup [(.str "yard"), (.int (1))]), (.tup [(.str "yard"), (.int (1))]), (.tup [(.str "yard"), (.int (1))]), (.tup [(.str "yard"), (.int (1))]), (.tup [(.str "yard"), (.int (1))]), (.tup [(.str "yard"), (.int (1))]), (.tup [(.str "yard"), (.int (1))]), (.tup [(.str "yard"), (.int (1))]), (.tup [(.str "yard"), (.int (1))]), (.tup [(.str "yard"), (.int (1))]), (.tup [(.str "yard"), (.int (1))])]))
def zl3 : Sl := (.fz (.tup [(.int (3)), (.tup [(.tup [(.int (0)), (.int (1)), (.int (0))]), (.tup [(.int (1)), (.int (2)), (.int (0))])])]))
def zl4 : Sl := (.fz (.tup [(.int (3)), (.tup [(.tup [(.int (0)), (.int (1)), (.int (0))]), (.tup [(.int (1)), (.int (2)), (.int (1))])])]))
def zl5 : Sl := (.fz (.lst [(.tup [.non, .non]), (.tup [(.tup [(.int (3))]), .non]), (.tup [(.tup [(.int (0)), (.tup [])]), .non]), (.tup [(.tup [(.int (2)), (.lst [(.tup [(.int (0)), (.int (1)), (.int (0))])])]), .non]), (.tup [(.tup [(.int (2)), (.tup [(.tup [(.int (0)), (.int (1)), (.int (3))])])]), (.int (0))])]))
def zl6 : Sl := (.ow (.lst [(.str "lot"), (.str "lot"), (.str "lot"), (.str "lot"), (.str "lot")]))
def zl7 : Sl := (.ow (.lst [(.str "lot"), (.str "lot"), (.str "lot"), (.str "lot"), (.str "lot"), (.str "room"), (.str "room")]))
def zl8 : Sl := (.ow (.lst [(.str "lot"), (.str "lot"), (.str "lot"), (.str "lot"), (.str "lot"), (.str "room"), (.str "room"), (.str "room")]))
def C0 : Env := [.un, (.fz .row), .un, .un, .un, .un, .un, .un, .un, .un, .un, .un, .un]
def C16 : Env := [.un, (.fz .row), zl3, zl4, zl5, .un, .un, .un, .un, .un, .un, .un, .un]
def C17 (b5 : D) (b6 : D) : Env := [.un, (.fz .row), zl3, zl4, zl5, .fz b5, .fz b6, .un, .un, .un, .un, .un, .un]
def C18 (b5 : D) (b6 : D) : Env := [.un, (.fz .row), zl3, zl4, zl5, .fz b5, .fz b6, (.ow (.lst [])), .un, .un, .un, .un, .un]
def C21 (b5 : D) (b6 : D) (v7 : Sl) : Env := [.un, (.fz .row), zl3, zl4, zl5, .fz b5, .fz b6, v7, (.fz (.fn 23)), (.fz (.fn 22)), .un, .un, .un]
def C22 (b5 : D) (b6 : D) (v7 : Sl) (b10 : D) : Env := [.un, (.fz .row), zl3, zl4, zl5, .fz b5, .fz b6, v7, (.fz (.fn 23)), (.fz (.fn 22)), .fz b10, .un, .un]
def C23 (b5 : D) (b6 : D) (b10 : D) (b11 : D) : Env := [.un, (.fz .row), zl3, zl4, zl5, .fz b5, .fz b6, (.ow (.lst [])), (.fz (.fn 23)), (.fz (.fn 22)), .fz b10, .fz b11, .un]
def C24 (b5 : D) (b6 : D) (b10 : D) (b11 : D) : Env := [.un, (.fz .row), zl3, zl4, zl5, .fz b5, .fz b6, zl6, (.fz (.fn 23)), (.fz (.fn 22)), .fz b10, .fz b11, (.fz (.fn 35))]
def C25 (b5 : D) (b6 : D) (b10 : D) (b11 : D) : Env := [.un, (.fz .row), zl3, zl4, zl5, .fz b5, .fz b6, zl7, (.fz (.fn 23)), (.fz (.fn 22)), .fz b10, .fz b11, (.fz (.fn 35))]
def C26 (b5 : D) (b6 : D) (b10 : D) (b11 : D) : Env := [.un, (.fz .row), zl3, zl4, zl5, .fz b5, .fz b6, zl8, (.fz (.fn 23)), (.fz (.fn 22)), .fz b10, .fz b11, (.fz (.fn 35))]
theorem ks0 : dropS 16 (dropS 0 lawL) = dropS 16 lawL := by kernel_rfl
theorem sg0 (r : Row) : evS FF (takeS 16 (dropS 0 lawL)) C0 r = .ok (.nx C16) r := by kernel_rfl
theorem gs0 : ∀ (r : Row), (Goal FF (dropS 16 lawL) C16 r) → Goal FF (dropS 0 lawL) C0 r :=
  fun  r k => good_seg ks0 (sg0  r) k
def A0 : IE := IE.op (Op.add) (IE.var 4) (IE.lst (IE.cons (IE.tup (IE.cons (IE.tup (IE.cons (IE.int 2) (IE.cons (IE.tup (IE.cons (IE.tup (IE.cons (IE.int 0) (IE.cons (IE.int 1) (IE.cons (IE.int 0) (IE.nil))))) (IE.cons (IE.tup (IE.cons (IE.int 1) (IE.cons (IE.int 0) (IE.cons (IE.int 0) (IE.nil))))) (IE.nil)))) (IE.nil)))) (IE.cons (IE.int 1) (IE.nil)))) (IE.nil)))
theorem va0 (r : Row) : ev FF A0 C16 r = .ok (.lst M0) r := by kernel_rfl
theorem gb16 : ∀ x, x < 6 → bindT [5, 6] false (ixA M0 x) (frz C16 [1]) = some (C17 (ixT M0 x 0) (ixT M0 x 1))
  | 0, _ => by kernel_rfl
  | 1, _ => by kernel_rfl
  | 2, _ => by kernel_rfl
  | 3, _ => by kernel_rfl
  | 4, _ => by kernel_rfl
  | 5, _ => by kernel_rfl
  | n + 6, h => absurd h (by omega)
theorem gd16 {r : Row} (hp : 0 ≤ r.p) (k : ∀ x r1, x < 6 → 0 ≤ r1.p → Goal FF (dropS 17 lawL) (C17 (ixT M0 x 0) (ixT M0 x 1)) r1) : Goal FF (dropS 16 lawL) C16 r :=
  good_asgT drw (fz := [1]) (tg := [5, 6]) (e := A0) (l := M0) (m := 17) (by kernel_rfl) (by rfl) (fun r => va0  r) (by decide) (by decide) (fun x => (C17 (ixT M0 x 0) (ixT M0 x 1))) (gb16 ) hp k
theorem ks17 : dropS 1 (dropS 17 lawL) = dropS 18 lawL := by kernel_rfl
theorem sg17 (b5 : D) (b6 : D) (r : Row) : evS FF (takeS 1 (dropS 17 lawL)) (C17 b5 b6) r = .ok (.nx (C18 b5 b6)) r := by kernel_rfl
theorem gs17 : ∀ (b5 : D) (b6 : D) (r : Row), (Goal FF (dropS 18 lawL) (C18 b5 b6) r) → Goal FF (dropS 17 lawL) (C17 b5 b6) r :=
  fun b5 b6 r k => good_seg ks17 (sg17 b5 b6 r) k
theorem ks18 : dropS 3 (dropS 18 lawL) = dropS 21 lawL := by kernel_rfl
theorem sg18_0 (r : Row) : evS FF (takeS 3 (dropS 18 lawL)) (C18 (ixT M0 0 0) (ixT M0 0 1)) r = .ok (.nx (C21 (ixT M0 0 0) (ixT M0 0 1) zl0)) r := by kernel_rfl
theorem sg18_1 (r : Row) : evS FF (takeS 3 (dropS 18 lawL)) (C18 (ixT M0 1 0) (ixT M0 1 1)) r = .ok (.nx (C21 (ixT M0 1 0) (ixT M0 1 1) zl0)) r := by kernel_rfl
theorem sg18_2 (r : Row) : evS FF (takeS 3 (dropS 18 lawL)) (C18 (ixT M0 2 0) (ixT M0 2 1)) r = .ok (.nx (C21 (ixT M0 2 0) (ixT M0 2 1) zl0)) r := by kernel_rfl
theorem sg18_3 (r : Row) : evS FF (takeS 3 (dropS 18 lawL)) (C18 (ixT M0 3 0) (ixT M0 3 1)) r = .ok (.nx (C21 (ixT M0 3 0) (ixT M0 3 1) zl0)) r := by kernel_rfl
theorem sg18_4 (r : Row) : evS FF (takeS 3 (dropS 18 lawL)) (C18 (ixT M0 4 0) (ixT M0 4 1)) r = .ok (.nx (C21 (ixT M0 4 0) (ixT M0 4 1) zl1)) r := by kernel_rfl
theorem sg18_5 (r : Row) : evS FF (takeS 3 (dropS 18 lawL)) (C18 (ixT M0 5 0) (ixT M0 5 1)) r = .ok (.nx (C21 (ixT M0 5 0) (ixT M0 5 1) zl2)) r := by kernel_rfl
theorem gs18 : ∀ x0, x0 < 6 → ∀ (r : Row), (∀ (w7 : Sl), Goal FF (dropS 21 lawL) (C21 (ixT M0 x0 0) (ixT M0 x0 1) w7) r) → Goal FF (dropS 18 lawL) (C18 (ixT M0 x0 0) (ixT M0 x0 1)) r
  | 0, _ => fun  r k => good_seg ks18 (sg18_0  r) (k zl0)
  | 1, _ => fun  r k => good_seg ks18 (sg18_1  r) (k zl0)
  | 2, _ => fun  r k => good_seg ks18 (sg18_2  r) (k zl0)
  | 3, _ => fun  r k => good_seg ks18 (sg18_3  r) (k zl0)
  | 4, _ => fun  r k => good_seg ks18 (sg18_4  r) (k zl1)
  | 5, _ => fun  r k => good_seg ks18 (sg18_5  r) (k zl2)
  | n + 6, h => absurd h (by omega)
def A1 : IE := IE.lst (IE.cons (IE.non) (IE.cons (IE.tup (IE.cons (IE.int 2) (IE.nil))) (IE.cons (IE.tup (IE.cons (IE.int 1) (IE.cons (IE.int 0) (IE.nil)))) (IE.cons (IE.tup (IE.cons (IE.int 0) (IE.cons (IE.int 0) (IE.nil)))) (IE.cons (IE.lst (IE.cons (IE.int 0) (IE.nil))) (IE.cons (IE.tup (IE.cons (IE.bl true) (IE.nil))) (IE.cons (IE.tup (IE.cons (IE.neg (IE.int 1)) (IE.nil))) (IE.nil))))))))
theorem va1 (b5 : D) (b6 : D) (v7 : Sl) (r : Row) : ev FF A1 (C21 b5 b6 v7) r = .ok (.lst M1) r := by kernel_rfl
theorem gd21 {b5 : D} {b6 : D} {v7 : Sl} {r : Row} (hp : 0 ≤ r.p) (k : ∀ x r1, x < 7 → 0 ≤ r1.p → Goal FF (dropS 22 lawL) (C22 b5 b6 v7 (ixA M1 x)) r1) : Goal FF (dropS 21 lawL) (C21 b5 b6 v7) r :=
  good_asg drw (fz := [1]) (i := 10) (e := A1) (l := M1) (m := 22) (by kernel_rfl) (by rfl) (fun r => va1 b5 b6 v7 r) (by decide) (by decide) (fun x => (C22 b5 b6 v7 (ixA M1 x))) (fun x => by kernel_rfl) hp k
def A2 : IE := IE.lst (IE.cons (IE.non) (IE.cons (IE.tup (IE.cons (IE.int 3) (IE.nil))) (IE.cons (IE.tup (IE.cons (IE.int 2) (IE.cons (IE.int 1) (IE.nil)))) (IE.cons (IE.tup (IE.cons (IE.int 1) (IE.cons (IE.int 1) (IE.nil)))) (IE.cons (IE.lst (IE.cons (IE.int 1) (IE.nil))) (IE.cons (IE.tup (IE.cons (IE.bl true) (IE.nil))) (IE.cons (IE.tup (IE.cons (IE.neg (IE.int 1)) (IE.nil))) (IE.nil))))))))
theorem va2 (b5 : D) (b6 : D) (v7 : Sl) (b10 : D) (r : Row) : ev FF A2 (C22 b5 b6 v7 b10) r = .ok (.lst M2) r := by kernel_rfl
theorem gd22 {b5 : D} {b6 : D} {v7 : Sl} {b10 : D} {r : Row} (hp : 0 ≤ r.p) (k : ∀ x r1, x < 7 → 0 ≤ r1.p → Goal FF (dropS 23 lawL) (C23 b5 b6 b10 (ixA M2 x)) r1) : Goal FF (dropS 22 lawL) (C22 b5 b6 v7 b10) r :=
  good_par1 drw (fz := [1]) (i := 11) (j := 7) (own := true) (e := A2) (e' := IE.lst (IE.nil)) (l := M2) (d := (.lst [])) (m := 23) (by kernel_rfl) (by rfl) (fun r => va2 b5 b6 v7 b10 r) (by decide) (by decide) (fun r => by kernel_rfl) (fun x => by kernel_rfl) (fun x => (C23 b5 b6 b10 (ixA M2 x))) (fun x => by kernel_rfl) hp k
theorem ks23 : dropS 1 (dropS 23 lawL) = dropS 24 lawL := by kernel_rfl
theorem sg23_0 (b5 : D) (b6 : D) (b11 : D) (r : Row) : evS FF (takeS 1 (dropS 23 lawL)) (C23 b5 b6 (ixA M1 0) b11) r = .ok (.nx (C24 b5 b6 (ixA M1 0) b11)) r := by kernel_rfl
theorem sg23_1 (b5 : D) (b6 : D) (b11 : D) (r : Row) : evS FF (takeS 1 (dropS 23 lawL)) (C23 b5 b6 (ixA M1 1) b11) r = .ok (.nx (C24 b5 b6 (ixA M1 1) b11)) r := by kernel_rfl
theorem sg23_2 (b5 : D) (b6 : D) (b11 : D) (r : Row) : evS FF (takeS 1 (dropS 23 lawL)) (C23 b5 b6 (ixA M1 2) b11) r = .ok (.nx (C24 b5 b6 (ixA M1 2) b11)) r := by kernel_rfl
theorem sg23_3 (b5 : D) (b6 : D) (b11 : D) (r : Row) : evS FF (takeS 1 (dropS 23 lawL)) (C23 b5 b6 (ixA M1 3) b11) r = .ok (.nx (C24 b5 b6 (ixA M1 3) b11)) r := by kernel_rfl
theorem sg23_4 (b5 : D) (b6 : D) (b11 : D) (r : Row) : evS FF (takeS 1 (dropS 23 lawL)) (C23 b5 b6 (ixA M1 4) b11) r = .ok (.nx (C24 b5 b6 (ixA M1 4) b11)) r := by kernel_rfl
theorem sg23_5 (b5 : D) (b6 : D) (b11 : D) (r : Row) : evS FF (takeS 1 (dropS 23 lawL)) (C23 b5 b6 (ixA M1 5) b11) r = .ok (.nx (C24 b5 b6 (ixA M1 5) b11)) r := by kernel_rfl
theorem sg23_6 (b5 : D) (b6 : D) (b11 : D) (r : Row) : evS FF (takeS 1 (dropS 23 lawL)) (C23 b5 b6 (ixA M1 6) b11) r = .ok (.nx (C24 b5 b6 (ixA M1 6) b11)) r := by kernel_rfl
theorem gs23 : ∀ x1, x1 < 7 → ∀ (b5 : D) (b6 : D) (b11 : D) (r : Row), (Goal FF (dropS 24 lawL) (C24 b5 b6 (ixA M1 x1) b11) r) → Goal FF (dropS 23 lawL) (C23 b5 b6 (ixA M1 x1) b11) r
  | 0, _ => fun b5 b6 b11 r k => good_seg ks23 (sg23_0 b5 b6 b11 r) k
  | 1, _ => fun b5 b6 b11 r k => good_seg ks23 (sg23_1 b5 b6 b11 r) k
  | 2, _ => fun b5 b6 b11 r k => good_seg ks23 (sg23_2 b5 b6 b11 r) k
  | 3, _ => fun b5 b6 b11 r k => good_seg ks23 (sg23_3 b5 b6 b11 r) k
  | 4, _ => fun b5 b6 b11 r k => good_seg ks23 (sg23_4 b5 b6 b11 r) k
  | 5, _ => fun b5 b6 b11 r k => good_seg ks23 (sg23_5 b5 b6 b11 r) k
  | 6, _ => fun b5 b6 b11 r k => good_seg ks23 (sg23_6 b5 b6 b11 r) k
  | n + 7, h => absurd h (by omega)
theorem ks24 : dropS 1 (dropS 24 lawL) = dropS 25 lawL := by kernel_rfl
theorem sg24_0 (b5 : D) (b6 : D) (b10 : D) (r : Row) : evS FF (takeS 1 (dropS 24 lawL)) (C24 b5 b6 b10 (ixA M2 0)) r = .ok (.nx (C25 b5 b6 b10 (ixA M2 0))) r := by kernel_rfl
theorem sg24_1 (b5 : D) (b6 : D) (b10 : D) (r : Row) : evS FF (takeS 1 (dropS 24 lawL)) (C24 b5 b6 b10 (ixA M2 1)) r = .ok (.nx (C25 b5 b6 b10 (ixA M2 1))) r := by kernel_rfl
theorem sg24_2 (b5 : D) (b6 : D) (b10 : D) (r : Row) : evS FF (takeS 1 (dropS 24 lawL)) (C24 b5 b6 b10 (ixA M2 2)) r = .ok (.nx (C25 b5 b6 b10 (ixA M2 2))) r := by kernel_rfl
theorem sg24_3 (b5 : D) (b6 : D) (b10 : D) (r : Row) : evS FF (takeS 1 (dropS 24 lawL)) (C24 b5 b6 b10 (ixA M2 3)) r = .ok (.nx (C25 b5 b6 b10 (ixA M2 3))) r := by kernel_rfl
theorem sg24_4 (b5 : D) (b6 : D) (b10 : D) (r : Row) : evS FF (takeS 1 (dropS 24 lawL)) (C24 b5 b6 b10 (ixA M2 4)) r = .ok (.nx (C25 b5 b6 b10 (ixA M2 4))) r := by kernel_rfl
theorem sg24_5 (b5 : D) (b6 : D) (b10 : D) (r : Row) : evS FF (takeS 1 (dropS 24 lawL)) (C24 b5 b6 b10 (ixA M2 5)) r = .ok (.nx (C25 b5 b6 b10 (ixA M2 5))) r := by kernel_rfl
theorem sg24_6 (b5 : D) (b6 : D) (b10 : D) (r : Row) : evS FF (takeS 1 (dropS 24 lawL)) (C24 b5 b6 b10 (ixA M2 6)) r = .ok (.nx (C25 b5 b6 b10 (ixA M2 6))) r := by kernel_rfl
theorem gs24 : ∀ x2, x2 < 7 → ∀ (b5 : D) (b6 : D) (b10 : D) (r : Row), (Goal FF (dropS 25 lawL) (C25 b5 b6 b10 (ixA M2 x2)) r) → Goal FF (dropS 24 lawL) (C24 b5 b6 b10 (ixA M2 x2)) r
  | 0, _ => fun b5 b6 b10 r k => good_seg ks24 (sg24_0 b5 b6 b10 r) k
  | 1, _ => fun b5 b6 b10 r k => good_seg ks24 (sg24_1 b5 b6 b10 r) k
  | 2, _ => fun b5 b6 b10 r k => good_seg ks24 (sg24_2 b5 b6 b10 r) k
  | 3, _ => fun b5 b6 b10 r k => good_seg ks24 (sg24_3 b5 b6 b10 r) k
  | 4, _ => fun b5 b6 b10 r k => good_seg ks24 (sg24_4 b5 b6 b10 r) k
  | 5, _ => fun b5 b6 b10 r k => good_seg ks24 (sg24_5 b5 b6 b10 r) k
  | 6, _ => fun b5 b6 b10 r k => good_seg ks24 (sg24_6 b5 b6 b10 r) k
  | n + 7, h => absurd h (by omega)
def A3 : IE := IE.lst (IE.cons (IE.non) (IE.cons (IE.neg (IE.int 1)) (IE.cons (IE.int 3) (IE.cons (IE.bl true) (IE.cons (IE.tup (IE.cons (IE.int 1) (IE.nil))) (IE.nil))))))
theorem va3 (b5 : D) (b6 : D) (b10 : D) (b11 : D) (r : Row) : ev FF A3 (C25 b5 b6 b10 b11) r = .ok (.lst M3) r := by kernel_rfl
theorem gt25 : ∀ x, x < 5 → ∀ r, toldR [(2, "lot", false), (3, "room", false), (1, "yard", true)] (FF 22 [(.tup [(.int (3)), (.tup [(.tup [(.int (0)), (.int (1)), (.int (0))]), (.tup [(.int (1)), (.int (2)), (.int (0))])])]), ixA M3 x] r) = .ok (.str "room") r
  | 0, _, r => by kernel_rfl
  | 1, _, r => by kernel_rfl
  | 2, _, r => by kernel_rfl
  | 3, _, r => by kernel_rfl
  | 4, _, r => by kernel_rfl
  | n + 5, h, _ => absurd h (by omega)
theorem gd25 {b5 : D} {b6 : D} {b10 : D} {b11 : D} {r : Row} (hp : 0 ≤ r.p) (k : ∀ r1 : Row, 0 ≤ r1.p → Goal FF (dropS 26 lawL) (C26 b5 b6 b10 b11) r1) : Goal FF (dropS 25 lawL) (C25 b5 b6 b10 b11) r :=
  good_app drw (tb := [(2, "lot", false), (3, "room", false), (1, "yard", true)]) (fz := []) (i := 7) (f := 22) (a := IE.var 2) (e := A3) (l := M3) (da := (.tup [(.int (3)), (.tup [(.tup [(.int (0)), (.int (1)), (.int (0))]), (.tup [(.int (1)), (.int (2)), (.int (0))])])])) (w := "room") (m := 26) (env' := (C26 b5 b6 b10 b11)) (by kernel_rfl) (by rfl) (fun r => va3 b5 b6 b10 b11 r) (by decide) (by decide) (fun r => by kernel_rfl) gt25 (fun r => by kernel_rfl) hp k
theorem sg26 (b5 : D) (b6 : D) (b10 : D) (b11 : D) (r : Row) : evS FF (dropS 26 lawL) (C26 b5 b6 b10 b11) r = .ok (.rt (.bl true)) r := by kernel_rfl
theorem gs26 : ∀ (b5 : D) (b6 : D) (b10 : D) (b11 : D) (r : Row), Goal FF (dropS 26 lawL) (C26 b5 b6 b10 b11) r :=
  fun b5 b6 b10 b11 r => ⟨r, sg26 b5 b6 b10 b11 r⟩
theorem c0_eq : C0 = env0 11 := by kernel_rfl
theorem mainL (r0 : Row) (h0 : 0 ≤ r0.p) : Goal FF (dropS 0 lawL) C0 r0 := by
  refine gs0 r0 ?_
  refine gd16 h0 ?_
  intro x0 r1 hx0 h1
  refine gs17 _ _ r1 ?_
  refine gs18 x0 hx0 r1 ?_
  intro w7_21
  refine gd21 h1 ?_
  intro x1 r2 hx1 h2
  refine gd22 h2 ?_
  intro x2 r3 hx2 h3
  refine gs23 x1 hx1 _ _ _ r3 ?_
  refine gs24 x2 hx2 _ _ _ r3 ?_
  refine gd25 h3 ?_
  intro r4 h4
  exact gs26 _ _ _ _ r4
theorem hrun (ns : List Int) (hn : ns.length ≤ 63) : ∃ r', evS (run (LL.map (FunI.fd TT)) 60) (readF { TT with td := tdx } ("_law_script" :: "_law_row" :: fL.N.drop 2) fL.mt fL.scope (fL.body.drop 1)) (env0 (fL.N.drop 2).length) ⟨ns, 0, 4708, 0⟩ = .ok (.rt (.bl true)) r' := by
  rw [PL_eq, lawL_eq]
  show Goal FF (dropS 0 lawL) (env0 11) _
  rw [← c0_eq]
  exact mainL _ (Int.le_refl 0)
theorem scT : FnScope NT ["_law_row", "_law_many"] (defScope (topS 49)) := ⟨rfl, rfl, rfl, by decide +kernel, rfl, by decide +kernel, by decide +kernel⟩
theorem tk_ok {P : Program} {w : World} {K : PySem.W.Frag} {mg : Str → Option Value} {base : Heap} (mL : mg "len" = none) (mI : mg "int" = none) : TkOk P w K mg base f37 := fun aR k g fd hF => by
  refine hF.ok scT (fun vs H Q E h => h.1) fun cdv A outer s H vs Q E hr h => ⟨tTaken K, PSs.nox ?_, taken_pure h⟩
  exact pss_cons (ps_if (pt_cmpR op_gt (pe_ix ix_list (pv 0) pe_int (fun _ _ => rfl)) pe_int (nomark _))
      (pss_cons (ps_set (i := 2) scT.nd rfl (.inl rfl) (pe_op op_mod (pe_callTy call_int1 rfl mI PyProof.Rows.boot_int (pa_cons (pe_ix ix_list (pv 0) pe_int (fun _ _ => rfl)) pa_nil)) (pv 1)))
      (pss_cons (ps_asg (pe_op op_fdiv (pe_ix ix_list (pv 0) pe_int (fun _ _ => rfl)) (pv 1)) (pg_sub (pv 0) pe_int set_list))
      (pss_one (ps_ret (pv 2))))) pss_nil)
    (pss_cons (ps_asg (pe_op op_add (pe_ix ix_list (pv 0) pe_int (fun _ _ => rfl)) pe_int) (pg_sub (pv 0) pe_int set_list))
    (pss_cons (ps_if (pt_cmpR op_gt (pe_ix ix_list (pv 0) pe_int (fun _ _ => rfl)) (pe_callB call_len_seq rfl mL PySem.boot_len (pa_cons (pe_ix ix_list (pv 0) pe_int (fun _ _ => rfl)) pa_nil)) (nomark _))
      (pss_cons (ps_asg (pe_op op_mod (pe_callTy call_int1 rfl mI PyProof.Rows.boot_int (pa_cons (pe_op op_add (pe_op op_mul (pe_ix ix_list (pv 0) pe_int (fun _ _ => rfl)) pe_int) pe_int) pa_nil)) pe_int) (pg_sub (pv 0) pe_int set_list))
      (pss_one (ps_ret (pe_op op_mod (pe_callTy call_int1 rfl mI PyProof.Rows.boot_int (pa_cons (pe_op op_fdiv (pe_ix ix_list (pv 0) pe_int (fun _ _ => rfl)) pe_int) pa_nil)) (pv 1))))) pss_nil)
    (pss_cons (ps_set (i := 3) scT.nd rfl (.inl rfl) (pe_ix ix_list (pe_ix ix_list (pv 0) pe_int (fun _ _ => rfl)) (pe_op op_sub (pe_ix ix_list (pv 0) pe_int (fun _ _ => rfl)) pe_int) (fun _ _ => rfl)))
    (pss_cons (ps_asg (pe_op op_mod (pe_callTy call_int1 rfl mI PyProof.Rows.boot_int (pa_cons (pe_op op_add (pe_op op_add (pe_op op_mul (pe_ix ix_list (pv 0) pe_int (fun _ _ => rfl)) pe_int) (pv 3)) pe_int) pa_nil)) pe_int) (pg_sub (pv 0) pe_int set_list))
    (pss_cons (ps_if (pt_cmpR op_ge (pv 3) (pe_op op_pow pe_int pe_int) (nomark _)) (pss_one (ps_asg (pe_op op_fdiv (pv 3) (pv 1)) (pg_sub (pv 0) pe_int set_list))) pss_nil)
    (pss_one (ps_ret (pe_op op_mod (pe_callTy call_int1 rfl mI PyProof.Rows.boot_int (pa_cons (pv 3) pa_nil)) (pv 1)))))))))
theorem sc0 : FnScope f0.N f0.ps f0.scope := ⟨rfl, rfl, rfl, by decide +kernel, rfl, by decide +kernel, by decide +kernel⟩
theorem sc1 : FnScope f1.N f1.ps f1.scope := ⟨rfl, rfl, rfl, by decide +kernel, rfl, by decide +kernel, by decide +kernel⟩
theorem sc2 : FnScope f2.N f2.ps f2.scope := ⟨rfl, rfl, rfl, by decide +kernel, rfl, by decide +kernel, by decide +kernel⟩
theorem sc3 : FnScope f3.N f3.ps f3.scope := ⟨rfl, rfl, rfl, by decide +kernel, rfl, by decide +kernel, by decide +kernel⟩
theorem sc4 : FnScope f4.N f4.ps f4.scope := ⟨rfl, rfl, rfl, by decide +kernel, rfl, by decide +kernel, by decide +kernel⟩
theorem sc5 : FnScope f5.N f5.ps f5.scope := ⟨rfl, rfl, rfl, by decide +kernel, rfl, by decide +kernel, by decide +kernel⟩
theorem sc6 : FnScope f6.N f6.ps f6.scope := ⟨rfl, rfl, rfl, by decide +kernel, rfl, by decide +kernel, by decide +kernel⟩
theorem sc7 : FnScope f7.N f7.ps f7.scope := ⟨rfl, rfl, rfl, by decide +kernel, rfl, by decide +kernel, by decide +kernel⟩
theorem sc8 : FnScope f8.N f8.ps f8.scope := ⟨rfl, rfl, rfl, by decide +kernel, rfl, by decide +kernel, by decide +kernel⟩
theorem sc9 : FnScope f9.N f9.ps f9.scope := ⟨rfl, rfl, rfl, by decide +kernel, rfl, by decide +kernel, by decide +kernel⟩
theorem sc10 : FnScope f10.N f10.ps f10.scope := ⟨rfl, rfl, rfl, by decide +kernel, rfl, by decide +kernel, by decide +kernel⟩
theorem sc11 : FnScope f11.N f11.ps f11.scope := ⟨rfl, rfl, rfl, by decide +kernel, rfl, by decide +kernel, by decide +kernel⟩
theorem sc12 : FnScope f12.N f12.ps f12.scope := ⟨rfl, rfl, rfl, by decide +kernel, rfl, by decide +kernel, by decide +kernel⟩
theorem sc13 : FnScope f13.N f13.ps f13.scope := ⟨rfl, rfl, rfl, by decide +kernel, rfl, by decide +kernel, by decide +kernel⟩
theorem sc14 : FnScope f14.N f14.ps f14.scope := ⟨rfl, rfl, rfl, by decide +kernel, rfl, by decide +kernel, by decide +kernel⟩
theorem sc15 : FnScope f15.N f15.ps f15.scope := ⟨rfl, rfl, rfl, by decide +kernel, rfl, by decide +kernel, by decide +kernel⟩
theorem sc16 : FnScope f16.N f16.ps f16.scope := ⟨rfl, rfl, rfl, by decide +kernel, rfl, by decide +kernel, by decide +kernel⟩
theorem sc17 : FnScope f17.N f17.ps f17.scope := ⟨rfl, rfl, rfl, by decide +kernel, rfl, by decide +kernel, by decide +kernel⟩
theorem sc18 : FnScope f18.N f18.ps f18.scope := ⟨rfl, rfl, rfl, by decide +kernel, rfl, by decide +kernel, by decide +kernel⟩
theorem sc19 : FnScope f19.N f19.ps f19.scope := ⟨rfl, rfl, rfl, by decide +kernel, rfl, by decide +kernel, by decide +kernel⟩
theorem sc20 : FnScope f20.N f20.ps f20.scope := ⟨rfl, rfl, rfl, by decide +kernel, rfl, by decide +kernel, by decide +kernel⟩
theorem sc21 : FnScope f21.N f21.ps f21.scope := ⟨rfl, rfl, rfl, by decide +kernel, rfl, by decide +kernel, by decide +kernel⟩
theorem sc22 : FnScope f22.N f22.ps f22.scope := ⟨rfl, rfl, rfl, by decide +kernel, rfl, by decide +kernel, by decide +kernel⟩
theorem sc23 : FnScope f23.N f23.ps f23.scope := ⟨rfl, rfl, rfl, by decide +kernel, rfl, by decide +kernel, by decide +kernel⟩
theorem sc24 : FnScope f24.N f24.ps f24.scope := ⟨rfl, rfl, rfl, by decide +kernel, rfl, by decide +kernel, by decide +kernel⟩
theorem sc25 : FnScope f25.N f25.ps f25.scope := ⟨rfl, rfl, rfl, by decide +kernel, rfl, by decide +kernel, by decide +kernel⟩
theorem sc26 : FnScope f26.N f26.ps f26.scope := ⟨rfl, rfl, rfl, by decide +kernel, rfl, by decide +kernel, by decide +kernel⟩
theorem sc27 : FnScope f27.N f27.ps f27.scope := ⟨rfl, rfl, rfl, by decide +kernel, rfl, by decide +kernel, by decide +kernel⟩
theorem sc28 : FnScope f28.N f28.ps f28.scope := ⟨rfl, rfl, rfl, by decide +kernel, rfl, by decide +kernel, by decide +kernel⟩
theorem sc29 : FnScope f29.N f29.ps f29.scope := ⟨rfl, rfl, rfl, by decide +kernel, rfl, by decide +kernel, by decide +kernel⟩
theorem sc30 : FnScope f30.N f30.ps f30.scope := ⟨rfl, rfl, rfl, by decide +kernel, rfl, by decide +kernel, by decide +kernel⟩
theorem sc31 : FnScope f31.N f31.ps f31.scope := ⟨rfl, rfl, rfl, by decide +kernel, rfl, by decide +kernel, by decide +kernel⟩
theorem sc32 : FnScope f32.N f32.ps f32.scope := ⟨rfl, rfl, rfl, by decide +kernel, rfl, by decide +kernel, by decide +kernel⟩
theorem sc33 : FnScope f33.N f33.ps f33.scope := ⟨rfl, rfl, rfl, by decide +kernel, rfl, by decide +kernel, by decide +kernel⟩
theorem sc34 : FnScope f34.N f34.ps f34.scope := ⟨rfl, rfl, rfl, by decide +kernel, rfl, by decide +kernel, by decide +kernel⟩
theorem sc35 : FnScope f35.N f35.ps f35.scope := ⟨rfl, rfl, rfl, by decide +kernel, rfl, by decide +kernel, by decide +kernel⟩
theorem sc36 : FnScope f36.N f36.ps f36.scope := ⟨rfl, rfl, rfl, by decide +kernel, rfl, by decide +kernel, by decide +kernel⟩
theorem sc37 : FnScope f37.N f37.ps f37.scope := ⟨rfl, rfl, rfl, by decide +kernel, rfl, by decide +kernel, by decide +kernel⟩
theorem sc38 : FnScope f38.N f38.ps f38.scope := ⟨rfl, rfl, rfl, by decide +kernel, rfl, by decide +kernel, by decide +kernel⟩
theorem sc39 : FnScope f39.N f39.ps f39.scope := ⟨rfl, rfl, rfl, by decide +kernel, rfl, by decide +kernel, by decide +kernel⟩
theorem scL : FnScope ("_law_script" :: "_law_row" :: fL.N.drop 2) ["_law_script"] fL.scope := ⟨rfl, rfl, rfl, by decide +kernel, rfl, by decide +kernel, by decide +kernel⟩
def d0 : He.DefD := ⟨("is_int", none), f0.name, f0.qual, f0.params, f0.body, f0.scope, [], []⟩
def d1 : He.DefD := ⟨("is_from", none), f1.name, f1.qual, f1.params, f1.body, f1.scope, [], []⟩
def d2 : He.DefD := ⟨("is_wall", none), f2.name, f2.qual, f2.params, f2.body, f2.scope, [], []⟩
def d3 : He.DefD := ⟨("need_yard", none), f3.name, f3.qual, f3.params, f3.body, f3.scope, [], []⟩
def d4 : He.DefD := ⟨("need_lot", none), f4.name, f4.qual, f4.params, f4.body, f4.scope, [], []⟩
def d5 : He.DefD := ⟨("need_room", none), f5.name, f5.qual, f5.params, f5.body, f5.scope, [], []⟩
def d6 : He.DefD := ⟨("sides_of", none), f6.name, f6.qual, f6.params, f6.body, f6.scope, [], []⟩
def d7 : He.DefD := ⟨("every", none), f7.name, f7.qual, f7.params, f7.body, f7.scope, [], []⟩
def d8 : He.DefD := ⟨("reached", none), f8.name, f8.qual, f8.params, f8.body, f8.scope, [], []⟩
def d9 : He.DefD := ⟨("rest_of", none), f9.name, f9.qual, f9.params, f9.body, f9.scope, [], []⟩
def d10 : He.DefD := ⟨("is_ready", none), f10.name, f10.qual, f10.params, f10.body, f10.scope, [], []⟩
def d11 : He.DefD := ⟨("is_growth", none), f11.name, f11.qual, f11.params, f11.body, f11.scope, [], []⟩
def d12 : He.DefD := ⟨("need_within", none), f12.name, f12.qual, f12.params, f12.body, f12.scope, [], []⟩
def d13 : He.DefD := ⟨("lots_of_rooms", none), f13.name, f13.qual, f13.params, f13.body, f13.scope, [], []⟩
def d14 : He.DefD := ⟨("around", none), f14.name, f14.qual, f14.params, f14.body, f14.scope, [], []⟩
def d15 : He.DefD := ⟨("is_trap_of", none), f15.name, f15.qual, f15.params, f15.body, f15.scope, [], []⟩
def d16 : He.DefD := ⟨("is_trap", none), f16.name, f16.qual, f16.params, f16.body, f16.scope, [], []⟩
def d17 : He.DefD := ⟨("greatest_trap", none), f17.name, f17.qual, f17.params, f17.body, f17.scope, [], []⟩
def d18 : He.DefD := ⟨("traps", none), f18.name, f18.qual, f18.params, f18.body, f18.scope, [], []⟩
def d19 : He.DefD := ⟨("least_traps", none), f19.name, f19.qual, f19.params, f19.body, f19.scope, [], []⟩
def d20 : He.DefD := ⟨("walls_around", none), f20.name, f20.qual, f20.params, f20.body, f20.scope, [], []⟩
def d21 : He.DefD := ⟨("trap_of_room", none), f21.name, f21.qual, f21.params, f21.body, f21.scope, [], []⟩
def d22 : He.DefD := ⟨("least_trap_with", none), f22.name, f22.qual, f22.params, f22.body, f22.scope, [], []⟩
def d23 : He.DefD := ⟨("cures", none), f23.name, f23.qual, f23.params, f23.body, f23.scope, [], []⟩
def d24 : He.DefD := ⟨("is_open", none), f24.name, f24.qual, f24.params, f24.body, f24.scope, [], []⟩
def d25 : He.DefD := ⟨("heart_of", none), f25.name, f25.qual, f25.params, f25.body, f25.scope, [], []⟩
def d26 : He.DefD := ⟨("heart", none), f26.name, f26.qual, f26.params, f26.body, f26.scope, [], []⟩
def d27 : He.DefD := ⟨("without", none), f27.name, f27.qual, f27.params, f27.body, f27.scope, [], []⟩
def d28 : He.DefD := ⟨("can_go_of", none), f28.name, f28.qual, f28.params, f28.body, f28.scope, [], []⟩
def d29 : He.DefD := ⟨("can_go", none), f29.name, f29.qual, f29.params, f29.body, f29.scope, [], []⟩
def d30 : He.DefD := ⟨("can_come_of", none), f30.name, f30.qual, f30.params, f30.body, f30.scope, [], []⟩
def d31 : He.DefD := ⟨("can_come", none), f31.name, f31.qual, f31.params, f31.body, f31.scope, [], []⟩
def d32 : He.DefD := ⟨("layers_of", none), f32.name, f32.qual, f32.params, f32.body, f32.scope, [], []⟩
def d33 : He.DefD := ⟨("open_lots", none), f33.name, f33.qual, f33.params, f33.body, f33.scope, [], []⟩
def d34 : He.DefD := ⟨("count_open", none), f34.name, f34.qual, f34.params, f34.body, f34.scope, [], []⟩
def d35 : He.DefD := ⟨("only_open", none), f35.name, f35.qual, f35.params, f35.body, f35.scope, [], []⟩
def d36 : He.DefD := ⟨("all_gaps", none), f36.name, f36.qual, f36.params, f36.body, f36.scope, [], []⟩
def d37 : He.DefD := ⟨("_law_taken", none), f37.name, f37.qual, f37.params, f37.body, f37.scope, [], []⟩
def d38 : He.DefD := ⟨("_law_pick", none), f38.name, f38.qual, f38.params, f38.body, f38.scope, [], []⟩
def d39 : He.DefD := ⟨("_law_told", none), f39.name, f39.qual, f39.params, f39.body, f39.scope, [], []⟩
def dL : He.DefD := ⟨("law", none), fL.name, fL.qual, fL.params, fL.body, fL.scope, [], []⟩
def fn : List He.DefD := [d0, d1, d2, d3, d4, d5, d6, d7, d8, d9, d10, d11, d12, d13, d14, d15, d16, d17, d18, d19, d20, d21, d22, d23, d24, d25, d26, d27, d28, d29, d30, d31, d32, d33, d34, d35, d36, d37, d38, d39, dL]
def fa : List He.Fa := [.glo "is_int", .glo "is_from", .glo "is_wall", .glo "need_yard", .glo "need_lot", .glo "need_room", .glo "sides_of", .glo "every", .glo "reached", .glo "rest_of", .glo "is_ready", .glo "is_growth", .glo "need_within", .glo "lots_of_rooms", .glo "around", .glo "is_trap_of", .glo "is_trap", .glo "greatest_trap", .glo "traps", .glo "least_traps", .glo "walls_around", .glo "trap_of_room", .glo "least_trap_with", .glo "cures", .glo "is_open", .glo "heart_of", .glo "heart", .glo "without", .glo "can_go_of", .glo "can_go", .glo "can_come_of", .glo "can_come", .glo "layers_of", .glo "open_lots", .glo "count_open", .glo "only_open", .glo "all_gaps", .glo "_law_taken", .glo "_law_pick", .glo "_law_told", .glo "law", .int "MOST_ROOMS" 9, .int "MOST_WALLS" 12, .free "len", .free "tuple", .free "sorted", .free "any", .free "all", .free "int", .free "isinstance", .free "range", .free "enumerate", .free "zip", .free "bool", .glo "WallError", .glo "BadYard", .glo "BadLot", .glo "BadRoom", .free "super", .free "ValueError"]
abbrev RWX : PySem.W.OpenRow := PySem.W.OpenLaw.row PySem.Challenge.rw_walledin_k08_known_traps
def mkY : List (Str × Str) := [("law", (fL.qual ++ ".<locals>.") ++ "<lambda>"), ("lots_of_rooms", (f13.qual ++ ".<locals>.") ++ "<lambda>")]
def tdv : TdV := ⟨"_law_work", "_law_found", "e", "_law_known", "_law_words", "WallError", ["BadLot", "BadRoom", "BadYard"], "ValueError", ["lot", "room", "yard"], [("yard", "index")]⟩
def tbl : List (Nat × Str × Bool) := [(2, "lot", false), (3, "room", false), (1, "yard", true)]
def eb (K : PySem.W.Frag) : Bool := (TT.ex.all (ercB RWX.prog K)) && (tbl.all (entB K TT.ex tdv.we tdv.xs tdv.ws tdv.tl))
abbrev hk : PySem.W.Hook := hookE 5 (mkY.map (·.1)) eb fa fn
def ob (s : PySem.W.SharedT) : (He.AlD × Bool) × Bool := obsEG 5 (mkY.map (·.1)) eb fa fn (HandSHeadRun.getT s)
theorem ob_eq (s : PySem.W.SharedT) : ob s = hk.obs s.abs := obsEG_eq (HandSHeadRun.getT_eq s)
def loose0 : List PySem.Str := ["WallError", "BadYard", "BadLot", "BadRoom", "MOST_ROOMS", "MOST_WALLS", "is_int", "is_from", "is_wall", "need_yard", "need_lot", "need_room", "sides_of", "every", "reached", "rest_of", "is_ready", "is_growth", "need_within", "around", "is_trap_of", "is_trap", "greatest_trap", "traps", "least_traps", "walls_around", "trap_of_room", "least_trap_with", "cures", "is_open"]
def loose1 : List PySem.Str := ["heart_of", "heart", "without", "can_go_of", "can_go", "can_come_of", "can_come", "layers_of", "open_lots", "count_open", "only_open", "all_gaps", "_law_taken", "_law_pick", "_law_told"]
abbrev loose : List PySem.Str := loose0 ++ loose1
set_option maxHeartbeats 0 in
theorem headRun (w : World) : HandSHeadRun.RunEq RWX (PySem.W.view RWX.prog [23, 52]) hk ob 6000 loose w := by
  intro os
  kernel_rfl
theorem lm_at : ∀ (i : Nat) (f : FunI), LL[i]? = some f → f.lm = true → (f.name, (f.qual ++ ".<locals>.") ++ "<lambda>") ∈ mkY := fun i f hi hl => by
  match i, hi with
  | 0, hi => cases hi; cases hl
  | 1, hi => cases hi; cases hl
  | 2, hi => cases hi; cases hl
  | 3, hi => cases hi; cases hl
  | 4, hi => cases hi; cases hl
  | 5, hi => cases hi; cases hl
  | 6, hi => cases hi; cases hl
  | 7, hi => cases hi; cases hl
  | 8, hi => cases hi; cases hl
  | 9, hi => cases hi; cases hl
  | 10, hi => cases hi; cases hl
  | 11, hi => cases hi; cases hl
  | 12, hi => cases hi; cases hl
  | 13, hi => cases hi; exact List.mem_cons_of_mem _ (List.mem_cons_self)
  | 14, hi => cases hi; cases hl
  | 15, hi => cases hi; cases hl
  | 16, hi => cases hi; cases hl
  | 17, hi => cases hi; cases hl
  | 18, hi => cases hi; cases hl
  | 19, hi => cases hi; cases hl
  | 20, hi => cases hi; cases hl
  | 21, hi => cases hi; cases hl
  | 22, hi => cases hi; cases hl
  | 23, hi => cases hi; cases hl
  | 24, hi => cases hi; cases hl
  | 25, hi => cases hi; cases hl
  | 26, hi => cases hi; cases hl
  | 27, hi => cases hi; cases hl
  | 28, hi => cases hi; cases hl
  | 29, hi => cases hi; cases hl
  | 30, hi => cases hi; cases hl
  | 31, hi => cases hi; cases hl
  | 32, hi => cases hi; cases hl
  | 33, hi => cases hi; cases hl
  | 34, hi => cases hi; cases hl
  | 35, hi => cases hi; cases hl
  | 36, hi => cases hi; cases hl
  | 37, hi => cases hi; cases hl
  | 38, hi => cases hi; cases hl
  | 39, hi => cases hi; cases hl
  | i + 40, hi => cases hi
def faOf (K : PySem.W.Frag) : Nat → Option Addr := fun i => (LL[i]?).map fun f => He.ga K f.name
theorem glos {K : PySem.W.Frag} {h : Heap} {mg : Str → Option Value} (X : K.In h) (G : h.Ns mainGlobals mg) (c : He.SaysD fa fn K) : ∀ (i : Nat) (f : FunI), LL[i]? = some f → mg f.name = some (.ref (He.ga K f.name)) := fun i f hi => by
  match i, hi with
  | 0, hi => cases hi; exact He.glo_ok X G (c.fact 0 (f := .glo "is_int") rfl)
  | 1, hi => cases hi; exact He.glo_ok X G (c.fact 1 (f := .glo "is_from") rfl)
  | 2, hi => cases hi; exact He.glo_ok X G (c.fact 2 (f := .glo "is_wall") rfl)
  | 3, hi => cases hi; exact He.glo_ok X G (c.fact 3 (f := .glo "need_yard") rfl)
  | 4, hi => cases hi; exact He.glo_ok X G (c.fact 4 (f := .glo "need_lot") rfl)
  | 5, hi => cases hi; exact He.glo_ok X G (c.fact 5 (f := .glo "need_room") rfl)
  | 6, hi => cases hi; exact He.glo_ok X G (c.fact 6 (f := .glo "sides_of") rfl)
  | 7, hi => cases hi; exact He.glo_ok X G (c.fact 7 (f := .glo "every") rfl)
  | 8, hi => cases hi; exact He.glo_ok X G (c.fact 8 (f := .glo "reached") rfl)
  | 9, hi => cases hi; exact He.glo_ok X G (c.fact 9 (f := .glo "rest_of") rfl)
  | 10, hi => cases hi; exact He.glo_ok X G (c.fact 10 (f := .glo "is_ready") rfl)
  | 11, hi => cases hi; exact He.glo_ok X G (c.fact 11 (f := .glo "is_growth") rfl)
  | 12, hi => cases hi; exact He.glo_ok X G (c.fact 12 (f := .glo "need_within") rfl)
  | 13, hi => cases hi; exact He.glo_ok X G (c.fact 13 (f := .glo "lots_of_rooms") rfl)
  | 14, hi => cases hi; exact He.glo_ok X G (c.fact 14 (f := .glo "around") rfl)
  | 15, hi => cases hi; exact He.glo_ok X G (c.fact 15 (f := .glo "is_trap_of") rfl)
  | 16, hi => cases hi; exact He.glo_ok X G (c.fact 16 (f := .glo "is_trap") rfl)
  | 17, hi => cases hi; exact He.glo_ok X G (c.fact 17 (f := .glo "greatest_trap") rfl)
  | 18, hi => cases hi; exact He.glo_ok X G (c.fact 18 (f := .glo "traps") rfl)
  | 19, hi => cases hi; exact He.glo_ok X G (c.fact 19 (f := .glo "least_traps") rfl)
  | 20, hi => cases hi; exact He.glo_ok X G (c.fact 20 (f := .glo "walls_around") rfl)
  | 21, hi => cases hi; exact He.glo_ok X G (c.fact 21 (f := .glo "trap_of_room") rfl)
  | 22, hi => cases hi; exact He.glo_ok X G (c.fact 22 (f := .glo "least_trap_with") rfl)
  | 23, hi => cases hi; exact He.glo_ok X G (c.fact 23 (f := .glo "cures") rfl)
  | 24, hi => cases hi; exact He.glo_ok X G (c.fact 24 (f := .glo "is_open") rfl)
  | 25, hi => cases hi; exact He.glo_ok X G (c.fact 25 (f := .glo "heart_of") rfl)
  | 26, hi => cases hi; exact He.glo_ok X G (c.fact 26 (f := .glo "heart") rfl)
  | 27, hi => cases hi; exact He.glo_ok X G (c.fact 27 (f := .glo "without") rfl)
  | 28, hi => cases hi; exact He.glo_ok X G (c.fact 28 (f := .glo "can_go_of") rfl)
  | 29, hi => cases hi; exact He.glo_ok X G (c.fact 29 (f := .glo "can_go") rfl)
  | 30, hi => cases hi; exact He.glo_ok X G (c.fact 30 (f := .glo "can_come_of") rfl)
  | 31, hi => cases hi; exact He.glo_ok X G (c.fact 31 (f := .glo "can_come") rfl)
  | 32, hi => cases hi; exact He.glo_ok X G (c.fact 32 (f := .glo "layers_of") rfl)
  | 33, hi => cases hi; exact He.glo_ok X G (c.fact 33 (f := .glo "open_lots") rfl)
  | 34, hi => cases hi; exact He.glo_ok X G (c.fact 34 (f := .glo "count_open") rfl)
  | 35, hi => cases hi; exact He.glo_ok X G (c.fact 35 (f := .glo "only_open") rfl)
  | 36, hi => cases hi; exact He.glo_ok X G (c.fact 36 (f := .glo "all_gaps") rfl)
  | 37, hi => cases hi; exact He.glo_ok X G (c.fact 37 (f := .glo "_law_taken") rfl)
  | 38, hi => cases hi; exact He.glo_ok X G (c.fact 38 (f := .glo "_law_pick") rfl)
  | 39, hi => cases hi; exact He.glo_ok X G (c.fact 39 (f := .glo "_law_told") rfl)
  | i + 40, hi => cases hi
theorem exs {K : PySem.W.Frag} {h : Heap} {mg : Str → Option Value} (X : K.In h) (G : h.Ns mainGlobals mg) (c : He.SaysD fa fn K) : ∀ (i : Nat) (x : Str) (fo : Option Str), TT.ex[i]? = some (x, fo) → mg x = some (.ref (He.ga K x)) := fun i x fo hi => by
  match i, hi with
  | 0, hi => cases hi; exact He.glo_ok X G (c.fact 54 (f := .glo "WallError") rfl)
  | 1, hi => cases hi; exact He.glo_ok X G (c.fact 55 (f := .glo "BadYard") rfl)
  | 2, hi => cases hi; exact He.glo_ok X G (c.fact 56 (f := .glo "BadLot") rfl)
  | 3, hi => cases hi; exact He.glo_ok X G (c.fact 57 (f := .glo "BadRoom") rfl)
  | i + 4, hi => cases hi
theorem fr_super {K : PySem.W.Frag} {h : Heap} {mg : Str → Option Value} (X : K.In h) (G : h.Ns mainGlobals mg) (c : He.SaysD fa fn K) : mg "super" = none := He.free_ok X G (c.fact 58 (f := .free "super") rfl)
theorem fr_ValueError {K : PySem.W.Frag} {h : Heap} {mg : Str → Option Value} (X : K.In h) (G : h.Ns mainGlobals mg) (c : He.SaysD fa fn K) : mg "ValueError" = none := He.free_ok X G (c.fact 59 (f := .free "ValueError") rfl)
theorem fr_isinstance {K : PySem.W.Frag} {h : Heap} {mg : Str → Option Value} (X : K.In h) (G : h.Ns mainGlobals mg) (c : He.SaysD fa fn K) : mg "isinstance" = none := He.free_ok X G (c.fact 49 (f := .free "isinstance") rfl)
set_option maxHeartbeats 8000000 in
theorem md_ok {K : PySem.W.Frag} {h : Heap} {mg : Str → Option Value} (X : K.In h) (G : h.Ns mainGlobals mg) (c : He.SaysD fa fn K) (he : eb K = true) {w : World} : MdOk RWX.prog w K mg (faOf K) (eaOf K TT.ex) TT LL := by
  refine ⟨fun _ i f hi => ⟨_, glos X G c i f hi, by unfold faOf; rw [hi]; rfl⟩, fun k g h => ?_, fun cc x fo h => ?_, rfl, fun i f hi => ?_, fun x m hx => ?_, fun x hx => ?_, fun i f hi => ?_, fun i f hi ht => ?_⟩
  · obtain ⟨f, h1, rfl⟩ := Option.map_eq_some_iff.mp h
    exact ⟨f, h1, glos X G c k f h1⟩
  · unfold eb at he
    rw [Bool.and_eq_true] at he
    exact ⟨He.ga K x, by unfold eaOf; rw [h]; rfl, ercB_ok (exs X G c cc x fo h) (fr_super X G c) (List.all_eq_true.mp he.1 (x, fo) (List.mem_of_getElem? h))⟩
  · match i, hi with
    | 0, hi =>
      cases hi
      obtain ⟨fd, FF⟩ := c.def_ 0 (d := d0) rfl
      exact ⟨_, fd, He.glo_ok X G (c.fact 0 (f := .glo "is_int") rfl), FF, FF.bindsN fun _ _ _ _ _ _ us hl => match us, hl with | [_], _ => rfl⟩
    | 1, hi =>
      cases hi
      obtain ⟨fd, FF⟩ := c.def_ 1 (d := d1) rfl
      exact ⟨_, fd, He.glo_ok X G (c.fact 1 (f := .glo "is_from") rfl), FF, FF.bindsN fun _ _ _ _ _ _ us hl => match us, hl with | [_, _, _], _ => rfl⟩
    | 2, hi =>
      cases hi
      obtain ⟨fd, FF⟩ := c.def_ 2 (d := d2) rfl
      exact ⟨_, fd, He.glo_ok X G (c.fact 2 (f := .glo "is_wall") rfl), FF, FF.bindsN fun _ _ _ _ _ _ us hl => match us, hl with | [_, _], _ => rfl⟩
    | 3, hi =>
      cases hi
      obtain ⟨fd, FF⟩ := c.def_ 3 (d := d3) rfl
      exact ⟨_, fd, He.glo_ok X G (c.fact 3 (f := .glo "need_yard") rfl), FF, FF.bindsN fun _ _ _ _ _ _ us hl => match us, hl with | [_], _ => rfl⟩
    | 4, hi =>
      cases hi
      obtain ⟨fd, FF⟩ := c.def_ 4 (d := d4) rfl
      exact ⟨_, fd, He.glo_ok X G (c.fact 4 (f := .glo "need_lot") rfl), FF, FF.bindsN fun _ _ _ _ _ _ us hl => match us, hl with | [_, _], _ => rfl⟩
    | 5, hi =>
      cases hi
      obtain ⟨fd, FF⟩ := c.def_ 5 (d := d5) rfl
      exact ⟨_, fd, He.glo_ok X G (c.fact 5 (f := .glo "need_room") rfl), FF, FF.bindsN fun _ _ _ _ _ _ us hl => match us, hl with | [_, _], _ => rfl⟩
    | 6, hi =>
      cases hi
      obtain ⟨fd, FF⟩ := c.def_ 6 (d := d6) rfl
      exact ⟨_, fd, He.glo_ok X G (c.fact 6 (f := .glo "sides_of") rfl), FF, FF.bindsN fun _ _ _ _ _ _ us hl => match us, hl with | [_], _ => rfl⟩
    | 7, hi =>
      cases hi
      obtain ⟨fd, FF⟩ := c.def_ 7 (d := d7) rfl
      exact ⟨_, fd, He.glo_ok X G (c.fact 7 (f := .glo "every") rfl), FF, FF.bindsN fun _ _ _ _ _ _ us hl => match us, hl with | [_], _ => rfl⟩
    | 8, hi =>
      cases hi
      obtain ⟨fd, FF⟩ := c.def_ 8 (d := d8) rfl
      exact ⟨_, fd, He.glo_ok X G (c.fact 8 (f := .glo "reached") rfl), FF, FF.bindsN fun _ _ _ _ _ _ us hl => match us, hl with | [_, _], _ => rfl⟩
    | 9, hi =>
      cases hi
      obtain ⟨fd, FF⟩ := c.def_ 9 (d := d9) rfl
      exact ⟨_, fd, He.glo_ok X G (c.fact 9 (f := .glo "rest_of") rfl), FF, FF.bindsN fun _ _ _ _ _ _ us hl => match us, hl with | [_, _], _ => rfl⟩
    | 10, hi =>
      cases hi
      obtain ⟨fd, FF⟩ := c.def_ 10 (d := d10) rfl
      exact ⟨_, fd, He.glo_ok X G (c.fact 10 (f := .glo "is_ready") rfl), FF, FF.bindsN fun _ _ _ _ _ _ us hl => match us, hl with | [_, _, _], _ => rfl⟩
    | 11, hi =>
      cases hi
      obtain ⟨fd, FF⟩ := c.def_ 11 (d := d11) rfl
      exact ⟨_, fd, He.glo_ok X G (c.fact 11 (f := .glo "is_growth") rfl), FF, FF.bindsN fun _ _ _ _ _ _ us hl => match us, hl with | [_, _], _ => rfl⟩
    | 12, hi =>
      cases hi
      obtain ⟨fd, FF⟩ := c.def_ 12 (d := d12) rfl
      exact ⟨_, fd, He.glo_ok X G (c.fact 12 (f := .glo "need_within") rfl), FF, FF.bindsN fun _ _ _ _ _ _ us hl => match us, hl with | [_, _], _ => rfl⟩
    | 13, hi =>
      cases hi
      obtain ⟨fd, FF⟩ := c.def_ 13 (d := d13) rfl
      exact ⟨_, fd, He.glo_ok X G (c.fact 13 (f := .glo "lots_of_rooms") rfl), FF, FF.bindsN fun _ _ _ _ _ _ us hl => match us, hl with | [_], _ => rfl⟩
    | 14, hi =>
      cases hi
      obtain ⟨fd, FF⟩ := c.def_ 14 (d := d14) rfl
      exact ⟨_, fd, He.glo_ok X G (c.fact 14 (f := .glo "around") rfl), FF, FF.bindsN fun _ _ _ _ _ _ us hl => match us, hl with | [_, _], _ => rfl⟩
    | 15, hi =>
      cases hi
      obtain ⟨fd, FF⟩ := c.def_ 15 (d := d15) rfl
      exact ⟨_, fd, He.glo_ok X G (c.fact 15 (f := .glo "is_trap_of") rfl), FF, FF.bindsN fun _ _ _ _ _ _ us hl => match us, hl with | [_, _], _ => rfl⟩
    | 16, hi =>
      cases hi
      obtain ⟨fd, FF⟩ := c.def_ 16 (d := d16) rfl
      exact ⟨_, fd, He.glo_ok X G (c.fact 16 (f := .glo "is_trap") rfl), FF, FF.bindsN fun _ _ _ _ _ _ us hl => match us, hl with | [_, _], _ => rfl⟩
    | 17, hi =>
      cases hi
      obtain ⟨fd, FF⟩ := c.def_ 17 (d := d17) rfl
      exact ⟨_, fd, He.glo_ok X G (c.fact 17 (f := .glo "greatest_trap") rfl), FF, FF.bindsN fun _ _ _ _ _ _ us hl => match us, hl with | [_], _ => rfl⟩
    | 18, hi =>
      cases hi
      obtain ⟨fd, FF⟩ := c.def_ 18 (d := d18) rfl
      exact ⟨_, fd, He.glo_ok X G (c.fact 18 (f := .glo "traps") rfl), FF, FF.bindsN fun _ _ _ _ _ _ us hl => match us, hl with | [_], _ => rfl⟩
    | 19, hi =>
      cases hi
      obtain ⟨fd, FF⟩ := c.def_ 19 (d := d19) rfl
      exact ⟨_, fd, He.glo_ok X G (c.fact 19 (f := .glo "least_traps") rfl), FF, FF.bindsN fun _ _ _ _ _ _ us hl => match us, hl with | [_], _ => rfl⟩
    | 20, hi =>
      cases hi
      obtain ⟨fd, FF⟩ := c.def_ 20 (d := d20) rfl
      exact ⟨_, fd, He.glo_ok X G (c.fact 20 (f := .glo "walls_around") rfl), FF, FF.bindsN fun _ _ _ _ _ _ us hl => match us, hl with | [_, _], _ => rfl⟩
    | 21, hi =>
      cases hi
      obtain ⟨fd, FF⟩ := c.def_ 21 (d := d21) rfl
      exact ⟨_, fd, He.glo_ok X G (c.fact 21 (f := .glo "trap_of_room") rfl), FF, FF.bindsN fun _ _ _ _ _ _ us hl => match us, hl with | [_, _], _ => rfl⟩
    | 22, hi =>
      cases hi
      obtain ⟨fd, FF⟩ := c.def_ 22 (d := d22) rfl
      exact ⟨_, fd, He.glo_ok X G (c.fact 22 (f := .glo "least_trap_with") rfl), FF, FF.bindsN fun _ _ _ _ _ _ us hl => match us, hl with | [_, _], _ => rfl⟩
    | 23, hi =>
      cases hi
      obtain ⟨fd, FF⟩ := c.def_ 23 (d := d23) rfl
      exact ⟨_, fd, He.glo_ok X G (c.fact 23 (f := .glo "cures") rfl), FF, FF.bindsN fun _ _ _ _ _ _ us hl => match us, hl with | [_], _ => rfl⟩
    | 24, hi =>
      cases hi
      obtain ⟨fd, FF⟩ := c.def_ 24 (d := d24) rfl
      exact ⟨_, fd, He.glo_ok X G (c.fact 24 (f := .glo "is_open") rfl), FF, FF.bindsN fun _ _ _ _ _ _ us hl => match us, hl with | [_, _], _ => rfl⟩
    | 25, hi =>
      cases hi
      obtain ⟨fd, FF⟩ := c.def_ 25 (d := d25) rfl
      exact ⟨_, fd, He.glo_ok X G (c.fact 25 (f := .glo "heart_of") rfl), FF, FF.bindsN fun _ _ _ _ _ _ us hl => match us, hl with | [_, _], _ => rfl⟩
    | 26, hi =>
      cases hi
      obtain ⟨fd, FF⟩ := c.def_ 26 (d := d26) rfl
      exact ⟨_, fd, He.glo_ok X G (c.fact 26 (f := .glo "heart") rfl), FF, FF.bindsN fun _ _ _ _ _ _ us hl => match us, hl with | [_, _], _ => rfl⟩
    | 27, hi =>
      cases hi
      obtain ⟨fd, FF⟩ := c.def_ 27 (d := d27) rfl
      exact ⟨_, fd, He.glo_ok X G (c.fact 27 (f := .glo "without") rfl), FF, FF.bindsN fun _ _ _ _ _ _ us hl => match us, hl with | [_, _], _ => rfl⟩
    | 28, hi =>
      cases hi
      obtain ⟨fd, FF⟩ := c.def_ 28 (d := d28) rfl
      exact ⟨_, fd, He.glo_ok X G (c.fact 28 (f := .glo "can_go_of") rfl), FF, FF.bindsN fun _ _ _ _ _ _ us hl => match us, hl with | [_, _], _ => rfl⟩
    | 29, hi =>
      cases hi
      obtain ⟨fd, FF⟩ := c.def_ 29 (d := d29) rfl
      exact ⟨_, fd, He.glo_ok X G (c.fact 29 (f := .glo "can_go") rfl), FF, FF.bindsN fun _ _ _ _ _ _ us hl => match us, hl with | [_, _], _ => rfl⟩
    | 30, hi =>
      cases hi
      obtain ⟨fd, FF⟩ := c.def_ 30 (d := d30) rfl
      exact ⟨_, fd, He.glo_ok X G (c.fact 30 (f := .glo "can_come_of") rfl), FF, FF.bindsN fun _ _ _ _ _ _ us hl => match us, hl with | [_, _], _ => rfl⟩
    | 31, hi =>
      cases hi
      obtain ⟨fd, FF⟩ := c.def_ 31 (d := d31) rfl
      exact ⟨_, fd, He.glo_ok X G (c.fact 31 (f := .glo "can_come") rfl), FF, FF.bindsN fun _ _ _ _ _ _ us hl => match us, hl with | [_, _], _ => rfl⟩
    | 32, hi =>
      cases hi
      obtain ⟨fd, FF⟩ := c.def_ 32 (d := d32) rfl
      exact ⟨_, fd, He.glo_ok X G (c.fact 32 (f := .glo "layers_of") rfl), FF, FF.bindsN fun _ _ _ _ _ _ us hl => match us, hl with | [_], _ => rfl⟩
    | 33, hi =>
      cases hi
      obtain ⟨fd, FF⟩ := c.def_ 33 (d := d33) rfl
      exact ⟨_, fd, He.glo_ok X G (c.fact 33 (f := .glo "open_lots") rfl), FF, FF.bindsN fun _ _ _ _ _ _ us hl => match us, hl with | [_], _ => rfl⟩
    | 34, hi =>
      cases hi
      obtain ⟨fd, FF⟩ := c.def_ 34 (d := d34) rfl
      exact ⟨_, fd, He.glo_ok X G (c.fact 34 (f := .glo "count_open") rfl), FF, FF.bindsN fun _ _ _ _ _ _ us hl => match us, hl with | [_], _ => rfl⟩
    | 35, hi =>
      cases hi
      obtain ⟨fd, FF⟩ := c.def_ 35 (d := d35) rfl
      exact ⟨_, fd, He.glo_ok X G (c.fact 35 (f := .glo "only_open") rfl), FF, FF.bindsN fun _ _ _ _ _ _ us hl => match us, hl with | [_, _], _ => rfl⟩
    | 36, hi =>
      cases hi
      obtain ⟨fd, FF⟩ := c.def_ 36 (d := d36) rfl
      exact ⟨_, fd, He.glo_ok X G (c.fact 36 (f := .glo "all_gaps") rfl), FF, FF.bindsN fun _ _ _ _ _ _ us hl => match us, hl with | [_], _ => rfl⟩
    | 37, hi =>
      cases hi
      obtain ⟨fd, FF⟩ := c.def_ 37 (d := d37) rfl
      exact ⟨_, fd, He.glo_ok X G (c.fact 37 (f := .glo "_law_taken") rfl), FF, FF.bindsN fun _ _ _ _ _ _ us hl => match us, hl with | [_, _], _ => rfl⟩
    | 38, hi =>
      cases hi
      obtain ⟨fd, FF⟩ := c.def_ 38 (d := d38) rfl
      exact ⟨_, fd, He.glo_ok X G (c.fact 38 (f := .glo "_law_pick") rfl), FF, FF.bindsN fun _ _ _ _ _ _ us hl => match us, hl with | [_, _], _ => rfl⟩
    | 39, hi =>
      cases hi
      obtain ⟨fd, FF⟩ := c.def_ 39 (d := d39) rfl
      exact ⟨_, fd, He.glo_ok X G (c.fact 39 (f := .glo "_law_told") rfl), FF, FF.bindsN fun _ _ _ _ _ _ us hl => match us, hl with | [_], _ => rfl⟩
    | i + 40, hi => cases hi
  · simp only [TT, List.mem_cons, List.not_mem_nil, or_false] at hx
    rcases hx with hx | hx
    · cases hx; exact He.int_ok X G (c.fact 41 (f := .int "MOST_ROOMS" 9) rfl)
    · cases hx; exact He.int_ok X G (c.fact 42 (f := .int "MOST_WALLS" 12) rfl)
  · simp only [TT, List.mem_cons, List.not_mem_nil, or_false] at hx
    rcases hx with rfl | rfl | rfl | rfl | rfl | rfl | rfl | rfl | rfl | rfl | rfl
    · exact He.free_ok X G (c.fact 43 (f := .free "len") rfl)
    · exact He.free_ok X G (c.fact 44 (f := .free "tuple") rfl)
    · exact He.free_ok X G (c.fact 45 (f := .free "sorted") rfl)
    · exact He.free_ok X G (c.fact 46 (f := .free "any") rfl)
    · exact He.free_ok X G (c.fact 47 (f := .free "all") rfl)
    · exact He.free_ok X G (c.fact 48 (f := .free "int") rfl)
    · exact He.free_ok X G (c.fact 49 (f := .free "isinstance") rfl)
    · exact He.free_ok X G (c.fact 50 (f := .free "range") rfl)
    · exact He.free_ok X G (c.fact 51 (f := .free "enumerate") rfl)
    · exact He.free_ok X G (c.fact 52 (f := .free "zip") rfl)
    · exact He.free_ok X G (c.fact 53 (f := .free "bool") rfl)
  · match i, hi with
    | 0, hi => cases hi; exact sc0
    | 1, hi => cases hi; exact sc1
    | 2, hi => cases hi; exact sc2
    | 3, hi => cases hi; exact sc3
    | 4, hi => cases hi; exact sc4
    | 5, hi => cases hi; exact sc5
    | 6, hi => cases hi; exact sc6
    | 7, hi => cases hi; exact sc7
    | 8, hi => cases hi; exact sc8
    | 9, hi => cases hi; exact sc9
    | 10, hi => cases hi; exact sc10
    | 11, hi => cases hi; exact sc11
    | 12, hi => cases hi; exact sc12
    | 13, hi => cases hi; exact sc13
    | 14, hi => cases hi; exact sc14
    | 15, hi => cases hi; exact sc15
    | 16, hi => cases hi; exact sc16
    | 17, hi => cases hi; exact sc17
    | 18, hi => cases hi; exact sc18
    | 19, hi => cases hi; exact sc19
    | 20, hi => cases hi; exact sc20
    | 21, hi => cases hi; exact sc21
    | 22, hi => cases hi; exact sc22
    | 23, hi => cases hi; exact sc23
    | 24, hi => cases hi; exact sc24
    | 25, hi => cases hi; exact sc25
    | 26, hi => cases hi; exact sc26
    | 27, hi => cases hi; exact sc27
    | 28, hi => cases hi; exact sc28
    | 29, hi => cases hi; exact sc29
    | 30, hi => cases hi; exact sc30
    | 31, hi => cases hi; exact sc31
    | 32, hi => cases hi; exact sc32
    | 33, hi => cases hi; exact sc33
    | 34, hi => cases hi; exact sc34
    | 35, hi => cases hi; exact sc35
    | 36, hi => cases hi; exact sc36
    | 37, hi => cases hi; exact sc37
    | 38, hi => cases hi; exact sc38
    | 39, hi => cases hi; exact sc39
    | i + 40, hi => cases hi
  · match i, hi with
    | 0, hi => cases hi; cases ht
    | 1, hi => cases hi; cases ht
    | 2, hi => cases hi; cases ht
    | 3, hi => cases hi; cases ht
    | 4, hi => cases hi; cases ht
    | 5, hi => cases hi; cases ht
    | 6, hi => cases hi; cases ht
    | 7, hi => cases hi; cases ht
    | 8, hi => cases hi; cases ht
    | 9, hi => cases hi; cases ht
    | 10, hi => cases hi; cases ht
    | 11, hi => cases hi; cases ht
    | 12, hi => cases hi; cases ht
    | 13, hi => cases hi; cases ht
    | 14, hi => cases hi; cases ht
    | 15, hi => cases hi; cases ht
    | 16, hi => cases hi; cases ht
    | 17, hi => cases hi; cases ht
    | 18, hi => cases hi; cases ht
    | 19, hi => cases hi; cases ht
    | 20, hi => cases hi; cases ht
    | 21, hi => cases hi; cases ht
    | 22, hi => cases hi; cases ht
    | 23, hi => cases hi; cases ht
    | 24, hi => cases hi; cases ht
    | 25, hi => cases hi; cases ht
    | 26, hi => cases hi; cases ht
    | 27, hi => cases hi; cases ht
    | 28, hi => cases hi; cases ht
    | 29, hi => cases hi; cases ht
    | 30, hi => cases hi; cases ht
    | 31, hi => cases hi; cases ht
    | 32, hi => cases hi; cases ht
    | 33, hi => cases hi; cases ht
    | 34, hi => cases hi; cases ht
    | 35, hi => cases hi; cases ht
    | 36, hi => cases hi; cases ht
    | 37, hi => cases hi; rfl
    | 38, hi => cases hi; cases ht
    | 39, hi => cases hi; cases ht
    | i + 40, hi => cases hi
theorem scV : FnScope [tdv.a, tdv.fnn, tdv.en, tdv.kn, tdv.wn] [tdv.a] f39.scope := ⟨rfl, rfl, rfl, by decide +kernel, rfl, by decide +kernel, by decide +kernel⟩
theorem td_ok {K : PySem.W.Frag} {h : Heap} {mg : Str → Option Value} (X : K.In h) (G : h.Ns mainGlobals mg) (c : He.SaysD fa fn K) (he : eb K = true) : TdF K mg (He.ga K tdv.we) tdv.xs tdv.x tdv.ws tdv.tl ∧ ∀ p ∈ tbl, EntryOk K mg (eaOf K TT.ex) (He.ga K tdv.we) tdv.xs tdv.x tdv.ws tdv.tl p := by
  obtain ⟨fd, FF⟩ := c.def_ 39 (d := d39) rfl
  have glx : ∀ y, (TT.ex.any fun p => p.1 == y) = true → mg y = some (.ref (He.ga K y)) := fun y hy => by
    obtain ⟨p, hp, e⟩ := List.any_eq_true.mp hy
    obtain ⟨i, hi⟩ := List.getElem?_of_mem hp
    rw [← (beq_iff_eq.mp e : p.1 = y)]
    exact exs X G c i p.1 p.2 hi
  unfold eb at he
  rw [Bool.and_eq_true] at he
  refine ⟨tdF_of (bg := f39.body) (glos X G c 39 f39 rfl) FF (FF.bindsN fun _ _ _ _ _ _ us hl => match us, hl with | [_], _ => rfl) (by decide +kernel) scV (by decide +kernel) (glx _ (by decide +kernel)) (fr_isinstance X G c) (by decide +kernel) (by decide +kernel) (by decide +kernel), fun p hp => ?_⟩
  exact entB_ok (fun y hy => glx y (List.all_eq_true.mp (by decide +kernel : (tdv.xs.all fun y => TT.ex.any fun p => p.1 == y) = true) y hy)) (fr_ValueError X G c) rfl (List.all_eq_true.mp he.2 p hp)
theorem mkY_d : ∀ y ∈ mkY, ∀ z ∈ mkY, y.1 = z.1 → y.2 = z.2 := by decide +kernel
theorem mkY_in {K : PySem.W.Frag} {h : Heap} {mg : Str → Option Value} (X : K.In h) (G : h.Ns mainGlobals mg) (c : He.SaysD fa fn K) : ∀ y ∈ mkY, ∃ a o fd, mg y.1 = some (.ref a) ∧ K.lookup a = some o ∧ o.data = .func fd ∧ fd.name = y.1 := by
  intro y hy
  simp only [mkY, List.mem_cons, List.not_mem_nil, or_false] at hy
  rcases hy with rfl | rfl
  · obtain ⟨fd, FF⟩ := c.def_ 40 (d := dL) rfl
    exact funD_in (He.glo_ok X G (c.fact 40 (f := .glo "law") rfl)) FF
  · obtain ⟨fd, FF⟩ := c.def_ 13 (d := d13) rfl
    exact funD_in (glos X G c 13 f13 rfl) FF
theorem lw_ok {K : PySem.W.Frag} {mg : Str → Option Value} {base : Heap} {tt : List (Addr × Str)} {a : Addr} {fd : FuncData} (hfa : mg ("law" : PySem.Str) = some (.ref a)) (FF : FunD K fL.name fL.qual fL.params fL.body fL.scope [] [] a fd) (mk : Makers K mg base mkY tt) : ∃ c Pt, fd.code = .ref c ∧ LamX.TabB base mg c Pt ∧ (Pt, (fL.qual ++ ".<locals>.") ++ "<lambda>") ∈ tt ∧ ∀ q ∈ tt, q.1 = Pt → q.2 = (fL.qual ++ ".<locals>.") ++ "<lambda>" := by
  obtain ⟨a', cc, P, m1, m2, m3, m4, m5⟩ := mk ("law", (fL.qual ++ ".<locals>.") ++ "<lambda>") List.mem_cons_self
  rw [show mg ("law" : Str) = _ from hfa] at m1
  cases m1
  obtain ⟨oc, od, dV, kV, doc, pm, an, cdv, ct, osl, e1, lk, _⟩ := FF.ex
  exact ⟨cc, P, m2 _ fd lk rfl, m3, m4, m5⟩
set_option maxHeartbeats 8000000 in
theorem law_ok {w : World} {K : PySem.W.Frag} {h : Heap} {mg : Str → Option Value} {f : Addr} (X : K.In h) (G : h.Ns mainGlobals mg) (hfa : mg ("law" : PySem.Str) = some (.ref f)) (c : He.SaysD fa fn K) (he : eb K = true) :
    ∃ fd : FuncData, (∀ (s : Shared) (v : Value), BindsTo s fd ⟨[v], []⟩ [("_law_script", v)]) ∧ ∀ (base : Heap) (tt : List (Addr × Str)), K.In base → base.Ns mainGlobals mg → Makers K mg base mkY tt → FnOk RWX.prog w K mg base CX0 (60 + 4) f fd ["_law_script"] (spLaw K tt 63) := by
  have M := md_ok (w := w) X G c he
  obtain ⟨fd, FF⟩ := c.def_ 40 (d := dL) rfl
  have e := hfa.symm.trans (He.glo_ok X G (c.fact 40 (f := .glo "law") rfl))
  cases e
  have b := FunD.bindsA (ps := ["_law_script"]) FF fun _ _ _ _ _ _ us hl => match us, hl with | [_], _ => rfl
  have mL : mg "len" = none := M.fr "len" (by decide)
  have mI : mg "int" = none := M.fr "int" (by decide)
  refine ⟨fd, fun s v => b s [v] rfl, fun base tt _ _ mk => law_fn tt (faOf K) (eaOf K TT.ex) tdx M (fun i f hi ht => ?_) (mt := fL.mt) FF scL rfl rfl (fun tb htb => ⟨_, _, _, _, _, (td_ok X G c he).1, fun p hp => (td_ok X G c he).2 p (by cases htb; exact hp)⟩) (fun tb _ => lw_ok hfa FF mk) (LmOk.of mk lm_at) rfl hrun⟩
  match i, hi with
  | 0, hi => cases hi; cases ht
  | 1, hi => cases hi; cases ht
  | 2, hi => cases hi; cases ht
  | 3, hi => cases hi; cases ht
  | 4, hi => cases hi; cases ht
  | 5, hi => cases hi; cases ht
  | 6, hi => cases hi; cases ht
  | 7, hi => cases hi; cases ht
  | 8, hi => cases hi; cases ht
  | 9, hi => cases hi; cases ht
  | 10, hi => cases hi; cases ht
  | 11, hi => cases hi; cases ht
  | 12, hi => cases hi; cases ht
  | 13, hi => cases hi; cases ht
  | 14, hi => cases hi; cases ht
  | 15, hi => cases hi; cases ht
  | 16, hi => cases hi; cases ht
  | 17, hi => cases hi; cases ht
  | 18, hi => cases hi; cases ht
  | 19, hi => cases hi; cases ht
  | 20, hi => cases hi; cases ht
  | 21, hi => cases hi; cases ht
  | 22, hi => cases hi; cases ht
  | 23, hi => cases hi; cases ht
  | 24, hi => cases hi; cases ht
  | 25, hi => cases hi; cases ht
  | 26, hi => cases hi; cases ht
  | 27, hi => cases hi; cases ht
  | 28, hi => cases hi; cases ht
  | 29, hi => cases hi; cases ht
  | 30, hi => cases hi; cases ht
  | 31, hi => cases hi; cases ht
  | 32, hi => cases hi; cases ht
  | 33, hi => cases hi; cases ht
  | 34, hi => cases hi; cases ht
  | 35, hi => cases hi; cases ht
  | 36, hi => cases hi; cases ht
  | 37, hi => cases hi; exact tk_ok mL mI
  | 38, hi => cases hi; cases ht
  | 39, hi => cases hi; cases ht
  | i + 40, hi => cases hi
end Wl
open PySem PySem.W PySem.Calls PyProof.Rows
set_option maxHeartbeats 0 in
theorem PySem.Challenge.cw_walledin_k08_known_traps_holds : PySem.Challenge.rw_walledin_k08_known_traps.Holds := by
  w_on; o_law
  refine HandSHeadRun.head_any (r := Wl.RWX) (q := view Wl.RWX.prog [23, 52]) (H := Wl.hk) (ob := Wl.ob) (M := 6000) (loose := Wl.loose) (d := HandSHeadRun.topDef Wl.RWX.prog 52) (kwd := []) Wl.ob_eq
    (by kernel_rfl) (fun s => by kernel_rfl) Wl.headRun (by kernel_rfl) (by kernel_rfl) (by kernel_rfl) (by rfl) (by first | assumption | decide +kernel) (by decide +kernel) ⟨rfl, rfl, rfl, rfl, rfl, by decide +kernel⟩ ?hw ?hc
  case hw => w_witness2
  case hc =>
    refine Wl.walk_lamE (l := PySem.Challenge.rw_walledin_k08_known_traps) (n := 63) (k := 64) (x := "_law_script") (ys := Wl.mkY) (fa := Wl.fa) (fn := Wl.fn) rfl (by decide) (by kernel_rfl) ⟨rfl, by decide, by decide⟩ (by kernel_rfl) Wl.mkY_d (fun mg h K KX c G => Wl.mkY_in KX G c) ?F
    intro w mg fa h K KX c he G hmg0
    have hmg : mg ("law" : PySem.Str) = some (.ref fa) := by
      have e : (HandSHeadRun.topDef Wl.RWX.prog 52).name = ("law" : PySem.Str) := by kernel_rfl
      rw [← e]
      exact hmg0
    obtain ⟨fd, hb, hF⟩ := Wl.law_ok (w := w) KX G hmg c he
    exact ⟨fd, hb, fun base tt k1 k2 mk => hF base tt k1 k2 mk⟩
