import PyProof.Rows.All
import Wide.All
import OpenK.AllK
import Wide.FinOn
import KE.KStateDown
import HandS.ForMost
import HandS.ForExc
import HandS.Walk
import HandS.Defaults
import HandS.IsInst
import HandS.HeadEnd
import HandS.HeadHook2
import HandS.Head2
import HandS.Zip
import HandS.Flow
import HandS.TupAny
import HandS.Style
import HandS.Wide
import HandS.Deep
import HandS.SortInts
import HandS.More
import HandS.MakeKwOnly
import HandS.Lambda
import HandS.EndTab
import HandS.HeadHook4
import HandS.HeadWalk
import HandS.ExcIs
import HandS.Iter
import KE.KDictKeyed
import KE.KDictMeth
import KE.SortKeyHeap
import KE.DataCmp
import KE.KDictZip
import KE.KUnpackStar
import KE.KDictPairs
import HandS.Strs
import PySem.Challenge.RW_formclear_k12_no_polynomials
set_option Elab.async false
set_option linter.all false
set_option maxRecDepth 100000
set_option maxHeartbeats 16000000
/-! ### plain data, the syntax Core, its evaluator -/
namespace Fm
open PySem
abbrev Key := L2.Key
/-- plain data; tok: the town of the law's draws; scr: the law's script -/
inductive D where
  | non
  | bl (b : Bool)
  | int (i : Int)
  | str (x : Str)
  | tup (xs : List D)
  | lst (xs : List D)
  | dct (kvs : List (Key × D))
  | tok
  | scr (ns : List Int)
  | exc (n : Nat)
  | dcn (kvs : List (NestedKey × D))
instance : Inhabited D := ⟨.non⟩
mutual
def D.py : D → PyData
  | .non => .none
  | .bl b => .bool b
  | .int i => .int i
  | .str x => .str x
  | .tup xs => .tuple (pys xs)
  | .lst xs => .list (pys xs)
  | .dct _ => .dict []
  | .tok => .dict []
  | .scr _ => .dict []
  | .exc _ => .dict []
  | .dcn _ => .dict []
def pys : List D → List PyData
  | [] => []
  | x :: xs => x.py :: pys xs
end
def eqD (a b : D) : Bool := PyData.eqv a.py b.py
def lay (a : D) : Bool := PyData.canLay0 a.py
def dep (a : D) : Nat := PyData.depth a.py
/-- the town: how many draws, the rests of great cells -/
structure Tw where
  count : Int
  rests : List (Int × Int)
/-- the rest at a place -/
def lkT (r : List (Int × Int)) (k : Int) : Option Int := (r.find? fun p => decide (p.1 = k)).map (·.2)
def putT (r : List (Int × Int)) (k v : Int) : List (Int × Int) :=
  if r.any (fun p => decide (p.1 = k)) then r.map (fun p => if p.1 = k then (p.1, v) else p) else r ++ [(k, v)]
inductive Res (α : Type) where
  | ok (a : α) (t : Tw)
  | exc (n : Nat) (t : Tw)
  | bad
def Res.bind {α β : Type} : Res α → (α → Tw → Res β) → Res β
  | .ok a t, f => f a t
  | .exc n t, _ => .exc n t
  | .bad, _ => .bad
@[simp] theorem Res.bind_ok {α β : Type} (a : α) (t : Tw) (f : α → Tw → Res β) : (Res.ok a t).bind f = f a t := rfl
@[simp] theorem Res.bind_exc {α β : Type} (n : Nat) (t : Tw) (f : α → Tw → Res β) : (Res.exc n t : Res α).bind f = .exc n t := rfl
@[simp] theorem Res.bind_bad {α β : Type} (f : α → Tw → Res β) : (Res.bad : Res α).bind f = .bad := rfl
def lift {α : Type} (o : Option α) (t : Tw) : Res α := match o with
  | some a => .ok a t
  | none => .bad
@[simp] theorem lift_some {α : Type} (a : α) (t : Tw) : lift (some a) t = .ok a t := rfl
@[simp] theorem lift_none {α : Type} (t : Tw) : lift (none : Option α) t = .bad := rfl
/-! ### the operations upon data -/
def okMul (i j : Int) : Bool := decide (i.natAbs.log2 + j.natAbs.log2 < 1000000)
def okDiv (j : Int) : Bool := decide (j ≠ 0) && decide (j.natAbs.log2 < 9000)
def okPow (i j : Int) : Bool := decide (0 ≤ j) && decide (j ≤ 1000000) && decide (i.natAbs < 2 ^ 64)
def okLen (n : Nat) : Bool := decide (n ≤ 16777216)
def addD : D → D → Option D
  | .int i, .int j => some (.int (i + j))
  | .str x, .str y => if okLen (x.length + y.length) then some (.str (x ++ y)) else none
  | .tup xs, .tup ys => if okLen (xs.length + ys.length) then some (.tup (xs ++ ys)) else none
  | _, _ => none
def catD : D → D → Option D
  | .lst xs, .lst ys => if okLen (xs.length + ys.length) then some (.lst (xs ++ ys)) else none
  | _, _ => none
def subD : D → D → Option D
  | .int i, .int j => some (.int (i - j))
  | _, _ => none
def mulD : D → D → Option D
  | .int i, .int j => if okMul i j then some (.int (i * j)) else none
  | _, _ => none
def fdivD : D → D → Option D
  | .int i, .int j => if okDiv j then some (.int (i.fdiv j)) else none
  | _, _ => none
def modD : D → D → Option D
  | .int i, .int j => if j = 0 then none else some (.int (i.fmod j))
  | _, _ => none
def powD : D → D → Option D
  | .int i, .int j => if okPow i j then some (.int (i ^ j.toNat)) else none
  | _, _ => none
def shlD : D → D → Option D
  | .int i, .int j => if okPow i j then some (.int (i * 2 ^ j.toNat)) else none
  | _, _ => none
def negD : D → Option D
  | .int i => some (.int (-i))
  | _ => none
def truD : D → Option Bool
  | .non => some false
  | .bl b => some b
  | .int i => some (i != 0)
  | .str x => if okLen x.length then some ((x.length : Int) != 0) else none
  | .tup xs => some (!xs.isEmpty)
  | .lst xs => some (!xs.isEmpty)
  | .scr ns => some (!ns.isEmpty)
  | _ => none
def notD (a : D) : Option D := (truD a).map fun b => .bl (!b)
def okEq (a b : D) : Bool := lay a && lay b && decide (min (dep a) (dep b) ≤ 190)
def eqOp (a b : D) : Option D := if okEq a b then some (.bl (eqD a b)) else none
def neOp (a b : D) : Option D := if okEq a b then some (.bl (!eqD a b)) else none
def okLt (a b : D) : Bool := lay a && lay b && PySem.W.alike a.py b.py && decide (min (dep a) (dep b) ≤ 190)
def ltOp : D → D → Option D
  | .int i, .int j => some (.bl (decide (i < j)))
  | .str x, .str y => some (.bl (decide (x.cps.toList < y.cps.toList)))
  | .tup xs, .tup ys => if okLt (.tup xs) (.tup ys) then some (.bl (PySem.W.dataLt (D.py (.tup xs)) (D.py (.tup ys)))) else none
  | _, _ => none
def leOp : D → D → Option D
  | .int i, .int j => some (.bl (decide (i ≤ j)))
  | _, _ => none
def gtOp : D → D → Option D
  | .int i, .int j => some (.bl (decide (j < i)))
  | _, _ => none
def geOp : D → D → Option D
  | .int i, .int j => some (.bl (decide (j ≤ i)))
  | _, _ => none
/-- x in y: a sequence of data, or one sign in a text -/
def inB : D → D → Option Bool
  | a, .tup xs => if lay a && (xs.all lay) && decide (dep a ≤ 190) then some (xs.any fun z => eqD z a) else none
  | a, .lst xs => if lay a && (xs.all lay) && decide (dep a ≤ 190) then some (xs.any fun z => eqD z a) else none
  | .str x, .str y => if decide (x.cps.size = 1) then some (decide (x.cps.getD 0 0 ∈ y.cps.toList)) else none
  | _, _ => none
def isN (a : D) : Bool := match a with
  | .non => true
  | _ => false
def cmpD : CmpOp → D → D → Option D
  | .Eq, a, b => eqOp a b
  | .NotEq, a, b => neOp a b
  | .Lt, a, b => ltOp a b
  | .LtE, a, b => leOp a b
  | .Gt, a, b => gtOp a b
  | .GtE, a, b => geOp a b
  | .Is, a, .non => some (.bl (isN a))
  | .Is, .bl c, .bl b => some (.bl (c == b))
  | .IsNot, .bl c, .bl b => some (.bl (!(c == b)))
  | .IsNot, a, .non => some (.bl (!isN a))
  | .In, a, b => (inB a b).map .bl
  | .NotIn, a, b => (inB a b).map fun r => .bl (!r)
  | _, _, _ => none
mutual
/-- a datum as a nested key -/
def nkD : D → Option NestedKey
  | .non => some .none
  | .int i => some (.num i)
  | .str x => some (.text x)
  | .tup xs => (nkDs xs).map .tup
  | _ => none
def nkDs : List D → Option (List NestedKey)
  | [] => some []
  | x :: xs => (nkD x).bind fun k => (nkDs xs).map (k :: ·)
end
mutual
def kdN : NestedKey → D
  | .none => .non
  | .num i => .int i
  | .text x => .str x
  | .tup ks => .tup (kdNs ks)
def kdNs : List NestedKey → List D
  | [] => []
  | k :: ks => kdN k :: kdNs ks
end
/-- a tuple as a key -/
def keyT : D → Option NestedKey
  | .tup xs => (nkD (.tup xs)).bind fun k => if decide (k.depth ≤ 8) then some k else none
  | _ => none
def lookN (kvs : List (NestedKey × D)) (k : NestedKey) : Option D := (kvs.find? fun kv => decide (kv.1 = k)).map (·.2)
def putN (kvs : List (NestedKey × D)) (k : NestedKey) (d : D) : List (NestedKey × D) :=
  if kvs.any (fun kv => decide (kv.1 = k)) then kvs.map (fun kv => if kv.1 = k then (kv.1, d) else kv) else kvs ++ [(k, d)]
def keyD : D → Option Key
  | .int i => some (.inl i)
  | .str x => some (.inr x)
  | _ => none
def lookD (kvs : List (Key × D)) (k : Key) : Option D := (kvs.find? fun kv => decide (kv.1 = k)).map (·.2)
def putD (kvs : List (Key × D)) (k : Key) (d : D) : List (Key × D) :=
  if kvs.any (fun kv => decide (kv.1 = k)) then kvs.map (fun kv => if kv.1 = k then (kv.1, d) else kv) else kvs ++ [(k, d)]
def mergeD (kvs : List (Key × D)) : List (Str × D) → List (Key × D)
  | [] => kvs
  | p :: r => mergeD (putD kvs (.inr p.1) p.2) r
def ixD : D → D → Option D
  | .scr ns, .int i => (L2.atI ns i).map D.int
  | .tup xs, .int i => L2.atI xs i
  | .lst xs, .int i => L2.atI xs i
  | .str x, .int i => if okLen x.length then (L2.atI x.cps.toList i).map fun c => .str ⟨#[c]⟩ else none
  | _, _ => none
def dixD : D → D → Option D
  | .dct kvs, k => (keyD k).bind fun k => lookD kvs k
  | .dcn kvs, k => (keyT k).bind fun k => lookN kvs k
  | _, _ => none
def cutL {α : Type} (xs : List α) (lo hi : Option Int) : List α := (xs.drop (HT.sIx xs.length 0 lo)).take (HT.sIx xs.length xs.length hi - HT.sIx xs.length 0 lo)
def optI : Option D → Option (Option Int)
  | none => some none
  | some (.int i) => some (some i)
  | _ => none
def cutD (a : D) (l h : Option Int) : Option D := match a with
  | .tup xs => some (.tup (cutL xs l h))
  | .lst xs => some (.lst (cutL xs l h))
  | _ => none
def revD : D → Option D
  | .tup xs => some (.tup xs.reverse)
  | .lst xs => some (.lst xs.reverse)
  | _ => none
def lenD : D → Option D
  | .tup xs => some (.int xs.length)
  | .lst xs => some (.int xs.length)
  | .str x => if okLen x.length then some (.int x.length) else none
  | .scr ns => some (.int ns.length)
  | _ => none
def tyD : D → Option String
  | .non => some "NoneType"
  | .bl _ => some "bool"
  | .int _ => some "int"
  | .str _ => some "str"
  | .tup _ => some "tuple"
  | .lst _ => some "list"
  | _ => none
/-- the classes that are asked -/
inductive Ty where
  | int | bool | str | tuple | list
def Ty.name : Ty → String
  | .int => "int"
  | .bool => "bool"
  | .str => "str"
  | .tuple => "tuple"
  | .list => "list"
def isaD (a : D) (T : Ty) : Option Bool := match a, T with
  | .tok, _ => none
  | .scr _, _ => none
  | .exc _, _ => none
  | .dct _, _ => none
  | .dcn _, _ => none
  | .bl _, .bool => some true
  | .bl _, .int => some true
  | .int _, .int => some true
  | .str _, .str => some true
  | .tup _, .tuple => some true
  | .lst _, .list => some true
  | _, _ => some false
/-- built-in functions of one or two values -/
inductive Blt where
  | len | abs | all | any | sum | tuple | list | sorted | int | dictN
def bls : List D → Option (List Bool)
  | [] => some []
  | .bl b :: r => (bls r).map (b :: ·)
  | _ :: _ => none
def intsD : List D → Option (List Int)
  | [] => some []
  | .int i :: r => (intsD r).map (i :: ·)
  | _ :: _ => none
/-- intsD in order -/
def insI (x : Int) : List Int → List Int
  | [] => [x]
  | y :: r => if x ≤ y then x :: y :: r else y :: insI x r
def srtI : List Int → List Int
  | [] => []
  | x :: r => insI x (srtI r)
def keysI : List (Key × D) → Option (List Int)
  | [] => some []
  | (.inl i, _) :: r => (keysI r).map (i :: ·)
  | _ :: _ => none
/-- pairs of a nested key and a value -/
def prsN : List D → Option (List (NestedKey × D))
  | [] => some []
  | .tup [k, v] :: r => (keyT k).bind fun k => (prsN r).map ((k, v) :: ·)
  | _ :: _ => none
def putsN (es : List (NestedKey × D)) : List (NestedKey × D) → List (NestedKey × D)
  | [] => es
  | p :: r => putsN (putN es p.1 p.2) r
def blt1 : Blt → D → Option D
  | .dictN, .tup xs => (prsN xs).map fun ps => .dcn (putsN [] ps)
  | .dictN, .lst xs => (prsN xs).map fun ps => .dcn (putsN [] ps)
  | .len, a => lenD a
  | .abs, .int i => some (.int (if i < 0 then -i else i))
  | .all, .lst xs => (bls xs).map fun bs => .bl (bs.all id)
  | .any, .lst xs => (bls xs).map fun bs => .bl (bs.any id)
  | .sum, .lst xs => (intsD xs).map fun ns => .int ns.sum
  | .tuple, .lst xs => some (.tup xs)
  | .tuple, .tup xs => some (.tup xs)
  | .list, .lst xs => some (.lst xs)
  | .list, .tup xs => some (.lst xs)
  | .sorted, .lst xs => (intsD xs).map fun ns => .lst ((srtI ns).map D.int)
  | .sorted, .dct kvs => (keysI kvs).bind fun ns => if decide (ns.length < 64) then some (.lst ((srtI ns).map D.int)) else none
  | _, _ => none
def strsD : List D → Option (List Str)
  | [] => some []
  | .str x :: r => (strsD r).map (x :: ·)
  | _ :: _ => none
/-- the place of a text -/
def idxD : Bool → D → D → Option D
  | false, .tup xs, .str z => (strsD xs).bind fun ys => if decide (z ∈ ys) then some (.int (ys.idxOf z : Nat)) else none
  | true, .lst xs, .str z => (strsD xs).bind fun ys => if decide (z ∈ ys) && (lay (.lst xs) && lay (.str z)) then some (.int (ys.idxOf z : Nat)) else none
  | _, _, _ => none
def isSq : Bool → D → Bool
  | false, .tup _ => true
  | true, .lst _ => true
  | _, _ => false
/-! ### the syntax -/
inductive Cst where
  | non | bl (b : Bool) | int (i : Int) | str (x : Str)
def Cst.d : Cst → D
  | .non => .non
  | .bl b => .bl b
  | .int i => .int i
  | .str x => .str x
mutual
inductive E where
  | cst (c : Cst)
  | var (i : Nat)
  | bor (i : Nat)
  | glob (g : Nat)
  | bin (op : Operator) (a b : E)
  | neg (a : E)
  | not (a : E)
  | and (a b : E)
  | or (a b : E)
  | ite (c a b : E)
  | cmp (op : CmpOp) (a b : E)
  | chain (o1 o2 : CmpOp) (a b c : E)
  | ix (a b : E)
  | dix (a b : E)
  | cat (a b : E)
  | cut (a : E) (lo hi : O)
  | tup (es : Es)
  | lst (es : Es)
  | call (c : Nat) (es ks : Es)
  | blt (b : Blt) (a : E)
  | isa (a : E) (T : Ty)
  | comp (own : List (Str × Nat)) (elt : E) (tg : Tg) (it : I) (cd : O)
  | get (a k d : E)
  | tcount (i : Nat)
  | tget (i : Nat) (k d : E)
  | dsp (kvs : List (Str × Cst))
  | rev (a : E)
  | heard (e : E)
  | isx (a : E) (n : Nat)
  | isv (a : E)
  | dspE (ks : List Str) (es : Es)
  | dn0
  | idxG (g : Nat) (b : E)
  | idx (a b : E)
  | comp2 (own : List (Str × Nat)) (elt : E) (tg : Tg) (it : I) (tg1 : Tg) (it1 : I)
  | sortK (a : E) (N : List Str) (e : E)
  | bad
inductive O where
  | none
  | some (e : E)
inductive Es where
  | nil
  | cons (e : E) (es : Es)
inductive I where
  | val (e : E)
  | rng1 (a : E)
  | rng2 (a b : E)
  | zip (a b : E)
  | enum (a : E)
  | zipN (a b : E)
  | keys (a : E)
  | enumT (a : E)
inductive Tg where
  | name (i : Nat)
  | tup (ts : Tgs)
inductive Tgs where
  | nil
  | cons (t : Tg) (ts : Tgs)
end
mutual
inductive S where
  | asg (tg : Tg) (e : E)
  | par (is : List Nat) (es : Es)
  | star (i j : Nat) (e : E)
  | aug (i : Nat) (op : Operator) (e : E)
  | ret (e : E)
  | ite (c : E) (a b : Ss)
  | for (tg : Tg) (it : I) (b : Ss)
  | while (c : E) (b : Ss)
  | exp (e : E)
  | new (i : Nat) (e : E)
  | app (i : Nat) (e : E)
  | put (i : Nat) (k e : E)
  | upd (i : Nat) (e : E)
  | ins (i : Nat) (k e : E)
  | uns (is : List Nat) (j : Nat) (es : Es)
  | pnl (b : Bool) (j i : Nat) (e : E)
  | putL (i : Nat) (k e : E)
  | frz (i : Nat)
  | tcnt (i : Nat) (e : E)
  | trst (i : Nat) (k e : E)
  | brk
  | cont
  | raise (n : Nat) (x : Str)
  | bad
inductive Ss where
  | nil
  | cons (s : S) (r : Ss)
end

/-! ### the evaluator -/
mutual
def Tg.slots : Tg → List Nat
  | .name i => [i]
  | .tup ts => ts.slots
def Tgs.slots : Tgs → List Nat
  | .nil => []
  | .cons t ts => t.slots ++ ts.slots
end

/-- a slot: nothing, a datum, an object of the def's own (a list, a dict) that it may change -/
inductive Sl where
  | un
  | val (d : D)
  | own (d : D)
abbrev Rho := List Sl
/-- the values alone -/
def valsR (r : Rho) : Rho := r.map fun s => match s with
  | .own _ => .un
  | s => s
def wipeR (r : Rho) : List Nat → Rho
  | [] => r
  | v :: vs => (wipeR r vs).set v .un
mutual
def setT : Tg → D → Rho → Option Rho
  | .name i, d, r => if decide (i < r.length) then some (r.set i (.val d)) else none
  | .tup ts, .tup xs, r => setTs ts xs r
  | .tup _, _, _ => none
def setTs : Tgs → List D → Rho → Option Rho
  | .nil, [], r => some r
  | .cons t ts, x :: xs, r => (setT t x r).bind fun r1 => setTs ts xs r1
  | _, _, _ => none
end
def consO (o : Option D) (xs : List D) : List D := match o with
  | some x => x :: xs
  | none => xs
/-- a comprehension's turns; what is raised within is not carried -/
def compL (f : D → Tw → Res (Option D)) : List D → Tw → Res (List D)
  | [], t => .ok [] t
  | d :: r, t => match f d t with
    | .ok o t1 => (compL f r t1).bind fun xs t2 => .ok (consO o xs) t2
    | _ => .bad
/-- .. of two fors -/
def comp2L (f : D → Tw → Res (List D)) : List D → Tw → Res (List D)
  | [], t => .ok [] t
  | d :: r, t => match f d t with
    | .ok ys t1 => (comp2L f r t1).bind fun zs t2 => .ok (ys ++ zs) t2
    | _ => .bad
/-- a def's slots at its entry -/
def startR (N : List Str) (ds : List D) : Rho := ds.map .val ++ List.replicate (N.length - ds.length) .un
/-- keys by which it can be sorted -/
def okKeys (ks : List D) : Bool := ks.all (fun a => lay a && decide (dep a ≤ 190) && ks.all fun b => PySem.W.alike a.py b.py) && (ks.all (fun a => match a with
  | .tup (_ :: _) => true
  | _ => false) || ks.all fun a => match a with
  | .non => false
  | .tup _ => false
  | _ => true)
def leK (a b : D × D) : Bool := !PySem.W.dataLt b.2.py a.2.py
/-- sorted by keys -/
def sortD (xs ks : List D) : List D := ((xs.zip ks).mergeSort leK).map (·.1)
def strD (x : Str) : List D := x.cps.toList.map fun c => .str ⟨#[c]⟩
def rngD (lo : Int) (n : Nat) : List D := (List.range n).map fun k => .int (lo + (k : Nat))
def okRng (i : Int) : Bool := decide (-(2 ^ 62) ≤ i) && decide (i < 2 ^ 62)
def zipD : List D → List D → List D
  | x :: xs, y :: ys => .tup [x, y] :: zipD xs ys
  | _, _ => []
def enumD (k : Nat) : List D → List D
  | [] => []
  | x :: xs => .tup [.int (k : Nat), x] :: enumD (k + 1) xs
/-- what calls tell: the level; so many levels deeper, the call's form, values, keywords' values -/
structure Gam where
  lv : Nat
  f : Nat → Nat → List D → List D → Tw → Res D
def Gam.low (G : Gam) : Gam := ⟨G.lv - 2, fun d => G.f (d + 2)⟩
/-- the words of what is refused -/
def hWord : Nat → Str
  | 0 => "no root"
  | 1 => "no form"
  | 2 => "by nought"
  | 3 => "no quotient"
  | 4 => "no name"
  | 5 => "no path"
  | 6 => "spent"
  | 7 => "bad word"
  | 8 => "no text"
  | _ => "is wrong"
/-- what the law hears of a deed -/
def heardR : Res D → Res D
  | .ok v t => .ok (.tup [.str "told", v]) t
  | .exc n t => if decide (n < 9) then .ok (.tup [.str (hWord n)]) t else .bad
  | .bad => .bad
def isxD (a : D) (n : Nat) : Option D := match a with
  | .exc m => if decide (m < 9) && decide (n < 9) then some (.bl (decide (m = n))) else none
  | _ => none
def isvD : D → Option D
  | .exc m => if decide (m < 9) then some (.bl true) else none
  | _ => none
def kD : Key → D
  | .inl i => .int i
  | .inr x => .str x
def joinD (kvs : List (Key × D)) : List (Key × D) → List (Key × D)
  | [] => kvs
  | p :: r => joinD (putD kvs p.1 p.2) r
def binD : Operator → D → D → Option D
  | .Add, a, b => addD a b
  | .Sub, a, b => subD a b
  | .Mult, a, b => mulD a b
  | .FloorDiv, a, b => fdivD a b
  | .Mod, a, b => modD a b
  | .Pow, a, b => powD a b
  | .LShift, a, b => shlD a b
  | _, _, _ => none
mutual
def ev (G : Gam) (cs : Nat → D) : E → Rho → Tw → Res D
  | .cst c, _, t => .ok c.d t
  | .var i, r, t => match r[i]? with
    | some (.val d) => .ok d t
    | _ => .bad
  | .bor i, r, t => match r[i]? with
    | some (.val d) => .ok d t
    | some (.own d) => .ok d t
    | _ => .bad
  | .glob g, _, t => .ok (cs g) t
  | .bin op a b, r, t => (ev G cs a r t).bind fun x t1 => (ev G cs b r t1).bind fun y t2 => lift (binD op x y) t2
  | .neg a, r, t => (ev G cs a r t).bind fun x t1 => lift (negD x) t1
  | .not a, r, t => (ev G cs a r t).bind fun x t1 => lift (notD x) t1
  | .and a b, r, t => (ev G cs a r t).bind fun x t1 => match truD x with
    | some true => ev G cs b r t1
    | some false => .ok x t1
    | none => .bad
  | .or a b, r, t => (ev G cs a r t).bind fun x t1 => match truD x with
    | some true => .ok x t1
    | some false => ev G cs b r t1
    | none => .bad
  | .ite c a b, r, t => (ev G cs c r t).bind fun x t1 => match truD x with
    | some true => ev G cs a r t1
    | some false => ev G cs b r t1
    | none => .bad
  | .cmp op a b, r, t => (ev G cs a r t).bind fun x t1 => (ev G cs b r t1).bind fun y t2 => lift (cmpD op x y) t2
  | .chain o1 o2 a b c, r, t => (ev G cs a r t).bind fun x t1 => (ev G cs b r t1).bind fun y t2 => match cmpD o1 x y with
    | some (.bl true) => (ev G cs c r t2).bind fun z t3 => lift (cmpD o2 y z) t3
    | some (.bl false) => .ok (.bl false) t2
    | _ => .bad
  | .ix a b, r, t => (ev G cs a r t).bind fun x t1 => (ev G cs b r t1).bind fun y t2 => lift (ixD x y) t2
  | .dix a b, r, t => (ev G cs a r t).bind fun x t1 => (ev G cs b r t1).bind fun y t2 => lift (dixD x y) t2
  | .cat a b, r, t => (ev G cs a r t).bind fun x t1 => (ev G cs b r t1).bind fun y t2 => lift (catD x y) t2
  | .cut a lo hi, r, t => (ev G cs a r t).bind fun x t1 => (evO G cs lo r t1).bind fun l t2 => (lift (optI l) t2).bind fun l t2 => (evO G cs hi r t2).bind fun h t3 => (lift (optI h) t3).bind fun h t3 => lift (cutD x l h) t3
  | .tup es, r, t => (evs G cs es r t).bind fun xs t1 => if okLen xs.length then .ok (.tup xs) t1 else .bad
  | .lst es, r, t => (evs G cs es r t).bind fun xs t1 => if okLen xs.length then .ok (.lst xs) t1 else .bad
  | .call c es ks, r, t => (evs G cs es r t).bind fun xs t1 => (evs G cs ks r t1).bind fun ys t2 => G.f 0 c xs ys t2
  | .blt b a, r, t => (ev G cs a r t).bind fun x t1 => lift (blt1 b x) t1
  | .isa a T, r, t => (ev G cs a r t).bind fun x t1 => lift ((isaD x T).map D.bl) t1
  | .comp own elt tg it cd, r, t => (evI G cs it r t).bind fun xs t1 => if okLen xs.length then
      (compL (fun d t => match setT tg d (wipeR r (own.map (·.2))) with
        | some r2 => (evO G cs cd r2 t).bind fun o t => match o with
          | none => (ev G cs elt r2 t).bind fun x t => .ok (some x) t
          | some y => match truD y with
            | some true => (ev G cs elt r2 t).bind fun x t => .ok (some x) t
            | some false => .ok none t
            | none => .bad
        | none => .bad) xs t1).bind fun ys t2 => .ok (.lst ys) t2 else .bad
  | .get a k d, r, t => (ev G cs a r t).bind fun x t1 => match x with
    | .dct kvs => (ev G cs k r t1).bind fun y t2 => (ev G cs d r t2).bind fun z t3 => (match keyD y with
      | some k => .ok ((lookD kvs k).getD z) t3
      | none => .bad)
    | .dcn kvs => (ev G cs k r t1).bind fun y t2 => (ev G cs d r t2).bind fun z t3 => (match keyT y with
      | some k => .ok ((lookN kvs k).getD z) t3
      | none => .bad)
    | _ => .bad
  | .tcount i, r, t => match r[i]? with
    | some (.val .tok) => .ok (.int t.count) t
    | _ => .bad
  | .tget i k d, r, t => match r[i]? with
    | some (.val .tok) => (ev G cs k r t).bind fun y t1 => (ev G cs d r t1).bind fun z t2 => (match y, z with
      | .int a, .int b => .ok (.int ((lkT t2.rests a).getD b)) t2
      | _, _ => .bad)
    | _ => .bad
  | .dsp kvs, r, t => if decide (kvs.length ≤ 15) then .ok (.dct (mergeD [] (kvs.map fun p => (p.1, p.2.d)))) t else .bad
  | .rev a, r, t => (ev G cs a r t).bind fun x t1 => lift (revD x) t1
  | .heard e, r, t => if decide (2 ≤ G.lv) then heardR (ev G.low cs e (valsR r) t) else .bad
  | .isx a n, r, t => (ev G cs a r t).bind fun x t1 => lift (isxD x n) t1
  | .isv a, r, t => (ev G cs a r t).bind fun x t1 => lift (isvD x) t1
  | .idxG g b, r, t => if isSq false (cs g) then (ev G cs b r t).bind fun y t1 => lift (idxD false (cs g) y) t1 else .bad
  | .idx a b, r, t => (ev G cs a r t).bind fun x t1 => if isSq true x then (ev G cs b r t1).bind fun y t2 => lift (idxD true x y) t2 else .bad
  | .comp2 own elt tg it tg1 it1, r, t => (evI G cs it r t).bind fun xs t1 => if okLen xs.length then
      (comp2L (fun d t => match setT tg d (wipeR r (own.map (·.2))) with
        | some r2 => (match evI G cs it1 r2 t with
          | .ok es t1 => if okLen es.length then compL (fun d t => match setT tg1 d (wipeR r2 tg1.slots) with
            | some r3 => (ev G cs elt r3 t).bind fun x t => .ok (some x) t
            | none => .bad) es t1 else .bad
          | _ => .bad)
        | none => .bad) xs t1).bind fun ys t2 => if okLen ys.length then .ok (.lst ys) t2 else .bad else .bad
  | .dn0, r, t => .ok (.dcn []) t
  | .bad, r, t => .bad
  | .sortK a N e, r, t => if decide (2 ≤ G.lv) then (ev G cs a r t).bind fun x t1 => match x with
    | .lst xs => (compL (fun d t => (ev G.low cs e (startR N [d]) t).bind fun x t => .ok (some x) t) xs t1).bind fun ks t2 => if okKeys ks then .ok (.lst (sortD xs ks)) t2 else .bad
    | _ => .bad
    else .bad
  | .dspE ks es, r, t => (evs G cs es r t).bind fun xs t1 => if decide (xs.length ≤ 15) && decide (xs.length = ks.length) && decide (0 < xs.length) then .ok (.dct (mergeD [] (ks.zip xs))) t1 else .bad
def evO (G : Gam) (cs : Nat → D) : O → Rho → Tw → Res (Option D)
  | .none, _, t => .ok none t
  | .some e, r, t => (ev G cs e r t).bind fun x t1 => .ok (some x) t1
def evs (G : Gam) (cs : Nat → D) : Es → Rho → Tw → Res (List D)
  | .nil, _, t => .ok [] t
  | .cons e es, r, t => (ev G cs e r t).bind fun x t1 => (evs G cs es r t1).bind fun xs t2 => .ok (x :: xs) t2
def evI (G : Gam) (cs : Nat → D) : I → Rho → Tw → Res (List D)
  | .val e, r, t => (ev G cs e r t).bind fun x t1 => match x with
    | .tup xs => .ok xs t1
    | .lst xs => .ok xs t1
    | .str x => .ok (strD x) t1
    | _ => .bad
  | .rng1 a, r, t => (ev G cs a r t).bind fun x t1 => match x with
    | .int j => if okRng j then .ok (rngD 0 j.toNat) t1 else .bad
    | _ => .bad
  | .rng2 a b, r, t => (ev G cs a r t).bind fun x t1 => (ev G cs b r t1).bind fun y t2 => match x, y with
    | .int i, .int j => if okRng i && okRng j then .ok (rngD i (j - i).toNat) t2 else .bad
    | _, _ => .bad
  | .zip a b, r, t => (ev G cs a r t).bind fun x t1 => (ev G cs b r t1).bind fun y t2 => match x, y with
    | .tup xs, .tup ys => .ok (zipD xs ys) t2
    | .lst xs, .lst ys => .ok (zipD xs ys) t2
    | _, _ => .bad
  | .enum a, r, t => (ev G cs a r t).bind fun x t1 => match x with
    | .lst xs => .ok (enumD 0 xs) t1
    | _ => .bad
  | .enumT a, r, t => (ev G cs a r t).bind fun x t1 => match x with
    | .tup xs => .ok (enumD 0 xs) t1
    | _ => .bad
  | .zipN a b, r, t => (ev G cs a r t).bind fun x t1 => (ev G cs b r t1).bind fun y t2 => match x, y with
    | .tup xs, .tup ys => .ok (zipD xs ys) t2
    | _, _ => .bad
  | .keys a, r, t => (ev G cs a r t).bind fun x t1 => match x with
    | .dct kvs => .ok (kvs.map fun p => kD p.1) t1
    | .dcn kvs => .ok (kvs.map fun p => kdN p.1) t1
    | _ => .bad
end
/-! ### statements -/
inductive Fl where
  | nx | brk | cont
  | ret (d : D)
def loopF (f : D → Rho → Tw → Res (Fl × Rho)) : List D → Rho → Tw → Res (Fl × Rho)
  | [], r, t => .ok (.nx, r) t
  | d :: ds, r, t => (f d r t).bind fun p t1 => match p with
    | (.nx, r1) => loopF f ds r1 t1
    | (.cont, r1) => loopF f ds r1 t1
    | (.brk, r1) => .ok (.nx, r1) t1
    | (.ret d, r1) => .ok (.ret d, r1) t1
/-- n turns of a while at most; none: they do not suffice -/
def loopN (c : Rho → Tw → Res D) (f : Rho → Tw → Res (Fl × Rho)) : Nat → Rho → Tw → Option (Res (Fl × Rho))
  | 0, _, _ => none
  | n + 1, r, t => match c r t with
    | .exc k t1 => some (.exc k t1)
    | .bad => some .bad
    | .ok x t1 => match truD x with
      | none => some .bad
      | some false => some (.ok (.nx, r) t1)
      | some true => match f r t1 with
        | .exc k t2 => some (.exc k t2)
        | .bad => some .bad
        | .ok (.nx, r1) t2 => loopN c f n r1 t2
        | .ok (.cont, r1) t2 => loopN c f n r1 t2
        | .ok (.brk, r1) t2 => some (.ok (.nx, r1) t2)
        | .ok (.ret d, r1) t2 => some (.ok (.ret d, r1) t2)
open Classical in
/-- a while -/
noncomputable def loopWc (c : Rho → Tw → Res D) (f : Rho → Tw → Res (Fl × Rho)) (r : Rho) (t : Tw) : Res (Fl × Rho) :=
  if h : ∃ n v, loopN c f n r t = some v then h.choose_spec.choose else .bad
theorem loopN_mono {c : Rho → Tw → Res D} {f : Rho → Tw → Res (Fl × Rho)} {n : Nat} : ∀ {m : Nat} {r : Rho} {t : Tw} {v : Res (Fl × Rho)}, loopN c f n r t = some v → n ≤ m → loopN c f m r t = some v := by
  induction n with
  | zero => intro m r t v h _; simp [loopN] at h
  | succ n ih =>
    intro m r t v h hm
    obtain ⟨m, rfl⟩ : ∃ k, m = k + 1 := ⟨m - 1, by omega⟩
    have hm' : n ≤ m := by omega
    simp only [loopN] at h ⊢
    cases hc : c r t with
    | exc k t1 => rw [hc] at h; exact h
    | bad => rw [hc] at h; exact h
    | ok x t1 =>
      rw [hc] at h
      simp only at h ⊢
      cases hx : truD x with
      | none => rw [hx] at h; exact h
      | some b =>
        rw [hx] at h
        cases b with
        | false => exact h
        | true =>
          simp only at h ⊢
          cases hf : f r t1 with
          | exc k t2 => rw [hf] at h; exact h
          | bad => rw [hf] at h; exact h
          | ok p t2 =>
            rw [hf] at h
            obtain ⟨fl, r1⟩ := p
            cases fl with
            | nx => exact ih h hm'
            | cont => exact ih h hm'
            | brk => exact h
            | ret d => exact h
theorem loopWc_of {c : Rho → Tw → Res D} {f : Rho → Tw → Res (Fl × Rho)} {n : Nat} {r : Rho} {t : Tw} {v : Res (Fl × Rho)} (h : loopN c f n r t = some v) : loopWc c f r t = v := by
  unfold loopWc
  have hx : ∃ n v, loopN c f n r t = some v := ⟨n, v, h⟩
  rw [dif_pos hx]
  have h2 := hx.choose_spec.choose_spec
  have e1 := loopN_mono h (Nat.le_max_left n hx.choose)
  have e2 := loopN_mono h2 (Nat.le_max_right n hx.choose)
  rw [e1] at e2
  exact (Option.some.inj e2).symm
theorem loopWc_not {c : Rho → Tw → Res D} {f : Rho → Tw → Res (Fl × Rho)} {r : Rho} {t : Tw} (h : loopWc c f r t ≠ .bad) : ∃ n, loopN c f n r t = some (loopWc c f r t) := by
  unfold loopWc at h ⊢
  by_cases hx : ∃ n v, loopN c f n r t = some v
  · rw [dif_pos hx] at h ⊢
    exact ⟨_, hx.choose_spec.choose_spec⟩
  · rw [dif_neg hx] at h
    exact absurd rfl h
/-- one turn -/
theorem loopWc_eq (c : Rho → Tw → Res D) (f : Rho → Tw → Res (Fl × Rho)) (r : Rho) (t : Tw) : loopWc c f r t = (c r t).bind fun x t1 => match truD x with
    | none => .bad
    | some false => .ok (.nx, r) t1
    | some true => (f r t1).bind fun p t2 => match p with
      | (.nx, r1) => loopWc c f r1 t2
      | (.cont, r1) => loopWc c f r1 t2
      | (.brk, r1) => .ok (.nx, r1) t2
      | (.ret d, r1) => .ok (.ret d, r1) t2 := by
  have key : ∀ r1 t2, (∀ n, loopN c f (n + 1) r t = loopN c f n r1 t2) → loopWc c f r t = loopWc c f r1 t2 := by
    intro r1 t2 h
    by_cases hb : loopWc c f r1 t2 = .bad
    · rw [hb]
      by_cases ha : loopWc c f r t = .bad
      · exact ha
      · obtain ⟨n, hn⟩ := loopWc_not ha
        cases n with
        | zero => simp [loopN] at hn
        | succ n =>
          rw [h n] at hn
          have := loopWc_of hn
          rw [hb] at this
          exact this.symm
    · obtain ⟨n, hn⟩ := loopWc_not hb
      exact loopWc_of (n := n + 1) ((h n).trans hn)
  cases hc : c r t with
  | exc k t1 => exact loopWc_of (n := 1) (by simp [loopN, hc])
  | bad => exact loopWc_of (n := 1) (by simp [loopN, hc])
  | ok x t1 =>
    simp only [Res.bind_ok]
    cases hx : truD x with
    | none => exact loopWc_of (n := 1) (by simp [loopN, hc, hx])
    | some b =>
      cases b with
      | false => exact loopWc_of (n := 1) (by simp [loopN, hc, hx])
      | true =>
        cases hf : f r t1 with
        | exc k t2 => exact loopWc_of (n := 1) (by simp [loopN, hc, hx, hf])
        | bad => exact loopWc_of (n := 1) (by simp [loopN, hc, hx, hf])
        | ok p t2 =>
          obtain ⟨fl, r1⟩ := p
          cases fl with
          | nx => exact key r1 t2 fun n => by simp [loopN, hc, hx, hf]
          | cont => exact key r1 t2 fun n => by simp [loopN, hc, hx, hf]
          | brk => exact loopWc_of (n := 1) (by simp [loopN, hc, hx, hf])
          | ret d => exact loopWc_of (n := 1) (by simp [loopN, hc, hx, hf])
/-- a while, by so many turns if they suffice -/
noncomputable def loopW (c : Rho → Tw → Res D) (f : Rho → Tw → Res (Fl × Rho)) (r : Rho) (t : Tw) : Res (Fl × Rho) := match loopN c f 64 r t with
  | some v => v
  | none => loopWc c f r t
theorem loopW_c (c : Rho → Tw → Res D) (f : Rho → Tw → Res (Fl × Rho)) (r : Rho) (t : Tw) : loopW c f r t = loopWc c f r t := by
  unfold loopW
  split
  · rename_i v e
    exact (loopWc_of e).symm
  · rfl
theorem loopW_of {c : Rho → Tw → Res D} {f : Rho → Tw → Res (Fl × Rho)} {n : Nat} {r : Rho} {t : Tw} {v : Res (Fl × Rho)} (h : loopN c f n r t = some v) : loopW c f r t = v := by
  rw [loopW_c, loopWc_of h]
theorem loopW_not {c : Rho → Tw → Res D} {f : Rho → Tw → Res (Fl × Rho)} {r : Rho} {t : Tw} (h : loopW c f r t ≠ .bad) : ∃ n, loopN c f n r t = some (loopW c f r t) := by
  rw [loopW_c] at h ⊢
  exact loopWc_not h
/-- one turn -/
theorem loopW_eq (c : Rho → Tw → Res D) (f : Rho → Tw → Res (Fl × Rho)) (r : Rho) (t : Tw) : loopW c f r t = (c r t).bind fun x t1 => match truD x with
    | none => .bad
    | some false => .ok (.nx, r) t1
    | some true => (f r t1).bind fun p t2 => match p with
      | (.nx, r1) => loopW c f r1 t2
      | (.cont, r1) => loopW c f r1 t2
      | (.brk, r1) => .ok (.nx, r1) t2
      | (.ret d, r1) => .ok (.ret d, r1) t2 := by
  simp only [loopW_c]
  exact loopWc_eq c f r t
def setAll : List Nat → List D → Rho → Option Rho
  | [], [], r => some r
  | i :: is, d :: ds, r => if decide (i < r.length) then setAll is ds (r.set i (.val d)) else none
  | _, _, _ => none
def okSet (r : Rho) (i : Nat) (s : Sl) (t : Tw) : Res (Fl × Rho) := if decide (i < r.length) then .ok (.nx, r.set i s) t else .bad
mutual
noncomputable def evS (G : Gam) (cs : Nat → D) : S → Rho → Tw → Res (Fl × Rho)
  | .asg tg e, r, t => (ev G cs e r t).bind fun x t1 => lift ((setT tg x r).map fun r1 => (.nx, r1)) t1
  | .par is es, r, t => (evs G cs es r t).bind fun xs t1 => lift ((setAll is xs r).map fun r1 => (.nx, r1)) t1
  | .star i j e, r, t => (ev G cs e r t).bind fun x t1 => match x with
    | .tup (y :: ys) => if decide (i < r.length) && decide (j < r.length) && decide (ys.length < 16384) then .ok (.nx, (r.set i (.val y)).set j (.val (.lst ys))) t1 else .bad
    | _ => .bad
  | .aug i op e, r, t => match r[i]? with
    | some (.val x) => (ev G cs e r t).bind fun y t1 => match x, y with
      | .int _, .int _ => lift ((binD op x y).map fun z => (.nx, r.set i (.val z))) t1
      | _, _ => .bad
    | _ => .bad
  | .ret e, r, t => (ev G cs e r t).bind fun x t1 => .ok (.ret x, r) t1
  | .ite c a b, r, t => (ev G cs c r t).bind fun x t1 => match truD x with
    | some true => evSs G cs a r t1
    | some false => evSs G cs b r t1
    | none => .bad
  | .for tg it b, r, t => (evI G cs it r t).bind fun xs t1 => loopF (fun d r t => match setT tg d r with
    | some r1 => evSs G cs b r1 t
    | none => .bad) xs r t1
  | .while c b, r, t => loopW (fun r t => ev G cs c r t) (fun r t => evSs G cs b r t) r t
  | .exp e, r, t => (ev G cs e r t).bind fun _ t1 => .ok (.nx, r) t1
  | .new i e, r, t => (ev G cs e r t).bind fun x t1 => okSet r i (.own x) t1
  | .app i e, r, t => match r[i]? with
    | some (.own (.lst xs)) => (ev G cs e r t).bind fun x t1 => if decide (xs.length < 16777216) then .ok (.nx, r.set i (.own (.lst (xs ++ [x])))) t1 else .bad
    | _ => .bad
  | .put i k e, r, t => match r[i]? with
    | some (.own (.dct kvs)) => (ev G cs e r t).bind fun x t1 => (ev G cs k r t1).bind fun y t2 => (match keyD y with
      | some k => if decide (kvs.length < 16777216) then .ok (.nx, r.set i (.own (.dct (putD kvs k x)))) t2 else .bad
      | none => .bad)
    | some (.own (.dcn kvs)) => (ev G cs e r t).bind fun x t1 => (ev G cs k r t1).bind fun y t2 => (match keyT y with
      | some k => if decide (kvs.length < 16777216) then .ok (.nx, r.set i (.own (.dcn (putN kvs k x)))) t2 else .bad
      | none => .bad)
    | _ => .bad
  | .upd i e, r, t => match r[i]? with
    | some (.own (.dct kvs)) => (ev G cs e r t).bind fun x t1 => (match x with
      | .dct more => if decide (kvs.length + more.length ≤ 16777216) then .ok (.nx, r.set i (.own (.dct (joinD kvs more)))) t1 else .bad
      | _ => .bad)
    | _ => .bad
  | .ins i k e, r, t => match r[i]? with
    | some (.own (.lst xs)) => (ev G cs k r t).bind fun y t1 => (ev G cs e r t1).bind fun x t2 => (match y with
      | .int j => if decide (0 ≤ j) && decide (j < 2 ^ 63) && decide (xs.length < 16777216) then .ok (.nx, r.set i (.own (.lst (xs.take j.toNat ++ [x] ++ xs.drop j.toNat)))) t2 else .bad
      | _ => .bad)
    | _ => .bad
  | .uns is j es, r, t => (evs G cs es r t).bind fun xs t1 => (match setAll is xs r with
    | some r1 => okSet r1 j (.own (.lst [])) t1
    | none => .bad)
  | .pnl _ j i e, r, t => (ev G cs e r t).bind fun x t1 => if decide (j < r.length) && decide (i < r.length) then .ok (.nx, (r.set j (.own (.lst []))).set i (.val x)) t1 else .bad
  | .putL i k e, r, t => match r[i]? with
    | some (.own (.lst xs)) => (ev G cs e r t).bind fun x t1 => (ev G cs k r t1).bind fun y t2 => (match y with
      | .int j => (match L2.ixN xs.length j with
        | some n => .ok (.nx, r.set i (.own (.lst (xs.set n x)))) t2
        | none => .bad)
      | _ => .bad)
    | _ => .bad
  | .frz i, r, t => match r[i]? with
    | some (.own d) => .ok (.nx, r.set i (.val d)) t
    | some (.val _) => .ok (.nx, r) t
    | _ => .bad
  | .tcnt i e, r, t => match r[i]? with
    | some (.val .tok) => (ev G cs e r t).bind fun x t1 => (match x with
      | .int c => .ok (.nx, r) { t1 with count := c }
      | _ => .bad)
    | _ => .bad
  | .trst i k e, r, t => match r[i]? with
    | some (.val .tok) => (ev G cs e r t).bind fun x t1 => (ev G cs k r t1).bind fun y t2 => (match x, y with
      | .int v, .int a => if decide (t2.rests.length < 1000000) then .ok (.nx, r) { t2 with rests := putT t2.rests a v } else .bad
      | _, _ => .bad)
    | _ => .bad
  | .brk, r, t => .ok (.brk, r) t
  | .cont, r, t => .ok (.cont, r) t
  | .raise n _, _, t => .exc n t
  | .bad, _, _ => .bad
noncomputable def evSs (G : Gam) (cs : Nat → D) : Ss → Rho → Tw → Res (Fl × Rho)
  | .nil, r, t => .ok (.nx, r) t
  | .cons s ss, r, t => (evS G cs s r t).bind fun p t1 => match p with
    | (.nx, r1) => evSs G cs ss r1 t1
    | q => .ok q t1
end
end Fm

/-! ### a value bears a datum; the state bears an environment -/
namespace Fm
open PySem PySem.Spec PyProof.Rows L2
/-- where the town (a, its rests b) and the script stand, the script's ints -/
structure Tn where
  a : Addr
  b : Addr
  s : Addr
  ns : List Int
  tabs : List (Addr × Str)
  cl : Nat → Addr
  pg : Program
  wo : World
/-- a caught exception of the class cls, at a -/
def ExI (cls : Value) (a : Addr) : HO := .ext fun h => ∃ (oe : Obj) (vs : Array Value), h.get? a = some oe ∧ Zc cls none oe ∧ oe.data = .fields vs

/-- a dict whose keys are tuples, nested; at a -/
def DN (pg : Program) (wo : World) (a : Addr) (xs : List (NestedKey × Addr × Value)) : HO := .ext fun h => ∃ o es ep, h.get? a = some o ∧ o.ExactDict ∧ o.data = .dict es ep ∧ es.toList = xs.map (entryOfKey (nestedKind pg wo)) ∧ (xs.map (·.1)).Nodup
/-- a tuple whose object is told to have no __dict__ -/
def NoD (K : PySem.W.Frag) (F : Hp) (a : Addr) : Prop := (∃ o xs, F a = some (.frz o (.tup xs)) ∧ o.dict = none) ∨ ∃ o, K.lookup a = some o ∧ o.dict = none
def SqP (K : PySem.W.Frag) (F : Hp) (a : Addr) (xs : List V) : Prop := SqT K F a xs ∧ NoD K F a
mutual
inductive Rp (K : PySem.W.Frag) (T : Tn) (F : Hp) : V → D → Prop
  | non : Rp K T F .non .non
  | bl (b : Bool) : Rp K T F (.bl b) (.bl b)
  | int (i : Int) : Rp K T F (.int i) (.int i)
  | str (x : Str) : Rp K T F (.str x) (.str x)
  | tup {a : Addr} {xs : List V} {ds : List D} : SqP K F a xs → xs.length ≤ sizeLine → RpL K T F xs ds → Rp K T F (.ref a) (.tup ds)
  | lst {a : Addr} {xs : List V} {ds : List D} : F a = some (.lst xs) → xs.length ≤ sizeLine → RpL K T F xs ds → Rp K T F (.ref a) (.lst ds)
  | dct {a : Addr} {o : Obj} {kvs : List (Key × V)} {es : List (Key × D)} : F a = some (.frz o (.dK kvs)) → kvs.length ≤ sizeLine → RpK K T F kvs es → Rp K T F (.ref a) (.dct es)
  | dcn {a : Addr} {o : Obj} {xs : List (NestedKey × Addr × Value)} {es : List (NestedKey × D)} : F a = some (.frz o (DN T.pg T.wo a xs)) → (a == sysModules) = false ∧ (xs.map (·.1)).Nodup → xs.length ≤ sizeLine → RpN K T F xs es → Rp K T F (.ref a) (.dcn es)
  | exc {a : Addr} (n : Nat) : F a = some (ExI (.ref (T.cl n)) a) → Rp K T F (.ref a) (.exc n)
  | tok : Rp K T F (.ref T.a) .tok
  | scr : Rp K T F (.ref T.s) (.scr T.ns)
inductive RpL (K : PySem.W.Frag) (T : Tn) (F : Hp) : List V → List D → Prop
  | nil : RpL K T F [] []
  | cons {v : V} {vs : List V} {d : D} {ds : List D} : Rp K T F v d → RpL K T F vs ds → RpL K T F (v :: vs) (d :: ds)
inductive RpK (K : PySem.W.Frag) (T : Tn) (F : Hp) : List (Key × V) → List (Key × D) → Prop
  | nil : RpK K T F [] []
  | cons {k : Key} {v : V} {kvs : List (Key × V)} {d : D} {es : List (Key × D)} : Rp K T F v d → RpK K T F kvs es → RpK K T F ((k, v) :: kvs) ((k, d) :: es)
inductive RpN (K : PySem.W.Frag) (T : Tn) (F : Hp) : List (NestedKey × Addr × Value) → List (NestedKey × D) → Prop
  | nil : RpN K T F [] []
  | cons {k : NestedKey} {b : Addr} {u : Value} {v : V} {xs : List (NestedKey × Addr × Value)} {d : D} {es : List (NestedKey × D)} : Rp K T F (.ref b) (kdN k) → k.depth ≤ 8 → RelV v u → Rp K T F v d → RpN K T F xs es → RpN K T F ((k, b, u) :: xs) ((k, d) :: es)
end
theorem noD_mono {K : PySem.W.Frag} {F F' : Hp} {a : Addr} (e : Same F F') (h : NoD K F a) : NoD K F' a := by
  rcases h with ⟨o, xs, h, n⟩ | h
  · exact .inl ⟨o, xs, e _ _ h, n⟩
  · exact .inr h
theorem sqT_mono {K : PySem.W.Frag} {F F' : Hp} {a : Addr} {xs : List V} (e : Same F F') (h : SqT K F a xs) : SqT K F' a xs := by
  rcases h with h | h
  · rcases h with h | ⟨o, h⟩
    · exact .inl (.inl (e _ _ h))
    · exact .inl (.inr ⟨o, e _ _ h⟩)
  · exact .inr h
theorem sqP_t {K : PySem.W.Frag} {F F' : Hp} {a : Addr} {xs : List V} (e : Same F F') (h : SqP K F a xs) : SqT K F' a xs := sqT_mono e h.1
theorem sqL_mono {K : PySem.W.Frag} {F F' : Hp} {a : Addr} {xs : List V} (e : Same F F') (h : SqL K F a xs) : SqL K F' a xs := by
  rcases h with h | h
  · rcases h with h | ⟨o, h⟩
    · exact .inl (.inl (e _ _ h))
    · exact .inl (.inr ⟨o, e _ _ h⟩)
  · exact .inr h
section
variable {K : PySem.W.Frag} {T : Tn} {F F' H : Hp}
mutual
theorem Rp.mono (e : Same F F') : ∀ {v : V} {d : D}, Rp K T F v d → Rp K T F' v d
  | _, _, .non => .non
  | _, _, .bl b => .bl b
  | _, _, .int i => .int i
  | _, _, .str x => .str x
  | _, _, .tup h z r => .tup ⟨sqT_mono e h.1, noD_mono e h.2⟩ z (r.mono e)
  | _, _, .lst h z r => .lst (e _ _ h) z (r.mono e)
  | _, _, .dct h z r => .dct (e _ _ h) z (r.mono e)
  | _, _, .dcn h y z r => .dcn (e _ _ h) y z (r.mono e)
  | _, _, .exc n h => .exc n (e _ _ h)
  | _, _, .tok => .tok
  | _, _, .scr => .scr
theorem RpL.mono (e : Same F F') : ∀ {v : List V} {d : List D}, RpL K T F v d → RpL K T F' v d
  | _, _, .nil => .nil
  | _, _, .cons h r => .cons (h.mono e) (r.mono e)
theorem RpK.mono (e : Same F F') : ∀ {v : List (Key × V)} {d : List (Key × D)}, RpK K T F v d → RpK K T F' v d
  | _, _, .nil => .nil
  | _, _, .cons h r => .cons (h.mono e) (r.mono e)
theorem RpN.mono (e : Same F F') : ∀ {v : List (NestedKey × Addr × Value)} {d : List (NestedKey × D)}, RpN K T F v d → RpN K T F' v d
  | _, _, .nil => .nil
  | _, _, .cons h y z q r => .cons (h.mono e) y z (q.mono e) (r.mono e)
end
theorem RpL.length : ∀ {vs : List V} {ds : List D}, RpL K T F vs ds → vs.length = ds.length
  | _, _, .nil => rfl
  | _, _, .cons _ r => congrArg Nat.succ r.length
theorem RpK.length : ∀ {vs : List (Key × V)} {ds : List (Key × D)}, RpK K T F vs ds → vs.length = ds.length
  | _, _, .nil => rfl
  | _, _, .cons _ r => congrArg Nat.succ r.length
theorem RpL.get : ∀ {vs : List V} {ds : List D}, RpL K T F vs ds → ∀ {i : Nat} {d : D}, ds[i]? = some d → ∃ v, vs[i]? = some v ∧ Rp K T F v d
  | _, _, .nil, i, d, h => by simp at h
  | _, _, .cons h r, 0, d, e => by
    have e2 := Option.some.inj (show some _ = some d from e)
    subst e2
    exact ⟨_, rfl, h⟩
  | _, _, .cons h r, i + 1, d, e => r.get (i := i) e
theorem RpL.get' : ∀ {vs : List V} {ds : List D}, RpL K T F vs ds → ∀ {i : Nat} {v : V}, vs[i]? = some v → ∃ d, ds[i]? = some d ∧ Rp K T F v d
  | _, _, .nil, i, d, h => by simp at h
  | _, _, .cons h r, 0, d, e => by
    have e2 := Option.some.inj (show some _ = some d from e)
    subst e2
    exact ⟨_, rfl, h⟩
  | _, _, .cons h r, i + 1, d, e => r.get' (i := i) e
theorem RpL.append : ∀ {vs ws : List V} {ds es : List D}, RpL K T F vs ds → RpL K T F ws es → RpL K T F (vs ++ ws) (ds ++ es)
  | _, _, _, _, .nil, q => q
  | _, _, _, _, .cons h r, q => .cons h (r.append q)
theorem RpL.take : ∀ {vs : List V} {ds : List D} (n : Nat), RpL K T F vs ds → RpL K T F (vs.take n) (ds.take n)
  | _, _, 0, _ => .nil
  | _, _, _ + 1, .nil => .nil
  | _, _, n + 1, .cons h r => .cons h (r.take n)
theorem RpL.drop : ∀ {vs : List V} {ds : List D} (n : Nat), RpL K T F vs ds → RpL K T F (vs.drop n) (ds.drop n)
  | _, _, 0, r => r
  | _, _, _ + 1, .nil => .nil
  | _, _, n + 1, .cons h r => r.drop n
theorem RpL.set {v : V} {d : D} (h : Rp K T F v d) : ∀ {vs : List V} {ds : List D} (n : Nat), RpL K T F vs ds → RpL K T F (vs.set n v) (ds.set n d)
  | _, _, _, .nil => .nil
  | _, _, 0, .cons _ r => .cons h r
  | _, _, n + 1, .cons q r => .cons q (RpL.set h n r)
theorem RpL.intsOf : ∀ {vs : List V} {ds : List D} {ns : List Int}, RpL K T F vs ds → intsD ds = some ns → vs = ns.map V.int
  | _, _, ns, .nil, h => by
    simp only [intsD, Option.some.injEq] at h
    subst h
    rfl
  | _, _, ns, @RpL.cons _ _ _ v vs d ds h r, e => by
    cases h with
    | int i =>
      simp only [intsD, Option.map_eq_some_iff] at e
      obtain ⟨ms, e1, e2⟩ := e
      subst e2
      rw [r.intsOf e1]
      rfl
    | _ => simp [intsD] at e
theorem RpL.blsOf : ∀ {vs : List V} {ds : List D} {ns : List Bool}, RpL K T F vs ds → bls ds = some ns → vs = ns.map V.bl
  | _, _, ns, .nil, h => by
    simp only [bls, Option.some.injEq] at h
    subst h
    rfl
  | _, _, ns, @RpL.cons _ _ _ v vs d ds h r, e => by
    cases h with
    | bl i =>
      simp only [bls, Option.map_eq_some_iff] at e
      obtain ⟨ms, e1, e2⟩ := e
      subst e2
      rw [r.blsOf e1]
      rfl
    | _ => simp [bls] at e
theorem RpL.ofInts : ∀ (ns : List Int), RpL K T F (ns.map V.int) (ns.map D.int)
  | [] => .nil
  | n :: ns => .cons (.int n) (RpL.ofInts ns)
/-- data of any depth, as the library has it -/
theorem lay_cons {x : D} {xs : List D} (h : PyData.canLayAll0 (pys (x :: xs)) = true) : lay x = true ∧ PyData.canLayAll0 (pys xs) = true := by
  have h2 : (PyData.canLay0 x.py && PyData.canLayAll0 (pys xs)) = true := by
    simpa only [pys, PyData.canLayAll0] using h
  exact Bool.and_eq_true_iff.mp h2
mutual
theorem Rp.dp (s : Same F H) : ∀ {v : V} {d : D}, Rp K T F v d → lay d = true → Dp K H v d.py
  | _, _, .non, _ => .non
  | _, _, .bl b, _ => .bl b
  | _, _, .int i, _ => .int i
  | _, _, .str x, _ => .str x
  | _, _, .tup h z r, l => .tup (sqT_mono s h.1) (r.dp s (by simpa only [lay, D.py, PyData.canLay0] using l))
  | _, _, .lst h z r, l => .lst (SqL.of (s _ _ h)) (r.dp s (by simpa only [lay, D.py, PyData.canLay0] using l))
  | _, _, .dct h z r, l => by simp [lay, D.py, PyData.canLay0] at l
  | _, _, .dcn h y z r, l => by simp [lay, D.py, PyData.canLay0] at l
  | _, _, .exc n h, l => by simp [lay, D.py, PyData.canLay0] at l
  | _, _, .tok, l => by simp [lay, D.py, PyData.canLay0] at l
  | _, _, .scr, l => by simp [lay, D.py, PyData.canLay0] at l
theorem RpL.dp (s : Same F H) : ∀ {v : List V} {d : List D}, RpL K T F v d → PyData.canLayAll0 (pys d) = true → DpAll K H v (pys d)
  | _, _, .nil, _ => .nil
  | _, _, .cons h r, l => .cons (h.dp s (lay_cons l).1) (r.dp s (lay_cons l).2)
end
end
/-! ### the state -/
theorem tabs_upd {T : List (Addr × Str)} {H : Hp} {p : Addr} {o : HO} (t : LamX.Tabs T H) (n1 : ∀ ps, H p ≠ some (.tbl ps)) (n2 : ∀ c q, H p ≠ some (LamX.CodeO c q)) : LamX.Tabs T (upd H p o) := fun x hx => by
  obtain ⟨ps, h1, h2, h3⟩ := t x hx
  refine ⟨ps, ?_, h2, fun pos cv hc => ?_⟩
  · rw [upd_ne (fun z => n1 ps (by rw [← z]; exact h1))]
    exact h1
  · obtain ⟨c, e1, e2⟩ := h3 pos cv hc
    refine ⟨c, e1, ?_⟩
    rw [upd_ne (fun z => n2 c x.2 (by rw [← z]; exact e2))]
    exact e2
theorem tabs_none {T : List (Addr × Str)} {H : Hp} {p : Addr} {o : HO} (t : LamX.Tabs T H) (h : H p = none) : LamX.Tabs T (upd H p o) := tabs_upd t (fun ps z => by rw [h] at z; cases z) fun c q z => by rw [h] at z; cases z
theorem tabs_lst {T : List (Addr × Str)} {H : Hp} {p : Addr} {o : HO} {xs : List V} (t : LamX.Tabs T H) (h : H p = some (.lst xs)) : LamX.Tabs T (upd H p o) := tabs_upd t (fun ps z => by rw [h] at z; cases z) fun c q z => by rw [h] at z; cases z
theorem tabs_dK {T : List (Addr × Str)} {H : Hp} {p : Addr} {o : HO} {xs : List (Key × V)} (t : LamX.Tabs T H) (h : H p = some (.dK xs)) : LamX.Tabs T (upd H p o) := tabs_upd t (fun ps z => by rw [h] at z; cases z) fun c q z => by rw [h] at z; cases z
theorem dn_ne {pg : Program} {wo : World} {p : Addr} {xs : List (NestedKey × Addr × Value)} (hn : (xs.map (·.1)).Nodup) (c : Addr) (q : Str) : DN pg wo p xs ≠ LamX.CodeO c q := fun e => by
  have e := HO.ext.inj e
  have h1 : (fun h : Heap => ∃ o es ep, h.get? p = some o ∧ o.ExactDict ∧ o.data = .dict es ep ∧ es.toList = xs.map (entryOfKey (nestedKind pg wo)) ∧ (xs.map (·.1)).Nodup) { objs := Array.replicate (p + 1) { cls := .type "dict", data := .dict (xs.map (entryOfKey (nestedKind pg wo))).toArray 0 } } := by
    refine ⟨{ cls := .type "dict", data := .dict (xs.map (entryOfKey (nestedKind pg wo))).toArray 0 }, (xs.map (entryOfKey (nestedKind pg wo))).toArray, 0, ?_, ⟨rfl, rfl, rfl⟩, rfl, by simp, hn⟩
    unfold Heap.get?
    simp
  rw [e] at h1
  obtain ⟨oc, vs, t, h2, h3, _⟩ := h1
  unfold Heap.get? at h2
  simp only [Array.getElem?_replicate] at h2
  split at h2
  · rename_i hz
    split at hz <;> cases hz
  · split at h2
    · cases h2
      cases h3
    · cases h2
theorem tabs_dn {T : List (Addr × Str)} {H : Hp} {p : Addr} {o : HO} {pg : Program} {wo : World} {xs : List (NestedKey × Addr × Value)} (t : LamX.Tabs T H) (h : H p = some (DN pg wo p xs)) (hn : (xs.map (·.1)).Nodup) : LamX.Tabs T (upd H p o) := tabs_upd t (fun ps z => by rw [h] at z; cases z) fun c q z => by
  rw [h] at z
  exact dn_ne hn c q (Option.some.inj z)
/-- no table of a code object -/
def NT (o : HO) : Prop := ∀ ps, o ≠ .tbl ps
/-- nothing stands there, but it be a table -/
def Nn (H : Hp) (a : Addr) : Prop := ∀ o, H a = some o → ∃ ps, o = .tbl ps
theorem Nn.of {H : Hp} {a : Addr} (h : H a = none) : Nn H a := fun o e => by rw [h] at e; cases e
theorem Nn.no {H : Hp} {a : Addr} {o : HO} (h : Nn H a) (e : H a = some o) (n : NT o) : False := let ⟨ps, z⟩ := h o e; n ps z
theorem Nn.upd {H : Hp} {p b : Addr} {o : HO} (h : Nn (L2.upd H p o) b) (n : NT o) : Nn H b ∧ b ≠ p := by
  by_cases e : b = p
  · subst e
    exact (h.no upd_same n).elim
  · exact ⟨fun x z => h x (by rw [upd_ne e]; exact z), e⟩
theorem Nn.upd0 {H : Hp} {p b : Addr} {o : HO} (h : Nn (L2.upd H p o) b) (n : H p = none) : Nn H b := by
  by_cases e : b = p
  · subst e
    exact .of n
  · exact fun x z => h x (by rw [upd_ne e]; exact z)
/-- the town stands in the heap -/
structure Town (T : Tn) (t : Tw) (H : Hp) : Prop where
  a : H T.a = some (.dK [(.inr "count", .int t.count), (.inr "rests", .ref T.b)])
  b : H T.b = some (.dK (t.rests.map fun p => (.inl p.1, .int p.2)))
  ne : T.a ≠ T.b
  small : t.rests.length ≤ 1000000
/-- the heap's part: F0, H0 what was frozen, what stood at the entry; F what is frozen now -/
structure RelH (K : PySem.W.Frag) (T : Tn) (F0 H0 F : Hp) (t : Tw) (H : Hp) : Prop where
  sub : Same F H
  new : ∀ a o, F a = some o → F0 a = some o ∨ Nn H0 a
  base : Same F0 F
  old : ∀ a o, H0 a = some o → a ≠ T.a → a ≠ T.b → NT o → H a = some o
  had : ∀ a, Nn H a → Nn H0 a
  tw : Town T t H
  tF1 : F T.a = none
  tF2 : F T.b = none
  sc : SqL K F T.s (T.ns.map V.int)
  tabs : LamX.Tabs T.tabs H
  nt : ∀ a o, F a = some o → NT o
/-- an object of the def's own -/
def OwnAt (K : PySem.W.Frag) (T : Tn) (F H : Hp) (p : Addr) : D → Prop
  | .lst ds => ∃ vs, H p = some (.lst vs) ∧ vs.length ≤ sizeLine ∧ RpL K T F vs ds
  | .dct es => ∃ kvs, H p = some (.dK kvs) ∧ kvs.length ≤ sizeLine ∧ RpK K T F kvs es
  | .dcn es => ∃ xs, H p = some (DN T.pg T.wo p xs) ∧ ((p == sysModules) = false ∧ (xs.map (·.1)).Nodup) ∧ xs.length ≤ sizeLine ∧ RpN K T F xs es
  | _ => False
structure Own (K : PySem.W.Frag) (T : Tn) (H0 F H : Hp) (p : Addr) (d : D) : Prop where
  fr : F p = none
  n1 : p ≠ T.a
  n2 : p ≠ T.b
  h0 : Nn H0 p
  at_ : OwnAt K T F H p d
structure Rel (K : PySem.W.Frag) (T : Tn) (F0 H0 F : Hp) (r : Rho) (t : Tw) (σ : L2.St) (H : Hp) : Prop extends RelH K T F0 H0 F t H where
  len : r.length = σ.length
  val : ∀ (i : Nat) (d : D), r[i]? = some (.val d) → ∃ v, σ[i]? = some (some v) ∧ Rp K T F v d
  own : ∀ (i : Nat) (d : D), r[i]? = some (.own d) → ∃ p, σ[i]? = some (some (.ref p)) ∧ Own K T H0 F H p d
  inj : ∀ (i j : Nat) (d e : D) (p : Addr), r[i]? = some (.own d) → r[j]? = some (.own e) → σ[i]? = some (some (.ref p)) → σ[j]? = some (some (.ref p)) → i = j
section
variable {K : PySem.W.Frag} {T : Tn} {F0 H0 F F' F1 H H' H1 : Hp} {r : Rho} {t t' : Tw} {σ : L2.St}
theorem OwnAt.obj {p : Addr} {d : D} (h : OwnAt K T F H p d) : ∃ o, H p = some o ∧ NT o := by
  cases d with
  | lst ds =>
    obtain ⟨vs, h, _⟩ := h
    exact ⟨_, h, fun _ z => by cases z⟩
  | dct es =>
    obtain ⟨vs, h, _⟩ := h
    exact ⟨_, h, fun _ z => by cases z⟩
  | dcn es =>
    obtain ⟨vs, h, _⟩ := h
    exact ⟨_, h, fun _ z => by cases z⟩
  | _ => exact h.elim
theorem OwnAt.keep {p : Addr} {d : D} (h : OwnAt K T F H p d) (s : Same F F') (e : ∀ o, H p = some o → H' p = some o) : OwnAt K T F' H' p d := by
  cases d with
  | lst ds =>
    obtain ⟨vs, h, z, q⟩ := h
    exact ⟨vs, e _ h, z, q.mono s⟩
  | dct es =>
    obtain ⟨vs, h, z, q⟩ := h
    exact ⟨vs, e _ h, z, q.mono s⟩
  | dcn es =>
    obtain ⟨vs, h, y, z, q⟩ := h
    exact ⟨vs, e _ h, y, z, q.mono s⟩
  | _ => exact h.elim
theorem RelH.refl (a : RelH K T F0 H0 F t H) : RelH K T F H F t H :=
  ⟨a.sub, fun _ _ h => .inl h, Same.refl F, fun _ _ h _ _ _ => h, fun _ h => h, a.tw, a.tF1, a.tF2, a.sc, a.tabs, a.nt⟩
theorem RelH.trans (a : RelH K T F0 H0 F t H) (b : RelH K T F H F' t' H') : RelH K T F0 H0 F' t' H' := by
  refine ⟨b.sub, fun c o h => ?_, a.base.trans b.base, fun c o h n1 n2 n3 => b.old c o (a.old c o h n1 n2 n3) n1 n2 n3, fun c h => a.had c (b.had c h), b.tw, b.tF1, b.tF2, b.sc, b.tabs, b.nt⟩
  rcases b.new c o h with q | q
  · exact a.new c o q
  · exact .inr (a.had c q)
/-- behind something that touched nothing of ours -/
theorem Rel.step (a : Rel K T F0 H0 F r t σ H) (b : RelH K T F H F' t' H') : Rel K T F0 H0 F' r t' σ H' := by
  refine ⟨a.toRelH.trans b, a.len, fun i d h => ?_, fun i d h => ?_, a.inj⟩
  · obtain ⟨v, e, q⟩ := a.val i d h
    exact ⟨v, e, q.mono b.base⟩
  · obtain ⟨p, e, q⟩ := a.own i d h
    obtain ⟨o, ho, hnt⟩ := q.at_.obj
    refine ⟨p, e, ⟨?_, q.n1, q.n2, q.h0, q.at_.keep b.base fun o' h => b.old p o' h q.n1 q.n2 (by rw [ho] at h; cases h; exact hnt)⟩⟩
    cases z : F' p with
    | none => rfl
    | some u =>
      rcases b.new p u z with z | z
      · rw [q.fr] at z
        cases z
      · exact (z.no ho hnt).elim
theorem upd_none {H : Hp} {p b : Addr} {o : HO} (h : upd H p o b = none) : H b = none ∧ b ≠ p := by
  by_cases e : b = p
  · subst e
    rw [upd_same] at h
    cases h
  · rw [upd_ne e] at h
    exact ⟨h, e⟩
theorem same_new {H : Hp} {p : Addr} {o : HO} (h : H p = none) : Same H (upd H p o) := fun b x e => by
  rw [upd_ne (ne_of_none e h)]
  exact e
/-- a new object, frozen at once -/
theorem RelH.newF {p : Addr} {o : HO} (a : RelH K T F0 H0 F t H) (hp : H p = none) (ho : NT o := by intro _ z; cases z) : RelH K T F H (upd F p o) t (upd H p o) := by
  have fp : F p = none := a.sub.free hp
  have n1 : p ≠ T.a := fun e => by
    rw [e, a.tw.a] at hp
    cases hp
  have n2 : p ≠ T.b := fun e => by
    rw [e, a.tw.b] at hp
    cases hp
  refine ⟨fun b x e => ?_, fun b x e => ?_, same_new fp, fun b x e _ _ _ => same_new hp b x e, fun b h => h.upd0 hp, ⟨?_, ?_, a.tw.ne, a.tw.small⟩, ?_, ?_, sqL_mono (same_new fp) a.sc, tabs_none a.tabs hp, fun b x e => ?_⟩
  · by_cases hb : b = p
    · subst hb
      rw [upd_same] at e ⊢
      exact e
    · rw [upd_ne hb] at e ⊢
      exact a.sub b x e
  · by_cases hb : b = p
    · subst hb
      exact .inr (.of hp)
    · rw [upd_ne hb] at e
      exact .inl e
  · rw [upd_ne (Ne.symm n1)]
    exact a.tw.a
  · rw [upd_ne (Ne.symm n2)]
    exact a.tw.b
  · rw [upd_ne (Ne.symm n1)]
    exact a.tF1
  · rw [upd_ne (Ne.symm n2)]
    exact a.tF2
  · by_cases hb : b = p
    · rw [hb, upd_same] at e
      cases e
      exact ho
    · rw [upd_ne hb] at e
      exact a.nt b x e
/-- a new object, not frozen -/
theorem RelH.newO {p : Addr} {o : HO} (a : RelH K T F0 H0 F t H) (hp : H p = none) : RelH K T F H F t (upd H p o) := by
  have n1 : p ≠ T.a := fun e => by
    rw [e, a.tw.a] at hp
    cases hp
  have n2 : p ≠ T.b := fun e => by
    rw [e, a.tw.b] at hp
    cases hp
  refine ⟨a.sub.trans (same_new hp), fun b x e => .inl e, Same.refl F, fun b x e _ _ _ => same_new hp b x e, fun b h => h.upd0 hp, ⟨?_, ?_, a.tw.ne, a.tw.small⟩, a.tF1, a.tF2, a.sc, tabs_none a.tabs hp, a.nt⟩
  · rw [upd_ne (Ne.symm n1)]
    exact a.tw.a
  · rw [upd_ne (Ne.symm n2)]
    exact a.tw.b
/-- what stands, and is nobody's, is frozen -/
theorem RelH.freeze {p : Addr} {o : HO} (a : RelH K T F0 H0 F t H) (hp : H p = some o) (ho : NT o) (f : F p = none) (h0 : Nn H0 p) (n1 : p ≠ T.a) (n2 : p ≠ T.b) : RelH K T F0 H0 (upd F p o) t H := by
  refine ⟨fun b x e => ?_, fun b x e => ?_, a.base.trans (same_new f), a.old, a.had, a.tw, ?_, ?_, sqL_mono (same_new f) a.sc, a.tabs, fun b x e => ?_⟩
  · by_cases hb : b = p
    · subst hb
      rw [upd_same] at e
      cases e
      exact hp
    · rw [upd_ne hb] at e
      exact a.sub b x e
  · by_cases hb : b = p
    · subst hb
      exact .inr h0
    · rw [upd_ne hb] at e
      exact a.new b x e
  · rw [upd_ne (Ne.symm n1)]
    exact a.tF1
  · rw [upd_ne (Ne.symm n2)]
    exact a.tF2
  · by_cases hb : b = p
    · rw [hb, upd_same] at e
      cases e
      exact ho
    · rw [upd_ne hb] at e
      exact a.nt b x e
theorem Rel.freeze {p : Addr} {o : HO} (a : Rel K T F0 H0 F r t σ H) (hp : H p = some o) (ho : NT o) (f : F p = none) (h0 : Nn H0 p) (n1 : p ≠ T.a) (n2 : p ≠ T.b) (no : ∀ (i : Nat) (d : D), r[i]? = some (.own d) → σ[i]? ≠ some (some (.ref p))) :
    Rel K T F0 H0 (upd F p o) r t σ H := by
  refine ⟨a.toRelH.freeze hp ho f h0 n1 n2, a.len, fun i d h => ?_, fun i d h => ?_, a.inj⟩
  · obtain ⟨v, e, q⟩ := a.val i d h
    exact ⟨v, e, q.mono (same_new f)⟩
  · obtain ⟨q, e, w⟩ := a.own i d h
    have nq : q ≠ p := fun z => no i d h (z ▸ e)
    exact ⟨q, e, ⟨by rw [upd_ne nq]; exact w.fr, w.n1, w.n2, w.h0, w.at_.keep (same_new f) fun o h => h⟩⟩
/-- a dict is locked, and frozen -/
theorem Rel.lockF {p : Addr} {od : Obj} {u : HO} (a : Rel K T F0 H0 F r t σ H) (ht : LamX.Tabs T.tabs (upd H p (.frz od u))) (f : F p = none) (h0 : Nn H0 p) (n1 : p ≠ T.a) (n2 : p ≠ T.b) (no : ∀ (i : Nat) (d : D), r[i]? = some (.own d) → σ[i]? ≠ some (some (.ref p))) :
    Rel K T F0 H0 (upd F p (.frz od u)) r t σ (upd H p (.frz od u)) := by
  have nF : ∀ b x, F b = some x → b ≠ p := fun b x e z => by
    rw [z, f] at e
    cases e
  refine ⟨⟨fun b x e => ?_, fun b x e => ?_, a.base.trans (same_new f), fun b x e m1 m2 m3 => ?_, fun b e => a.had b (e.upd (by intro _ z; cases z)).1, ⟨?_, ?_, a.tw.ne, a.tw.small⟩, ?_, ?_, sqL_mono (same_new f) a.sc, ht, fun b x e => ?_⟩, a.len, fun i d h => ?_, fun i d h => ?_, a.inj⟩
  · by_cases hb : b = p
    · rw [hb, upd_same] at e ⊢
      exact e
    · rw [upd_ne hb] at e ⊢
      exact a.sub b x e
  · by_cases hb : b = p
    · rw [hb]
      exact .inr h0
    · rw [upd_ne hb] at e
      exact a.new b x e
  · rw [upd_ne (fun z => h0.no (by rw [← z]; exact e) m3)]
    exact a.old b x e m1 m2 m3
  · rw [upd_ne (Ne.symm n1)]
    exact a.tw.a
  · rw [upd_ne (Ne.symm n2)]
    exact a.tw.b
  · rw [upd_ne (Ne.symm n1)]
    exact a.tF1
  · rw [upd_ne (Ne.symm n2)]
    exact a.tF2
  · by_cases hb : b = p
    · rw [hb, upd_same] at e
      cases e
      intro _ z
      cases z
    · rw [upd_ne hb] at e
      exact a.nt b x e
  · obtain ⟨v, e, q⟩ := a.val i d h
    exact ⟨v, e, q.mono (same_new f)⟩
  · obtain ⟨q, e, w⟩ := a.own i d h
    have nq : q ≠ p := fun z => no i d h (z ▸ e)
    exact ⟨q, e, ⟨by rw [upd_ne nq]; exact w.fr, w.n1, w.n2, w.h0, w.at_.keep (same_new f) fun o h => by rw [upd_ne nq]; exact h⟩⟩
/-- a slot forgotten, a slot set -/
theorem Rel.setVal {i : Nat} {v : V} {d : D} (a : Rel K T F0 H0 F r t σ H) (h : Rp K T F v d) : Rel K T F0 H0 F (r.set i (.val d)) t (σ.set i (some v)) H := by
  refine ⟨a.toRelH, by simpa using a.len, fun j e h2 => ?_, fun j e h2 => ?_, fun j k e1 e2 p h1 h2 h3 h4 => ?_⟩
  · by_cases hj : i = j
    · subst hj
      by_cases hi : i < r.length
      · rw [List.getElem?_set_self hi] at h2
        cases h2
        exact ⟨v, List.getElem?_set_self (by rw [← a.len]; exact hi), h⟩
      · rw [List.getElem?_eq_none (by simpa using hi)] at h2
        cases h2
    · rw [List.getElem?_set_ne hj] at h2 ⊢
      exact a.val j e h2
  · by_cases hj : i = j
    · subst hj
      by_cases hi : i < r.length
      · rw [List.getElem?_set_self hi] at h2
        cases h2
      · rw [List.getElem?_eq_none (by simpa using hi)] at h2
        cases h2
    · rw [List.getElem?_set_ne hj] at h2 ⊢
      exact a.own j e h2
  · have nj : ∀ {j : Nat} {e : D}, (r.set i (.val d))[j]? = some (.own e) → i ≠ j := fun {j e} q z => by
      subst z
      by_cases hi : i < r.length
      · rw [List.getElem?_set_self hi] at q
        cases q
      · rw [List.getElem?_eq_none (by simpa using hi)] at q
        cases q
    have n1 := nj h1
    have n2 := nj h2
    rw [List.getElem?_set_ne n1] at h1 h3
    rw [List.getElem?_set_ne n2] at h2 h4
    exact a.inj j k e1 e2 p h1 h2 h3 h4
theorem Rel.setUn {i : Nat} (a : Rel K T F0 H0 F r t σ H) : Rel K T F0 H0 F (r.set i .un) t (σ.set i none) H := by
  refine ⟨a.toRelH, by simpa using a.len, fun j e h2 => ?_, fun j e h2 => ?_, fun j k e1 e2 p h1 h2 h3 h4 => ?_⟩
  · by_cases hj : i = j
    · subst hj
      by_cases hi : i < r.length
      · rw [List.getElem?_set_self hi] at h2
        cases h2
      · rw [List.getElem?_eq_none (by simpa using hi)] at h2
        cases h2
    · rw [List.getElem?_set_ne hj] at h2 ⊢
      exact a.val j e h2
  · by_cases hj : i = j
    · subst hj
      by_cases hi : i < r.length
      · rw [List.getElem?_set_self hi] at h2
        cases h2
      · rw [List.getElem?_eq_none (by simpa using hi)] at h2
        cases h2
    · rw [List.getElem?_set_ne hj] at h2 ⊢
      exact a.own j e h2
  · have nj : ∀ {j : Nat} {e : D}, (r.set i .un)[j]? = some (.own e) → i ≠ j := fun {j e} q z => by
      subst z
      by_cases hi : i < r.length
      · rw [List.getElem?_set_self hi] at q
        cases q
      · rw [List.getElem?_eq_none (by simpa using hi)] at q
        cases q
    have n1 := nj h1
    have n2 := nj h2
    rw [List.getElem?_set_ne n1] at h1 h3
    rw [List.getElem?_set_ne n2] at h2 h4
    exact a.inj j k e1 e2 p h1 h2 h3 h4
theorem Rel.wipe (a : Rel K T F0 H0 F r t σ H) : ∀ vs : List Nat, Rel K T F0 H0 F (wipeR r vs) t (wipe σ vs) H
  | [] => a
  | v :: vs => (a.wipe vs).setUn
/-- a slot takes an object that nobody has -/
theorem Rel.setOwn {i : Nat} {p : Addr} {d : D} (a : Rel K T F0 H0 F r t σ H) (h : Own K T H0 F H p d) (no : ∀ (j : Nat) (e : D), r[j]? = some (.own e) → j ≠ i → σ[j]? ≠ some (some (.ref p))) :
    Rel K T F0 H0 F (r.set i (.own d)) t (σ.set i (some (.ref p))) H := by
  have cs : ∀ {j : Nat} {s : Sl}, (r.set i (.own d))[j]? = some s → (i = j ∧ i < r.length ∧ s = .own d) ∨ (i ≠ j ∧ r[j]? = some s) := fun {j s} q => by
    by_cases hj : i = j
    · subst hj
      by_cases hi : i < r.length
      · rw [List.getElem?_set_self hi] at q
        exact .inl ⟨rfl, hi, (Option.some.inj q).symm⟩
      · rw [List.getElem?_eq_none (by simpa using hi)] at q
        cases q
    · rw [List.getElem?_set_ne hj] at q
      exact .inr ⟨hj, q⟩
  refine ⟨a.toRelH, by simpa using a.len, fun j e h2 => ?_, fun j e h2 => ?_, fun j k e1 e2 q h1 h2 h3 h4 => ?_⟩
  · rcases cs h2 with ⟨_, _, z⟩ | ⟨hj, z⟩
    · cases z
    · rw [List.getElem?_set_ne hj]
      exact a.val j e z
  · rcases cs h2 with ⟨rfl, hi, z⟩ | ⟨hj, z⟩
    · cases z
      exact ⟨p, List.getElem?_set_self (by rw [← a.len]; exact hi), h⟩
    · rw [List.getElem?_set_ne hj]
      exact a.own j e z
  · rcases cs h1 with ⟨rfl, hi, _⟩ | ⟨hj, z⟩
    · rcases cs h2 with ⟨rfl, _, _⟩ | ⟨hk, z2⟩
      · rfl
      · rw [List.getElem?_set_self (by rw [← a.len]; exact hi)] at h3
        have eq := V.ref.inj (Option.some.inj (Option.some.inj h3))
        rw [List.getElem?_set_ne hk] at h4
        exact absurd (eq ▸ h4) (no k e2 z2 (Ne.symm hk))
    · rcases cs h2 with ⟨rfl, hi, _⟩ | ⟨hk, z2⟩
      · rw [List.getElem?_set_self (by rw [← a.len]; exact hi)] at h4
        have eq := V.ref.inj (Option.some.inj (Option.some.inj h4))
        rw [List.getElem?_set_ne hj] at h3
        exact absurd (eq ▸ h3) (no j e1 z (Ne.symm hj))
      · rw [List.getElem?_set_ne hj] at h3
        rw [List.getElem?_set_ne hk] at h4
        exact a.inj j k e1 e2 q z z2 h3 h4
end
end Fm

/-! ### new tuples, whose objects are told to have no __dict__ -/
namespace Fm
open PySem PySem.Spec PyProof.Rows L2
section
variable {X : Cx} {pins : List (Addr × Obj)} {σ : L2.St} {H : Hp} {s : Shared}
/-- what is wanted of a new tuple of xs -/
def NewT (H : Hp) (xs : List V) (Q : VK) : Prop := ∀ p o, H p = none → o.dict = none → Q (.ref p) (upd H p (.frz o (.tup xs)))
/-- the object of a new tuple -/
abbrev tupO (its : List Value) : Obj := { cls := .type "tuple", data := .seq its.toArray }
theorem laidT {h' : Heap} {its : List Value} {xs : List V} {t' : Nat} (I : Inv X pins σ H s) (kp : ∀ b u, s.heap.get? b = some u → h'.get? b = some u) (r : Vals xs its) (hz : xs.length ≤ sizeLine) :
    Inv X pins σ (upd H h'.objs.size (.frz (tupO its) (.tup xs))) { s with heap := h'.push (tupO its), toks := t' } :=
  (I.kept (t' := s.toks) kp).laid (t' := t') (fun _ _ => Heap.get?_push_of_some _) (Nat.le_refl _) ⟨Heap.get?_push_size _ rfl, hz, its, r, IsTup.new _ _⟩
theorem freshT {h' : Heap} (I : Inv X pins σ H s) (kp : ∀ b u, s.heap.get? b = some u → h'.get? b = some u) : H h'.objs.size = none := (I.kept (t' := s.toks) kp).hok.fresh (Nat.le_refl _)
/-- the tuple is laid, and it is what was wanted -/
theorem NewT.laid {h' : Heap} {its : List Value} {xs : List V} {t' : Nat} {Q : VK} (q : NewT H xs Q) (I : Inv X pins σ H s) (kp : ∀ b u, s.heap.get? b = some u → h'.get? b = some u) (r : Vals xs its) (hz : xs.length ≤ sizeLine) :
    EP X pins σ Q (.ref h'.objs.size) { s with heap := h'.push (tupO its), toks := t' } :=
  ⟨.ref h'.objs.size, _, laidT I kp r hz, rfl, q _ _ (freshT I kp) rfl⟩
theorem NewT.here {its : List Value} {xs : List V} {Q : VK} (q : NewT H xs Q) (I : Inv X pins σ H s) (r : Vals xs its) (hz : xs.length ≤ sizeLine) : EP X pins σ Q (.ref s.heap.objs.size) { s with heap := s.heap.push (tupO its) } :=
  q.laid (t' := s.toks) I (fun _ _ e => e) r hz
theorem same_ok {a : Addr} {Q : VK} (I : Inv X pins σ H s) (q : Q (.ref a) H) : EP X pins σ Q (.ref a) s := ⟨.ref a, H, I, rfl, q⟩
def tTupP (t : TA) : TE := fun σ H Q => t σ H fun xs H1 => xs.length ≤ sizeLine ∧ NewT H1 xs Q
theorem pe_tupP {es : List Expr} {t : TA} {x1 : Nat} {pos : Pos} (h : PA X es t) : PE X (.Tuple es x1 pos) (tTupP t) := by
  constructor
  intro pins s σ H Q I hq
  have all := h.run pos pins s σ H _ I hq
  exact wpAny_Tuple_spliced (thn all fun us s1 ⟨_, _, I1, rel, few, new⟩ => ⟨rel.length ▸ few, new.here I1 rel few⟩)
theorem call_tupleP : CallR X (.type "tuple") (fun xs H Q => ∃ p ys, xs = [.ref p] ∧ ((SqL X.K H p ys ∧ NewT H ys Q) ∨ (SqT X.K H p ys ∧ Q (.ref p) H))) := by
  rintro pins s σ H _ us Q I r ⟨p, ys, rfl, ⟨seq, new⟩ | ⟨seq, same⟩⟩
  all_goals rw [Vals.ref1 r]
  · have ⟨its, rel, l, few⟩ := I.list seq
    exact call_tuple_list l.isList (fun h2 kp => new.laid (t' := s.toks) I kp rel few) (by rw [List.size_toArray, ← rel.length]; exact few)
  · have ⟨_, _, t, _⟩ := I.tuple seq
    exact call_tuple_same t (same_ok I same)
/-- a slice that is the whole -/
abbrev Whole (n : Nat) (lo hi : Option Int) : Prop := HT.sIx n 0 lo = 0 ∧ HT.sIx n n hi = n
def rSlP (K : PySem.W.Frag) : V → Option Int → Option Int → Hp → VK → Prop := fun x lo hi H Q => ∃ a xs, x = .ref a ∧ SqT K H a xs ∧
  (HT.sIx xs.length 0 lo = 0 ∧ HT.sIx xs.length xs.length hi = xs.length → Q (.ref a) H) ∧ (¬ (HT.sIx xs.length 0 lo = 0 ∧ HT.sIx xs.length xs.length hi = xs.length) → NewT H (cutV xs lo hi) Q)
theorem sl_tupP : SlR X (rSlP X.K) := by
  rintro pins s σ H _ v vl vu lo hi sl Q I rx hs pl pu ⟨a, xs, rfl, seq, same, new⟩
  obtain rfl : v = .ref a := rx
  have ⟨its, rel, t, few⟩ := I.tuple seq
  have n : its.toArray.size = xs.length := List.size_toArray .. |>.trans rel.length.symm
  refine ⟨"tuple", _, PyProof.Rows.slot_tuple_getitem.lookup, t.typeIs, ?_⟩
  rcases Classical.em (Whole xs.length lo hi) with all | some
  · exact getItem_tuple_whole t hs pl pu (n.symm ▸ all) (same_ok I (same all))
  · refine HT.getItem_tuple_cut t hs pl pu (n.symm ▸ some) (n.symm ▸ ?_) (n.symm ▸ few)
    exact (new some).here I ((rel.drop _).take _) (Nat.le_trans (cutV_length xs lo hi) few)
def rCatP (K : PySem.W.Frag) : R2 := fun x y H Q => ∃ a b xs ys, x = .ref a ∧ y = .ref b ∧ SqT K H a xs ∧ SqT K H b ys ∧ xs.length + ys.length ≤ sizeLine ∧
  (xs = [] → Q (.ref b) H) ∧ (xs ≠ [] → ys = [] → Q (.ref a) H) ∧ (xs ≠ [] → ys ≠ [] → NewT H (xs ++ ys) Q)
theorem op_catP : OpR X (binaryOp .Add) (rCatP X.K) := by
  rintro pins s σ H _ _ v u Q I rx ry ⟨a, b, xs, ys, rfl, rfl, sa, sb, few, left, right, new⟩
  obtain rfl : v = .ref a := rx
  obtain rfl : u = .ref b := ry
  have ⟨_, ra, ta, _⟩ := I.tuple sa
  have ⟨_, rb, tb, _⟩ := I.tuple sb
  rcases Classical.em (xs = []) with rfl | some
  · cases ra
    exact cat_tup0 ta tb (same_ok I (left rfl))
  · exact HT.cat_tup ta tb (fun z => some (ra.nil_iff.mp z)) (fun z => same_ok I (right some (rb.nil_iff.mp z))) (fun z => (new some fun w => z (rb.nil_iff.mpr w)).here I (ra.append rb) (by rw [List.length_append]; exact few)) (by rw [← ra.length, ← rb.length]; exact few)
end
end Fm

/-! ### readings of Core expressions; operators -/
namespace Fm
open PySem PySem.Spec PyProof.Rows L2
structure Pm where
  K : PySem.W.Frag
  T : Tn
  F0 : Hp
  H0 : Hp
  XE : Nat → Hp → Prop
def Aft {α : Type} (P : Pm) (F : Hp) (res : Res α) (Z : α → Tw → Prop) : Prop := match res with
  | .ok a t => Z a t
  | .exc n t => ∀ F' H', Same F F' → RelH P.K P.T P.F0 P.H0 F' t H' → P.XE n H'
  | .bad => False
/-- what was frozen is, and what stood stands, but for the town; newly frozen is only what is new -/
structure Kp (T : Tn) (F H F' H' : Hp) : Prop where
  base : Same F F'
  new : ∀ a o, F' a = some o → F a = some o ∨ Nn H a
  old : ∀ a o, H a = some o → a ≠ T.a → a ≠ T.b → NT o → H' a = some o
  had : ∀ a, Nn H' a → Nn H a
theorem Kp.refl {T : Tn} {F H : Hp} : Kp T F H F H := ⟨Same.refl F, fun _ _ h => .inl h, fun _ _ h _ _ _ => h, fun _ h => h⟩
theorem Kp.trans {T : Tn} {F H F1 H1 F2 H2 : Hp} (a : Kp T F H F1 H1) (b : Kp T F1 H1 F2 H2) : Kp T F H F2 H2 :=
  ⟨a.1.trans b.1, fun c o h => (b.new c o h).elim (fun q => a.new c o q) fun q => .inr (a.had c q), fun c o h n1 n2 n3 => b.old c o (a.old c o h n1 n2 n3) n1 n2 n3, fun c h => a.had c (b.had c h)⟩
theorem Kp.of {K : PySem.W.Frag} {T : Tn} {F H F' H' : Hp} {t : Tw} (b : RelH K T F H F' t H') : Kp T F H F' H' := ⟨b.base, b.new, b.old, b.had⟩
abbrev RelP (P : Pm) (F : Hp) (r : Rho) (t : Tw) (σ : L2.St) (H : Hp) : Prop := Rel P.K P.T P.F0 P.H0 F r t σ H
theorem Kp.relH {P : Pm} {F H F' H' : Hp} {r : Rho} {t : Tw} {σ : L2.St} (k : Kp P.T F H F' H') (R : RelP P F' r t σ H') : RelH P.K P.T F H F' t H' := ⟨R.sub, k.new, k.base, k.old, k.had, R.tw, R.tF1, R.tF2, R.sc, R.tabs, R.nt⟩
/-- borne by a frozen value, or by an object of the def's own -/
def RpB (P : Pm) (F : Hp) (r : Rho) (σ : L2.St) (v : V) (d : D) : Prop := Rp P.K P.T F v d ∨ ∃ i : Nat, r[i]? = some (.own d) ∧ σ[i]? = some (some v)
def tD (P : Pm) (f : Rho → Tw → Res D) : TE := fun σ H Q => ∃ F r t, RelP P F r t σ H ∧ Aft P F (f r t) fun d t' => ∀ v F' H', Kp P.T F H F' H' → RelP P F' r t' σ H' → Rp P.K P.T F' v d → Q v H'
def tB (P : Pm) (f : Rho → Tw → Res D) : TE := fun σ H Q => ∃ F r t, RelP P F r t σ H ∧ Aft P F (f r t) fun d t' => ∀ v F' H', Kp P.T F H F' H' → RelP P F' r t' σ H' → RpB P F' r σ v d → Q v H'
def tDs (P : Pm) (f : Rho → Tw → Res (List D)) : TA := fun σ H Q => ∃ F r t, RelP P F r t σ H ∧ Aft P F (f r t) fun ds t' => ∀ vs F' H', Kp P.T F H F' H' → RelP P F' r t' σ H' → RpL P.K P.T F' vs ds → Q vs H'
theorem peMono {X : Cx} {e : Expr} {t u : TE} (h : PE X e t) (i : ∀ σ H Q, u σ H Q → t σ H Q) : PE X e u := ⟨fun pins s σ H Q I q => h.run pins s σ H Q I (i σ H Q q)⟩
theorem paMono {X : Cx} {e : List Expr} {t u : TA} (h : PA X e t) (i : ∀ σ H Q, u σ H Q → t σ H Q) : PA X e u := ⟨fun pos pins s σ H Q I q => h.run pos pins s σ H Q I (i σ H Q q)⟩
theorem ptMono {X : Cx} {e : Expr} {t u : TT} (h : PT X e t) (i : ∀ σ H Q, u σ H Q → t σ H Q) : PT X e u := ⟨fun pins s σ H Q I q => h.run pins s σ H Q I (i σ H Q q)⟩
theorem psMono {X : Cx} {e : Stmt} {t u : TS} (h : PS X e t) (i : ∀ D σ H, u D σ H → t D σ H) : PS X e u := ⟨fun pins s σ H D I q => h.run pins s σ H D I (i D σ H q)⟩
theorem pssMono {X : Cx} {e : List Stmt} {t u : TS} (h : PSs X e t) (i : ∀ D σ H, u D σ H → t D σ H) : PSs X e u := ⟨fun pins s σ H D I q => h.run pins s σ H D I (i D σ H q)⟩
section
variable {P : Pm} {F F' H : Hp} {r : Rho} {t t' : Tw} {σ : L2.St} {v : V}
theorem Aft.mono {α : Type} {res : Res α} {Z Z' : α → Tw → Prop} (h : Aft P F res Z) (i : ∀ a t, Z a t → Z' a t) : Aft P F res Z' := by
  cases res with
  | ok a t => exact i a t h
  | exc n t => exact h
  | bad => exact h
/-- one step, then another -/
theorem Aft.bind {α β : Type} {res : Res α} {f : α → Tw → Res β} {Z : β → Tw → Prop} (h : Aft P F (res.bind f) Z) : Aft P F res fun a t => Aft P F (f a t) Z := by
  cases res with
  | ok a t => exact h
  | exc n t => exact h
  | bad => exact h
theorem Aft.thn {α β : Type} {res : Res α} {f : α → Tw → Res β} {Z : β → Tw → Prop} (h : Aft P F res fun a t => Aft P F (f a t) Z) : Aft P F (res.bind f) Z := by
  cases res with
  | ok a t => exact h
  | exc n t => exact h
  | bad => exact h
theorem Aft.up {α : Type} {res : Res α} {Z : α → Tw → Prop} (h : Aft P F res Z) (s : Same F F') : Aft P F' res Z := by
  cases res with
  | ok a t => exact h
  | exc n t => exact fun F2 H2 q => h F2 H2 (s.trans q)
  | bad => exact h
theorem Aft.lift {α : Type} {o : Option α} {Z : α → Tw → Prop} (h : Aft P F (Fm.lift o t) Z) : ∃ a, o = some a ∧ Z a t := by
  cases o with
  | none => exact h.elim
  | some a => exact ⟨a, rfl, h⟩
theorem RpB.mono (s : Same F F') {d : D} (h : RpB P F r σ v d) : RpB P F' r σ v d := h.elim (fun q => .inl (q.mono s)) .inr
theorem RpB.of {d : D} (h : Rp P.K P.T F v d) : RpB P F r σ v d := .inl h
theorem RpB.lst (R : RelP P F r t σ H) {ds : List D} (h : RpB P F r σ v (.lst ds)) : ∃ a xs, v = .ref a ∧ H a = some (.lst xs) ∧ xs.length ≤ sizeLine ∧ RpL P.K P.T F xs ds := by
  rcases h with h | ⟨i, h1, h2⟩
  · cases h with
    | lst h z q => exact ⟨_, _, rfl, R.sub _ _ h, z, q⟩
  · obtain ⟨p, e, o⟩ := R.own i _ h1
    rw [e] at h2
    cases h2
    obtain ⟨vs, a, b, c⟩ := o.at_
    exact ⟨p, vs, rfl, a, b, c⟩
theorem RpB.dct (R : RelP P F r t σ H) {ds : List (Key × D)} (h : RpB P F r σ v (.dct ds)) : ∃ a kvs, v = .ref a ∧ Rd H a (.dK kvs) ∧ RpK P.K P.T F kvs ds := by
  rcases h with h | ⟨i, h1, h2⟩
  · cases h with
    | dct h z q => exact ⟨_, _, rfl, .inr ⟨_, R.sub _ _ h⟩, q⟩
  · obtain ⟨p, e, o⟩ := R.own i _ h1
    rw [e] at h2
    cases h2
    obtain ⟨vs, a, b, c⟩ := o.at_
    exact ⟨p, vs, rfl, .inl a, c⟩
theorem RpB.dcn (R : RelP P F r t σ H) {ds : List (NestedKey × D)} (h : RpB P F r σ v (.dcn ds)) : ∃ a xs, v = .ref a ∧ Rd H a (DN P.T.pg P.T.wo a xs) ∧ ((a == sysModules) = false ∧ (xs.map (·.1)).Nodup) ∧ xs.length ≤ sizeLine ∧ RpN P.K P.T F xs ds := by
  rcases h with h | ⟨i, h1, h2⟩
  · cases h with
    | dcn h y z q => exact ⟨_, _, rfl, .inr ⟨_, R.sub _ _ h⟩, y, z, q⟩
  · obtain ⟨p, e, o⟩ := R.own i _ h1
    rw [e] at h2
    cases h2
    obtain ⟨vs, a, y, b, c⟩ := o.at_
    exact ⟨p, vs, rfl, .inl a, y, b, c⟩
theorem RpB.rp (R : RelP P F r t σ H) {d : D} (h : RpB P F r σ v d) (n1 : ∀ ds, d ≠ .lst ds) (n2 : ∀ ds, d ≠ .dct ds) (n3 : ∀ ds, d ≠ .dcn ds := by intro _ z; cases z) : Rp P.K P.T F v d := by
  rcases h with h | ⟨i, h1, h2⟩
  · exact h
  · obtain ⟨p, e, o⟩ := R.own i _ h1
    have q := o.at_
    cases d with
    | lst ds => exact absurd rfl (n1 ds)
    | dct ds => exact absurd rfl (n2 ds)
    | dcn ds => exact absurd rfl (n3 ds)
    | _ => exact q.elim
theorem RpB.int (R : RelP P F r t σ H) {i : Int} (h : RpB P F r σ v (.int i)) : v = .int i := by
  cases h.rp R (fun _ z => by cases z) (fun _ z => by cases z)
  rfl
theorem RpB.bl (R : RelP P F r t σ H) {i : Bool} (h : RpB P F r σ v (.bl i)) : v = .bl i := by
  cases h.rp R (fun _ z => by cases z) (fun _ z => by cases z)
  rfl
theorem RpB.str (R : RelP P F r t σ H) {i : Str} (h : RpB P F r σ v (.str i)) : v = .str i := by
  cases h.rp R (fun _ z => by cases z) (fun _ z => by cases z)
  rfl
theorem RpB.tup (R : RelP P F r t σ H) {ds : List D} (h : RpB P F r σ v (.tup ds)) : ∃ a xs, v = .ref a ∧ SqP P.K F a xs ∧ xs.length ≤ sizeLine ∧ RpL P.K P.T F xs ds := by
  cases h.rp R (fun _ z => by cases z) (fun _ z => by cases z) with
  | tup h2 z q => exact ⟨_, _, rfl, h2, z, q⟩
/-- deep data, whoever has it -/
theorem RpB.dp (R : RelP P F r t σ H) {d : D} (h : RpB P F r σ v d) (l : lay d = true) : Dp P.K H v d.py := by
  cases d with
  | lst ds =>
    obtain ⟨a, xs, rfl, e, _, q⟩ := h.lst R
    exact .lst (SqL.of e) (q.dp R.sub (by simpa only [lay, D.py, PyData.canLay0] using l))
  | dct ds => simp [lay, D.py, PyData.canLay0] at l
  | dcn ds => simp [lay, D.py, PyData.canLay0] at l
  | _ => exact (h.rp R (fun _ z => by cases z) (fun _ z => by cases z)).dp R.sub l
theorem okLen_le {n : Nat} (h : okLen n = true) : n ≤ sizeLine := by
  rw [sizeLine_eq]
  exact of_decide_eq_true h
/-- a test's value -/
theorem RpB.tru (R : RelP P F r t σ H) {d : D} {b : Bool} (h : RpB P F r σ v d) (e : truD d = some b) : TruV P.K v H b := by
  cases d with
  | lst ds =>
    obtain ⟨a, xs, rfl, e2, _, q⟩ := h.lst R
    cases e
    exact .inl ⟨_, SqL.of e2, by cases q <;> rfl⟩
  | tup ds =>
    obtain ⟨a, xs, rfl, e2, _, q⟩ := h.tup R
    cases e
    exact .inr (.inl ⟨_, sqP_t R.sub e2, by cases q <;> rfl⟩)
  | str x =>
    obtain rfl := h.str R
    have e : (if okLen x.length = true then some ((x.length : Int) != 0) else none) = some b := e
    split at e
    · rename_i hl
      cases e
      exact ⟨okLen_le hl, rfl⟩
    · cases e
  | non =>
    cases h.rp R (fun _ z => by cases z) (fun _ z => by cases z)
    cases e
    rfl
  | bl x =>
    obtain rfl := h.bl R
    cases e
    rfl
  | int x =>
    obtain rfl := h.int R
    cases e
    rfl
  | dct ds => cases e
  | exc n => cases e
  | dcn _ => cases e
  | tok => cases e
  | scr ns =>
    cases h.rp R (fun _ z => by cases z) (fun _ z => by cases z)
    cases e
    exact .inl ⟨_, sqL_mono R.sub R.sc, by cases P.T.ns <;> rfl⟩
/-! ### one operand, two operands -/
theorem tB_tD {f : Rho → Tw → Res D} {X : Cx} {e : Expr} (h : PE X e (tD P f)) : PE X e (tB P f) := peMono h fun σ H Q ⟨F, r, t, R, q⟩ =>
  ⟨F, r, t, R, q.mono fun d t' q v F' H' s R' h => q v F' H' s R' (.inl h)⟩
theorem op1 {fa : Rho → Tw → Res D} {f : D → Option D} {rr : V → Hp → VK → Prop}
    (hr : ∀ {x : V} {dx d : D} {F : Hp} {r : Rho} {t : Tw} {σ : L2.St} {H : Hp} {Q : VK}, f dx = some d → RelP P F r t σ H → RpB P F r σ x dx →
      (∀ v F' H', Kp P.T F H F' H' → RelP P F' r t σ H' → Rp P.K P.T F' v d → Q v H') → rr x H Q) (σ : L2.St) (H : Hp) (Q : VK)
    (h : tD P (fun r t => (fa r t).bind fun x t1 => Fm.lift (f x) t1) σ H Q) : tUn rr (tB P fa) σ H Q := by
  obtain ⟨F, r, t, R, h⟩ := h
  refine ⟨F, r, t, R, h.bind.mono fun dx t1 h v F1 H1 s1 R1 rx => ?_⟩
  obtain ⟨d, e, q⟩ := h.lift
  exact hr e R1 rx fun v F' H' s R' h => q v F' H' (s1.trans s) R' h
theorem op2 {fa fb : Rho → Tw → Res D} {f : D → D → Option D} {rr : R2}
    (hr : ∀ {x y : V} {dx dy d : D} {F : Hp} {r : Rho} {t : Tw} {σ : L2.St} {H : Hp} {Q : VK}, f dx dy = some d → RelP P F r t σ H → RpB P F r σ x dx → RpB P F r σ y dy →
      (∀ v F' H', Kp P.T F H F' H' → RelP P F' r t σ H' → Rp P.K P.T F' v d → Q v H') → rr x y H Q) (σ : L2.St) (H : Hp) (Q : VK)
    (h : tD P (fun r t => (fa r t).bind fun x t1 => (fb r t1).bind fun y t2 => Fm.lift (f x y) t2) σ H Q) : tOp rr (tB P fa) (tB P fb) σ H Q := by
  obtain ⟨F, r, t, R, h⟩ := h
  refine ⟨F, r, t, R, h.bind.mono fun dx t1 h v F1 H1 s1 R1 rx => ?_⟩
  refine ⟨F1, r, t1, R1, (h.up s1.1).bind.mono fun dy t2 h w F2 H2 s2 R2 ry => ?_⟩
  obtain ⟨d, e, q⟩ := h.lift
  exact hr e R2 (rx.mono s2.1) ry fun v F' H' s R' h => q v F' H' (s1.trans (s2.trans s)) R' h
/-- a new tuple -/
theorem mkTup {xs : List V} {ds : List D} {Q : VK} (R : RelP P F r t σ H) (z : xs.length ≤ sizeLine) (q : RpL P.K P.T F xs ds) (h : ∀ v F' H', Kp P.T F H F' H' → RelP P F' r t σ H' → Rp P.K P.T F' v (.tup ds) → Q v H') :
    NewT H xs Q := fun p o hp hd => by
  have b := R.toRelH.newF (o := .frz o (.tup xs)) hp
  exact h _ _ _ (Kp.of b) (R.step b) (.tup ⟨.inl (.inr ⟨o, upd_same⟩), .inl ⟨o, xs, upd_same, hd⟩⟩ z (q.mono b.base))
/-- a new list, frozen -/
theorem mkLst {xs : List V} {ds : List D} {Q : VK} (R : RelP P F r t σ H) (z : xs.length ≤ sizeLine) (q : RpL P.K P.T F xs ds) (h : ∀ v F' H', Kp P.T F H F' H' → RelP P F' r t σ H' → Rp P.K P.T F' v (.lst ds) → Q v H') :
    ∀ p, H p = none → Q (.ref p) (upd H p (.lst xs)) := fun p hp => by
  have b := R.toRelH.newF (o := .lst xs) hp
  exact h _ _ _ (Kp.of b) (R.step b) (.lst upd_same z (q.mono b.base))
end
/-! ### operators -/
section
variable {P : Pm} {X : Cx} {a b : Expr} {pos : Pos} {fa fb : Rho → Tw → Res D}
abbrev rAddA (K : PySem.W.Frag) : R2 := fun x y H Q => (rI0 fun i j => .int (i + j)) x y H Q ∨ ((fun x y H Q => ∃ i j, x = .str i ∧ y = .str j ∧ i.length + j.length ≤ sizeLine ∧ Q (.str (i ++ j)) H : R2) x y H Q ∨ rCatP K x y H Q)
theorem s_add (hK : X.K = P.K) (ha : PE X a (tB P fa)) (hb : PE X b (tB P fb)) : PE X (.BinOp a .Add b pos) (tD P fun r t => (fa r t).bind fun x t1 => (fb r t1).bind fun y t2 => Fm.lift (addD x y) t2) := by
  refine peMono (pe_op (OpR.or op_add (OpR.or op_add_str op_catP)) ha hb) (op2 fun {x y dx dy d F r t σ H Q} e R rx ry q => ?_)
  cases dx with
  | int i =>
    cases dy with
    | int j =>
      cases e
      exact .inl ⟨i, j, rx.int R, ry.int R, q _ _ _ Kp.refl R (.int _)⟩
    | _ => cases e
  | str i =>
    cases dy with
    | str j =>
      simp only [addD] at e
      split at e
      · rename_i hl
        cases e
        exact .inr (.inl ⟨i, j, rx.str R, ry.str R, okLen_le hl, q _ _ _ Kp.refl R (.str _)⟩)
      · cases e
    | _ => cases e
  | tup xs =>
    cases dy with
    | tup ys =>
      simp only [addD] at e
      split at e
      · rename_i hl
        cases e
        obtain ⟨p1, v1, rfl, e1, z1, q1⟩ := rx.tup R
        obtain ⟨p2, v2, rfl, e2, z2, q2⟩ := ry.tup R
        have hl2 : v1.length + v2.length ≤ sizeLine := by
          rw [q1.length, q2.length]
          exact okLen_le hl
        rw [hK]
        refine .inr (.inr ⟨p1, p2, v1, v2, rfl, rfl, sqP_t R.sub e1, sqP_t R.sub e2, hl2, fun h0 => ?_, fun _ h0 => ?_, fun _ _ => ?_⟩)
        · subst h0
          cases q1
          exact q _ _ _ Kp.refl R (.tup e2 z2 q2)
        · subst h0
          cases q2
          refine q _ _ _ Kp.refl R ?_
          rw [List.append_nil]
          exact .tup e1 z1 q1
        · exact mkTup R (by rw [List.length_append]; exact hl2) (q1.append q2) q
      · cases e
    | _ => cases e
  | _ => cases e
theorem s_cat (ha : PE X a (tB P fa)) (hb : PE X b (tB P fb)) : PE X (.BinOp a .Add b pos) (tD P fun r t => (fa r t).bind fun x t1 => (fb r t1).bind fun y t2 => Fm.lift (catD x y) t2) := by
  refine peMono (pe_op op_cat ha hb) (op2 fun {x y dx dy d F r t σ H Q} e R rx ry q => ?_)
  cases dx with
  | lst xs =>
    cases dy with
    | lst ys =>
      simp only [catD] at e
      split at e
      · rename_i hl
        cases e
        obtain ⟨p1, v1, rfl, e1, z1, q1⟩ := rx.lst R
        obtain ⟨p2, v2, rfl, e2, z2, q2⟩ := ry.lst R
        have hl2 : v1.length + v2.length ≤ sizeLine := by
          rw [q1.length, q2.length]
          exact okLen_le hl
        exact ⟨p1, p2, v1, v2, rfl, rfl, e1, e2, hl2, mkLst R (by rw [List.length_append]; exact hl2) (q1.append q2) q⟩
      · cases e
    | _ => cases e
  | _ => cases e
/-- an operator upon two ints -/
theorem s_int2 {op : Operator} {f : D → D → Option D} {C : Int → Int → Prop} {g : Int → Int → Int} (ho : OpR X (binaryOp op) (rI C fun i j => .int (g i j)))
    (hf : ∀ dx dy d, f dx dy = some d → ∃ i j, dx = .int i ∧ dy = .int j ∧ C i j ∧ d = .int (g i j)) (ha : PE X a (tB P fa)) (hb : PE X b (tB P fb)) :
    PE X (.BinOp a op b pos) (tD P fun r t => (fa r t).bind fun x t1 => (fb r t1).bind fun y t2 => Fm.lift (f x y) t2) := by
  refine peMono (pe_op ho ha hb) (op2 fun {x y dx dy d F r t σ H Q} e R rx ry q => ?_)
  obtain ⟨i, j, rfl, rfl, c, rfl⟩ := hf dx dy d e
  exact ⟨i, j, rx.int R, ry.int R, c, q _ _ _ Kp.refl R (.int _)⟩
theorem s_sub (ha : PE X a (tB P fa)) (hb : PE X b (tB P fb)) : PE X (.BinOp a .Sub b pos) (tD P fun r t => (fa r t).bind fun x t1 => (fb r t1).bind fun y t2 => Fm.lift (subD x y) t2) := by
  refine peMono (pe_op op_sub ha hb) (op2 fun {x y dx dy d F r t σ H Q} e R rx ry q => ?_)
  cases dx with
  | int i =>
    cases dy with
    | int j =>
      cases e
      exact ⟨i, j, rx.int R, ry.int R, q _ _ _ Kp.refl R (.int _)⟩
    | _ => cases e
  | _ => cases e
theorem s_mul (ha : PE X a (tB P fa)) (hb : PE X b (tB P fb)) : PE X (.BinOp a .Mult b pos) (tD P fun r t => (fa r t).bind fun x t1 => (fb r t1).bind fun y t2 => Fm.lift (mulD x y) t2) :=
  s_int2 op_mulW (fun dx dy d e => by
    cases dx with
    | int i =>
      cases dy with
      | int j =>
        simp only [mulD] at e
        split at e
        · rename_i h
          cases e
          exact ⟨i, j, rfl, rfl, (of_decide_eq_true h : i.natAbs.log2 + j.natAbs.log2 < 1000000), rfl⟩
        · cases e
      | _ => cases e
    | _ => cases e) ha hb
def CDivA (_ j : Int) : Prop := j ≠ 0 ∧ j.natAbs.log2 < 9000
theorem op_fdivA : OpR X (binaryOp .FloorDiv) (rI CDivA fun i j => .int (i.fdiv j)) := opI fun i j _ _ _ _ _ hc q => floordiv_int hc.1 q (.inl (PyProof.noPylong_of_log2 hc.2))
theorem s_fdiv (ha : PE X a (tB P fa)) (hb : PE X b (tB P fb)) : PE X (.BinOp a .FloorDiv b pos) (tD P fun r t => (fa r t).bind fun x t1 => (fb r t1).bind fun y t2 => Fm.lift (fdivD x y) t2) :=
  s_int2 op_fdivA (fun dx dy d e => by
    cases dx with
    | int i =>
      cases dy with
      | int j =>
        simp only [fdivD] at e
        split at e
        · rename_i h
          cases e
          have h2 := Bool.and_eq_true_iff.mp h
          exact ⟨i, j, rfl, rfl, ⟨of_decide_eq_true h2.1, of_decide_eq_true h2.2⟩, rfl⟩
        · cases e
      | _ => cases e
    | _ => cases e) ha hb
theorem s_mod (ha : PE X a (tB P fa)) (hb : PE X b (tB P fb)) : PE X (.BinOp a .Mod b pos) (tD P fun r t => (fa r t).bind fun x t1 => (fb r t1).bind fun y t2 => Fm.lift (modD x y) t2) :=
  s_int2 op_modN (fun dx dy d e => by
    cases dx with
    | int i =>
      cases dy with
      | int j =>
        simp only [modD] at e
        split at e
        · cases e
        · rename_i h
          cases e
          exact ⟨i, j, rfl, rfl, h, rfl⟩
      | _ => cases e
    | _ => cases e) ha hb
theorem okPow_c {i j : Int} (h : okPow i j = true) : CPow i j := by
  have h1 := Bool.and_eq_true_iff.mp h
  have h2 := Bool.and_eq_true_iff.mp h1.1
  exact ⟨of_decide_eq_true h2.1, of_decide_eq_true h2.2, of_decide_eq_true h1.2⟩
theorem s_pow (ha : PE X a (tB P fa)) (hb : PE X b (tB P fb)) : PE X (.BinOp a .Pow b pos) (tD P fun r t => (fa r t).bind fun x t1 => (fb r t1).bind fun y t2 => Fm.lift (powD x y) t2) :=
  s_int2 op_pow (fun dx dy d e => by
    cases dx with
    | int i =>
      cases dy with
      | int j =>
        simp only [powD] at e
        split at e
        · rename_i h
          cases e
          exact ⟨i, j, rfl, rfl, okPow_c h, rfl⟩
        · cases e
      | _ => cases e
    | _ => cases e) ha hb
theorem s_shl (ha : PE X a (tB P fa)) (hb : PE X b (tB P fb)) : PE X (.BinOp a .LShift b pos) (tD P fun r t => (fa r t).bind fun x t1 => (fb r t1).bind fun y t2 => Fm.lift (shlD x y) t2) :=
  s_int2 op_shl (fun dx dy d e => by
    cases dx with
    | int i =>
      cases dy with
      | int j =>
        simp only [shlD] at e
        split at e
        · rename_i h
          cases e
          exact ⟨i, j, rfl, rfl, okPow_c h, rfl⟩
        · cases e
      | _ => cases e
    | _ => cases e) ha hb
theorem s_neg (ha : PE X a (tB P fa)) : PE X (.UnaryOp .USub a pos) (tD P fun r t => (fa r t).bind fun x t1 => Fm.lift (negD x) t1) := by
  refine peMono (pe_un un_neg ha) (op1 fun {x dx d F r t σ H Q} e R rx q => ?_)
  cases dx with
  | int i =>
    cases e
    exact ⟨i, rx.int R, q _ _ _ Kp.refl R (.int _)⟩
  | _ => cases e
end
end Fm

/-! ### comparisons, tests, subscripts, displays, built-in calls -/
namespace Fm
open PySem PySem.Spec PyProof.Rows L2
theorem pys_map : ∀ xs : List D, pys xs = xs.map D.py
  | [] => by simp only [pys, List.map_nil]
  | x :: xs => by simp only [pys, List.map_cons, pys_map xs]
theorem layAll : ∀ xs : List D, PyData.canLayAll0 (pys xs) = xs.all lay
  | [] => by simp only [pys, PyData.canLayAll0, List.all_nil]
  | x :: xs => by simp only [pys, PyData.canLayAll0, List.all_cons, layAll xs, lay]
section
variable {P : Pm} {X : Cx}
/-- an operator by data: its rule, and that the rule gives what f says -/
def OpS (P : Pm) (X : Cx) (g : Value → Value → Sem Value) (f : D → D → Option D) : Prop :=
  ∃ rr : R2, OpR X g rr ∧ ∀ {x y : V} {dx dy d : D} {F : Hp} {r : Rho} {t : Tw} {σ : L2.St} {H : Hp} {Q : VK}, f dx dy = some d → RelP P F r t σ H → RpB P F r σ x dx → RpB P F r σ y dy →
      (∀ v F' H', Kp P.T F H F' H' → RelP P F' r t σ H' → Rp P.K P.T F' v d → Q v H') → rr x y H Q
theorem intCmp {op : CmpOp} {g : Int → Int → Bool} {f : D → D → Option D} (ho : OpR X (compareOp op) (rI0 fun i j => .bl (g i j))) (hf : ∀ dx dy d, f dx dy = some d → ∃ i j, dx = .int i ∧ dy = .int j ∧ d = .bl (g i j)) : OpS P X (compareOp op) f := by
  refine ⟨_, ho, fun {x y dx dy d F r t σ H Q} e R rx ry q => ?_⟩
  obtain ⟨i, j, rfl, rfl, rfl⟩ := hf dx dy d e
  exact ⟨i, j, rx.int R, ry.int R, q _ _ _ Kp.refl R (.bl _)⟩
def rEqA (K : PySem.W.Frag) (u : Nat) (neg : Bool) : R2 := fun x y H Q => ∃ d e, Dp K H x d ∧ Dp K H y e ∧ d.canLay0 = true ∧ e.canLay0 = true ∧ u + min d.depth e.depth < cLine ∧ Q (.bl (if neg then !PyData.eqv d e else PyData.eqv d e)) H
theorem op_eqA : OpR X (compareOp .Eq) (rEqA X.K X.A.units false) := by
  intro pins s σ H x y v u Q I rx ry h
  obtain ⟨d, e, hd, he, sd, se, hu, q⟩ := h
  obtain ⟨as, r1⟩ := Dp.reads I d x v hd rx
  obtain ⟨bs, r2⟩ := Dp.reads I e y u he ry
  exact SeqAt.compareEq_reads r1 r2 sd se hu ⟨.bl _, H, I, rfl, q⟩
theorem op_neA : OpR X (compareOp .NotEq) (rEqA X.K X.A.units true) := by
  intro pins s σ H x y v u Q I rx ry h
  obtain ⟨d, e, hd, he, sd, se, hu, q⟩ := h
  obtain ⟨as, r1⟩ := Dp.reads I d x v hd rx
  obtain ⟨bs, r2⟩ := Dp.reads I e y u he ry
  exact SeqAt.compareNe_reads r1 r2 sd se hu ⟨.bl _, H, I, rfl, q⟩
theorem okEq_parts {a b : D} (h : okEq a b = true) : lay a = true ∧ lay b = true ∧ min (dep a) (dep b) ≤ 190 := by
  have h1 := Bool.and_eq_true_iff.mp h
  have h2 := Bool.and_eq_true_iff.mp h1.1
  exact ⟨h2.1, h2.2, of_decide_eq_true h1.2⟩
def rInA (K : PySem.W.Frag) (u : Nat) (neg : Bool) : R2 := fun x y H Q => ∃ d ds, Dp K H x d ∧ (Dp K H y (.tuple ds) ∨ Dp K H y (.list ds)) ∧ d.canLay0 = true ∧ PyData.canLayAll0 ds = true ∧ u + 1 + min (PyData.depthAll ds) d.depth < cLine ∧
  Q (.bl (if neg then !(ds.any fun z => PyData.eqv z d) else ds.any fun z => PyData.eqv z d)) H
theorem op_inA : OpR X (compareOp .In) (rInA X.K X.A.units false) := by
  intro pins s σ H x y v u Q I rx ry h
  obtain ⟨d, ds, hd, he, sd, se, hu, q⟩ := h
  obtain ⟨as, r1⟩ := Dp.reads I d x v hd rx
  rcases he with he | he
  · obtain ⟨bs, r2⟩ := Dp.reads I (.tuple ds) y u he ry
    exact SeqAt.in_tuple_reads r2 r1 se sd hu ⟨.bl _, H, I, rfl, q⟩
  · obtain ⟨bs, r2⟩ := Dp.reads I (.list ds) y u he ry
    exact SeqAt.in_list_reads r2 r1 se sd hu ⟨.bl _, H, I, rfl, q⟩
theorem op_notInA : OpR X (compareOp .NotIn) (rInA X.K X.A.units true) := by
  intro pins s σ H x y v u Q I rx ry h
  obtain ⟨d, ds, hd, he, sd, se, hu, q⟩ := h
  obtain ⟨as, r1⟩ := Dp.reads I d x v hd rx
  rcases he with he | he
  · obtain ⟨bs, r2⟩ := Dp.reads I (.tuple ds) y u he ry
    exact SeqAt.notIn_tuple_reads r2 r1 se sd hu ⟨.bl _, H, I, rfl, q⟩
  · obtain ⟨bs, r2⟩ := Dp.reads I (.list ds) y u he ry
    exact SeqAt.notIn_list_reads r2 r1 se sd hu ⟨.bl _, H, I, rfl, q⟩
theorem inB_seq {a : D} {xs : List D} {c : Bool} (h : (if lay a && (xs.all lay) && decide (dep a ≤ 190) then some (xs.any fun z => eqD z a) else none) = some c) :
    lay a = true ∧ PyData.canLayAll0 (pys xs) = true ∧ dep a ≤ 190 ∧ c = (pys xs).any fun z => PyData.eqv z a.py := by
  split at h
  · rename_i h1
    have h2 := Bool.and_eq_true_iff.mp h1
    have h3 := Bool.and_eq_true_iff.mp h2.1
    cases h
    refine ⟨h3.1, (layAll xs).trans h3.2, of_decide_eq_true h2.2, ?_⟩
    rw [pys_map, List.any_map]
    rfl
  · cases h
/-- x in y, by data -/
theorem inS {neg : Bool} {F : Hp} {r : Rho} {t : Tw} {σ : L2.St} {H : Hp} {x y : V} {dx dy : D} {c : Bool} {Q : VK} {u : Nat} (hu : u + 200 < cLine) (e : inB dx dy = some c) (R : RelP P F r t σ H) (rx : RpB P F r σ x dx) (ry : RpB P F r σ y dy)
    (q : Q (.bl (if neg then !c else c)) H) : rInA P.K u neg x y H Q ∨ ∃ (c : Nat) (z : Str), x = .str ⟨#[c]⟩ ∧ y = .str z ∧ Q (.bl (if neg then !decide (c ∈ z.cps.toList) else decide (c ∈ z.cps.toList))) H := by
  cases dy with
  | tup ys =>
    have e : (if lay dx && (ys.all lay) && decide (dep dx ≤ 190) then some (ys.any fun z => eqD z dx) else none) = some c := by
      cases dx <;> exact e
    obtain ⟨l1, l2, l3, rfl⟩ := inB_seq e
    refine .inl ⟨_, _, rx.dp R l1, .inl (ry.dp R (by simpa only [lay, D.py, PyData.canLay0] using l2)), l1, l2, ?_, q⟩
    have : min (PyData.depthAll (pys ys)) dx.py.depth ≤ 190 := Nat.le_trans (Nat.min_le_right _ _) l3
    omega
  | lst ys =>
    have e : (if lay dx && (ys.all lay) && decide (dep dx ≤ 190) then some (ys.any fun z => eqD z dx) else none) = some c := by
      cases dx <;> exact e
    obtain ⟨l1, l2, l3, rfl⟩ := inB_seq e
    refine .inl ⟨_, _, rx.dp R l1, .inr (ry.dp R (by simpa only [lay, D.py, PyData.canLay0] using l2)), l1, l2, ?_, q⟩
    have : min (PyData.depthAll (pys ys)) dx.py.depth ≤ 190 := Nat.le_trans (Nat.min_le_right _ _) l3
    omega
  | str z =>
    cases dx with
    | str w =>
      have e : (if decide (w.cps.size = 1) then some (decide (w.cps.getD 0 0 ∈ z.cps.toList)) else none) = some c := e
      split at e
      · rename_i h1
        cases e
        have h1 := of_decide_eq_true h1
        refine .inr ⟨w.cps.getD 0 0, z, ?_, ry.str R, q⟩
        rw [rx.str R]
        obtain ⟨w⟩ := w
        congr 2
        refine Array.ext (by simpa using h1) fun i h2 h3 => ?_
        have h2 : i < w.size := h2
        have h1 : w.size = 1 := h1
        have hi : i = 0 := by omega
        subst hi
        simp [h1]
      · cases e
    | _ => cases e
  | _ => cases dx <;> cases e
theorem op_ltA : OpR X (compareOp .Lt) (fun x y H Q => ∃ d e, Dp X.K H x d ∧ Dp X.K H y e ∧ PySem.W.alike d e = true ∧ d ≠ .none ∧ X.A.units + min d.depth e.depth < cLine ∧ Q (.bl (PySem.W.dataLt d e)) H) := by
  intro pins s σ H x y v u Q I rx ry h
  obtain ⟨d, e, hd, he, ha, hn, hu, q⟩ := h
  obtain ⟨as, r1⟩ := Dp.reads I d x v hd rx
  obtain ⟨bs, r2⟩ := Dp.reads I e y u he ry
  exact PySem.W.lt_data r1 r2 ha hn hu ⟨.bl _, H, I, rfl, q⟩
theorem op_isB : OpR X (compareOp .Is) (fun x y H Q => ∃ b c, x = .bl c ∧ y = .bl b ∧ Q (.bl (c == b)) H) := by
  intro pins s σ H x y v u Q I rx ry h
  obtain ⟨b, c, rfl, rfl, q⟩ := h
  cases rx
  cases ry
  cases b <;> cases c <;> first | exact is_none_gen (fin_bl I q rfl) | (exact wpAny_pure ⟨.bl _, H, I, rfl, q⟩)
theorem op_isNB : OpR X (compareOp .IsNot) (fun x y H Q => ∃ b c, x = .bl c ∧ y = .bl b ∧ Q (.bl (!(c == b))) H) := by
  intro pins s σ H x y v u Q I rx ry h
  obtain ⟨b, c, rfl, rfl, q⟩ := h
  cases rx
  cases ry
  cases b <;> cases c <;> first | exact is_none_gen (fin_bl I q rfl) | (exact wpAny_pure ⟨.bl _, H, I, rfl, q⟩)
theorem okLt_parts {a b : D} (h : okLt a b = true) : lay a = true ∧ lay b = true ∧ PySem.W.alike a.py b.py = true ∧ min (dep a) (dep b) ≤ 190 := by
  have h1 := Bool.and_eq_true_iff.mp h
  have h2 := Bool.and_eq_true_iff.mp h1.1
  have h3 := Bool.and_eq_true_iff.mp h2.1
  exact ⟨h3.1, h3.2, h2.2, of_decide_eq_true h1.2⟩
theorem cmpS (hK : X.K = P.K) (hu : X.A.units + 200 < cLine) (op : CmpOp) : OpS P X (compareOp op) (cmpD op) := by
  cases op with
  | Eq =>
    refine ⟨_, op_eqA, fun {x y dx dy d F r t σ H Q} e R rx ry q => ?_⟩
    simp only [cmpD, eqOp] at e
    split at e
    · rename_i h
      cases e
      obtain ⟨h1, h2, h3⟩ := okEq_parts h
      rw [hK]
      exact ⟨_, _, rx.dp R h1, ry.dp R h2, h1, h2, by show X.A.units + min (dep dx) (dep dy) < cLine; omega, q _ _ _ Kp.refl R (.bl _)⟩
    · cases e
  | NotEq =>
    refine ⟨_, op_neA, fun {x y dx dy d F r t σ H Q} e R rx ry q => ?_⟩
    simp only [cmpD, neOp] at e
    split at e
    · rename_i h
      cases e
      obtain ⟨h1, h2, h3⟩ := okEq_parts h
      rw [hK]
      exact ⟨_, _, rx.dp R h1, ry.dp R h2, h1, h2, by show X.A.units + min (dep dx) (dep dy) < cLine; omega, q _ _ _ Kp.refl R (.bl _)⟩
    · cases e
  | Lt =>
    refine ⟨_, OpR.or op_lt (OpR.or op_lt_str op_ltA), fun {x y dx dy d F r t σ H Q} e R rx ry q => ?_⟩
    cases dx with
    | int i =>
      cases dy with
      | int j =>
        cases e
        exact .inl ⟨i, j, rx.int R, ry.int R, q _ _ _ Kp.refl R (.bl _)⟩
      | _ => cases e
    | str i =>
      cases dy with
      | str j =>
        cases e
        exact .inr (.inl ⟨i, j, rx.str R, ry.str R, q _ _ _ Kp.refl R (.bl _)⟩)
      | _ => cases e
    | tup xs =>
      cases dy with
      | tup ys =>
        have e : (if okLt (.tup xs) (.tup ys) then some (D.bl (PySem.W.dataLt (D.py (.tup xs)) (D.py (.tup ys)))) else none) = some d := e
        split at e
        · rename_i h
          cases e
          obtain ⟨h1, h2, h3, h4⟩ := okLt_parts h
          rw [hK]
          exact .inr (.inr ⟨_, _, rx.dp R h1, ry.dp R h2, h3, (fun z => by cases z), by show X.A.units + min (dep (.tup xs)) (dep (.tup ys)) < cLine; omega, q _ _ _ Kp.refl R (.bl _)⟩)
        · cases e
      | _ => cases e
    | _ => cases dy <;> cases e
  | LtE => exact intCmp op_le fun dx dy d e => by cases dx <;> cases dy <;> first | (cases e; done) | (cases e; exact ⟨_, _, rfl, rfl, rfl⟩)
  | Gt => exact intCmp op_gt fun dx dy d e => by cases dx <;> cases dy <;> first | (cases e; done) | (cases e; exact ⟨_, _, rfl, rfl, rfl⟩)
  | GtE => exact intCmp op_ge fun dx dy d e => by cases dx <;> cases dy <;> first | (cases e; done) | (cases e; exact ⟨_, _, rfl, rfl, rfl⟩)
  | Is =>
    refine ⟨_, OpR.or op_isN op_isB, fun {x y dx dy d F r t σ H Q} e R rx ry q => ?_⟩
    cases dy with
    | bl b =>
      cases dx with
      | bl c =>
        cases e
        exact .inr ⟨b, c, rx.bl R, ry.bl R, q _ _ _ Kp.refl R (.bl _)⟩
      | _ => cases e
    | non =>
      have e : some (D.bl (isN dx)) = some d := by cases dx <;> exact e
      cases e
      cases ry.rp R (fun _ z => by cases z) (fun _ z => by cases z)
      refine .inl ⟨rfl, ?_⟩
      have hx : decide (x = V.non) = isN dx := by
        rcases rx with rx | ⟨i, h1, h2⟩
        · cases rx <;> simp [isN]
        · obtain ⟨p, e, o⟩ := R.own i _ h1
          rw [e] at h2
          cases h2
          have := o.at_
          cases dx <;> first | exact this.elim | simp [isN]
      rw [hx]
      exact q _ _ _ Kp.refl R (.bl _)
    | _ => cases dx <;> cases e
  | IsNot =>
    refine ⟨_, OpR.or op_notN op_isNB, fun {x y dx dy d F r t σ H Q} e R rx ry q => ?_⟩
    cases dy with
    | bl b =>
      cases dx with
      | bl c =>
        cases e
        exact .inr ⟨b, c, rx.bl R, ry.bl R, q _ _ _ Kp.refl R (.bl _)⟩
      | _ => cases e
    | non =>
      have e : some (D.bl (!isN dx)) = some d := by cases dx <;> exact e
      cases e
      cases ry.rp R (fun _ z => by cases z) (fun _ z => by cases z)
      refine .inl ⟨rfl, ?_⟩
      have hx : decide (x = V.non) = isN dx := by
        rcases rx with rx | ⟨i, h1, h2⟩
        · cases rx <;> simp [isN]
        · obtain ⟨p, e, o⟩ := R.own i _ h1
          rw [e] at h2
          cases h2
          have := o.at_
          cases dx <;> first | exact this.elim | simp [isN]
      rw [hx]
      exact q _ _ _ Kp.refl R (.bl _)
    | _ => cases dx <;> cases e
  | In =>
    refine ⟨_, OpR.or op_inA op_in_sign, fun {x y dx dy d F r t σ H Q} e R rx ry q => ?_⟩
    obtain ⟨c, e1, rfl⟩ := Option.map_eq_some_iff.mp (show (inB dx dy).map D.bl = some d from e)
    rw [hK]
    exact inS (neg := false) hu e1 R rx ry (q _ _ _ Kp.refl R (.bl _))
  | NotIn =>
    refine ⟨_, OpR.or op_notInA op_notIn_sign, fun {x y dx dy d F r t σ H Q} e R rx ry q => ?_⟩
    obtain ⟨c, e1, rfl⟩ := Option.map_eq_some_iff.mp (show (inB dx dy).map (fun r => D.bl (!r)) = some d from e)
    rw [hK]
    exact inS (neg := true) hu e1 R rx ry (q _ _ _ Kp.refl R (.bl _))
theorem cmp_bl {op : CmpOp} {x y d : D} (h : cmpD op x y = some d) : ∃ b, d = .bl b := by
  have m : ∀ {o : Option Bool} {f : Bool → Bool}, (o.map fun r => D.bl (f r)) = some d → ∃ b, d = .bl b := fun {o f} h => by
    obtain ⟨b, _, e⟩ := Option.map_eq_some_iff.mp h
    exact ⟨_, e.symm⟩
  cases op with
  | Eq =>
    simp only [cmpD, eqOp] at h
    split at h <;> cases h
    exact ⟨_, rfl⟩
  | NotEq =>
    simp only [cmpD, neOp] at h
    split at h <;> cases h
    exact ⟨_, rfl⟩
  | In => exact m (f := id) h
  | NotIn => exact m (f := Bool.not) h
  | Lt => cases x <;> cases y <;> first | (cases h; done) | (cases h; exact ⟨_, rfl⟩) | (simp only [cmpD, ltOp] at h; split at h <;> cases h; exact ⟨_, rfl⟩)
  | LtE => cases x <;> cases y <;> first | (cases h; done) | (cases h; exact ⟨_, rfl⟩)
  | Gt => cases x <;> cases y <;> first | (cases h; done) | (cases h; exact ⟨_, rfl⟩)
  | GtE => cases x <;> cases y <;> first | (cases h; done) | (cases h; exact ⟨_, rfl⟩)
  | Is => cases x <;> cases y <;> first | (cases h; done) | (cases h; exact ⟨_, rfl⟩)
  | IsNot => cases x <;> cases y <;> first | (cases h; done) | (cases h; exact ⟨_, rfl⟩)
end
/-! ### tests -/
def tT (P : Pm) (f : Rho → Tw → Res D) : TT := fun σ H Q => ∃ F r t, RelP P F r t σ H ∧ Aft P F (f r t) fun d t' => ∃ b, truD d = some b ∧ ∀ F' H', Kp P.T F H F' H' → RelP P F' r t' σ H' → Q b H'
section
variable {P : Pm} {X : Cx} {a b c : Expr} {pos : Pos} {fa fb fc : Rho → Tw → Res D}
theorem t_plain (hK : X.K = P.K) (ha : PE X a (tB P fa)) (he : ∀ whole, isTrue a X.env whole = (do let v ← whole; standAt a.pos; holding [v] (truthy v))) : PT X a (tT P fa) :=
  ptMono (pt_truth ha he) fun σ H Q ⟨F, r, t, R, h⟩ => ⟨F, r, t, R, h.mono fun d t' ⟨b, e, q⟩ v F' H' s R' rv => ⟨b, by rw [hK]; exact rv.tru R' e, q F' H' s R'⟩⟩
theorem t_not (ha : PT X a (tT P fa)) : PT X (.UnaryOp .Not a pos) (tT P fun r t => (fa r t).bind fun x t1 => Fm.lift (notD x) t1) :=
  ptMono (pt_not ha) fun σ H Q ⟨F, r, t, R, h⟩ => ⟨F, r, t, R, h.bind.mono fun d t' h => by
    obtain ⟨e, h1, b, h2, q⟩ := h.lift
    obtain ⟨b2, h3, rfl⟩ := Option.map_eq_some_iff.mp h1
    cases h2
    exact ⟨b2, h3, q⟩⟩
theorem t_cmp (hK : X.K = P.K) (hu : X.A.units + 200 < cLine) {op : CmpOp} (ha : PE X a (tB P fa)) (hb : PE X b (tB P fb)) (hm : behindInMarks op b = false) :
    PT X (.Compare a [op] [b] pos) (tT P fun r t => (fa r t).bind fun x t1 => (fb r t1).bind fun y t2 => Fm.lift (cmpD op x y) t2) := by
  obtain ⟨rr, ho, hr⟩ := cmpS (P := P) hK hu op
  refine ptMono (pt_cmpR ho ha hb hm) fun σ H Q ⟨F, r, t, R, h⟩ => op2 (P := P) hr σ H _ ⟨F, r, t, R, ?_⟩
  refine Aft.thn (h.bind.mono fun dx t1 h => Aft.thn (h.bind.mono fun dy t2 h => ?_))
  obtain ⟨d, e, b, e2, q⟩ := h.lift
  obtain ⟨k, rfl⟩ := cmp_bl e
  cases e2
  rw [e]
  exact fun v F' H' s R' rv => by
    cases rv
    exact ⟨_, rfl, q F' H' s R'⟩
/-- a comparison as a value -/
theorem s_cmp (hK : X.K = P.K) (hu : X.A.units + 200 < cLine) {op : CmpOp} (ha : PE X a (tB P fa)) (hb : PE X b (tB P fb)) (hm : behindInMarks op b = false) :
    PE X (.Compare a [op] [b] pos) (tD P fun r t => (fa r t).bind fun x t1 => (fb r t1).bind fun y t2 => Fm.lift (cmpD op x y) t2) := by
  obtain ⟨rr, ho, hr⟩ := cmpS (P := P) hK hu op
  exact peMono (pe_cmpR ho ha hb hm) (op2 (P := P) hr)
def chainE (o1 o2 : CmpOp) (fa fb fc : Rho → Tw → Res D) (r : Rho) (t : Tw) : Res D := (fa r t).bind fun x t1 => (fb r t1).bind fun y t2 => match cmpD o1 x y with
    | some (.bl true) => (fc r t2).bind fun z t3 => Fm.lift (cmpD o2 y z) t3
    | some (.bl false) => .ok (.bl false) t2
    | _ => .bad
theorem chain_of {rr rr' : R2} {o1 o2 : CmpOp} (hr : ∀ {x y : V} {dx dy d : D} {F : Hp} {r : Rho} {t : Tw} {σ : L2.St} {H : Hp} {Q : VK}, cmpD o1 dx dy = some d → RelP P F r t σ H → RpB P F r σ x dx → RpB P F r σ y dy →
      (∀ v F' H', Kp P.T F H F' H' → RelP P F' r t σ H' → Rp P.K P.T F' v d → Q v H') → rr x y H Q)
    (hr' : ∀ {x y : V} {dx dy d : D} {F : Hp} {r : Rho} {t : Tw} {σ : L2.St} {H : Hp} {Q : VK}, cmpD o2 dx dy = some d → RelP P F r t σ H → RpB P F r σ x dx → RpB P F r σ y dy →
      (∀ v F' H', Kp P.T F H F' H' → RelP P F' r t σ H' → Rp P.K P.T F' v d → Q v H') → rr' x y H Q) (σ : L2.St) (H : Hp) (Q : VK) (h : tD P (chainE o1 o2 fa fb fc) σ H Q) : tChain rr rr' (tB P fa) (tB P fb) (tB P fc) σ H Q := by
  obtain ⟨F, r, t, R, h⟩ := h
  refine ⟨F, r, t, R, h.bind.mono fun dx t1 h v F1 H1 s1 R1 rx => ?_⟩
  refine ⟨F1, r, t1, R1, (h.up s1.1).bind.mono fun dy t2 h w F2 H2 s2 R2 ry => ?_⟩
  have h := h.up s2.1
  cases e : cmpD o1 dx dy with
  | none =>
    rw [e] at h
    exact h.elim
  | some d =>
    obtain ⟨k, rfl⟩ := cmp_bl e
    rw [e] at h
    refine hr e R2 (rx.mono s2.1) ry fun z F3 H3 s3 R3 rz => ?_
    cases rz
    refine ⟨k, rfl, ?_⟩
    cases k with
    | false => exact h _ _ _ (s1.trans (s2.trans s3)) R3 (.bl false)
    | true =>
      refine ⟨F3, r, t2, R3, ((show Aft P F2 ((fc r t2).bind fun z t3 => Fm.lift (cmpD o2 dy z) t3) _ from h).up s3.1).bind.mono fun dz t4 h u F4 H4 s4 R4 rz => ?_⟩
      obtain ⟨d4, e4, q⟩ := h.lift
      exact hr' e4 R4 (ry.mono (s3.trans s4).1) rz fun v F' H' s R' h => q v F' H' (s1.trans (s2.trans (s3.trans (s4.trans s)))) R' h
theorem s_chain (hK : X.K = P.K) (hu : X.A.units + 200 < cLine) {o1 o2 : CmpOp} (ha : PE X a (tB P fa)) (hb : PE X b (tB P fb)) (hc : PE X c (tB P fc)) (hm : lastMarks [o1, o2] [b, c] = false) :
    PE X (.Compare a [o1, o2] [b, c] pos) (tD P (chainE o1 o2 fa fb fc)) := by
  obtain ⟨rr, ho, hr⟩ := cmpS (P := P) hK hu o1
  obtain ⟨rr', ho', hr'⟩ := cmpS (P := P) hK hu o2
  exact peMono (pe_chain ho ho' ha hb hc hm) (chain_of hr hr')
theorem chain_bl {o1 o2 : CmpOp} {F : Hp} {r : Rho} {t : Tw} {Z : D → Tw → Prop} (h : Aft P F (chainE o1 o2 fa fb fc r t) Z) : Aft P F (chainE o1 o2 fa fb fc r t) fun d t => (∃ k, d = .bl k) ∧ Z d t := by
  unfold chainE at h ⊢
  refine Aft.thn (h.bind.mono fun dx t1 h => Aft.thn (h.bind.mono fun dy t2 h => ?_))
  cases e : cmpD o1 dx dy with
  | none =>
    rw [e] at h
    exact h.elim
  | some d =>
    obtain ⟨k, rfl⟩ := cmp_bl e
    rw [e] at h
    cases k with
    | false => exact ⟨⟨_, rfl⟩, h⟩
    | true =>
      refine Aft.thn ((show Aft P F ((fc r t2).bind fun z t3 => Fm.lift (cmpD o2 dy z) t3) _ from h).bind.mono fun dz t3 h => ?_)
      obtain ⟨d4, e4, q⟩ := h.lift
      rw [e4]
      exact ⟨cmp_bl e4, q⟩
theorem t_chain (hK : X.K = P.K) (hu : X.A.units + 200 < cLine) {o1 o2 : CmpOp} (ha : PE X a (tB P fa)) (hb : PE X b (tB P fb)) (hc : PE X c (tB P fc)) (hm : lastMarks [o1, o2] [b, c] = false) :
    PT X (.Compare a [o1, o2] [b, c] pos) (tT P (chainE o1 o2 fa fb fc)) := by
  obtain ⟨rr, ho, hr⟩ := cmpS (P := P) hK hu o1
  obtain ⟨rr', ho', hr'⟩ := cmpS (P := P) hK hu o2
  refine ptMono (pt_chain ho ho' ha hb hc hm) fun σ H Q ⟨F, r, t, R, h⟩ => chain_of hr hr' σ H _ ⟨F, r, t, R, (chain_bl h).mono fun d t' h => ?_⟩
  obtain ⟨⟨k, rfl⟩, b, e, q⟩ := h
  cases e
  exact fun v F' H' s R' rv => by
    cases rv
    exact ⟨_, rfl, q F' H' s R'⟩
/-! ### not, and, or, if as values -/
theorem s_not (hK : X.K = P.K) (ha : PE X a (tB P fa)) : PE X (.UnaryOp .Not a pos) (tD P fun r t => (fa r t).bind fun x t1 => Fm.lift (notD x) t1) :=
  peMono (pe_notT ha) fun σ H Q ⟨F, r, t, R, h⟩ => ⟨F, r, t, R, h.bind.mono fun d t' h v F' H' s R' rv => by
    obtain ⟨e, h1, q⟩ := h.lift
    obtain ⟨b2, h3, rfl⟩ := Option.map_eq_some_iff.mp h1
    exact ⟨b2, by rw [hK]; exact rv.tru R' h3, q _ _ _ s R' (.bl _)⟩⟩
def andE (fa fb : Rho → Tw → Res D) (r : Rho) (t : Tw) : Res D := (fa r t).bind fun x t1 => match truD x with
    | some true => fb r t1
    | some false => .ok x t1
    | none => .bad
def orE (fa fb : Rho → Tw → Res D) (r : Rho) (t : Tw) : Res D := (fa r t).bind fun x t1 => match truD x with
    | some true => .ok x t1
    | some false => fb r t1
    | none => .bad
def iteE (fc fa fb : Rho → Tw → Res D) (r : Rho) (t : Tw) : Res D := (fc r t).bind fun x t1 => match truD x with
    | some true => fa r t1
    | some false => fb r t1
    | none => .bad
variable {rest : List Expr}
theorem s_and (hK : X.K = P.K) (ha : PE X a (tD P fa)) (hb : PE X (.BoolOp .And (b :: rest) pos) (tD P fb)) : PE X (.BoolOp .And (a :: b :: rest) pos) (tD P (andE fa fb)) :=
  peMono (pe_andT ha hb) fun σ H Q ⟨F, r, t, R, h⟩ => ⟨F, r, t, R, h.bind.mono fun d t' h v F' H' s R' rv => by
    cases e : truD d with
    | none =>
      rw [e] at h
      exact h.elim
    | some k =>
      rw [e] at h
      refine ⟨k, by rw [hK]; exact (RpB.of (r := r) (σ := σ) rv).tru R' e, ?_⟩
      cases k with
      | true => exact ⟨F', r, t', R', ((show Aft P F (fb r t') _ from h).up s.1).mono fun d2 t2 q v2 F2 H2 s2 R2 rv2 => q v2 F2 H2 (s.trans s2) R2 rv2⟩
      | false => exact h v F' H' s R' rv⟩
theorem s_or (hK : X.K = P.K) (ha : PE X a (tD P fa)) (hb : PE X (.BoolOp .Or (b :: rest) pos) (tD P fb)) : PE X (.BoolOp .Or (a :: b :: rest) pos) (tD P (orE fa fb)) :=
  peMono (pe_orT ha hb) fun σ H Q ⟨F, r, t, R, h⟩ => ⟨F, r, t, R, h.bind.mono fun d t' h v F' H' s R' rv => by
    cases e : truD d with
    | none =>
      rw [e] at h
      exact h.elim
    | some k =>
      rw [e] at h
      refine ⟨k, by rw [hK]; exact (RpB.of (r := r) (σ := σ) rv).tru R' e, ?_⟩
      cases k with
      | false => exact ⟨F', r, t', R', ((show Aft P F (fb r t') _ from h).up s.1).mono fun d2 t2 q v2 F2 H2 s2 R2 rv2 => q v2 F2 H2 (s.trans s2) R2 rv2⟩
      | true => exact h v F' H' s R' rv⟩
theorem s_ite (hc : PT X c (tT P fc)) (ha : PE X a (tD P fa)) (hb : PE X b (tD P fb)) : PE X (.IfExp c a b pos) (tD P (iteE fc fa fb)) :=
  peMono (pe_ifExp hc ha hb) fun σ H Q ⟨F, r, t, R, h⟩ => ⟨F, r, t, R, h.bind.mono fun d t' h => by
    cases e : truD d with
    | none =>
      rw [e] at h
      exact h.elim
    | some k =>
      rw [e] at h
      refine ⟨k, rfl, fun F' H' s R' => ?_⟩
      cases k with
      | true => exact ⟨F', r, t', R', ((show Aft P F (fa r t') _ from h).up s.1).mono fun d2 t2 q v2 F2 H2 s2 R2 rv2 => q v2 F2 H2 (s.trans s2) R2 rv2⟩
      | false => exact ⟨F', r, t', R', ((show Aft P F (fb r t') _ from h).up s.1).mono fun d2 t2 q v2 F2 H2 s2 R2 rv2 => q v2 F2 H2 (s.trans s2) R2 rv2⟩⟩
/-- and, or as tests -/
theorem t_and (ha : PT X a (tT P fa)) (hb : PW X (.BoolOp .And (b :: rest) pos) (tT P fb)) : PW X (.BoolOp .And (a :: b :: rest) pos) (tT P (andE fa fb)) :=
  ⟨fun wh pins s0 σ H Q I ⟨F, r, t, R, h⟩ => (pw_and ha hb).run wh pins s0 σ H Q I ⟨F, r, t, R, h.bind.mono fun d t' h => by
    cases e : truD d with
    | none =>
      rw [e] at h
      exact h.elim
    | some k =>
      rw [e] at h
      refine ⟨k, rfl, fun F' H' s R' => ?_⟩
      cases k with
      | true => exact ⟨F', r, t', R', ((show Aft P F (fb r t') _ from h).up s.1).mono fun d2 t2 ⟨b2, e2, q⟩ => ⟨b2, e2, fun F2 H2 s2 R2 => q F2 H2 (s.trans s2) R2⟩⟩
      | false =>
        obtain ⟨b2, e2, q⟩ := h
        rw [e] at e2
        cases e2
        exact q F' H' s R'⟩⟩
theorem t_or (ha : PT X a (tT P fa)) (hb : PW X (.BoolOp .Or (b :: rest) pos) (tT P fb)) : PW X (.BoolOp .Or (a :: b :: rest) pos) (tT P (orE fa fb)) :=
  ⟨fun wh pins s0 σ H Q I ⟨F, r, t, R, h⟩ => (pw_or ha hb).run wh pins s0 σ H Q I ⟨F, r, t, R, h.bind.mono fun d t' h => by
    cases e : truD d with
    | none =>
      rw [e] at h
      exact h.elim
    | some k =>
      rw [e] at h
      refine ⟨k, rfl, fun F' H' s R' => ?_⟩
      cases k with
      | false => exact ⟨F', r, t', R', ((show Aft P F (fb r t') _ from h).up s.1).mono fun d2 t2 ⟨b2, e2, q⟩ => ⟨b2, e2, fun F2 H2 s2 R2 => q F2 H2 (s.trans s2) R2⟩⟩
      | true =>
        obtain ⟨b2, e2, q⟩ := h
        rw [e] at e2
        cases e2
        exact q F' H' s R'⟩⟩
end
end Fm

/-! ### subscripts, displays, built-in calls, dicts -/
namespace Fm
open PySem PySem.Spec PyProof.Rows L2
section
variable {P : Pm} {X : Cx} {a b c : Expr} {pos : Pos} {fa fb fc : Rho → Tw → Res D}
theorem atI_map {ns : List Int} {i v : Int} (e : atI ns i = some v) : atI (ns.map V.int) i = some (.int v) := by
  unfold atI at e ⊢
  rw [List.length_map]
  cases h : ixN ns.length i with
  | none =>
    rw [h] at e
    cases e
  | some j =>
    rw [h] at e
    have e : ns[j]? = some v := e
    show (ns.map V.int)[j]? = _
    rw [List.getElem?_map, e]
    rfl
theorem ix_nat {xs : List V} {ds : List D} {F : Hp} {i : Int} {d : D} (q : RpL P.K P.T F xs ds) (e : atI ds i = some d) : ∃ v, atI xs i = some v ∧ Rp P.K P.T F v d := by
  unfold atI at e ⊢
  rw [q.length]
  cases h : ixN ds.length i with
  | none =>
    rw [h] at e
    cases e
  | some j =>
    rw [h] at e
    obtain ⟨v, e2, r2⟩ := q.get (i := j) e
    exact ⟨v, e2, r2⟩
theorem s_ix (hK : X.K = P.K) (ha : PE X a (tB P fa)) (hb : PE X b (tB P fb)) (hs : PlainIx b) : PE X (.Subscript a b pos) (tD P fun r t => (fa r t).bind fun x t1 => (fb r t1).bind fun y t2 => Fm.lift (ixD x y) t2) := by
  refine peMono (pe_ix ix_seq ha hb hs) (op2 fun {x y dx dy d F r t σ H Q} e R rx ry q => ?_)
  cases dx with
  | tup xs =>
    cases dy with
    | int i =>
      obtain ⟨p1, v1, rfl, e1, z1, q1⟩ := rx.tup R
      obtain ⟨v, e2, r2⟩ := ix_nat q1 e
      rw [hK]
      exact .inr (.inl ⟨p1, v1, i, v, rfl, ry.int R, sqP_t R.sub e1, e2, q _ _ _ Kp.refl R r2⟩)
    | _ => cases e
  | lst xs =>
    cases dy with
    | int i =>
      obtain ⟨p1, v1, rfl, e1, z1, q1⟩ := rx.lst R
      obtain ⟨v, e2, r2⟩ := ix_nat q1 e
      rw [hK]
      exact .inl ⟨p1, v1, i, v, rfl, ry.int R, SqL.of e1, e2, q _ _ _ Kp.refl R r2⟩
    | _ => cases e
  | str z =>
    cases dy with
    | int i =>
      have e : (if okLen z.length then (atI z.cps.toList i).map fun c => D.str ⟨#[c]⟩ else none) = some d := e
      split at e
      · rename_i hl
        obtain ⟨c, e1, rfl⟩ := Option.map_eq_some_iff.mp e
        exact .inr (.inr ⟨z, i, c, rx.str R, ry.int R, okLen_le hl, e1, q _ _ _ Kp.refl R (.str _)⟩)
      · cases e
    | _ => cases e
  | scr ns =>
    cases dy with
    | int i =>
      have e : (L2.atI ns i).map D.int = some d := e
      obtain ⟨v, e1, rfl⟩ := Option.map_eq_some_iff.mp e
      cases rx.rp R (fun _ z => by cases z) (fun _ z => by cases z)
      rw [hK]
      exact .inl ⟨_, _, i, .int v, rfl, ry.int R, sqL_mono R.sub R.sc, atI_map e1, q _ _ _ Kp.refl R (.int v)⟩
    | _ => cases e
  | _ => cases dy <;> cases e
/-! ### slices -/
def tO (P : Pm) (f : Rho → Tw → Res (Option D)) : TO := fun σ H Q => ∃ F r t, RelP P F r t σ H ∧ Aft P F (f r t) fun o t' => ∃ i, optI o = some i ∧ ∀ F' H', Kp P.T F H F' H' → RelP P F' r t' σ H' → Q i H'
theorem poMono {e : Option Expr} {t u : TO} (h : PO X e t) (i : ∀ σ H Q, u σ H Q → t σ H Q) : PO X e u := ⟨fun pins s σ H Q I q => h.run pins s σ H Q I (i σ H Q q)⟩
theorem s_none : PO X none (tO P fun r t => .ok none t) := poMono po_none fun σ H Q ⟨F, r, t, R, i, e, q⟩ => by
  cases e
  exact q F H Kp.refl R
theorem s_some (ha : PE X a (tB P fa)) : PO X (some a) (tO P fun r t => (fa r t).bind fun x t1 => .ok (some x) t1) := poMono (po_some ha) fun σ H Q ⟨F, r, t, R, h⟩ => ⟨F, r, t, R, h.bind.mono fun d t' ⟨i, e, q⟩ v F' H' s R' rv => by
  cases d with
  | int j =>
    cases e
    exact ⟨j, rv.int R', q F' H' s R'⟩
  | _ => cases e⟩
theorem cut_rel {xs : List V} {ds : List D} {F : Hp} (q : RpL P.K P.T F xs ds) (l h : Option Int) : RpL P.K P.T F (cutV xs l h) (cutL ds l h) := by
  unfold cutV cutL
  rw [q.length]
  exact (q.drop _).take _
def cutE (fa : Rho → Tw → Res D) (fl fh : Rho → Tw → Res (Option D)) (r : Rho) (t : Tw) : Res D := (fa r t).bind fun x t1 => (fl r t1).bind fun l t2 => (Fm.lift (optI l) t2).bind fun l t2 => (fh r t2).bind fun h t3 => (Fm.lift (optI h) t3).bind fun h t3 => Fm.lift (cutD x l h) t3
theorem s_cut (hK : X.K = P.K) {lo hi : Option Expr} {p2 : Pos} {fl fh : Rho → Tw → Res (Option D)} (ha : PE X a (tB P fa)) (hl : PO X lo (tO P fl)) (hh : PO X hi (tO P fh)) :
    PE X (.Subscript a (.Slice lo hi none p2) pos) (tD P (cutE fa fl fh)) := by
  refine peMono (pe_slice (SlR.or sl_tupP sl_list) ha hl hh) fun σ H Q ⟨F, r, t, R, h⟩ => ⟨F, r, t, R, h.bind.mono fun dx t1 h v F1 H1 s1 R1 rx => ?_⟩
  refine ⟨F1, r, t1, R1, (h.up s1.1).bind.mono fun dl t2 h => ?_⟩
  obtain ⟨l, ol, h⟩ := h.bind.lift
  refine ⟨l, ol, fun F2 H2 s2 R2 => ⟨F2, r, t2, R2, (h.up s2.1).bind.mono fun dh t3 h => ?_⟩⟩
  obtain ⟨u, ou, h⟩ := h.bind.lift
  obtain ⟨d, e, q⟩ := h.lift
  refine ⟨u, ou, fun F3 H3 s3 R3 => ?_⟩
  have rx := rx.mono (s2.trans s3).1
  have q : ∀ v F' H', Kp P.T F3 H3 F' H' → RelP P F' r t3 σ H' → Rp P.K P.T F' v d → Q v H' := fun v F' H' s R' h => q v F' H' (s1.trans (s2.trans (s3.trans s))) R' h
  cases dx with
  | tup xs =>
    cases e
    obtain ⟨p1, v1, rfl, e1, z1, q1⟩ := rx.tup R3
    rw [hK]
    refine .inl ⟨p1, v1, rfl, sqP_t R3.sub e1, fun hw => ?_, fun _ => ?_⟩
    · refine q _ _ _ Kp.refl R3 ?_
      have ec : cutL xs l u = xs := by
        unfold cutL
        rw [← q1.length, hw.1, hw.2]
        simp [q1.length]
      rw [ec]
      exact .tup e1 z1 q1
    · exact mkTup R3 (Nat.le_trans (cutV_length _ _ _) z1) (cut_rel q1 l u) q
  | lst xs =>
    cases e
    obtain ⟨p1, v1, rfl, e1, z1, q1⟩ := rx.lst R3
    exact .inr ⟨p1, v1, rfl, SqL.of e1, mkLst R3 (Nat.le_trans (cutV_length _ _ _) z1) (cut_rel q1 l u) q⟩
  | _ => cases e
/-! ### argument lists, displays -/
theorem s_nil : PA X [] (tDs P fun r t => .ok [] t) := paMono pa_nil fun σ H Q ⟨F, r, t, R, q⟩ => q [] F H Kp.refl R .nil
theorem s_cons {es : List Expr} {fs : Rho → Tw → Res (List D)} (ha : PE X a (tD P fa)) (hr : PA X es (tDs P fs)) (hs : starEach (a :: es) X.env = (false, eval a X.env) :: starEach es X.env) :
    PA X (a :: es) (tDs P fun r t => (fa r t).bind fun x t1 => (fs r t1).bind fun xs t2 => .ok (x :: xs) t2) :=
  paMono (pa_cons ha hr hs) fun σ H Q ⟨F, r, t, R, h⟩ => ⟨F, r, t, R, h.bind.mono fun d t1 h v F1 H1 s1 R1 rv => ⟨F1, r, t1, R1, (h.up s1.1).bind.mono fun ds t2 q vs F2 H2 s2 R2 rvs =>
    q (v :: vs) F2 H2 (s1.trans s2) R2 (.cons (rv.mono s2.1) rvs)⟩⟩
theorem s_tup {es : List Expr} {x1 : Nat} {fs : Rho → Tw → Res (List D)} (h : PA X es (tDs P fs)) : PE X (.Tuple es x1 pos) (tD P fun r t => (fs r t).bind fun xs t1 => if okLen xs.length then .ok (.tup xs) t1 else .bad) :=
  peMono (pe_tupP h) fun σ H Q ⟨F, r, t, R, h⟩ => ⟨F, r, t, R, h.bind.mono fun ds t1 h vs F1 H1 s1 R1 rv => by
    split at h
    · rename_i hl
      have z : vs.length ≤ sizeLine := by
        rw [rv.length]
        exact okLen_le hl
      exact ⟨z, mkTup R1 z rv fun v F' H' s R' r => h v F' H' (s1.trans s) R' r⟩
    · exact h.elim⟩
/-! ### an object that is nobody's yet -/
/-- a new object: nobody's -/
structure Fre (P : Pm) (F : Hp) (r : Rho) (σ : L2.St) (H : Hp) (v : V) (d : D) (p : Addr) : Prop where
  v : v = .ref p
  own : Fm.Own P.K P.T P.H0 F H p d
  no : ∀ (i : Nat) (e : D), r[i]? = some (.own e) → σ[i]? ≠ some (some (.ref p))
def tN (P : Pm) (f : Rho → Tw → Res D) : TE := fun σ H Q => ∃ F r t, RelP P F r t σ H ∧ Aft P F (f r t) fun d t' => ∀ v F' H' p, Kp P.T F H F' H' → RelP P F' r t' σ H' → Nn H p → Fre P F' r σ H' v d p → Q v H'
/-- .. it may be frozen, if it is a list -/
theorem Fre.lst {F H : Hp} {F1 H1 : Hp} {r : Rho} {t' : Tw} {σ : L2.St} {v : V} {p : Addr} {ds : List D} {Q : VK} (s : Kp P.T F H F1 H1) (R' : RelP P F1 r t' σ H1) (hp : Nn H p) (fr : Fre P F1 r σ H1 v (.lst ds) p)
    (q : ∀ v F' H', Kp P.T F H F' H' → RelP P F' r t' σ H' → Rp P.K P.T F' v (.lst ds) → Q v H') : Q v H1 := by
  obtain ⟨rfl, o, no⟩ := fr
  obtain ⟨vs, h1, h2, h3⟩ := o.at_
  have R2 := R'.freeze (o := .lst vs) h1 (by intro _ z; cases z) o.fr o.h0 o.n1 o.n2 no
  have s2 : Same F1 (upd F1 p (.lst vs)) := same_new o.fr
  refine q _ _ _ ⟨s.1.trans s2, fun c u h => ?_, s.old, s.had⟩ R2 (.lst upd_same h2 (h3.mono s2))
  by_cases hc : c = p
  · rw [hc]
    exact .inr hp
  · rw [upd_ne hc] at h
    exact s.new c u h
theorem tNtD_mono {f : Rho → Tw → Res D} (hl : ∀ r t d t', f r t = .ok d t' → ∃ xs, d = .lst xs) (σ : L2.St) (H : Hp) (Q : VK) (z : tD P f σ H Q) : tN P f σ H Q := by
  obtain ⟨F, r, t, R, h⟩ := z
  refine ⟨F, r, t, R, ?_⟩
  cases e : f r t with
  | ok d t' =>
    obtain ⟨xs, rfl⟩ := hl r t d t' e
    rw [e] at h
    exact fun v F' H' p s R' hp fr => fr.lst s R' hp h
  | exc n t' =>
    rw [e] at h
    exact h
  | bad =>
    rw [e] at h
    exact h
/-- .. it may be frozen; a dict is locked -/
theorem tN_tD {f : Rho → Tw → Res D} {e : Expr} (h : PE X e (tN P f)) : PE X e (tD P f) := by
  refine ⟨fun pins s σ H Q I ⟨F, r, t, R, z⟩ => ?_⟩
  refine thn (h.run pins s σ H (fun v H1 => ∃ F1 t' d p, Kp P.T F H F1 H1 ∧ RelP P F1 r t' σ H1 ∧ Nn H p ∧ Fre P F1 r σ H1 v d p ∧ ∀ v F' H', Kp P.T F H F' H' → RelP P F' r t' σ H' → Rp P.K P.T F' v d → Q v H') I ⟨F, r, t, R, z.mono fun d t' q v F' H' p s R' hp fr => ⟨F', t', d, p, s, R', hp, fr, q⟩⟩) fun u s1 ⟨v, H1, I1, rv, F1, t', d, p, k, R1, hp, fr, q⟩ => ?_
  cases d with
  | lst ds => exact ⟨v, H1, I1, rv, fr.lst k R1 hp q⟩
  | dct es =>
    obtain ⟨rfl, o, no⟩ := fr
    obtain ⟨kvs, h1, h2, h3⟩ := o.at_
    obtain ⟨od, I2⟩ := I1.lock h1 trivial
    have R2 := R1.lockF (od := od) (u := .dK kvs) (tabs_dK R1.tabs h1) o.fr o.h0 o.n1 o.n2 no
    have s2 : Same F1 (upd F1 p (.frz od (.dK kvs))) := same_new o.fr
    refine ⟨.ref p, _, I2, rv, q _ _ _ ⟨k.1.trans s2, fun c u h => ?_, fun c u h m1 m2 m3 => ?_, fun c h => k.had c (h.upd (by intro _ z; cases z)).1⟩ R2 (.dct upd_same h2 (h3.mono s2))⟩
    · by_cases hc : c = p
      · rw [hc]
        exact .inr hp
      · rw [upd_ne hc] at h
        exact k.new c u h
    · rw [upd_ne (fun z => hp.no (by rw [← z]; exact h) m3)]
      exact k.old c u h m1 m2 m3
  | dcn es =>
    obtain ⟨rfl, o, no⟩ := fr
    obtain ⟨xs, h1, hy, h2, h3⟩ := o.at_
    obtain ⟨od, I2⟩ := I1.lock h1 trivial
    have R2 := R1.lockF (od := od) (u := DN P.T.pg P.T.wo p xs) (tabs_dn R1.tabs h1 hy.2) o.fr o.h0 o.n1 o.n2 no
    have s2 : Same F1 (upd F1 p (.frz od (DN P.T.pg P.T.wo p xs))) := same_new o.fr
    refine ⟨.ref p, _, I2, rv, q _ _ _ ⟨k.1.trans s2, fun c u h => ?_, fun c u h m1 m2 m3 => ?_, fun c h => k.had c (h.upd (by intro _ z; cases z)).1⟩ R2 (.dcn upd_same hy h2 (h3.mono s2))⟩
    · by_cases hc : c = p
      · rw [hc]
        exact .inr hp
      · rw [upd_ne hc] at h
        exact k.new c u h
    · rw [upd_ne (fun z => hp.no (by rw [← z]; exact h) m3)]
      exact k.old c u h m1 m2 m3
  | _ =>
    obtain ⟨_, o, _⟩ := fr
    exact o.at_.elim
/-- laid just now -/
theorem mkNew {F : Hp} {r : Rho} {t : Tw} {σ : L2.St} {H : Hp} {o : HO} {d : D} (R : RelP P F r t σ H) {p : Addr} (hp : H p = none) (h : OwnAt P.K P.T F (upd H p o) p d) :
    RelP P F r t σ (upd H p o) ∧ Kp P.T F H F (upd H p o) ∧ Fre P F r σ (upd H p o) (.ref p) d p := by
  have b := R.toRelH.newO (o := o) hp
  have n1 : p ≠ P.T.a := fun e => by
    rw [e, R.tw.a] at hp
    cases hp
  have n2 : p ≠ P.T.b := fun e => by
    rw [e, R.tw.b] at hp
    cases hp
  refine ⟨R.step b, Kp.of b, rfl, ⟨R.sub.free hp, n1, n2, R.had p (.of hp), h⟩, fun i e h1 h2 => ?_⟩
  obtain ⟨q, e1, w⟩ := R.own i e h1
  rw [h2] at e1
  cases e1
  obtain ⟨o2, ho, _⟩ := w.at_.obj
  rw [hp] at ho
  cases ho
theorem n_lst {es : List Expr} {fs : Rho → Tw → Res (List D)} (h : PA X es (tDs P fs)) : PE X (.List es pos) (tN P fun r t => (fs r t).bind fun xs t1 => if okLen xs.length then .ok (.lst xs) t1 else .bad) :=
  peMono (pe_lst h) fun σ H Q ⟨F, r, t, R, h⟩ => ⟨F, r, t, R, h.bind.mono fun ds t1 h vs F1 H1 s1 R1 rv => by
    split at h
    · rename_i hl
      have z : vs.length ≤ sizeLine := by
        rw [rv.length]
        exact okLen_le hl
      refine ⟨z, fun p hp => ?_⟩
      obtain ⟨R2, k2, fr⟩ := mkNew (o := .lst vs) (d := .lst ds) R1 hp ⟨vs, upd_same, z, rv⟩
      exact h _ _ _ p (s1.trans k2) R2 (s1.had p (.of hp)) fr
    · exact h.elim⟩
/-! ### built-in calls of one value -/
def CallS (P : Pm) (X : Cx) (f : Value) (g : D → Option D) : Prop :=
  ∃ rr : List V → Hp → VK → Prop, CallR X f rr ∧ ∀ {x : V} {dx d : D} {F : Hp} {r : Rho} {t : Tw} {σ : L2.St} {H : Hp} {Q : VK}, g dx = some d → RelP P F r t σ H → RpB P F r σ x dx →
      (∀ v F' H', Kp P.T F H F' H' → RelP P F' r t σ H' → Rp P.K P.T F' v d → Q v H') → rr [x] H Q
/-- .. that make a new list, nobody's -/
def CallN (P : Pm) (X : Cx) (f : Value) (g : D → Option D) : Prop :=
  ∃ rr : List V → Hp → VK → Prop, CallR X f rr ∧ ∀ {x : V} {dx d : D} {F : Hp} {r : Rho} {t : Tw} {σ : L2.St} {H : Hp} {Q : VK}, g dx = some d → RelP P F r t σ H → RpB P F r σ x dx →
      (∀ v F' H' p, Kp P.T F H F' H' → RelP P F' r t σ H' → Nn H p → Fre P F' r σ H' v d p → Q v H') → rr [x] H Q
theorem cs_abs : CallS P X (.builtin "abs") (blt1 .abs) := by
  refine ⟨_, call_abs, fun {x dx d F r t σ H Q} e R rx q => ?_⟩
  cases dx with
  | int i =>
    cases e
    exact ⟨i, by rw [rx.int R], q _ _ _ Kp.refl R (.int _)⟩
  | _ => cases e
theorem cs_len (hK : X.K = P.K) : CallS P X (.builtin "len") (blt1 .len) := by
  refine ⟨_, CallR.or call_len call_lenD, fun {x dx d F r t σ H Q} e R rx q => ?_⟩
  rw [hK]
  cases dx with
  | tup ds =>
    cases e
    obtain ⟨p1, v1, rfl, e1, z1, q1⟩ := rx.tup R
    exact .inl ⟨_, v1.length, rfl, .inr ⟨v1, sqP_t R.sub e1, rfl⟩, by rw [q1.length]; exact q _ _ _ Kp.refl R (.int _)⟩
  | lst ds =>
    cases e
    obtain ⟨p1, v1, rfl, e1, z1, q1⟩ := rx.lst R
    exact .inl ⟨_, v1.length, rfl, .inl ⟨v1, SqL.of e1, rfl⟩, by rw [q1.length]; exact q _ _ _ Kp.refl R (.int _)⟩
  | scr ns =>
    cases rx.rp R (fun _ z => by cases z) (fun _ z => by cases z)
    cases e
    exact .inl ⟨_, (P.T.ns.map V.int).length, rfl, .inl ⟨_, sqL_mono R.sub R.sc, rfl⟩, by rw [List.length_map]; exact q _ _ _ Kp.refl R (.int _)⟩
  | str z =>
    have e : (if okLen z.length then some (D.int z.length) else none) = some d := e
    split at e
    · rename_i hl
      cases e
      obtain rfl := rx.str R
      exact .inl ⟨_, z.length, rfl, ⟨okLen_le hl, rfl⟩, q _ _ _ Kp.refl R (.int _)⟩
    · cases e
  | _ => cases e
theorem cs_all (hK : X.K = P.K) (hc : X.calm = true) : CallS P X (.builtin "all") (blt1 .all) := by
  refine ⟨_, cr_all hc, fun {x dx d F r t σ H Q} e R rx q => ?_⟩
  cases dx with
  | lst ds =>
    obtain ⟨bs, e1, rfl⟩ := Option.map_eq_some_iff.mp (show (bls ds).map (fun bs => D.bl (bs.all id)) = some d from e)
    obtain ⟨p1, v1, rfl, e2, z1, q1⟩ := rx.lst R
    obtain rfl := q1.blsOf e1
    exact ⟨p1, bs, rfl, SqL.of e2, q _ _ _ Kp.refl R (.bl _)⟩
  | _ => cases e
theorem cs_any (hK : X.K = P.K) (hc : X.calm = true) : CallS P X (.builtin "any") (blt1 .any) := by
  refine ⟨_, cr_any hc, fun {x dx d F r t σ H Q} e R rx q => ?_⟩
  cases dx with
  | lst ds =>
    obtain ⟨bs, e1, rfl⟩ := Option.map_eq_some_iff.mp (show (bls ds).map (fun bs => D.bl (bs.any id)) = some d from e)
    obtain ⟨p1, v1, rfl, e2, z1, q1⟩ := rx.lst R
    obtain rfl := q1.blsOf e1
    exact ⟨p1, bs, rfl, SqL.of e2, q _ _ _ Kp.refl R (.bl _)⟩
  | _ => cases e
theorem cs_sum (hK : X.K = P.K) (hc : X.calm = true) : CallS P X (.builtin "sum") (blt1 .sum) := by
  refine ⟨_, cr_sum hc, fun {x dx d F r t σ H Q} e R rx q => ?_⟩
  cases dx with
  | lst ds =>
    obtain ⟨bs, e1, rfl⟩ := Option.map_eq_some_iff.mp (show (intsD ds).map (fun ns => D.int ns.sum) = some d from e)
    obtain ⟨p1, v1, rfl, e2, z1, q1⟩ := rx.lst R
    obtain rfl := q1.intsOf e1
    exact ⟨p1, bs, rfl, SqL.of e2, q _ _ _ Kp.refl R (.int _)⟩
  | _ => cases e
theorem cs_tuple (hK : X.K = P.K) : CallS P X (.type "tuple") (blt1 .tuple) := by
  refine ⟨_, call_tupleP, fun {x dx d F r t σ H Q} e R rx q => ?_⟩
  rw [hK]
  cases dx with
  | lst ds =>
    cases e
    obtain ⟨p1, v1, rfl, e2, z1, q1⟩ := rx.lst R
    exact ⟨p1, v1, rfl, .inl ⟨SqL.of e2, mkTup R z1 q1 q⟩⟩
  | tup ds =>
    cases e
    obtain ⟨p1, v1, rfl, e2, z1, q1⟩ := rx.tup R
    exact ⟨p1, v1, rfl, .inr ⟨sqP_t R.sub e2, q _ _ _ Kp.refl R (.tup e2 z1 q1)⟩⟩
  | _ => cases e
theorem cn_list (hK : X.K = P.K) : CallN P X (.type "list") (blt1 .list) := by
  refine ⟨_, call_list_of, fun {x dx d F r t σ H Q} e R rx q => ?_⟩
  rw [hK]
  cases dx with
  | lst ds =>
    cases e
    obtain ⟨p1, v1, rfl, e2, z1, q1⟩ := rx.lst R
    refine ⟨p1, v1, rfl, .inl (SqL.of e2), fun p hp => ?_⟩
    obtain ⟨R2, k2, fr⟩ := mkNew (o := .lst v1) (d := .lst ds) R hp ⟨v1, upd_same, z1, q1⟩
    exact q _ _ _ p k2 R2 (.of hp) fr
  | tup ds =>
    cases e
    obtain ⟨p1, v1, rfl, e2, z1, q1⟩ := rx.tup R
    refine ⟨p1, v1, rfl, .inr (sqP_t R.sub e2), fun p hp => ?_⟩
    obtain ⟨R2, k2, fr⟩ := mkNew (o := .lst v1) (d := .lst ds) R hp ⟨v1, upd_same, z1, q1⟩
    exact q _ _ _ p k2 R2 (.of hp) fr
  | _ => cases e
/-! sorted -/
theorem insI_perm (x : Int) : ∀ l : List Int, (insI x l).Perm (x :: l)
  | [] => List.Perm.refl _
  | y :: r => by
    unfold insI
    split
    · exact List.Perm.refl _
    · exact ((insI_perm x r).cons y).trans (List.Perm.swap x y r)
theorem srtI_perm : ∀ l : List Int, (srtI l).Perm l
  | [] => List.Perm.refl _
  | x :: r => (insI_perm x _).trans ((srtI_perm r).cons x)
theorem insI_sorted (x : Int) : ∀ l : List Int, l.Pairwise (· ≤ ·) → (insI x l).Pairwise (· ≤ ·)
  | [], _ => List.pairwise_singleton _ _
  | y :: r, h => by
    obtain ⟨h1, h2⟩ := List.pairwise_cons.mp h
    unfold insI
    split
    · rename_i hx
      refine List.pairwise_cons.mpr ⟨fun z hz => ?_, h⟩
      rcases List.mem_cons.mp hz with rfl | hz
      · exact hx
      · exact Int.le_trans hx (h1 z hz)
    · rename_i hx
      refine List.pairwise_cons.mpr ⟨fun z hz => ?_, insI_sorted x r h2⟩
      rcases List.mem_cons.mp ((insI_perm x r).mem_iff.mp hz) with rfl | hz
      · omega
      · exact h1 z hz
theorem srtI_sorted : ∀ l : List Int, (srtI l).Pairwise (· ≤ ·)
  | [] => List.Pairwise.nil
  | x :: r => insI_sorted x _ (srtI_sorted r)
theorem srtI_one {l m : List Int} (h : m.Perm l) (s : m.Pairwise (· ≤ ·)) : m = srtI l := PySem.W.ksm_same (h.trans (srtI_perm l).symm) s (srtI_sorted l)
theorem keys_of {F : Hp} : ∀ {kvs : List (Key × V)} {es : List (Key × D)} {ns : List Int}, RpK P.K P.T F kvs es → keysI es = some ns → kvs.map (·.1) = ns.map Sum.inl
  | _, _, ns, .nil, h => by
    cases h
    rfl
  | _, _, ns, @RpK.cons _ _ _ k v kvs d es h q, e => by
    cases k with
    | inl i =>
      obtain ⟨ms, e1, rfl⟩ := Option.map_eq_some_iff.mp (show (keysI es).map (i :: ·) = some ns from e)
      simp [keys_of q e1]
    | inr x => cases e
theorem cn_sorted (hK : X.K = P.K) (hc : X.calm = true) : CallN P X (.builtin "sorted") (blt1 .sorted) := by
  refine ⟨_, CallR.or cr_sortedI (call_sortedDI hc), fun {x dx d F r t σ H Q} e R rx q => ?_⟩
  cases dx with
  | lst ds =>
    obtain ⟨ns, e1, rfl⟩ := Option.map_eq_some_iff.mp (show (intsD ds).map (fun ns => D.lst ((srtI ns).map D.int)) = some d from e)
    obtain ⟨p1, v1, rfl, e2, z1, q1⟩ := rx.lst R
    obtain rfl := q1.intsOf e1
    refine .inl ⟨p1, ns, rfl, SqL.of e2, fun ms p h1 h2 hp => ?_⟩
    obtain rfl := srtI_one h1 h2
    obtain ⟨R2, k2, fr⟩ := mkNew (o := .lst ((srtI ns).map V.int)) (d := .lst ((srtI ns).map D.int)) R hp ⟨_, upd_same, by rw [List.length_map, (srtI_perm ns).length_eq]; simpa using z1, RpL.ofInts _⟩
    exact q _ _ _ p k2 R2 (.of hp) fr
  | dct es =>
    have e : ((keysI es).bind fun ns => if decide (ns.length < 64) then some (.lst ((srtI ns).map D.int)) else none) = some d := e
    obtain ⟨ns, e1, e2⟩ := Option.bind_eq_some_iff.mp e
    split at e2
    · rename_i hl
      cases e2
      have hl := of_decide_eq_true hl
      obtain ⟨p1, v1, rfl, e3, q1⟩ := rx.dct R
      refine .inr ⟨p1, v1, ns, rfl, e3, keys_of q1 e1, hl, fun ms p h1 h2 hp => ?_⟩
      obtain rfl := srtI_one h1 h2
      obtain ⟨R2, k2, fr⟩ := mkNew (o := .lst ((srtI ns).map V.int)) (d := .lst ((srtI ns).map D.int)) R hp ⟨_, upd_same, by rw [List.length_map, (srtI_perm ns).length_eq, sizeLine_eq]; omega, RpL.ofInts _⟩
      exact q _ _ _ p k2 R2 (.of hp) fr
    · cases e2
  | _ => cases e
/-! the call itself -/
variable {x : Str} {p1 : Pos}
theorem call_form {g : D → Option D} {rr : List V → Hp → VK → Prop} (hr : ∀ {x : V} {dx d : D} {F : Hp} {r : Rho} {t : Tw} {σ : L2.St} {H : Hp} {Q : VK}, g dx = some d → RelP P F r t σ H → RpB P F r σ x dx →
      (∀ v F' H', Kp P.T F H F' H' → RelP P F' r t σ H' → Rp P.K P.T F' v d → Q v H') → rr [x] H Q) (σ : L2.St) (H : Hp) (Q : VK) (h : tD P (fun r t => (fa r t).bind fun x t1 => Fm.lift (g x) t1) σ H Q) : tCB rr (tCons (tB P fa) tNil) σ H Q := by
  obtain ⟨F, r, t, R, h⟩ := h
  refine ⟨F, r, t, R, h.bind.mono fun d t1 h v F1 H1 s1 R1 rv => ?_⟩
  obtain ⟨d2, e, q⟩ := h.lift
  exact hr e R1 rv fun v F' H' s R' h => q v F' H' (s1.trans s) R' h
theorem call_formN {g : D → Option D} {rr : List V → Hp → VK → Prop} (hr : ∀ {x : V} {dx d : D} {F : Hp} {r : Rho} {t : Tw} {σ : L2.St} {H : Hp} {Q : VK}, g dx = some d → RelP P F r t σ H → RpB P F r σ x dx →
      (∀ v F' H' p, Kp P.T F H F' H' → RelP P F' r t σ H' → Nn H p → Fre P F' r σ H' v d p → Q v H') → rr [x] H Q) (σ : L2.St) (H : Hp) (Q : VK) (h : tN P (fun r t => (fa r t).bind fun x t1 => Fm.lift (g x) t1) σ H Q) : tCB rr (tCons (tB P fa) tNil) σ H Q := by
  obtain ⟨F, r, t, R, h⟩ := h
  refine ⟨F, r, t, R, h.bind.mono fun d t1 h v F1 H1 s1 R1 rv => ?_⟩
  obtain ⟨d2, e, q⟩ := h.lift
  exact hr e R1 rv fun v F' H' p s R' hp h => q v F' H' p (s1.trans s) R' (s1.had p hp) h
theorem s_callB {id : String} {g : D → Option D} (hc : CallS P X (.builtin id) g) (hg : Gl X x) (hm : X.mg x = none) (hv : bootBuiltins x = some (.builtin id)) (ha : PE X a (tB P fa)) (hn : x ≠ "__name__") (hdb : (x == ("__debug__" : Str)) = false)
    (hs : starEach [a] X.env = (false, eval a X.env) :: starEach [] X.env) : PE X (.Call (.Name x p1) [a] [] pos) (tD P fun r t => (fa r t).bind fun x t1 => Fm.lift (g x) t1) := by
  obtain ⟨rr, h1, h2⟩ := hc
  exact peMono (pe_callB h1 hg hm hv (pa_cons ha pa_nil hs) hn hdb hs) (call_form h2)
theorem s_callT {id : String} {g : D → Option D} (hc : CallS P X (.type id) g) (hg : Gl X x) (hm : X.mg x = none) (hv : bootBuiltins x = some (.type id)) (ha : PE X a (tB P fa)) (hn : x ≠ "__name__") (hdb : (x == ("__debug__" : Str)) = false)
    (hs : starEach [a] X.env = (false, eval a X.env) :: starEach [] X.env) : PE X (.Call (.Name x p1) [a] [] pos) (tD P fun r t => (fa r t).bind fun x t1 => Fm.lift (g x) t1) := by
  obtain ⟨rr, h1, h2⟩ := hc
  exact peMono (pe_callTy h1 hg hm hv (pa_cons ha pa_nil hs) hn hdb hs) (call_form h2)
theorem n_callB {id : String} {g : D → Option D} (hc : CallN P X (.builtin id) g) (hg : Gl X x) (hm : X.mg x = none) (hv : bootBuiltins x = some (.builtin id)) (ha : PE X a (tB P fa)) (hn : x ≠ "__name__") (hdb : (x == ("__debug__" : Str)) = false)
    (hs : starEach [a] X.env = (false, eval a X.env) :: starEach [] X.env) : PE X (.Call (.Name x p1) [a] [] pos) (tN P fun r t => (fa r t).bind fun x t1 => Fm.lift (g x) t1) := by
  obtain ⟨rr, h1, h2⟩ := hc
  exact peMono (pe_callB h1 hg hm hv (pa_cons ha pa_nil hs) hn hdb hs) (call_formN h2)
theorem n_callT {id : String} {g : D → Option D} (hc : CallN P X (.type id) g) (hg : Gl X x) (hm : X.mg x = none) (hv : bootBuiltins x = some (.type id)) (ha : PE X a (tB P fa)) (hn : x ≠ "__name__") (hdb : (x == ("__debug__" : Str)) = false)
    (hs : starEach [a] X.env = (false, eval a X.env) :: starEach [] X.env) : PE X (.Call (.Name x p1) [a] [] pos) (tN P fun r t => (fa r t).bind fun x t1 => Fm.lift (g x) t1) := by
  obtain ⟨rr, h1, h2⟩ := hc
  exact peMono (pe_callTy h1 hg hm hv (pa_cons ha pa_nil hs) hn hdb hs) (call_formN h2)
end
end Fm

/-! ### dicts with nested keys: what is read and written -/
namespace Fm
open PySem PySem.Spec PyProof.Rows L2
mutual
theorem nk_kd : ∀ {d : D} {k : NestedKey}, nkD d = some k → kdN k = d
  | .non, k, h => by cases h; rfl
  | .int i, k, h => by cases h; rfl
  | .str x, k, h => by cases h; rfl
  | .tup xs, k, h => by
    obtain ⟨ks, h1, rfl⟩ := Option.map_eq_some_iff.mp (show (nkDs xs).map NestedKey.tup = some k from h)
    rw [kdN, nks_kd h1]
  | .bl _, k, h => by cases h
  | .lst _, k, h => by cases h
  | .dct _, k, h => by cases h
  | .dcn _, k, h => by cases h
  | .tok, k, h => by cases h
  | .scr _, k, h => by cases h
  | .exc _, k, h => by cases h
theorem nks_kd : ∀ {ds : List D} {ks : List NestedKey}, nkDs ds = some ks → kdNs ks = ds
  | [], ks, h => by cases h; rfl
  | d :: ds, ks, h => by
    obtain ⟨k, h1, h2⟩ := Option.bind_eq_some_iff.mp (show ((nkD d).bind fun k => (nkDs ds).map (k :: ·)) = some ks from h)
    obtain ⟨ks', h3, rfl⟩ := Option.map_eq_some_iff.mp h2
    rw [kdNs, nk_kd h1, nks_kd h3]
end
theorem keyT_kd {d : D} {k : NestedKey} (h : keyT d = some k) : kdN k = d ∧ k.depth ≤ 8 := by
  cases d with
  | tup xs =>
    obtain ⟨k', h1, h2⟩ := Option.bind_eq_some_iff.mp (show ((nkD (.tup xs)).bind fun k => if decide (k.depth ≤ 8) then some k else none) = some k from h)
    split at h2
    · rename_i hd
      cases h2
      exact ⟨nk_kd h1, of_decide_eq_true hd⟩
    · cases h2
  | _ => cases h
theorem keyT_tup {d : D} {k : NestedKey} (h : keyT d = some k) : ∃ xs, d = .tup xs := by
  cases d with
  | tup xs => exact ⟨xs, rfl⟩
  | _ => cases h
section
variable {P : Pm} {X : Cx} {pins : List (Addr × Obj)} {σ : L2.St} {H : Hp} {s : Shared}
mutual
/-- a value that bears a key's datum is that key -/
theorem nis {K : PySem.W.Frag} {T : Tn} {F : Hp} (I : Inv X pins σ H s) (hK : X.K = K) (sub : Same F H) : ∀ (k : NestedKey) (v : V) (u : Value), Rp K T F v (kdN k) → RelV v u → NestedIs s.heap k u
  | .none, v, u, h, r => by
    cases h
    cases (show u = Value.none from r)
    exact .none
  | .num i, v, u, h, r => by
    cases h
    obtain ⟨t, rfl⟩ := r
    exact .int i t
  | .text x, v, u, h, r => by
    cases h
    obtain ⟨t, rfl⟩ := r
    exact .text x t
  | .tup ks, v, u, h, r => by
    cases h with
    | tup h1 z q =>
      cases (show u = Value.ref _ from r)
      obtain ⟨its, rv, ⟨o, ho, hc, n, hd⟩, _⟩ := I.tuple (hK ▸ sqP_t sub h1)
      exact .tup ho hc hd (by simpa using nalls I hK sub ks _ its q rv)
theorem nalls {K : PySem.W.Frag} {T : Tn} {F : Hp} (I : Inv X pins σ H s) (hK : X.K = K) (sub : Same F H) : ∀ (ks : List NestedKey) (vs : List V) (us : List Value), RpL K T F vs (kdNs ks) → Vals vs us → NestedAll s.heap ks us
  | [], vs, us, h, r => by
    cases h
    cases r
    exact .nil
  | k :: ks, vs, us, h, r => by
    cases h with
    | cons h1 h2 =>
      cases r with
      | cons r1 r2 => exact .cons (nis I hK sub k _ _ h1 r1) (nalls I hK sub ks _ _ h2 r2)
end
/-- the dict in the heap -/
theorem dof {K : PySem.W.Frag} {T : Tn} {F : Hp} {a : Addr} {xs : List (NestedKey × Addr × Value)} {es : List (NestedKey × D)} (I : Inv X pins σ H s) (hK : X.K = K) (sub : Same F H) (hpw : T.pg = X.prog ∧ T.wo = X.w) (h : Rd H a (DN T.pg T.wo a xs)) (q : RpN K T F xs es) : s.heap.DictOfH (nestedKind X.prog X.w) a xs := by
  obtain ⟨⟨o, es', ep, h1, h2, h3, h4, h5⟩, hrest⟩ := rd_of I.hok h
  clear hrest
  rw [hpw.1, hpw.2] at h4
  refine ⟨o, es', ep, h1, h2, h3, h4, ?_, h5⟩
  clear h h4 h5 h1 h2 h3
  induction xs generalizing es with
  | nil => intro x hx; cases hx
  | cons x xs ih =>
    cases q with
    | cons q1 q2 q3 q4 q5 =>
      intro y hy
      rcases List.mem_cons.mp hy with rfl | hy
      · exact ⟨nis I hK sub _ _ _ q1 rfl, q2⟩
      · exact ih q5 y hy
theorem RpN.look {K : PySem.W.Frag} {T : Tn} {F : Hp} : ∀ {xs : List (NestedKey × Addr × Value)} {es : List (NestedKey × D)}, RpN K T F xs es → ∀ k, (∃ b u v d, atKey xs k = some (b, u) ∧ lookN es k = some d ∧ RelV v u ∧ Rp K T F v d) ∨ (atKey xs k = none ∧ lookN es k = none)
  | _, _, .nil, k => .inr ⟨rfl, rfl⟩
  | _, _, @RpN.cons _ _ _ k' b u v xs d es h1 h2 h3 h4 h5, k => by
    unfold atKey lookN
    simp only [List.find?_cons]
    by_cases e : k' = k
    · simp only [e, decide_true]
      exact .inl ⟨b, u, v, d, rfl, rfl, h3, h4⟩
    · simp only [e, decide_false]
      exact h5.look k
end
end Fm

/-! ### dicts with nested keys: the rules -/
namespace Fm
open PySem PySem.Spec PyProof.Rows L2
/-- the tuple at b is the key k; the dict at a has the entries xs; both whatever the state -/
def NK (X : Cx) (H : Hp) (b : Addr) (k : NestedKey) : Prop := ∀ pins σ s, Inv X pins σ H s → NestedIs s.heap k (.ref b) ∧ k.depth ≤ 8
def DO (X : Cx) (H : Hp) (a : Addr) (xs : List (NestedKey × Addr × Value)) : Prop := (a == sysModules) = false ∧ ∀ pins σ s, Inv X pins σ H s → s.heap.DictOfH (nestedKind X.prog X.w) a xs
def NGet (X : Cx) (H : Hp) (a : Addr) (y : V) (o : Option V) : Prop := ∃ xs k b, DO X H a xs ∧ y = .ref b ∧ NK X H b k ∧ RelO o ((atKey xs k).map (·.2))
def XGet (X : Cx) (H : Hp) (a : Addr) (y : V) (o : Option V) : Prop := DGet H a y o ∨ NGet X H a y o
def XIsD (X : Cx) (H : Hp) (a : Addr) : Prop := IsD H a ∨ ∃ xs, DO X H a xs
section
variable {X : Cx} {pins : List (Addr × Obj)} {σ : L2.St} {H : Hp} {s : Shared} {a : Addr} {y v d : V} {u r : Value} {o : Option V} {A : Around} {E : Value → Shared → Prop}
theorem do_type {xs : List (NestedKey × Addr × Value)} (I : Inv X pins σ H s) (d : DO X H a xs) : s.TypeIs (.ref a) "dict" ∧ (∀ b, Value.ref a = .ref b → ∃ ob, s.heap.get? b = some ob ∧ ob.dict = none) :=
  have dd := d.2 _ _ _ I
  ⟨dd.typeIs, fun _ q => by cases q; exact let ⟨ob, _, _, at_, plain, _⟩ := dd; ⟨ob, at_, plain.2.1⟩⟩
/-- a call one or two levels down has units enough -/
theorem units_in {A : Around} (hu : A.units + 200 < cLine) : A.units + 8 < cLine ∧ A.in1.units + 8 < cLine ∧ A.in1.in1.units + 8 < cLine := by
  refine ⟨by omega, ?_, ?_⟩
  · show A.units + 1 + 8 < cLine
    omega
  · show A.units + 1 + 1 + 8 < cLine
    omega
theorem xisD_at (I : Inv X pins σ H s) (d : XIsD X H a) : s.TypeIs (.ref a) "dict" ∧ (∀ b, Value.ref a = .ref b → ∃ ob, s.heap.get? b = some ob ∧ ob.dict = none) := by
  rcases d with d | ⟨xs, d⟩
  · exact ⟨(isD_at I d).1, (isD_at I d).2.1⟩
  · exact do_type I d
theorem x_typeIs (I : Inv X pins σ H s) (g : XGet X H a y o) : s.TypeIs (.ref a) "dict" := by
  rcases g with g | ⟨xs, k, b, d, _⟩
  · exact dict_typeIs I g
  · exact (do_type I d).1
theorem x_getItem {Q : Value → Shared → Prop} (hu : A.units + 200 < cLine) (I : Inv X pins σ H s) (g : XGet X H a y (some v)) (ry : RelV y u) (h : ∀ w' s', Inv X pins σ H s' → RelV v w' → Q w' s') : wpAny (model X.prog X.w) A (getItem (.ref a) u) Q E s := by
  rcases g with flat | ⟨xs, k, b, dd, rfl, nk, rel⟩
  · exact d_getItem (by omega) I flat ry h
  · obtain rfl : u = .ref b := ry
    obtain ⟨got, e, r⟩ := RelO.some_of (v := v) (o := (atKey xs k).map (·.2)) rel
    cases at_ : atKey xs k with
    | none => simp [at_] at e
    | some p =>
      obtain rfl : p.2 = got := by simpa [at_] using e
      exact wpAny_getItem_heap (knd := nestedKind X.prog X.w) (units_in hu).2.1 (nk _ _ _ I) (dd.2 _ _ _ I) at_ (h _ _ (I.tok _) r)
theorem x_get2 {Q : Value → Shared → Prop} (hu : A.units + 200 < cLine) (I : Inv X pins σ H s) (g : XGet X H a y o) (ry : RelV y u) (rd : RelV d r) (h : ∀ w' s', Inv X pins σ H s' → RelV (o.getD d) w' → Q w' s') : wpAny (model X.prog X.w) A (call (.builtin "dict.get") [.ref a, u, r]) Q E s := by
  rcases g with flat | ⟨xs, k, b, dd, rfl, nk, rel⟩
  · exact d_get2 (by omega) I flat ry rd h
  · obtain rfl : u = .ref b := ry
    have laid := dd.2 _ _ _ I
    refine call_meetsIn PySem.F.slot_dict_get laid.typeIs PySem.F.entry_dict_get (PySem.F.args_dict_get_3 _ _ _) (meetsH_dict_get_default (nestedKind X.prog X.w) a b dd.1 r) ⟨?_, k, xs, nk _ _ _ I, laid, h _ _ (I.tok _) (rel.getD rd)⟩
    first | exact (units_in hu).2.2 | exact (units_in hu).2.1 | exact (units_in hu).1
theorem dn_ok {H' : Hp} {h' : Heap} {xs : List (NestedKey × Addr × Value)} (dd : h'.DictOfH (nestedKind X.prog X.w) a xs) : ObjOk X.prog X.w H' h' a (DN X.prog X.w a xs) := by
  obtain ⟨q, es, ep, hq, h2, h3, h4, _, h5⟩ := dd
  refine ⟨⟨q, es, ep, hq, h2, h3, h4, h5⟩, ⟨q, hq⟩, fun h1 h2' ⟨o', es', ep', e1, e2, e3, e4, e5⟩ k => ⟨o', es', ep', k _ e1, e2, e3, e4, e5⟩⟩
theorem x_setItem {xs : List (NestedKey × Addr × Value)} {k : NestedKey} {b : Addr} {Q : Unit → Shared → Prop} (hu : A.units + 200 < cLine) (I : Inv X pins σ H s) (e : H a = some (DN X.prog X.w a xs)) (dd : DO X H a xs) (nk : NK X H b k) (hl : xs.length ≤ sizeLine)
    (h : ∀ s', Inv X pins σ (upd H a (DN X.prog X.w a (storedH xs k b r))) s' → Q () s') : wpAny (model X.prog X.w) A (setItem (.ref a) (.ref b) r) Q E s := by
  refine wpAny_setItem_heap (hsz := hl) (knd := nestedKind X.prog X.w) (show A.in1.units + 8 < cLine from Nat.lt_of_le_of_lt (by show A.units + 1 + 8 ≤ A.units + 200; omega) hu) (nk _ _ _ I) (dd.2 _ _ _ I) fun h' dd' hs => h _ ?_
  exact d_write I (by rw [e]; exact True.intro) hs (let ⟨_, _, _, at_, _⟩ := dd'; ⟨_, at_⟩) (dn_ok dd')
end
def tXGet (X : Cx) (td ty : TE) : TE := fun σ H Q => td σ H fun x H1 => ty σ H1 fun y H2 => ∃ a v, x = .ref a ∧ XGet X H2 a y (some v) ∧ Q v H2
def tXGet2 (X : Cx) (td ty tx : TE) : TE := fun σ H Q => td σ H fun x H1 => ∃ a, x = .ref a ∧ XIsD X H1 a ∧ ty σ H1 fun y H2 => tx σ H2 fun z H3 => ∃ o, XGet X H3 a y o ∧ Q (o.getD z) H3
/-- the heap behind a[y] = v, of either kind -/
def XPut (X : Cx) (H : Hp) (a : Addr) (y v : V) (Q : Hp → Prop) : Prop := (∃ H', DPut H a y v H' ∧ Q H') ∨
  ∃ xs k b, H a = some (DN X.prog X.w a xs) ∧ DO X H a xs ∧ y = .ref b ∧ NK X H b k ∧ xs.length ≤ sizeLine ∧ ∀ u, RelV v u → Q (upd H a (DN X.prog X.w a (storedH xs k b u)))
def sXPut (X : Cx) (td ty tv : TE) : TS := fun D σ H => tv σ H fun v H1 => td σ H1 fun x H2 => ty σ H2 fun y H3 => ∃ a, x = .ref a ∧ XPut X H3 a y v (D.nx σ)
section
variable {X : Cx} {o i e f value : Expr} {pos pos' apos cpos : Pos} {td ty tv tx : TE}
theorem pe_xget (hu : X.A.units + 200 < cLine) (ho : PE X o td) (hi : PE X i ty) (hs : NoSl i) : PE X (.Subscript o i pos) (tXGet X td ty) := by
  constructor
  intro pins s σ H Q I h
  have one := ho.run pins s σ H _ I h
  refine subD_of PySem.F.slot_dict_getitem.lookup hs (thn one fun u s1 ⟨x, H1, I1, rx, q1⟩ => thn (hi.run pins s1 σ H1 _ I1 q1) fun iv s2 ⟨y, H2, I2, ry, a, v, e, g, q2⟩ => ?_)
  subst e
  cases (show u = .ref a from rx)
  exact ⟨x_typeIs I2 g, x_getItem hu I2 g ry fun _ _ I3 r => ⟨v, H2, I3, r, q2⟩⟩
theorem pe_xget2 (hu : X.A.units + 200 < cLine) (ho : PE X o td) (he : PE X e ty) (hf : PE X f tx) (m : M2 X o "get" apos e f cpos) : PE X (.Call (.Attribute o "get" apos) [e, f] [] cpos) (tXGet2 X td ty tx) := by
  constructor
  intro pins s σ H Q I h
  have recv := ho.run pins s σ H _ I h
  refine wpAny_Call_method m.base m.few m.line PySem.F.plainAttrs_dict PySem.F.slot_dict_get PySem.F.type_dict_get (thn recv fun u s1 ⟨_, H1, I1, rx, a, e, d, q1⟩ => ?_)
  subst e
  cases (show u = .ref a from rx)
  have args := he.run pins s1 σ H1 _ I1 q1
  refine ⟨(xisD_at I1 d).1, (xisD_at I1 d).2, m.trees ▸ Calls.callWith_builtin rfl (Calls.evalArgs_plain (Calls.spliced_cons (thn args fun _ s2 ⟨y, H2, I2, ry, q2⟩ => ?_)))⟩
  have last := hf.run pins s2 σ H2 _ I2 q2
  exact Calls.spliced_cons (thn last fun _ _ ⟨_, H3, I3, rz, _, g, q3⟩ => Calls.spliced_nil (x_get2 hu I3 g ry rz fun _ _ I4 r => ⟨_, H3, I4, r, q3⟩))
theorem ps_xput (hu : X.A.units + 200 < cLine) (ho : PE X o td) (hi : PE X i ty) (hv : PE X value tv) (hs : swapsWith value (some (.Subscript o i pos')) pos.line X.env = pure false) :
    PS X (.Assign [.Subscript o i pos'] value pos) (sXPut X td ty tv) := by
  refine ⟨fun pins s σ H D I h => ?_⟩
  refine wpAny_Assign_Subscript (thn (hv.run pins s σ H _ I h) fun r s1 ⟨v, H1, I1, rv, q1⟩ => thn (ho.run pins s1 σ H1 _ I1 q1) fun u s2 ⟨x, H2, I2, rx, q2⟩ => thn (hi.run pins s2 σ H2 _ I2 q2) fun iv s3 ⟨y, H3, I3, ry, a, ex, g⟩ => ?_) hs
  subst ex
  obtain rfl : u = Value.ref a := rx
  rcases g with ⟨H4, g, q3⟩ | ⟨xs, k, b, e, dd, ey, nk, hl, q3⟩
  · exact d_setItem (by omega) I3 g ry rv fun s4 I4 => ⟨σ, H4, I4, q3⟩
  · subst ey
    cases (show iv = Value.ref b from ry)
    exact x_setItem hu I3 e dd nk hl fun s4 I4 => ⟨σ, _, I4, q3 _ rv⟩
end
section
variable {P : Pm} {X : Cx} {F : Hp} {H : Hp}
theorem do_of {K : PySem.W.Frag} {T : Tn} {a : Addr} {xs : List (NestedKey × Addr × Value)} {es : List (NestedKey × D)} (hK : X.K = K) (sub : Same F H) (hpw : T.pg = X.prog ∧ T.wo = X.w) (h : Rd H a (DN T.pg T.wo a xs)) (hy : (a == sysModules) = false) (q : RpN K T F xs es) : DO X H a xs :=
  ⟨hy, fun _ _ _ I => dof I hK sub hpw h q⟩
theorem nk_of {r : Rho} {t : Tw} {σ : L2.St} {v : V} {dk : D} {k : NestedKey} (hK : X.K = P.K) (R : RelP P F r t σ H) (rv : RpB P F r σ v dk) (e : keyT dk = some k) : ∃ b, v = .ref b ∧ NK X H b k ∧ Rp P.K P.T F (.ref b) (kdN k) := by
  obtain ⟨xs, rfl⟩ := keyT_tup e
  have h := rv.rp R (by intro _ z; cases z) (by intro _ z; cases z)
  obtain ⟨h1, h2⟩ := keyT_kd e
  rw [← h1] at h
  have h' := h
  rw [h1] at h'
  cases h' with
  | tup h1 z q => exact ⟨_, rfl, fun _ _ _ I => ⟨nis I hK R.sub k _ _ h rfl, h2⟩, h⟩
end
section
variable {K : PySem.W.Frag} {T : Tn} {F : Hp}
theorem RpN.get {xs : List (NestedKey × Addr × Value)} {es : List (NestedKey × D)} (q : RpN K T F xs es) {k : NestedKey} {d : D} (e : lookN es k = some d) : ∃ v, RelO (some v) ((atKey xs k).map (·.2)) ∧ Rp K T F v d := by
  rcases q.look k with ⟨b, u, v, d2, h1, h2, h3, h4⟩ | ⟨h1, h2⟩
  · rw [e] at h2
    cases h2
    rw [h1]
    exact ⟨v, h3, h4⟩
  · rw [e] at h2
    cases h2
theorem RpN.repl {k : NestedKey} {v : V} {u : Value} {d : D} (hv : RelV v u) (h : Rp K T F v d) : ∀ {xs : List (NestedKey × Addr × Value)} {es : List (NestedKey × D)}, RpN K T F xs es →
    RpN K T F (xs.map (putAt k u)) (es.map fun kv => if kv.1 = k then (kv.1, d) else kv)
  | _, _, .nil => .nil
  | _, _, @RpN.cons _ _ _ k' b u' v' xs d' es h1 h2 h3 h4 h5 => by
    simp only [List.map_cons, putAt]
    by_cases e : k' = k
    · rw [if_pos e, if_pos e]
      exact .cons h1 h2 hv h (RpN.repl hv h h5)
    · rw [if_neg e, if_neg e]
      exact .cons h1 h2 h3 h4 (RpN.repl hv h h5)
theorem RpN.snoc {k : NestedKey} {b : Addr} {v : V} {u : Value} {d : D} (hb : Rp K T F (.ref b) (kdN k)) (hk : k.depth ≤ 8) (hv : RelV v u) (h : Rp K T F v d) : ∀ {xs : List (NestedKey × Addr × Value)} {es : List (NestedKey × D)}, RpN K T F xs es → RpN K T F (xs ++ [(k, b, u)]) (es ++ [(k, d)])
  | _, _, .nil => .cons hb hk hv h .nil
  | _, _, .cons h1 h2 h3 h4 h5 => .cons h1 h2 h3 h4 (RpN.snoc hb hk hv h h5)
theorem RpN.any : ∀ {xs : List (NestedKey × Addr × Value)} {es : List (NestedKey × D)}, RpN K T F xs es → ∀ k, (atKey xs k).isSome = es.any fun kv => decide (kv.1 = k)
  | _, _, .nil, k => rfl
  | _, _, @RpN.cons _ _ _ k' b u' v' xs d' es h1 h2 h3 h4 h5, k => by
    have ih := h5.any k
    unfold atKey at ih ⊢
    simp only [List.find?_cons, List.any_cons]
    by_cases e : k' = k
    · simp [e]
    · simp only [e, decide_false, Bool.false_or]
      exact ih
theorem RpN.put {k : NestedKey} {b : Addr} {v : V} {u : Value} {d : D} (hb : Rp K T F (.ref b) (kdN k)) (hk : k.depth ≤ 8) (hv : RelV v u) (h : Rp K T F v d) {xs : List (NestedKey × Addr × Value)} {es : List (NestedKey × D)} (q : RpN K T F xs es) : RpN K T F (storedH xs k b u) (putN es k d) := by
  unfold storedH putN
  rw [q.any k]
  split
  · exact q.repl hv h
  · exact q.snoc hb hk hv h
theorem RpN.length : ∀ {xs : List (NestedKey × Addr × Value)} {es : List (NestedKey × D)}, RpN K T F xs es → xs.length = es.length
  | _, _, .nil => rfl
  | _, _, .cons h1 h2 h3 h4 h5 => by rw [List.length_cons, List.length_cons, h5.length]
end
theorem storedH_len (xs : List (NestedKey × Addr × Value)) (k : NestedKey) (b : Addr) (u : Value) : (storedH xs k b u).length ≤ xs.length + 1 := by
  unfold storedH
  split
  · rw [List.length_map]; omega
  · rw [List.length_append]; exact Nat.le_refl _
theorem storedH_nodup (xs : List (NestedKey × Addr × Value)) (k : NestedKey) (b : Addr) (u : Value) (h : (xs.map (·.1)).Nodup) : ((storedH xs k b u).map (·.1)).Nodup := by
  unfold storedH
  split
  · have e : (xs.map (putAt k u)).map (·.1) = xs.map (·.1) := by
      rw [List.map_map]
      refine List.map_congr_left fun x _ => ?_
      simp only [Function.comp, putAt]
      split <;> rfl
    rw [e]
    exact h
  · rename_i hn
    rw [List.map_append, List.nodup_append]
    refine ⟨h, by simp, fun x hx y hy => ?_⟩
    simp only [List.map_cons, List.map_nil, List.mem_singleton] at hy
    subst hy
    intro e
    subst e
    refine hn ?_
    obtain ⟨p, hp, rfl⟩ := List.mem_map.mp hx
    unfold atKey
    rw [Option.isSome_map, List.find?_isSome]
    exact ⟨p, hp, by simp⟩
end Fm

/-! ### isinstance, dicts, names, calls of the text's own defs -/
namespace Fm
open PySem PySem.Spec PyProof.Rows L2
section
variable {P : Pm} {X : Cx} {a b c : Expr} {pos p1 p2 : Pos} {fa fb fc : Rho → Tw → Res D}
theorem tup_ty {K : PySem.W.Frag} {H : Hp} {p : Addr} {xs : List V} (h : SqT K H p xs) : TyX K H (.ref p) (.type "tuple") := by
  rcases h with (h | ⟨o, h⟩) | ⟨o, its, n, h1, h2, _⟩
  · exact .base (.tup h)
  · exact .fTuple h
  · exact .kTuple h1 h2
theorem isa_of {F : Hp} {r : Rho} {t : Tw} {σ : L2.St} {H : Hp} {x : V} {dx : D} {T : Ty} {k : Bool} (R : RelP P F r t σ H) (rx : RpB P F r σ x dx) (e : isaD dx T = some k) : ∃ t, TyX P.K H x t ∧ PySem.W.kitOne P.K t (.type T.name) = some k := by
  cases dx with
  | non =>
    cases rx.rp R (fun _ z => by cases z) (fun _ z => by cases z)
    refine ⟨_, .base .non, ?_⟩
    cases T <;> cases e <;> exact kit_ty (by decide +kernel)
  | bl z =>
    obtain rfl := rx.bl R
    refine ⟨_, .base (.bl _), ?_⟩
    cases T <;> cases e <;> exact kit_ty (by decide +kernel)
  | int z =>
    obtain rfl := rx.int R
    refine ⟨_, .base (.int _), ?_⟩
    cases T <;> cases e <;> exact kit_ty (by decide +kernel)
  | str z =>
    obtain rfl := rx.str R
    refine ⟨_, .base (.str _), ?_⟩
    cases T <;> cases e <;> exact kit_ty (by decide +kernel)
  | tup z =>
    obtain ⟨p, xs, rfl, h, _, _⟩ := rx.tup R
    refine ⟨_, tup_ty (sqP_t R.sub h), ?_⟩
    cases T <;> cases e <;> exact kit_ty (by decide +kernel)
  | lst z =>
    obtain ⟨p, xs, rfl, h, _, _⟩ := rx.lst R
    refine ⟨_, .base (.lst h), ?_⟩
    cases T <;> cases e <;> exact kit_ty (by decide +kernel)
  | dct z => cases T <;> cases e
  | dcn z => cases T <;> cases e
  | exc z => cases T <;> cases e
  | tok => cases T <;> cases e
  | scr => cases T <;> cases e
def Ty.nm (T : Ty) : Str := Str.ofString T.name
theorem Ty.boot (T : Ty) : bootBuiltins T.nm = some (.type T.name) := by
  cases T
  · exact PyProof.Rows.boot_int
  · exact PyProof.Rows.boot_bool
  · exact PyProof.Rows.boot_str
  · exact PyProof.Rows.boot_tuple
  · exact PyProof.Rows.boot_list
theorem s_isa (hK : X.K = P.K) {T : Ty} (hg : Gl X "isinstance") (hm : X.mg "isinstance" = none) (hgT : Gl X T.nm) (hmT : X.mg T.nm = none) (ha : PE X a (tB P fa))
    (hs : starEach [a, .Name T.nm p2] X.env = (false, eval a X.env) :: starEach [.Name T.nm p2] X.env) :
    PE X (.Call (.Name "isinstance" p1) [a, .Name T.nm p2] [] pos) (tD P fun r t => (fa r t).bind fun x t1 => Fm.lift ((isaD x T).map D.bl) t1) := by
  have hT : PE X (.Name T.nm p2) (tC (.ty T.name)) := pe_bltn hgT hmT T.boot rfl (by cases T <;> decide) (by cases T <;> decide)
  refine peMono (pe_callB call_isi hg hm PyProof.Rows.boot_isinstance (pa_cons ha (pa_cons hT pa_nil rfl) hs) (by decide) (by decide) hs (by rfl)) fun σ H Q ⟨F, r, t, R, h⟩ => ⟨F, r, t, R, h.bind.mono fun d t1 h v F1 H1 s1 R1 rv => ?_⟩
  obtain ⟨d2, e, q⟩ := h.lift
  obtain ⟨k, e1, rfl⟩ := Option.map_eq_some_iff.mp e
  obtain ⟨ty, h1, h2⟩ := isa_of R1 rv e1
  exact ⟨v, .ty T.name, ty, .type T.name, k, rfl, .ty _, by rw [hK]; exact h1, by rw [hK]; exact h2, q _ _ _ s1 R1 (.bl _)⟩
/-! ### dicts -/
theorem RpK.look {K : PySem.W.Frag} {T : Tn} {F : Hp} (k : Key) : ∀ {kvs : List (Key × V)} {es : List (Key × D)}, RpK K T F kvs es → (∃ v d, valV kvs k = some v ∧ lookD es k = some d ∧ Rp K T F v d) ∨ (valV kvs k = none ∧ lookD es k = none)
  | _, _, .nil => .inr ⟨rfl, rfl⟩
  | _, _, @RpK.cons _ _ _ k' v kvs d es h q => by
    by_cases e : k' = k
    · refine .inl ⟨v, d, valV_pos e, ?_, h⟩
      simp [lookD, List.find?_cons, e]
    · rcases RpK.look k q with ⟨v2, d2, h1, h2, h3⟩ | ⟨h1, h2⟩
      · refine .inl ⟨v2, d2, by rw [valV_neg e]; exact h1, ?_, h3⟩
        simpa [lookD, List.find?_cons, e] using h2
      · refine .inr ⟨by rw [valV_neg e]; exact h1, ?_⟩
        simpa [lookD, List.find?_cons, e] using h2
theorem RpK.any {K : PySem.W.Frag} {T : Tn} {F : Hp} (k : Key) : ∀ {kvs : List (Key × V)} {es : List (Key × D)}, RpK K T F kvs es → (kvs.any fun kv => decide (kv.1 = k)) = es.any fun kv => decide (kv.1 = k)
  | _, _, .nil => rfl
  | _, _, .cons h q => by simp only [List.any_cons, RpK.any k q]
theorem RpK.repl {K : PySem.W.Frag} {T : Tn} {F : Hp} {v : V} {d : D} (k : Key) (h : Rp K T F v d) : ∀ {kvs : List (Key × V)} {es : List (Key × D)}, RpK K T F kvs es →
    RpK K T F (kvs.map fun kv => if kv.1 = k then (kv.1, v) else kv) (es.map fun kv => if kv.1 = k then (kv.1, d) else kv)
  | _, _, .nil => .nil
  | _, _, @RpK.cons _ _ _ k' v' kvs d' es h' q => by
    simp only [List.map_cons]
    by_cases e : k' = k
    · rw [if_pos e, if_pos e]
      exact .cons h (RpK.repl k h q)
    · rw [if_neg e, if_neg e]
      exact .cons h' (RpK.repl k h q)
theorem RpK.snoc {K : PySem.W.Frag} {T : Tn} {F : Hp} {v : V} {d : D} (k : Key) (h : Rp K T F v d) : ∀ {kvs : List (Key × V)} {es : List (Key × D)}, RpK K T F kvs es → RpK K T F (kvs ++ [(k, v)]) (es ++ [(k, d)])
  | _, _, .nil => .cons h .nil
  | _, _, .cons h' q => .cons h' (RpK.snoc k h q)
theorem RpK.put {K : PySem.W.Frag} {T : Tn} {F : Hp} {v : V} {d : D} (k : Key) (h : Rp K T F v d) {kvs : List (Key × V)} {es : List (Key × D)} (q : RpK K T F kvs es) : RpK K T F (L2.putK kvs k v) (putD es k d) := by
  unfold L2.putK putD
  rw [q.any k]
  split
  · exact q.repl k h
  · exact q.snoc k h
theorem key_of' {F : Hp} {r : Rho} {t : Tw} {σ : L2.St} {H : Hp} {x : V} {dx : D} {k : Key} (R : RelP P F r t σ H) (rx : RpB P F r σ x dx) (e : keyD dx = some k) : x = kV k := by
  cases dx with
  | int i =>
    cases e
    exact rx.int R
  | str i =>
    cases e
    exact rx.str R
  | _ => cases e
theorem dget_rd {H : Hp} {a : Addr} {kvs : List (Key × V)} {k : Key} (e : Rd H a (.dK kvs)) : DGet H a (kV k) (valV kvs k) := .inl ⟨kvs, k, e, rfl, rfl⟩
theorem s_dix (hK : X.K = P.K) (hpw : P.T.pg = X.prog ∧ P.T.wo = X.w) (hu : X.A.units + 200 < cLine) (ha : PE X a (tB P fa)) (hb : PE X b (tB P fb)) (hs : PlainIx b) : PE X (.Subscript a b pos) (tD P fun r t => (fa r t).bind fun x t1 => (fb r t1).bind fun y t2 => Fm.lift (dixD x y) t2) := by
  refine peMono (pe_xget hu ha hb hs) fun σ H Q h => op2 (P := P) (rr := fun x y H2 Q => ∃ a v, x = .ref a ∧ XGet X H2 a y (some v) ∧ Q v H2) (fun {x y dx dy d F r t σ H Q} e R rx ry q => ?_) σ H Q h
  cases dx with
  | dct es =>
    obtain ⟨k, e1, e2⟩ := Option.bind_eq_some_iff.mp (show ((keyD dy).bind fun k => lookD es k) = some d from e)
    obtain ⟨p, kvs, rfl, h1, h2⟩ := rx.dct R
    obtain rfl := key_of' R ry e1
    rcases h2.look k with ⟨v, d2, h3, h4, h5⟩ | ⟨h3, h4⟩
    · rw [e2] at h4
      cases h4
      exact ⟨p, v, rfl, .inl (h3 ▸ dget_rd h1), q _ _ _ Kp.refl R h5⟩
    · rw [e2] at h4
      cases h4
  | dcn es =>
    obtain ⟨k, e1, e2⟩ := Option.bind_eq_some_iff.mp (show ((keyT dy).bind fun k => lookN es k) = some d from e)
    obtain ⟨p, xs, rfl, h1, h2, h3, h4⟩ := rx.dcn R
    obtain ⟨b, rfl, nk, _⟩ := nk_of hK R ry e1
    obtain ⟨v, h5, h6⟩ := h4.get e2
    exact ⟨p, v, rfl, .inr ⟨xs, k, b, do_of hK R.sub hpw h1 h2.1 h4, rfl, nk, h5⟩, q _ _ _ Kp.refl R h6⟩
  | _ => cases e
def getE (fa fb fc : Rho → Tw → Res D) (r : Rho) (t : Tw) : Res D := (fa r t).bind fun x t1 => match x with
    | .dct kvs => (fb r t1).bind fun y t2 => (fc r t2).bind fun z t3 => (match keyD y with
      | some k => .ok ((lookD kvs k).getD z) t3
      | none => .bad)
    | .dcn kvs => (fb r t1).bind fun y t2 => (fc r t2).bind fun z t3 => (match keyT y with
      | some k => .ok ((lookN kvs k).getD z) t3
      | none => .bad)
    | _ => .bad
theorem s_get (hK : X.K = P.K) (hpw : P.T.pg = X.prog ∧ P.T.wo = X.w) (hu : X.A.units + 200 < cLine) (ha : PE X a (tB P fa)) (hb : PE X b (tB P fb)) (hc : PE X c (tD P fc)) (m : M2 X a "get" p1 b c pos) : PE X (.Call (.Attribute a "get" p1) [b, c] [] pos) (tD P (getE fa fb fc)) := by
  refine peMono (pe_xget2 hu ha hb hc m) fun σ H Q ⟨F, r, t, R, h⟩ => ⟨F, r, t, R, h.bind.mono fun dx t1 h v F1 H1 s1 R1 rx => ?_⟩
  cases dx with
  | dct es =>
    obtain ⟨p, kvs, rfl, h1, h2⟩ := rx.dct R1
    have h : Aft P F ((fb r t1).bind fun y t2 => (fc r t2).bind fun z t3 => (match keyD y with
      | some k => .ok ((lookD es k).getD z) t3
      | none => .bad)) _ := h
    refine ⟨p, rfl, .inl (.inl ⟨kvs, h1⟩), F1, r, t1, R1, (h.up s1.1).bind.mono fun dy t2 h w F2 H2 s2 R2 ry => ⟨F2, r, t2, R2, (h.up s2.1).bind.mono fun dz t3 h u F3 H3 s3 R3 rz => ?_⟩⟩
    cases e : keyD dy with
    | none =>
      rw [e] at h
      exact h.elim
    | some k =>
      rw [e] at h
      have h : ∀ v F' H', Kp P.T F H F' H' → RelP P F' r t3 σ H' → Rp P.K P.T F' v ((lookD es k).getD dz) → Q v H' := h
      obtain ⟨p', kvs', e1, h1', h2'⟩ := (rx.mono (s2.trans s3).1).dct R3
      cases e1
      obtain rfl := key_of' R3 (ry.mono s3.1) e
      refine ⟨_, .inl (dget_rd h1'), h _ _ _ (s1.trans (s2.trans s3)) R3 ?_⟩
      rcases h2'.look k with ⟨v, d2, h3, h4, h5⟩ | ⟨h3, h4⟩
      · rw [h3, h4]
        exact h5
      · rw [h3, h4]
        exact rz
  | dcn es =>
    obtain ⟨p, xs, rfl, h1, h2, _, h4⟩ := rx.dcn R1
    have h : Aft P F ((fb r t1).bind fun y t2 => (fc r t2).bind fun z t3 => (match keyT y with
      | some k => .ok ((lookN es k).getD z) t3
      | none => .bad)) _ := h
    refine ⟨p, rfl, .inr ⟨xs, do_of hK R1.sub hpw h1 h2.1 h4⟩, F1, r, t1, R1, (h.up s1.1).bind.mono fun dy t2 h w F2 H2 s2 R2 ry => ⟨F2, r, t2, R2, (h.up s2.1).bind.mono fun dz t3 h u F3 H3 s3 R3 rz => ?_⟩⟩
    cases e : keyT dy with
    | none =>
      rw [e] at h
      exact h.elim
    | some k =>
      rw [e] at h
      have h : ∀ v F' H', Kp P.T F H F' H' → RelP P F' r t3 σ H' → Rp P.K P.T F' v ((lookN es k).getD dz) → Q v H' := h
      obtain ⟨p', xs', e1, h1', h2', _, h4'⟩ := (rx.mono (s2.trans s3).1).dcn R3
      cases e1
      obtain ⟨b, rfl, nk, _⟩ := nk_of hK R3 (ry.mono s3.1) e
      rcases h4'.look k with ⟨b', u', v, d2, h5, h6, h7, h8⟩ | ⟨h5, h6⟩
      · refine ⟨some v, .inr ⟨xs', k, b, do_of hK R3.sub hpw h1' h2'.1 h4', rfl, nk, by rw [h5]; exact h7⟩, h _ _ _ (s1.trans (s2.trans s3)) R3 ?_⟩
        rw [h6]
        exact h8
      · refine ⟨none, .inr ⟨xs', k, b, do_of hK R3.sub hpw h1' h2'.1 h4', rfl, nk, by rw [h5]; exact True.intro⟩, h _ _ _ (s1.trans (s2.trans s3)) R3 ?_⟩
        rw [h6]
        exact rz
  | _ => exact (show False from h).elim
/-! ### a dict of written texts and constants -/
def Cst.v : Cst → V
  | .non => .non
  | .bl b => .bl b
  | .int i => .int i
  | .str x => .str x
theorem Cst.rp {K : PySem.W.Frag} {T : Tn} {F : Hp} (c : Cst) : Rp K T F c.v c.d := by
  cases c
  · exact .non
  · exact .bl _
  · exact .int _
  · exact .str _
def Cst.k : Cst → Const
  | .non => .none
  | .bl b => .bool b
  | .int i => .int i
  | .str x => .str x
theorem pe_cst {k : Cst} {j : Nat} : PE X (.Constant k.k j pos) (tC k.v) := by
  cases k
  · exact pe_non
  · exact pe_bl
  · exact pe_int
  · exact pe_str
theorem s_cst {k : Cst} {j : Nat} : PE X (.Constant k.k j pos) (tD P fun _ t => .ok k.d t) := peMono pe_cst fun σ H Q ⟨F, r, t, R, q⟩ => q _ _ _ Kp.refl R k.rp
/-- keys and values as they are written -/
inductive DspIs : List (Str × Cst) → List (Option Expr) → List Expr → Prop
  | nil : DspIs [] [] []
  | cons {x : Str} {c : Cst} {kvs : List (Str × Cst)} {ks : List (Option Expr)} {vs : List Expr} {j j' : Nat} {q q' : Pos} : DspIs kvs ks vs → DspIs ((x, c) :: kvs) (some (.Constant (.str x) j q) :: ks) (.Constant c.k j' q' :: vs)
theorem DspIs.pps {kvs : List (Str × Cst)} {ks : List (Option Expr)} {vs : List Expr} (h : DspIs kvs ks vs) : PPs X pos ks vs (kvs.map fun p => (tC (.str p.1), tC p.2.v)) := by
  induction h with
  | nil => exact pps_nil
  | cons h ih => exact pps_cons pe_str pe_cst ih
theorem DspIs.all {kvs : List (Str × Cst)} {ks : List (Option Expr)} {vs : List Expr} (h : DspIs kvs ks vs) : ks.all (·.isSome) = true ∧ ks.length = kvs.length ∧ vs.length = kvs.length := by
  induction h with
  | nil => exact ⟨rfl, rfl, rfl⟩
  | cons h ih => exact ⟨by simp [ih.1], by simp [ih.2.1], by simp [ih.2.2]⟩
theorem tPairs_cst {σ : L2.St} {H : Hp} : ∀ {kvs : List (Str × Cst)} {Q : List (V × V) → Hp → Prop}, Q (kvs.map fun p => (V.str p.1, p.2.v)) H → tPairs (kvs.map fun p => (tC (.str p.1), tC p.2.v)) σ H Q
  | [], _, h => h
  | p :: r, Q, h => tPairs_cst (kvs := r) (Q := fun ps H3 => Q ((V.str p.1, p.2.v) :: ps) H3) h
theorem merge_rel {K : PySem.W.Frag} {T : Tn} {F : Hp} : ∀ {l : List (Str × Cst)} {kvs : List (Key × V)} {es : List (Key × D)}, RpK K T F kvs es →
    RpK K T F (mergeK kvs (l.map fun p => (Sum.inr p.1, p.2.v))) (mergeD es (l.map fun p => (p.1, p.2.d)))
  | [], _, _, q => q
  | p :: r, _, _, q => merge_rel (l := r) (q.put (Sum.inr p.1) p.2.rp)
theorem n_dsp {kvs : List (Str × Cst)} {ks : List (Option Expr)} {vs : List Expr} (h : DspIs kvs ks vs) : PE X (.Dict ks vs pos) (tN P fun _ t => if decide (kvs.length ≤ 15) then .ok (.dct (mergeD [] (kvs.map fun p => (p.1, p.2.d)))) t else .bad) := by
  obtain ⟨a1, a2, a3⟩ := h.all
  by_cases hl : kvs.length ≤ 15
  · obtain rfl | hne : kvs = [] ∨ kvs ≠ [] := by
      cases kvs with
      | nil => exact .inl rfl
      | cons => exact .inr (List.cons_ne_nil _ _)
    · cases h
      refine peMono pe_dnewK fun σ H Q ⟨F, r, t, R, q⟩ p hp => ?_
      have q : ∀ v F' H' p, Kp P.T F H F' H' → RelP P F' r t σ H' → Nn H p → Fre P F' r σ H' v (.dct []) p → Q v H' := q
      obtain ⟨R2, k2, fr⟩ := mkNew (o := .dK []) (d := .dct []) R hp ⟨[], upd_same, Nat.zero_le _, .nil⟩
      exact q _ _ _ p k2 R2 (.of hp) fr
    · have h0 : ks ≠ [] := fun e => hne (List.length_eq_zero_iff.mp (by rw [← a2, e]; rfl))
      refine peMono (pe_disp h.pps a1 (a2.trans a3.symm) h0 (by rw [a2]; exact hl)) fun σ H Q ⟨F, r, t, R, q⟩ p hp => ?_
      dsimp only at q
      rw [decide_eq_true hl] at q
      have q : ∀ v F' H' p, Kp P.T F H F' H' → RelP P F' r t σ H' → Nn H p → Fre P F' r σ H' v (.dct (mergeD [] (kvs.map fun p => (p.1, p.2.d)))) p → Q v H' := q
      refine tPairs_cst ⟨upd_same, kvs.map (fun p => (Sum.inr p.1, p.2.v)), by simp [kV], by simpa using hl, ?_⟩
      rw [upd_upd]
      obtain ⟨R2, k2, fr⟩ := mkNew (o := .dK (mergeK [] (kvs.map fun p => (Sum.inr p.1, p.2.v)))) (d := .dct (mergeD [] (kvs.map fun p => (p.1, p.2.d)))) R hp
        ⟨_, upd_same, by have := length_mergeK (kvs.map fun p => (Sum.inr p.1, p.2.v)) []; rw [sizeLine_eq]; simp at this; omega, merge_rel .nil⟩
      exact q _ _ _ p k2 R2 (.of hp) fr
  · exact peMono (t := fun _ _ _ => False) ⟨fun _ _ _ _ _ _ z => False.elim z⟩ fun σ H Q ⟨F, r, t, R, q⟩ => by
      dsimp only at q
      rw [decide_eq_false hl] at q
      exact q
/-! ### names -/
theorem s_var {i : Nat} {x : Str} (hN : X.N[i]? = some x) (hv : Vis X.env.scope x) (hd : (x == ("__debug__" : Str)) = false) (hcd : (x == ("__classdict__" : Str)) = false) :
    PE X (.Name x pos) (tD P fun r t => match r[i]? with
      | some (.val d) => .ok d t
      | _ => .bad) := by
  refine peMono (pe_var hN hv hd hcd) fun σ H Q ⟨F, r, t, R, q⟩ => ?_
  dsimp only at q
  cases e : r[i]? with
  | none =>
    rw [e] at q
    exact q.elim
  | some s =>
    rw [e] at q
    cases s with
    | val d =>
      obtain ⟨v, e1, h⟩ := R.val i d e
      exact ⟨v, e1, q v F H Kp.refl R h⟩
    | _ => exact q.elim
theorem b_var {i : Nat} {x : Str} (hN : X.N[i]? = some x) (hv : Vis X.env.scope x) (hd : (x == ("__debug__" : Str)) = false) (hcd : (x == ("__classdict__" : Str)) = false) :
    PE X (.Name x pos) (tB P fun r t => match r[i]? with
      | some (.val d) => .ok d t
      | some (.own d) => .ok d t
      | _ => .bad) := by
  refine peMono (pe_var hN hv hd hcd) fun σ H Q ⟨F, r, t, R, q⟩ => ?_
  dsimp only at q
  cases e : r[i]? with
  | none =>
    rw [e] at q
    exact q.elim
  | some s =>
    rw [e] at q
    cases s with
    | val d =>
      obtain ⟨v, e1, h⟩ := R.val i d e
      exact ⟨v, e1, q v F H Kp.refl R (.inl h)⟩
    | own d =>
      obtain ⟨p, e1, h⟩ := R.own i d e
      exact ⟨_, e1, q _ F H Kp.refl R (.inr ⟨i, e, e1⟩)⟩
    | _ => exact q.elim
theorem s_glob {x : Str} {v : V} {u : Value} {d : D} (hg : Gl X x) (hm : X.mg x = some u) (rv : RelV v u) (h : Rp P.K P.T (fun _ => none) v d) (hd : (x == ("__debug__" : Str)) = false) : PE X (.Name x pos) (tD P fun _ t => .ok d t) :=
  peMono (pe_glob hg hm rv hd) fun σ H Q ⟨F, r, t, R, q⟩ => q v F H Kp.refl R (h.mono fun _ _ z => by cases z)
end
end Fm

/-! ### targets, what is walked, comprehensions -/
namespace Fm
open PySem PySem.Spec PyProof.Rows L2
/-- only these slots have changed -/
def Chg (is : List Nat) (σ σ' : L2.St) : Prop := σ'.length = σ.length ∧ ∀ j, j ∉ is → σ'[j]? = σ[j]?
theorem Chg.refl {is : List Nat} {σ : L2.St} : Chg is σ σ := ⟨rfl, fun _ _ => rfl⟩
theorem Chg.trans {is js : List Nat} {σ σ1 σ2 : L2.St} (a : Chg is σ σ1) (b : Chg js σ1 σ2) : Chg (is ++ js) σ σ2 :=
  ⟨b.1.trans a.1, fun j h => (b.2 j fun z => h (List.mem_append_right _ z)).trans (a.2 j fun z => h (List.mem_append_left _ z))⟩
theorem wipe_get (σ : L2.St) (j : Nat) : ∀ vs : List Nat, (wipe σ vs)[j]? = if j ∈ vs ∧ j < σ.length then some none else σ[j]?
  | [] => by simp [wipe]
  | v :: vs => by
    unfold wipe
    rw [List.getElem?_set, wipe_get σ j vs, wipe_length]
    by_cases h : v = j
    · subst h
      by_cases hl : v < σ.length
      · simp [hl]
      · simp [hl]
    · simp [h, Ne.symm h]
theorem Chg.wipe {is vs : List Nat} {σ σ' : L2.St} (c : Chg is σ σ') (h : ∀ i ∈ is, i ∈ vs) : wipe σ' vs = wipe σ vs := by
  refine List.ext_getElem? fun j => ?_
  rw [wipe_get, wipe_get, c.1]
  by_cases hj : j ∈ vs
  · by_cases hl : j < σ.length
    · simp [hj, hl]
    · simp only [hj, hl, and_false, if_false]
      rw [List.getElem?_eq_none (by rw [c.1]; omega), List.getElem?_eq_none (by omega)]
  · simp only [hj, false_and, if_false]
    exact c.2 j fun z => hj (h j z)
section
variable {P : Pm} {X : Cx} {a b c : Expr} {pos p1 p2 : Pos} {fa fb fc : Rho → Tw → Res D}
/-- an item for a target: a tuple that is taken apart need not be told to have no __dict__ -/
def Tg.isT : Tg → Bool
  | .tup _ => true
  | .name _ => false
def RpG (K : PySem.W.Frag) (T : Tn) (F : Hp) (tg : Tg) (v : V) (d : D) : Prop := Rp K T F v d ∨ (tg.isT = true ∧ ∃ p xs es, v = .ref p ∧ d = .tup es ∧ SqT K F p xs ∧ xs.length ≤ sizeLine ∧ RpL K T F xs es)
def gT (P : Pm) (tg : Tg) : TG := fun v σ H Q => ∃ F r t d r', RelP P F r t σ H ∧ RpG P.K P.T F tg v d ∧ setT tg d r = some r' ∧ ∀ σ', RelP P F r' t σ' H → Chg tg.slots σ σ' → Q σ' H
def gTs (P : Pm) (ts : Tgs) : TGs := fun vs σ H Q => ∃ F r t ds r', RelP P F r t σ H ∧ RpL P.K P.T F vs ds ∧ setTs ts ds r = some r' ∧ ∀ σ', RelP P F r' t σ' H → Chg ts.slots σ σ' → Q σ' H
theorem pgMono {tg : Expr} {t u : TG} (h : PG X tg t) (i : ∀ v σ H Q, u v σ H Q → t v σ H Q) : PG X tg u := ⟨fun pins s σ H v w Q I r q => h.run pins s σ H v w Q I r (i v σ H Q q)⟩
theorem pgsMono {tg : List Expr} {t u : TGs} (h : PGs X tg t) (i : ∀ v σ H Q, u v σ H Q → t v σ H Q) : PGs X tg u := ⟨fun pins s σ H v w Q I r q => h.run pins s σ H v w Q I r (i v σ H Q q)⟩
theorem g_name {i : Nat} {x : Str} (hN : X.N.Nodup) (hi : X.N[i]? = some x) (hx : Loc X.env.scope x) (hf : X.fn x = true ∨ X.env.scope.names.lookup x = some .local) : PG X (.Name x pos) (gT P (.name i)) := by
  refine pgMono (pg_name hN hi hx hf) fun v σ H Q ⟨F, r, t, d, r', R, rv, e, q⟩ => ?_
  have rv : Rp P.K P.T F v d := rv.elim id fun z => by cases z.1
  simp only [setT] at e
  split at e
  · cases e
    refine q _ (R.setVal rv) ⟨by simp, fun j h => ?_⟩
    exact List.getElem?_set_ne (fun z => h (by simp [Tg.slots, z]))
  · cases e
theorem g_nil : PGs X [] (gTs P .nil) := pgsMono pgs_nil fun v σ H Q ⟨F, r, t, ds, r', R, rv, e, q⟩ => by
  cases rv with
  | nil =>
    cases e
    exact ⟨rfl, q σ R Chg.refl⟩
  | cons _ _ => cases e
theorem g_cons {e : Expr} {es : List Expr} {tg : Tg} {ts : Tgs} (h1 : PG X e (gT P tg)) (h2 : PGs X es (gTs P ts)) (hs : (assignEach (e :: es) X.env).map (·.2) = assign e X.env :: (assignEach es X.env).map (·.2)) : PGs X (e :: es) (gTs P (.cons tg ts)) :=
  pgsMono (pgs_cons h1 h2 hs) fun v σ H Q ⟨F, r, t, ds, r', R, rv, e, q⟩ => by
    cases rv with
    | nil => cases e
    | @cons v vs d ds h hr =>
      obtain ⟨r1, e1, e2⟩ := Option.bind_eq_some_iff.mp (show ((setT tg d r).bind fun r1 => setTs ts ds r1) = some r' from e)
      exact ⟨v, vs, rfl, F, r, t, d, r1, R, .inl h, e1, fun σ1 R1 c1 => ⟨F, r1, t, ds, r', R1, hr, e2, fun σ2 R2 c2 => q σ2 R2 (c1.trans c2)⟩⟩
theorem setTs_len : ∀ {ts : Tgs} {ds : List D} {r r' : Rho}, setTs ts ds r = some r' → ∀ {n : Nat}, (∀ ds r r', setTs ts ds r = some r' → ds.length = n) → ds.length = n := fun h n k => k _ _ _ h
def Tgs.count : Tgs → Nat
  | .nil => 0
  | .cons _ ts => ts.count + 1
theorem setTs_count : ∀ {ts : Tgs} {ds : List D} {r r' : Rho}, setTs ts ds r = some r' → ds.length = ts.count
  | .nil, [], _, _, _ => rfl
  | .nil, _ :: _, _, _, h => by cases h
  | .cons _ _, [], _, _, h => by cases h
  | .cons t ts, d :: ds, r, r', h => by
    obtain ⟨r1, e1, e2⟩ := Option.bind_eq_some_iff.mp (show ((setT t d r).bind fun r1 => setTs ts ds r1) = some r' from h)
    show ds.length + 1 = ts.count + 1
    rw [setTs_count e2]
theorem g_tup {es : List Expr} {k : Nat} {ts : Tgs} (hK : X.K = P.K) (hc : X.calm = true) (h : PGs X es (gTs P ts)) (hn : (assignEach es X.env).length = ts.count) (hst : (assignEach es X.env).findIdx? (·.1) = none) :
    PG X (.Tuple es k pos) (gT P (.tup ts)) :=
  pgMono (pg_tup hc h hn hst) fun v σ H Q ⟨F, r, t, d, r', R, rv, e, q⟩ => by
    cases d with
    | tup ds =>
      obtain ⟨p, xs, rfl, h1, h2⟩ : ∃ p xs, v = .ref p ∧ SqT P.K F p xs ∧ RpL P.K P.T F xs ds := by
        rcases rv with rv | ⟨_, p, xs, es, h1, h2, h3, _, h4⟩
        · cases rv with
          | tup h1 z h2 => exact ⟨_, _, rfl, h1.1, h2⟩
        · cases h2
          exact ⟨p, xs, h1, h3, h4⟩
      have e : setTs ts ds r = some r' := by simpa only [setT] using e
      rw [hK]
      exact ⟨p, xs, rfl, sqT_mono R.sub h1, by rw [h2.length]; exact setTs_count e, F, r, t, ds, r', R, h2, e, q⟩
    | _ => simp [setT] at e
/-! ### what is walked -/
structure WD (P : Pm) (w : Bool) (J : It) (G : Hp → Prop) (F : Hp) (ds : List D) : Prop where
  goes : ∀ i H, i < ds.length → G H → J.go i H
  stops : ∀ H, G H → J.stop ds.length H
  yields : ∀ i H x H' d, ds[i]? = some d → G H → J.yld i H x H' → (H' = H ∧ Rp P.K P.T F x d) ∨ (w = true ∧ ∃ p xs es, x = .ref p ∧ H p = none ∧ H' = upd H p (.tup xs) ∧ d = .tup es ∧ xs.length ≤ sizeLine ∧ RpL P.K P.T F xs es) ∨
    ∃ p o xs es, x = .ref p ∧ H p = none ∧ o.dict = none ∧ H' = upd H p (.frz o (.tup xs)) ∧ d = .tup es ∧ xs.length ≤ sizeLine ∧ RpL P.K P.T F xs es
/-- an item is drawn: it is there for a target -/
theorem WD.draw {w : Bool} {J : It} {G : Hp → Prop} {F F2 H H' : Hp} {ds : List D} {tg : Tg} {i : Nat} {x : V} {d : D} {r : Rho} {t : Tw} {σ : L2.St} (h : WD P w J G F ds) (hw : w = true → tg.isT = true) (e : ds[i]? = some d) (g : G H) (y : J.yld i H x H') (k : Same F F2) (R : RelP P F2 r t σ H) :
    ∃ F3, Kp P.T F2 H F3 H' ∧ (∀ {P' : Pm} {r' : Rho} {σ' : L2.St}, P'.T = P.T → P'.K = P.K → RelP P' F2 r' t σ' H → RelP P' F3 r' t σ' H') ∧ RelP P F3 r t σ H' ∧ RpG P.K P.T F3 tg x d := by
  rcases h.yields i H x H' d e g y with ⟨rfl, rx⟩ | ⟨hw', p, xs, es, rfl, hp, rfl, rfl, z, q⟩ | ⟨p, o, xs, es, rfl, hp, hd, rfl, rfl, z, q⟩
  · exact ⟨F2, Kp.refl, fun _ _ h => h, R, .inl (rx.mono k)⟩
  · have b := R.toRelH.newF (o := .tup xs) hp
    exact ⟨_, Kp.of b, fun h1 h2 h => h.step (by rw [h1, h2]; exact b), R.step b, .inr ⟨hw hw', p, xs, es, rfl, rfl, SqT.of upd_same, z, q.mono (k.trans b.base)⟩⟩
  · have b := R.toRelH.newF (o := .frz o (.tup xs)) hp
    exact ⟨_, Kp.of b, fun h1 h2 h => h.step (by rw [h1, h2]; exact b), R.step b, .inl (.tup ⟨.inl (.inr ⟨o, upd_same⟩), .inl ⟨o, xs, upd_same, hd⟩⟩ z (q.mono (k.trans b.base)))⟩
def keepG (P : Pm) (F H : Hp) (H2 : Hp) : Prop := Same F H2 ∧ ∀ a o, H a = some o → a ≠ P.T.a → a ≠ P.T.b → NT o → H2 a = some o
/-- G: what must stand while it is walked -/
def tI (P : Pm) (fz w : Bool) (f : Rho → Tw → Res (List D)) : TI := fun σ H Q => ∃ F r t, RelP P F r t σ H ∧ Aft P F (f r t) fun ds t' => ∀ J F' H', Kp P.T F H F' H' → RelP P F' r t' σ H' →
  WD P w J (if fz then Same F' else keepG P F' H') F' ds → Q J H'
theorem piMono {tg e : Expr} {t u : TI} (h : PI X tg e t) (i : ∀ σ H Q, u σ H Q → t σ H Q) : PI X tg e u := ⟨fun pins s σ H Q I q => h.run pins s σ H Q I (i σ H Q q)⟩
theorem WD.weak {w0 : Bool} {J : It} {G G' : Hp → Prop} {F : Hp} {ds : List D} (w : WD P w0 J G F ds) (h : ∀ H, G' H → G H) : WD P w0 J G' F ds :=
  ⟨fun i H hi g => w.goes i H hi (h H g), fun H g => w.stops H (h H g), fun i H x H' d e g y => w.yields i H x H' d e (h H g) y⟩
theorem WD.fz {w0 : Bool} {J : It} {F H : Hp} {ds : List D} (w : WD P w0 J (Same F) F ds) (b : Bool) : WD P w0 J (if b then Same F else keepG P F H) F ds := by
  cases b
  · exact w.weak fun H g => g.1
  · exact w
/-- a list, a tuple, a text -/
theorem pi_seq {tg : Expr} {tl : TE} (hl : PE X a tl) : PI X tg a (fun σ H R => tl σ H fun x H1 => (∃ p, x = .ref p ∧ (∃ xs, SqL X.K H1 p xs) ∧ R (Itl X.K p) H1) ∨ (∃ p, x = .ref p ∧ (∃ xs, SqT X.K H1 p xs) ∧ R (Itt X.K p) H1) ∨ ∃ z, x = .str z ∧ R (Its z) H1) := by
  constructor
  intro pins s σ H R I h
  have run := hl.run pins s σ H _ I h
  refine thn run fun v s1 ⟨_, H1, I1, rel, q⟩ => ?_
  rcases q with ⟨p, rfl, ⟨_, seq⟩, q⟩ | ⟨p, rfl, ⟨_, seq⟩, q⟩ | ⟨z, rfl, q⟩
  · cases rel
    have ⟨_, _, l, _⟩ := I1.list seq
    exact wpAny_pyIter_list l.isList (pi_one (tk := s1.toks) I1 _ (turn_list p _) ⟨_, Heap.get?_push_size _ rfl, rfl, rfl⟩ q)
  · cases rel
    have ⟨_, _, t, _⟩ := I1.tuple seq
    exact wpAny_pyIter_tuple t (pi_one (tk := s1.toks) I1 _ (turn_tuple p _) ⟨_, Heap.get?_push_size _ rfl, rfl, rfl⟩ q)
  · obtain ⟨t, rfl⟩ := rel
    cases narrow : z.cps.all (· < 128)
    · exact wpAny_pyIter_wide narrow (pi_one (tk := s1.toks) I1 _ (turn_str _ z t "str_iterator" (.inr rfl)) ⟨_, Heap.get?_push_size _ rfl, rfl, rfl⟩ q)
    · exact wpAny_pyIter_ascii narrow (pi_one (tk := s1.toks) I1 _ (turn_str _ z t "str_ascii_iterator" (.inl rfl)) ⟨_, Heap.get?_push_size _ rfl, rfl, rfl⟩ q)
theorem wd_at {w0 : Bool} {J : It} {n : Nat} {G : Hp → Prop} {F : Hp} {xs : List V} {ds : List D} (w : Walk J xs.length G (YAt xs)) (q : RpL P.K P.T F xs ds) : WD P w0 J G F ds := by
  refine ⟨fun i H hi g => w.goes i H (by rw [q.length]; exact hi) g, fun H g => by rw [← q.length]; exact w.stops H g, fun i H x H' d e g y => .inl ?_⟩
  obtain ⟨v, e1, r1⟩ := q.get e
  have hi : i < xs.length := (List.getElem?_eq_some_iff.mp e1).1
  obtain ⟨h1, h2⟩ := w.yields i H x H' hi g y
  rw [e1] at h2
  cases h2
  exact ⟨h1, r1⟩
theorem wd_lst {w0 : Bool} {F : Hp} {p : Addr} {xs : List V} {ds : List D} {K : PySem.W.Frag} (hK : K = P.K) (h : F p = some (.lst xs)) (q : RpL P.K P.T F xs ds) : WD P w0 (Itl K p) (Same F) F ds :=
  wd_at (n := 0) (walk_list.mono (fun H g => SqL.of (g _ _ h)) fun i H x H' _ _ y => y) q
theorem wd_lstO {w0 : Bool} {F H : Hp} {p : Addr} {xs : List V} {ds : List D} {K : PySem.W.Frag} (hK : K = P.K) (h : H p = some (.lst xs)) (n1 : p ≠ P.T.a) (n2 : p ≠ P.T.b) (q : RpL P.K P.T F xs ds) : WD P w0 (Itl K p) (keepG P F H) F ds :=
  wd_at (n := 0) (walk_list.mono (fun H g => SqL.of (g.2 _ _ h n1 n2 (by intro _ z; cases z))) fun i H x H' _ _ y => y) q
theorem wd_tup {w0 : Bool} {F : Hp} {p : Addr} {xs : List V} {ds : List D} {K : PySem.W.Frag} (hK : K = P.K) (h : SqT K F p xs) (q : RpL P.K P.T F xs ds) : WD P w0 (Itt K p) (Same F) F ds :=
  wd_at (n := 0) (walk_tup.mono (fun H g => sqT_mono g h) fun i H x H' _ _ y => y) q
theorem wd_str {w0 : Bool} {F : Hp} {z : Str} : WD P w0 (Its z) (Same F) F (strD z) := by
  have hl : (strD z).length = z.cps.size := by simp [strD]
  have w := walk_str (z := z)
  refine ⟨fun i H hi g => w.goes i H (by rw [← hl]; exact hi) trivial, fun H g => by rw [hl]; exact w.stops H trivial, fun i H x H' d e g y => .inl ?_⟩
  have hi : i < z.cps.size := by
    rw [← hl]
    exact (List.getElem?_eq_some_iff.mp e).1
  obtain ⟨h1, c, h2, rfl⟩ := w.yields i H x H' hi trivial y
  refine ⟨h1, ?_⟩
  have e2 : (strD z)[i]? = some (.str ⟨#[c]⟩) := by
    unfold strD
    rw [List.getElem?_map, Array.getElem?_toList, h2]
    rfl
  rw [e2] at e
  cases e
  exact .str _
def evV (f : Rho → Tw → Res D) (r : Rho) (t : Tw) : Res (List D) := (f r t).bind fun x t1 => match x with
    | .tup xs => .ok xs t1
    | .lst xs => .ok xs t1
    | .str x => .ok (strD x) t1
    | _ => .bad
theorem i_val {w0 : Bool} {tg : Expr} (hK : X.K = P.K) (ha : PE X a (tD P fa)) : PI X tg a (tI P true w0 (evV fa)) := piMono (pi_seq ha) fun σ H Q ⟨F, r, t, R, h⟩ => ⟨F, r, t, R, h.bind.mono fun d t' h v F' H' s R' rv => by
  cases d with
  | tup ds =>
    cases rv with
    | @tup p xs ds h1 z h2 => exact .inr (.inl ⟨p, rfl, ⟨xs, by rw [hK]; exact sqP_t R'.sub h1⟩, h _ _ _ s R' (wd_tup hK (by rw [hK]; exact h1.1) h2)⟩)
  | lst ds =>
    cases rv with
    | @lst p xs ds h1 z h2 => exact .inl ⟨p, rfl, ⟨xs, SqL.of (R'.sub _ _ h1)⟩, h _ _ _ s R' (wd_lst hK h1 h2)⟩
  | str z =>
    cases rv
    exact .inr (.inr ⟨z, rfl, h _ _ _ s R' wd_str⟩)
  | _ => exact (show False from h).elim⟩
theorem i_bor {w0 : Bool} {tg : Expr} (hK : X.K = P.K) (ha : PE X a (tB P fa)) : PI X tg a (tI P false w0 (evV fa)) := piMono (pi_seq ha) fun σ H Q ⟨F, r, t, R, h⟩ => ⟨F, r, t, R, h.bind.mono fun d t' h v F' H' s R' rv => by
  cases d with
  | tup ds =>
    obtain ⟨p, xs, rfl, h1, z, h2⟩ := rv.tup R'
    exact .inr (.inl ⟨p, rfl, ⟨xs, by rw [hK]; exact sqP_t R'.sub h1⟩, h _ _ _ s R' ((wd_tup hK (by rw [hK]; exact h1.1) h2).fz false)⟩)
  | lst ds =>
    obtain ⟨p, xs, rfl, h1, z, h2⟩ := rv.lst R'
    have n1 : p ≠ P.T.a := fun e => by
      rw [e, R'.tw.a] at h1
      cases h1
    have n2 : p ≠ P.T.b := fun e => by
      rw [e, R'.tw.b] at h1
      cases h1
    exact .inl ⟨p, rfl, ⟨xs, SqL.of h1⟩, h _ _ _ s R' (wd_lstO hK h1 n1 n2 h2)⟩
  | str z =>
    obtain rfl := rv.str R'
    exact .inr (.inr ⟨z, rfl, h _ _ _ s R' (wd_str.fz false)⟩)
  | _ => exact (show False from h).elim⟩
theorem wd_rng {w0 : Bool} {F : Hp} {lo : Int} {n : Nat} : WD P w0 (Itr lo n) (Same F) F (rngD lo n) := by
  have hl : (rngD lo n).length = n := by simp [rngD]
  refine ⟨fun i H hi g => (by rw [hl] at hi; exact hi), fun H g => (by rw [hl]; exact Nat.le_refl _), fun i H x H' d e g y => .inl ?_⟩
  obtain ⟨h1, h2⟩ := y
  refine ⟨h1, ?_⟩
  have hi : i < n := by
    rw [← hl]
    exact (List.getElem?_eq_some_iff.mp e).1
  have e2 : (rngD lo n)[i]? = some (.int (lo + (i : Nat))) := by
    unfold rngD
    rw [List.getElem?_map, List.getElem?_range hi]
    rfl
  rw [e2] at e
  cases e
  rw [h2]
  exact .int _
theorem okRng_of {i : Int} (h : okRng i = true) : -(2 ^ 62) ≤ i ∧ i < 2 ^ 62 := by
  have := Bool.and_eq_true_iff.mp h
  exact ⟨of_decide_eq_true this.1, of_decide_eq_true this.2⟩
theorem i_rng1 {w0 : Bool} {tg : Expr} {fz : Bool} (hg : Gl X "range") (hm : X.mg "range" = none) (ha : PE X a (tB P fa)) (hs : starEach [a] X.env = (false, eval a X.env) :: starEach [] X.env) :
    PI X tg (.Call (.Name "range" p1) [a] [] pos) (tI P fz w0 fun r t => (fa r t).bind fun x t1 => match x with
    | .int j => if okRng j then .ok (rngD 0 j.toNat) t1 else .bad
    | _ => .bad) := piMono (pi_range1 hg hm (pa_cons ha pa_nil hs) hs) fun σ H Q ⟨F, r, t, R, h⟩ => ⟨F, r, t, R, h.bind.mono fun d t' h v F' H' s R' rv => by
  cases d with
  | int j =>
    have h : Aft P F (if okRng j then .ok (rngD 0 j.toNat) t' else .bad) _ := h
    split at h
    · rename_i hr
      obtain ⟨h1, h2⟩ := okRng_of hr
      exact ⟨j, by rw [rv.int R'], h1, h2, h _ _ _ s R' (wd_rng.fz fz)⟩
    · exact h.elim
  | _ => exact (show False from h).elim⟩
theorem i_rng2 {w0 : Bool} {tg : Expr} {fz : Bool} (hg : Gl X "range") (hm : X.mg "range" = none) (ha : PE X a (tB P fa)) (hb : PE X b (tB P fb)) (hs : starEach [a, b] X.env = (false, eval a X.env) :: starEach [b] X.env) (hs2 : starEach [b] X.env = (false, eval b X.env) :: starEach [] X.env) :
    PI X tg (.Call (.Name "range" p1) [a, b] [] pos) (tI P fz w0 fun r t => (fa r t).bind fun x t1 => (fb r t1).bind fun y t2 => match x, y with
    | .int i, .int j => if okRng i && okRng j then .ok (rngD i (j - i).toNat) t2 else .bad
    | _, _ => .bad) := piMono (pi_range2 hg hm (pa_cons ha (pa_cons hb pa_nil hs2) hs) (hs.trans (by rw [hs2]; rfl)) hs2) fun σ H Q ⟨F, r, t, R, h⟩ => ⟨F, r, t, R, h.bind.mono fun dx t1 h v F1 H1 s1 R1 rx => ⟨F1, r, t1, R1, (h.up s1.1).bind.mono fun dy t2 h w F2 H2 s2 R2 ry => by
  cases dx with
  | int i =>
    cases dy with
    | int j =>
      have h : Aft P F1 (if okRng i && okRng j then .ok (rngD i (j - i).toNat) t2 else .bad) _ := h
      split at h
      · rename_i hr
        have hr := Bool.and_eq_true_iff.mp hr
        obtain ⟨h1, h2⟩ := okRng_of hr.1
        obtain ⟨h3, h4⟩ := okRng_of hr.2
        exact ⟨i, j, by rw [rx.int R1, ry.int R2], ⟨h1, h2, h3, h4⟩, h _ _ _ (s1.trans s2) R2 (wd_rng.fz fz)⟩
      · exact h.elim
    | _ => exact (show False from h).elim
  | _ => exact (show False from h).elim⟩⟩
/-! zip, enumerate -/
theorem zipD_len : ∀ xs ys : List D, (zipD xs ys).length = min xs.length ys.length
  | [], ys => by simp [zipD]
  | _ :: _, [] => by simp [zipD]
  | x :: xs, y :: ys => by
    simp only [zipD, List.length_cons, zipD_len xs ys]
    omega
theorem zipD_get : ∀ {xs ys : List D} {i : Nat} {d : D}, (zipD xs ys)[i]? = some d → ∃ a b, xs[i]? = some a ∧ ys[i]? = some b ∧ d = .tup [a, b]
  | [], ys, i, d, h => by simp [zipD] at h
  | _ :: _, [], i, d, h => by simp [zipD] at h
  | x :: xs, y :: ys, 0, d, h => by
    simp only [zipD, List.getElem?_cons_zero, Option.some.injEq] at h
    exact ⟨x, y, rfl, rfl, h.symm⟩
  | x :: xs, y :: ys, i + 1, d, h => by
    simp only [zipD, List.getElem?_cons_succ] at h
    obtain ⟨a, b, h1, h2, h3⟩ := zipD_get h
    exact ⟨a, b, by simpa using h1, by simpa using h2, h3⟩
theorem two_line : (2 : Nat) ≤ sizeLine := by
  rw [sizeLine_eq]
  decide
theorem wd_pair {J : It} {n : Nat} {G : Hp → Prop} {F : Hp} {ds : List D} {f g : Nat → Option V} (w : Walk J n G (YPair f g)) (hl : ds.length = n)
    (h : ∀ i d, ds[i]? = some d → ∃ x y a b, f i = some x ∧ g i = some y ∧ d = .tup [a, b] ∧ Rp P.K P.T F x a ∧ Rp P.K P.T F y b) : WD P true J G F ds := by
  refine ⟨fun i H hi g => w.goes i H (by rw [← hl]; exact hi) g, fun H g => by rw [hl]; exact w.stops H g, fun i H x H' d e g y => .inr (.inl ⟨rfl, ?_⟩)⟩
  have hi : i < n := by
    rw [← hl]
    exact (List.getElem?_eq_some_iff.mp e).1
  obtain ⟨T, x1, y1, h1, h2, h3, h4, h5⟩ := w.yields i H x H' hi g y
  obtain ⟨x2, y2, a, b, h6, h7, h8, h9, h10⟩ := h i d e
  rw [h4] at h6
  rw [h5] at h7
  cases h6
  cases h7
  exact ⟨T, [x1, y1], [a, b], h1, h2, h3, h8, two_line, .cons h9 (.cons h10 .nil)⟩
theorem zip_both {F : Hp} {xs ys : List V} {ds es : List D} (q1 : RpL P.K P.T F xs ds) (q2 : RpL P.K P.T F ys es) (i : Nat) (d : D) (e : (zipD ds es)[i]? = some d) :
    ∃ x y a b, xs[i]? = some x ∧ ys[i]? = some y ∧ d = .tup [a, b] ∧ Rp P.K P.T F x a ∧ Rp P.K P.T F y b := by
  obtain ⟨a, b, h1, h2, h3⟩ := zipD_get e
  obtain ⟨x, h4, h5⟩ := q1.get h1
  obtain ⟨y, h6, h7⟩ := q2.get h2
  exact ⟨x, y, a, b, h4, h6, h3, h5, h7⟩
def zipE (fa fb : Rho → Tw → Res D) (r : Rho) (t : Tw) : Res (List D) := (fa r t).bind fun x t1 => (fb r t1).bind fun y t2 => match x, y with
    | .tup xs, .tup ys => .ok (zipD xs ys) t2
    | .lst xs, .lst ys => .ok (zipD xs ys) t2
    | _, _ => .bad
theorem own_ne {F H : Hp} {r : Rho} {t : Tw} {σ : L2.St} {p : Addr} {xs : List V} (R : RelP P F r t σ H) (h1 : H p = some (.lst xs)) : p ≠ P.T.a ∧ p ≠ P.T.b := by
  refine ⟨fun e => ?_, fun e => ?_⟩
  · rw [e, R.tw.a] at h1
    cases h1
  · rw [e, R.tw.b] at h1
    cases h1
theorem walk_zipT {K : PySem.W.Frag} {a b : Addr} {xs ys : List V} {n : Nat} (hn : n = min xs.length ys.length) : Walk (RZ.ItzT K a b) n (fun H => SqT K H a xs ∧ SqT K H b ys) (YPair (fun i => xs[i]?) (fun i => ys[i]?)) where
  goes := fun i _ lt ⟨sa, sb⟩ =>
    have la : i < xs.length := by omega
    have lb : i < ys.length := by omega
    ⟨xs, ys, xs[i], ys[i], sa, sb, List.getElem?_eq_getElem la, List.getElem?_eq_getElem lb⟩
  stops := fun _ ⟨sa, sb⟩ => ⟨xs, ys, sa, sb, by omega⟩
  yields := fun _ _ _ _ _ ⟨sa, sb⟩ ⟨T, x, z, ev, new, eH, ia, ib⟩ => ⟨T, x, z, ev, new, eH, ia xs sa, ib ys sb⟩
theorem i_zipB {elts : List Expr} {kk : Nat} {tpos : Pos} (hK : X.K = P.K) (hg : Gl X "zip") (hm : X.mg "zip" = none) (ha : PE X a (tB P fa)) (hb : PE X b (tB P fb)) (hs : starEach [a, b] X.env = (false, eval a X.env) :: starEach [b] X.env) (hs2 : starEach [b] X.env = (false, eval b X.env) :: starEach [] X.env) :
    PI X (.Tuple elts kk tpos) (.Call (.Name "zip" p1) [a, b] [] pos) (tI P false true (zipE fa fb)) :=
  piMono (RZ.pi_zipA hg hm (pa_cons ha (pa_cons hb pa_nil hs2) hs) hs (by rw [hs2]; rfl)) fun σ H Q ⟨F, r, t, R, h⟩ => ⟨F, r, t, R, h.bind.mono fun dx t1 h v F1 H1 s1 R1 rx => ⟨F1, r, t1, R1, (h.up s1.1).bind.mono fun dy t2 h w F2 H2 s2 R2 ry => by
    cases dx with
    | tup xs =>
      cases dy with
      | tup ys =>
        obtain ⟨p1, v1, rfl, e1, z1, q1⟩ := (rx.mono s2.1).tup R2
        obtain ⟨p2, v2, rfl, e2, z2, q2⟩ := ry.tup R2
        refine ⟨p1, p2, v1, v2, rfl, .inr ⟨by rw [hK]; exact sqP_t R2.sub e1, by rw [hK]; exact sqP_t R2.sub e2, h _ _ _ (s1.trans s2) R2 ?_⟩⟩
        refine (wd_pair (G := fun H => SqT X.K H p1 v1 ∧ SqT X.K H p2 v2) (walk_zipT (n := min v1.length v2.length) rfl) (by rw [zipD_len, q1.length, q2.length]) (zip_both q1 q2)).weak fun H g => ?_
        rw [hK]
        exact ⟨sqP_t g.1 e1, sqP_t g.1 e2⟩
      | _ => exact (show False from h).elim
    | lst xs =>
      cases dy with
      | lst ys =>
        obtain ⟨p1, v1, rfl, e1, z1, q1⟩ := (rx.mono s2.1).lst R2
        obtain ⟨p2, v2, rfl, e2, z2, q2⟩ := ry.lst R2
        have n1 := own_ne R2 e1
        have n2 := own_ne R2 e2
        refine ⟨p1, p2, v1, v2, rfl, .inl ⟨SqL.of e1, SqL.of e2, h _ _ _ (s1.trans s2) R2 ?_⟩⟩
        exact (wd_pair (walk_zip (n := min v1.length v2.length) rfl) (by rw [zipD_len, q1.length, q2.length]) (zip_both q1 q2)).weak fun H g => ⟨SqL.of (g.2 _ _ e1 n1.1 n1.2 (by intro _ z; cases z)), SqL.of (g.2 _ _ e2 n2.1 n2.2 (by intro _ z; cases z))⟩
      | _ => exact (show False from h).elim
    | _ => exact (show False from h).elim⟩⟩
theorem i_zip {elts : List Expr} {kk : Nat} {tpos : Pos} (hK : X.K = P.K) (hg : Gl X "zip") (hm : X.mg "zip" = none) (ha : PE X a (tD P fa)) (hb : PE X b (tD P fb)) (hs : starEach [a, b] X.env = (false, eval a X.env) :: starEach [b] X.env) (hs2 : starEach [b] X.env = (false, eval b X.env) :: starEach [] X.env) :
    PI X (.Tuple elts kk tpos) (.Call (.Name "zip" p1) [a, b] [] pos) (tI P true true (zipE fa fb)) :=
  piMono (RZ.pi_zipA hg hm (pa_cons ha (pa_cons hb pa_nil hs2) hs) hs (by rw [hs2]; rfl)) fun σ H Q ⟨F, r, t, R, h⟩ => ⟨F, r, t, R, h.bind.mono fun dx t1 h v F1 H1 s1 R1 rx => ⟨F1, r, t1, R1, (h.up s1.1).bind.mono fun dy t2 h w F2 H2 s2 R2 ry => by
    have rx := rx.mono s2.1
    cases dx with
    | tup xs =>
      cases dy with
      | tup ys =>
        cases rx with
        | @tup p1 v1 _ e1 z1 q1 =>
        cases ry with
        | @tup p2 v2 _ e2 z2 q2 =>
        refine ⟨p1, p2, v1, v2, rfl, .inr ⟨by rw [hK]; exact sqP_t R2.sub e1, by rw [hK]; exact sqP_t R2.sub e2, h _ _ _ (s1.trans s2) R2 ?_⟩⟩
        refine (wd_pair (G := fun H => SqT X.K H p1 v1 ∧ SqT X.K H p2 v2) (walk_zipT (n := min v1.length v2.length) rfl) (by rw [zipD_len, q1.length, q2.length]) (zip_both q1 q2)).weak fun H g => ?_
        rw [hK]
        exact ⟨sqP_t g e1, sqP_t g e2⟩
      | _ => exact (show False from h).elim
    | lst xs =>
      cases dy with
      | lst ys =>
        cases rx with
        | @lst p1 v1 _ e1 z1 q1 =>
        cases ry with
        | @lst p2 v2 _ e2 z2 q2 =>
        refine ⟨p1, p2, v1, v2, rfl, .inl ⟨SqL.of (R2.sub _ _ e1), SqL.of (R2.sub _ _ e2), h _ _ _ (s1.trans s2) R2 ?_⟩⟩
        exact (wd_pair (walk_zip (n := min v1.length v2.length) rfl) (by rw [zipD_len, q1.length, q2.length]) (zip_both q1 q2)).weak fun H g => ⟨SqL.of (g _ _ e1), SqL.of (g _ _ e2)⟩
      | _ => exact (show False from h).elim
    | _ => exact (show False from h).elim⟩⟩
theorem enumD_get : ∀ {xs : List D} {k i : Nat} {d : D}, (enumD k xs)[i]? = some d → ∃ a, xs[i]? = some a ∧ d = .tup [.int ((k + i : Nat) : Int), a]
  | [], k, i, d, h => by simp [enumD] at h
  | x :: xs, k, 0, d, h => by
    simp only [enumD, List.getElem?_cons_zero, Option.some.injEq] at h
    exact ⟨x, rfl, h.symm⟩
  | x :: xs, k, i + 1, d, h => by
    simp only [enumD, List.getElem?_cons_succ] at h
    obtain ⟨a, h1, h2⟩ := enumD_get h
    refine ⟨a, by simpa using h1, ?_⟩
    rw [h2, show k + 1 + i = k + (i + 1) by omega]
theorem enumD_len : ∀ (xs : List D) (k : Nat), (enumD k xs).length = xs.length
  | [], _ => rfl
  | x :: xs, k => by simp only [enumD, List.length_cons, enumD_len xs]
theorem enum_one {F : Hp} {xs : List V} {ds : List D} (q1 : RpL P.K P.T F xs ds) (i : Nat) (d : D) (e : (enumD 0 ds)[i]? = some d) :
    ∃ x y a b, (some (V.int (i : Nat)) : Option V) = some x ∧ xs[i]? = some y ∧ d = .tup [a, b] ∧ Rp P.K P.T F x a ∧ Rp P.K P.T F y b := by
  obtain ⟨a, h1, h2⟩ := enumD_get e
  obtain ⟨x, h4, h5⟩ := q1.get h1
  refine ⟨_, x, _, a, rfl, h4, h2, ?_, h5⟩
  rw [Nat.zero_add]
  exact .int _
def enumE (fa : Rho → Tw → Res D) (r : Rho) (t : Tw) : Res (List D) := (fa r t).bind fun x t1 => match x with
    | .lst xs => .ok (enumD 0 xs) t1
    | _ => .bad
theorem i_enumB {elts : List Expr} {kk : Nat} {tpos : Pos} (hK : X.K = P.K) (hg : Gl X "enumerate") (hm : X.mg "enumerate" = none) (ha : PE X a (tB P fa)) (hs : starEach [a] X.env = (false, eval a X.env) :: starEach [] X.env) :
    PI X (.Tuple elts kk tpos) (.Call (.Name "enumerate" p1) [a] [] pos) (tI P false true (enumE fa)) :=
  piMono (pi_enum hg hm (pa_cons ha pa_nil hs) hs) fun σ H Q ⟨F, r, t, R, h⟩ => ⟨F, r, t, R, h.bind.mono fun dx t1 h v F1 H1 s1 R1 rx => by
    cases dx with
    | lst xs =>
      obtain ⟨p1, v1, rfl, e1, z1, q1⟩ := rx.lst R1
      have n1 := own_ne R1 e1
      refine ⟨p1, v1, rfl, SqL.of e1, h _ _ _ s1 R1 ?_⟩
      exact (wd_pair walk_enum (by rw [enumD_len, q1.length]) (enum_one q1)).weak fun H g => SqL.of (g.2 _ _ e1 n1.1 n1.2 (by intro _ z; cases z))
    | _ => exact (show False from h).elim⟩
theorem i_enum {elts : List Expr} {kk : Nat} {tpos : Pos} (hK : X.K = P.K) (hg : Gl X "enumerate") (hm : X.mg "enumerate" = none) (ha : PE X a (tD P fa)) (hs : starEach [a] X.env = (false, eval a X.env) :: starEach [] X.env) :
    PI X (.Tuple elts kk tpos) (.Call (.Name "enumerate" p1) [a] [] pos) (tI P true true (enumE fa)) :=
  piMono (pi_enum hg hm (pa_cons ha pa_nil hs) hs) fun σ H Q ⟨F, r, t, R, h⟩ => ⟨F, r, t, R, h.bind.mono fun dx t1 h v F1 H1 s1 R1 rx => by
    cases dx with
    | lst xs =>
      cases rx with
      | @lst p1 v1 _ e1 z1 q1 =>
      refine ⟨p1, v1, rfl, SqL.of (R1.sub _ _ e1), h _ _ _ s1 R1 ?_⟩
      exact (wd_pair walk_enum (by rw [enumD_len, q1.length]) (enum_one q1)).weak fun H g => SqL.of (g _ _ e1)
    | _ => exact (show False from h).elim⟩
/-! ### comprehensions -/
/-- a turn's outcome: the element, or nothing -/
def turnE (tg : Tg) (vs : List Nat) (fc : Rho → Tw → Res (Option D)) (fe : Rho → Tw → Res D) (r : Rho) (d : D) (t : Tw) : Res (Option D) := match setT tg d (wipeR r vs) with
        | some r2 => (fc r2 t).bind fun o t => match o with
          | none => (fe r2 t).bind fun x t => .ok (some x) t
          | some y => match truD y with
            | some true => (fe r2 t).bind fun x t => .ok (some x) t
            | some false => .ok none t
            | none => .bad
        | none => .bad
/-- a clause's tests, none or one -/
def tC1 (P : Pm) (f : Rho → Tw → Res (Option D)) : TT := fun σ H Q => ∃ F r t, RelP P F r t σ H ∧ Aft P F (f r t) fun o t' => ∃ b, (match o with | none => some true | some y => truD y) = some b ∧ ∀ F' H', Kp P.T F H F' H' → RelP P F' r t' σ H' → Q b H'
theorem c_none : PTs X [] (tC1 P fun _ t => .ok none t) := ⟨fun pins s σ H Q I ⟨F, r, t, R, b, e, q⟩ => by
  cases e
  exact pts_nil.run pins s σ H Q I (q F H Kp.refl R)⟩
theorem c_some (ha : PT X a (tT P fa)) : PTs X [a] (tC1 P fun r t => (fa r t).bind fun x t1 => .ok (some x) t1) := ⟨fun pins s σ H Q I ⟨F, r, t, R, h⟩ =>
  (pts_one ha).run pins s σ H Q I ⟨F, r, t, R, h.bind.mono fun d t' q => q⟩⟩
end
end Fm

/-! ### zip of two tuples, the pair kept under a name -/
namespace Fm
open PySem PySem.Spec PyProof.Rows L2 RZ
/-- a zip: the tuple it gave out, if any, and whether it knows that it is held -/
abbrev ZipG (h : Heap) (z TI TO : Addr) (v0 : Value) (f : Bool) : Prop :=
  h.get? z = some { cls := .type "zip", dict := none, data := .fields #[v0, .bool f, .bool false, .ref TI, .ref TO], slots := #[] }
section
variable {prog : Program} {w : World} {A : Around} {E : Value → Shared → Prop} {s : Shared}
end
section
variable {P : Pm} {X : Cx} {a b : Expr} {pos p1 : Pos} {fa fb : Rho → Tw → Res D}
def zipNE (fa fb : Rho → Tw → Res D) (r : Rho) (t : Tw) : Res (List D) := (fa r t).bind fun x t1 => (fb r t1).bind fun y t2 => match x, y with
    | .tup xs, .tup ys => .ok (zipD xs ys) t2
    | _, _ => .bad
end
/-! ### x[::-1] -/
section
variable {prog : Program} {w : World} {A : Around} {E : Value → Shared → Prop} {s : Shared}
theorem pick_rev (xs : Array Value) : ((List.range xs.size).filterMap fun (k : Nat) => xs[(((xs.size : Int) - 1) + (k : Int) * (-1)).toNat]?) = xs.toList.reverse := by
  have e : ∀ k ∈ List.range xs.size, xs[(((xs.size : Int) - 1) + (k : Int) * (-1)).toNat]? = xs.toList.reverse[k]? := fun k hk => by
    have hk := List.mem_range.mp hk
    have : (((xs.size : Int) - 1) + (k : Int) * (-1)).toNat = xs.size - 1 - k := by omega
    rw [this, List.getElem?_reverse (by simpa using hk)]
    simp
  have fm : ∀ (l : List Nat) (f g : Nat → Option Value), (∀ k ∈ l, f k = g k) → l.filterMap f = l.filterMap g := fun l f g hh => by
    induction l with
    | nil => rfl
    | cons a l ih =>
      rw [List.filterMap_cons, List.filterMap_cons, hh a List.mem_cons_self, ih fun k hk => hh k (List.mem_cons_of_mem _ hk)]
  rw [fm _ _ _ e]
  have h2 : ∀ (l : List Value), (List.range l.length).filterMap (fun k => l[k]?) = l := fun l => by
    induction l with
    | nil => rfl
    | cons a l ih =>
      rw [List.length_cons, List.range_succ_eq_map, List.filterMap_cons]
      simp only [List.getElem?_cons_zero, List.filterMap_map, Function.comp_def, List.getElem?_cons_succ]
      rw [ih]
  have h3 := h2 xs.toList.reverse
  rw [List.length_reverse, Array.length_toList] at h3
  exact h3
theorem places_rev (n : Nat) : Builtin.Slice.slicePlaces ((n : Int) - 1) (-1) (-1) = n := by
  have down : ¬ ((-1 : Int) > 0) := by decide
  unfold Builtin.Slice.slicePlaces
  simp only [down, if_false, Int.neg_neg, Int.ediv_one]
  split <;> omega
/-- what the slice [::-1] means for so many items -/
theorem applied_rev {sl : Addr} {vs : Value} {n : Nat} {Q : Int × Int × Nat → Shared → Prop} (hs : s.heap.IsSliceOf sl .none .none vs) (ps : IsPart vs (some (-1))) (h : Q ((n : Int) - 1, -1, n) s) : wpAny (model prog w) A (Builtin.Slice.sliceApplied (.ref sl) (pure (n : Int))) Q E s := by
  obtain ⟨o, ho, _, dd⟩ := hs
  have third : ∀ {Q : Value × Value × Value → Shared → Prop}, Q (.none, .none, vs) s → wpAny (model prog w) A (Builtin.Slice.sliceFields (.ref sl)) Q E s := fun q =>
    wpAny_bind (wpAny_field ho dd (x := .none) rfl (wpAny_bind (wpAny_field ho dd (x := .none) rfl (wpAny_bind (wpAny_field ho dd (x := vs) rfl (wpAny_pure q))))))
  have h : Q ((n : Int) - 1, -1, Builtin.Slice.slicePlaces ((n : Int) - 1) (-1) (-1)) s := (places_rev n).symm ▸ h
  refine wpAny_bind (third (wpAny_bind (HT.slicePart_ ps ?_)))
  rw [if_neg (by decide)]
  exact wpAny_bind (HT.slicePart_ .none (wpAny_bind (HT.slicePart_ .none (wpAny_bind (wpAny_pure (wpAny_pure h))))))
theorem getItem_tuple_rev {t sl : Addr} {items : Array Value} {vs : Value} {Q : Value → Shared → Prop} (ht : IsTup s.heap t items) (hs : s.heap.IsSliceOf sl .none .none vs) (ps : IsPart vs (some (-1)))
    (h : Q (.ref s.heap.objs.size) { s with heap := s.heap.push (tupO items.toList.reverse) }) (few : items.size ≤ sizeLine) : wpAny (model prog w) A (getItem (.ref t) (.ref sl)) Q E s := by
  have ok : sizeOk (.seq items.toList.reverse.toArray) := by
    rw [← Array.length_toList, ← List.length_reverse] at few
    exact few
  have isSlice : s.TypeIs (.ref sl) "slice" := let ⟨o, ho, c, _⟩ := hs; ⟨o, ho, c⟩
  unfold getItem
  try with_reducible refine wpAny_holding ?_
  try refine wpAny_bind (wpAny_pure ?_)
  refine wpAny_bind (wpAny_sequenceKey ht.typeIs (by decide) (wpAny_bind (wpAny_callSpecial?_slot (name := Str.ofString "__getitem__") ht.typeIs PyProof.Rows.slot_tuple_getitem (wpAny_call_entry PyProof.Rows.slot_tuple_getitem ht.typeIs entry_tuple_getitem ?_ (args_tuple_getitem _ _)))))
  refine wpAny_bind (m := Builtin.Tuple.tupleItemsOf (.ref t)) (tupleItemsOf_ ht (wpAny_bind (wpAny_typeOf isSlice ?_)))
  rw [if_pos (by decide)]
  refine wpAny_bind (applied_rev hs ps ?_)
  dsimp only
  rw [if_neg (by simp), pick_rev]
  have made {R : Value → Shared → Prop} (q : R (.ref s.heap.objs.size) { s with heap := s.heap.push (tupO items.toList.reverse) }) : wpAny (model prog w) A.in1 (Builtin.Tuple.tupleExact items.toList.reverse.toArray) R E s := wpAny_newObj_type q ok
  first
    | exact wpAny_bind (made ⟨_, rfl, wpAny_pure h⟩)
    | exact wpAny_bind (made (wpAny_pure ⟨_, rfl, wpAny_pure h⟩))
    | exact wpAny_bind (wpAny_bind (made (wpAny_pure ⟨_, rfl, wpAny_pure h⟩)))
end
theorem RpL.reverse {K : PySem.W.Frag} {T : Tn} {F : Hp} : ∀ {vs : List V} {ds : List D}, RpL K T F vs ds → RpL K T F vs.reverse ds.reverse
  | _, _, .nil => .nil
  | _, _, .cons h r => by
    rw [List.reverse_cons, List.reverse_cons]
    exact r.reverse.append (.cons h .nil)
def tRevT (K : PySem.W.Frag) (te : TE) : TE := fun σ H Q => te σ H fun x H1 => ∃ a xs, x = .ref a ∧ ((SqL K H1 a xs ∧ ∀ p, H1 p = none → Q (.ref p) (upd H1 p (.lst xs.reverse))) ∨ (SqT K H1 a xs ∧ NewT H1 xs.reverse Q))
section
variable {X : Cx} {P : Pm} {fa fb : Rho → Tw → Res D}
/-- a slice's parts, one behind the other; its object is new -/
theorem slice_runs {pins : List (Addr × Obj)} {σ : L2.St} {H : Hp} {s : Shared} {l u t : Option Expr} {tl tu tt : TO} {p : Pos} {R : Option Int → Option Int → Option Int → Hp → Prop} (hl : PO X l tl) (hu : PO X u tu) (ht : PO X t tt) (I : Inv X pins σ H s) (h : tl σ H fun a H1 => tu σ H1 fun b H2 => tt σ H2 fun c H3 => R a b c H3) :
    wpAny (model X.prog X.w) X.A (eval (.Slice l u t p) X.env) (fun v s' => ∃ sl vl vu vt a b c H', v = .ref sl ∧ s'.heap.IsSliceOf sl vl vu vt ∧ IsPart vl a ∧ IsPart vu b ∧ IsPart vt c ∧ Inv X pins σ H' s' ∧ R a b c H') X.xe s := by
  have one := hl.run pins s σ H _ I h
  refine wpAny_Slice (thn one fun vl s2 ⟨a, H2, I2, pl, q⟩ => thn (hu.run pins s2 σ H2 _ I2 q) fun vu s3 ⟨b, H3, I3, pu, q⟩ => thn (ht.run pins s3 σ H3 _ I3 q) fun vt s4 ⟨c, H4, I4, pt, q⟩ => ?_)
  exact ⟨_, vl, vu, vt, a, b, c, H4, rfl, Heap.IsSliceOf.new _ vl vu vt, pl, pu, pt, I4.kept (t' := s4.toks) fun _ _ => Heap.get?_push_of_some _, q⟩
theorem pe_revT {e : Expr} {te : TE} {k : Nat} {p1 p2 p3 pos : Pos} (he : PE X e te) : PE X (.Subscript e (.Slice none none (some (.UnaryOp .USub (.Constant (.int 1) k p1) p2)) p3) pos) (tRevT X.K te) := by
  constructor
  intro pins s σ H Q I h
  have run := he.run pins s σ H _ I h
  refine Subscript_ (thn run fun v s1 ⟨_, H1, I1, rel, a, xs, ev, want⟩ => ?_)
  subst ev
  cases (show v = .ref a from rel)
  have key := slice_runs (p := p3) (R := fun a b c H' => a = none ∧ b = none ∧ c = some (-1) ∧ H' = H1) po_none po_none (po_some (pe_un (pos := p2) un_neg (pe_int (i := 1) (j := k) (pos := p1)))) I1 ⟨1, rfl, -1, rfl, rfl, rfl, rfl, rfl⟩
  refine thn key fun kv s2 ⟨sl, vl, vu, vt, _, _, _, H2, ek, isS, pl, pu, pt, I2, ea, eb, ec, eH⟩ => ?_
  subst ek ea eb ec eH
  rcases want with ⟨seq, new⟩ | ⟨seq, new⟩
  · have ⟨its, r, lst, few⟩ := I2.list seq
    refine tail_any (ops := [.ref a, .ref sl]) lst.isList.typeIs PySem.slot_list_getitem.lookup (wpAny_getItem_list_slice lst.isList isS pl pu pt (by decide) ?_ (by rw [List.size_toArray, ← r.length]; exact few)) (by with_unfolding_all rfl)
    rw [PySem.W.krv_pick]
    exact ⟨.ref s2.heap.objs.size, _, I2.laid (t' := s2.toks) (o := .lst xs.reverse) (fun _ _ => Heap.get?_push_of_some _) (Nat.le_refl _) ⟨by rw [List.length_reverse]; exact few, _, 0, r.reverse, Heap.get?_push_size _ rfl⟩, rfl, new _ (I2.hok.fresh (Nat.le_refl _))⟩
  · have ⟨its, r, tup, few⟩ := I2.tuple seq
    cases pl
    cases pu
    exact tail_any (ops := [.ref a, .ref sl]) tup.typeIs PyProof.Rows.slot_tuple_getitem.lookup (getItem_tuple_rev tup isS pt (new.here I2 (by simpa using r.reverse) (by rw [List.length_reverse]; exact few)) (by rw [List.size_toArray, ← r.length]; exact few)) (by with_unfolding_all rfl)
theorem s_rev (hK : X.K = P.K) {a : Expr} {k : Nat} {p1 p2 p3 pos : Pos} (ha : PE X a (tB P fa)) : PE X (.Subscript a (.Slice none none (some (.UnaryOp .USub (.Constant (.int 1) k p1) p2)) p3) pos) (tD P fun r t => (fa r t).bind fun x t1 => Fm.lift (revD x) t1) := by
  refine peMono (pe_revT ha) fun σ H Q ⟨F, r, t, R, h⟩ => ⟨F, r, t, R, h.bind.mono fun dx t1 h v F1 H1 s1 R1 rx => ?_⟩
  obtain ⟨d, e, q⟩ := h.lift
  have q : ∀ v F' H', Kp P.T F1 H1 F' H' → RelP P F' r t1 σ H' → Rp P.K P.T F' v d → Q v H' := fun v F' H' s R' h => q v F' H' (s1.trans s) R' h
  cases dx with
  | tup xs =>
    cases e
    obtain ⟨p1, v1, rfl, e1, z1, q1⟩ := rx.tup R1
    rw [hK]
    exact ⟨p1, v1, rfl, .inr ⟨sqP_t R1.sub e1, mkTup R1 (by rw [List.length_reverse]; exact z1) q1.reverse q⟩⟩
  | lst xs =>
    cases e
    obtain ⟨p1, v1, rfl, e1, z1, q1⟩ := rx.lst R1
    exact ⟨p1, v1, rfl, .inl ⟨SqL.of e1, mkLst R1 (by rw [List.length_reverse]; exact z1) q1.reverse q⟩⟩
  | _ => cases e
theorem n_cat {a b : Expr} {pos : Pos} (ha : PE X a (tB P fa)) (hb : PE X b (tB P fb)) : PE X (.BinOp a .Add b pos) (tN P fun r t => (fa r t).bind fun x t1 => (fb r t1).bind fun y t2 => Fm.lift (catD x y) t2) := by
  refine peMono (pe_op op_cat ha hb) fun σ H Q ⟨F, r, t, R, h⟩ => ?_
  refine ⟨F, r, t, R, h.bind.mono fun dx t1 h v F1 H1 s1 R1 rx => ?_⟩
  refine ⟨F1, r, t1, R1, (h.up s1.1).bind.mono fun dy t2 h w F2 H2 s2 R2 ry => ?_⟩
  obtain ⟨d, e, q⟩ := h.lift
  have rx := rx.mono s2.1
  cases dx with
  | lst xs =>
    cases dy with
    | lst ys =>
      simp only [catD] at e
      split at e
      · rename_i hl
        cases e
        obtain ⟨p1, v1, rfl, e1, z1, q1⟩ := rx.lst R2
        obtain ⟨p2, v2, rfl, e2, z2, q2⟩ := ry.lst R2
        have hl2 : v1.length + v2.length ≤ sizeLine := by
          rw [q1.length, q2.length]
          exact okLen_le hl
        refine ⟨p1, p2, v1, v2, rfl, rfl, e1, e2, hl2, fun p hp => ?_⟩
        obtain ⟨R3, k3, fr⟩ := mkNew (o := .lst (v1 ++ v2)) (d := .lst (xs ++ ys)) R2 hp ⟨_, upd_same, by rw [List.length_append]; exact hl2, q1.append q2⟩
        exact q _ _ _ p (s1.trans (s2.trans k3)) R3 (s1.had p (s2.had p (.of hp))) fr
      · cases e
    | _ => cases e
  | _ => cases e
end
end Fm

/-! ### comprehensions; statements -/
namespace Fm
open PySem PySem.Spec PyProof.Rows L2
/-- without exceptions -/
abbrev Pm.nox (P : Pm) : Pm := { P with XE := fun _ _ => False }
section
variable {P : Pm} {X : Cx}
/-- an object of ours that no slot has is changed -/
theorem Rel.upd {F H : Hp} {r : Rho} {t : Tw} {σ : L2.St} {p : Addr} {o : HO} {K : PySem.W.Frag} {T : Tn} {F0 H0 : Hp} (R : Rel K T F0 H0 F r t σ H) (hp : H p ≠ none) (hT : ∀ ps, H p ≠ some (.tbl ps)) (hC : ∀ c q, H p ≠ some (LamX.CodeO c q)) (f : F p = none) (h0 : Nn H0 p) (n1 : p ≠ T.a) (n2 : p ≠ T.b)
    (no : ∀ (i : Nat) (e : D), r[i]? = some (.own e) → σ[i]? ≠ some (some (.ref p))) (ho : NT o := by intro _ z; cases z) : Rel K T F0 H0 F r t σ (L2.upd H p o) := by
  have nF : ∀ b u, F b = some u → b ≠ p := fun b u h e => by
    rw [e, f] at h
    cases h
  refine ⟨⟨fun b u h => ?_, R.new, R.base, fun b u h m1 m2 m3 => ?_, fun b h => R.had b (h.upd ho).1, ⟨?_, ?_, R.tw.ne, R.tw.small⟩, R.tF1, R.tF2, R.sc, tabs_upd R.tabs hT hC, R.nt⟩, R.len, R.val, fun i d h => ?_, R.inj⟩
  · rw [upd_ne (nF b u h)]
    exact R.sub b u h
  · have : b ≠ p := fun e => h0.no (by rw [← e]; exact h) m3
    rw [upd_ne this]
    exact R.old b u h m1 m2 m3
  · rw [upd_ne (Ne.symm n1)]
    exact R.tw.a
  · rw [upd_ne (Ne.symm n2)]
    exact R.tw.b
  · obtain ⟨q, e, w⟩ := R.own i d h
    have nq : q ≠ p := fun z => no i d h (z ▸ e)
    exact ⟨q, e, ⟨w.fr, w.n1, w.n2, w.h0, w.at_.keep (Same.refl F) fun o h => by rw [upd_ne nq]; exact h⟩⟩
theorem wipe_wipe (σ : L2.St) (vs : List Nat) : wipe (wipe σ vs) vs = wipe σ vs := by
  refine List.ext_getElem? fun j => ?_
  rw [wipe_get, wipe_get, wipe_length]
  by_cases h : j ∈ vs ∧ j < σ.length
  · rw [if_pos h, if_pos h]
  · rw [if_neg h, if_neg h]
def compE (tg : Tg) (vs : List Nat) (fi : Rho → Tw → Res (List D)) (fc : Rho → Tw → Res (Option D)) (fe : Rho → Tw → Res D) (r : Rho) (t : Tw) : Res D :=
  (fi r t).bind fun xs t1 => if okLen xs.length then (compL (turnE tg vs fc fe r) xs t1).bind fun ys t2 => .ok (.lst ys) t2 else .bad
/-- the invariant of a comprehension's turns -/
structure CInv (P : Pm) (f : D → Tw → Res (Option D)) (r : Rho) (σ : L2.St) (F1 H1 : Hp) (D : Addr) (ds ys : List Fm.D) (t2 : Tw) (i : Nat) (H : Hp) (F2 : Hp) (t' : Tw) (vacc : List V) (acc rest : List Fm.D) : Prop where
  k : Kp P.T F1 H1 F2 H
  R : RelP P F2 r t' σ H
  d : H D = some (.lst vacc)
  q : RpL P.K P.T F2 vacc acc
  l : vacc.length ≤ i
  e : compL f (ds.drop i) t' = .ok rest t2
  y : ys = acc ++ rest
theorem turn_ok {tg : Tg} {vs : List Nat} {fc : Rho → Tw → Res (Option D)} {fe : Rho → Tw → Res D} {r : Rho} {d : D} {t t1 : Tw} {o : Option D} (h : turnE tg vs fc fe r d t = .ok o t1) :
    ∃ r2 oc tc b, setT tg d (wipeR r vs) = some r2 ∧ fc r2 t = .ok oc tc ∧ (match oc with | none => some true | some y => truD y) = some b ∧
      ((b = true ∧ ∃ x, fe r2 tc = .ok x t1 ∧ o = some x) ∨ (b = false ∧ o = none ∧ tc = t1)) := by
  unfold turnE at h
  cases e : setT tg d (wipeR r vs) with
  | none =>
    rw [e] at h
    cases h
  | some r2 =>
    rw [e] at h
    dsimp only at h
    cases e2 : fc r2 t with
    | bad =>
      rw [e2] at h
      cases h
    | exc n t3 =>
      rw [e2] at h
      cases h
    | ok oc tc =>
      rw [e2] at h
      simp only [Res.bind_ok] at h
      have fin : ∀ {res : Res D}, (res.bind fun x t => Res.ok (some x) t) = .ok o t1 → ∃ x, res = .ok x t1 ∧ o = some x := fun {res} h => by
        cases res with
        | ok x t =>
          cases h
          exact ⟨x, rfl, rfl⟩
        | exc n t => cases h
        | bad => cases h
      cases oc with
      | none => exact ⟨r2, none, tc, true, rfl, e2, rfl, .inl ⟨rfl, fin h⟩⟩
      | some y =>
        dsimp only at h
        cases e3 : truD y with
        | none =>
          rw [e3] at h
          cases h
        | some b =>
          rw [e3] at h
          cases b with
          | true => exact ⟨r2, some y, tc, true, rfl, e2, e3, .inl ⟨rfl, fin h⟩⟩
          | false =>
            have h : Res.ok none tc = Res.ok o t1 := h
            injection h with h1 h2
            exact ⟨r2, some y, tc, false, rfl, e2, e3, .inr ⟨rfl, h1.symm, h2⟩⟩
theorem comp_read {tg : Tg} {vs : List Nat} {fi : Rho → Tw → Res (List D)} {fc : Rho → Tw → Res (Option D)} {fe : Rho → Tw → Res D} {w0 : Bool} (hw : w0 = true → tg.isT = true) (hsl : ∀ i ∈ tg.slots, i ∈ vs) (σ : L2.St) (H : Hp) (Q : VK) (h : tN P (compE tg vs fi fc fe) σ H Q) :
    tLc (tI P false w0 fi) (gT P.nox tg) (tC1 P.nox fc) (tD P.nox fe) vs σ H Q := by
  obtain ⟨F, r, t, R, h⟩ := h
  refine ⟨F, r, t, R, h.bind.mono fun ds t1 h J F1 H1 s1 R1 w D hD => ?_⟩
  have w : WD P w0 J (keepG P F1 H1) F1 ds := w
  split at h
  rotate_left
  · exact h.elim
  rename_i hok
  -- what the turns give
  obtain ⟨ys, t2, ec, h⟩ : ∃ ys t2, compL (turnE tg vs fc fe r) ds t1 = .ok ys t2 ∧ ∀ v F' H' p, Kp P.T F H F' H' → RelP P F' r t2 σ H' → Nn H p → Fre P F' r σ H' v (.lst ys) p → Q v H' := by
    cases e : compL (turnE tg vs fc fe r) ds t1 with
    | ok ys t2 =>
      rw [e] at h
      exact ⟨ys, t2, rfl, h⟩
    | exc n t2 =>
      exfalso
      have no : ∀ (l : List Fm.D) (t : Tw) (n : Nat) (t2 : Tw), compL (turnE tg vs fc fe r) l t ≠ .exc n t2 := by
        intro l
        induction l with
        | nil =>
          intro t n t2 z
          cases z
        | cons d l ih =>
          intro t n t2 z
          unfold compL at z
          split at z
          · rename_i o t3 _
            cases e4 : compL (turnE tg vs fc fe r) l t3 with
            | ok a b =>
              rw [e4] at z
              cases z
            | exc a b => exact ih _ _ _ e4
            | bad =>
              rw [e4] at z
              cases z
          · cases z
      exact no _ _ _ _ e
    | bad =>
      rw [e] at h
      exact h.elim
  have nTa : D ≠ P.T.a := fun e => by
    rw [e, R1.tw.a] at hD
    cases hD
  have nTb : D ≠ P.T.b := fun e => by
    rw [e, R1.tw.b] at hD
    cases hD
  have no : ∀ (i : Nat) (e : Fm.D), r[i]? = some (.own e) → σ[i]? ≠ some (some (.ref D)) := fun i e h1 h2 => by
    obtain ⟨q, e1, w⟩ := R1.own i e h1
    rw [h2] at e1
    cases e1
    obtain ⟨o2, ho, _⟩ := w.at_.obj
    rw [hD] at ho
    cases ho
  have FD : ∀ {F2 H2 : Hp}, Kp P.T F1 H1 F2 H2 → H2 D ≠ none → True := fun _ _ => trivial
  have b0 := R1.toRelH.newO (o := .lst []) hD
  -- D is never frozen while it is filled
  refine ⟨fun i m H => m = ds.length - i ∧ i ≤ ds.length ∧ ∃ F2 t' vacc acc rest, CInv P (turnE tg vs fc fe r) r σ F1 H1 D ds ys t2 i H F2 t' vacc acc rest ∧ F2 D = none, ⟨ds.length, by simp, Nat.zero_le _, F1, t1, [], [], ys, ?_, ?_⟩, fun i m H2 hW => ?_⟩
  · exact ⟨Kp.of b0, R1.step b0, upd_same, .nil, Nat.zero_le _, by simpa using ec, rfl⟩
  · exact R1.sub.free hD
  · obtain ⟨rfl, hi, F2, t', vacc, acc, rest, ⟨k, R2, hd, q, hl, e, ey⟩, fD⟩ := hW
    have hG : keepG P F1 H1 H2 := ⟨k.base.trans R2.sub, k.old⟩
    by_cases hlt : i < ds.length
    · refine .inr ⟨w.goes i H2 hlt hG, fun H' => ∃ F2 t' vacc acc rest, CInv P (turnE tg vs fc fe r) r σ F1 H1 D ds ys t2 (i + 1) H' F2 t' vacc acc rest ∧ F2 D = none, fun H' hn => ⟨_, by omega, rfl, hlt, hn⟩, fun x H' hy => ?_⟩
      have hdi : ds[i]? = some ds[i] := List.getElem?_eq_getElem hlt
      -- the turn
      have e' : compL (turnE tg vs fc fe r) (ds[i] :: ds.drop (i + 1)) t' = .ok rest t2 := by
        rw [← List.drop_eq_getElem_cons hlt]
        exact e
      unfold compL at e'
      cases et : turnE tg vs fc fe r ds[i] t' with
      | exc n t3 =>
        rw [et] at e'
        cases e'
      | bad =>
        rw [et] at e'
        cases e'
      | ok o t3 =>
        rw [et] at e'
        dsimp only at e'
        obtain ⟨rest', er, eo⟩ : ∃ rest', compL (turnE tg vs fc fe r) (ds.drop (i + 1)) t3 = .ok rest' t2 ∧ rest = consO o rest' := by
          cases e4 : compL (turnE tg vs fc fe r) (ds.drop (i + 1)) t3 with
          | ok a b =>
            rw [e4] at e'
            simp only [Res.bind_ok] at e'
            cases e'
            exact ⟨a, rfl, rfl⟩
          | exc a b =>
            rw [e4] at e'
            cases e'
          | bad =>
            rw [e4] at e'
            cases e'
        obtain ⟨r2, oc, tc, b, es, efc, eb, alt⟩ := turn_ok et
        -- the item
        obtain ⟨F3, k3, _, R3, rx⟩ := w.draw hw hdi hG hy k.base R2
        refine ⟨F3, wipeR r vs, t', ds[i], r2, R3.wipe vs, rx, es, fun σ' R4 c => ⟨(c.wipe hsl).trans (wipe_wipe σ vs), ?_⟩⟩
        refine ⟨F3, r2, t', R4, ?_⟩
        rw [efc]
        refine ⟨b, eb, fun F4 H4 k4 R5 => ?_⟩
        rcases alt with ⟨rfl, y, efe, rfl⟩ | ⟨rfl, rfl, rfl⟩
        · rw [if_pos rfl]
          refine ⟨F4, r2, tc, R5, ?_⟩
          rw [efe]
          intro v F5 H5 k5 R6 rv
          have k6 : Kp P.T F2 H2 F5 H5 := k3.trans (k4.trans k5)
          have hd5 : H5 D = some (.lst vacc) := k6.old D _ hd nTa nTb (by intro _ z; cases z)
          have fD5 : F5 D = none := by
            cases z : F5 D with
            | none => rfl
            | some u =>
              rcases k6.new D u z with z | z
              · rw [fD] at z
                cases z
              · exact (z.no hd (by intro _ z; cases z)).elim
          have hsz : vacc.length < sizeLine := by
            have := of_decide_eq_true hok
            rw [sizeLine_eq]
            omega
          have R7 : RelP P F5 r t3 σ H5 := R2.step (Kp.relH (P := P.nox) k6 R6)
          have R8 : RelP P F5 r t3 σ (L2.upd H5 D (.lst (vacc ++ [v]))) := Rel.upd R7 (by rw [hd5]; simp) (fun ps z => by rw [hd5] at z; cases z) (fun c q z => by rw [hd5] at z; cases z) fD5 (R1.had D (.of hD)) nTa nTb no
          refine ⟨vacc, hd5, hsz, F5, t3, vacc ++ [v], acc ++ [y], rest', ⟨?_, R8, upd_same, (q.mono k6.base).append (.cons rv .nil), ?_, er, ?_⟩, fD5⟩
          · have k7 := k.trans k6
            refine ⟨k7.base, k7.new, fun a o ha m1 m2 m3 => ?_, fun a ha => k7.had a (ha.upd (by intro _ z; cases z)).1⟩
            have : a ≠ D := fun e => by
              rw [e, hD] at ha
              cases ha
            rw [upd_ne this]
            exact k7.old a o ha m1 m2 m3
          · rw [List.length_append, List.length_singleton]
            omega
          · rw [ey, eo]
            simp [consO]
        · rw [if_neg (by decide)]
          have k6 : Kp P.T F2 H2 F4 H4 := k3.trans k4
          have R7 : RelP P F4 r tc σ H4 := R2.step (Kp.relH (P := P.nox) k6 R5)
          refine ⟨F4, tc, vacc, acc, rest', ⟨k.trans k6, R7, k6.old D _ hd nTa nTb (by intro _ z; cases z), q.mono k6.base, by omega, er, ?_⟩, ?_⟩
          · rw [ey, eo]; rfl
          · cases z : F4 D with
            | none => rfl
            | some u =>
              rcases k6.new D u z with z | z
              · rw [fD] at z
                cases z
              · exact (z.no hd (by intro _ z; cases z)).elim
    · have ei : i = ds.length := by omega
      subst ei
      refine .inl ⟨w.stops H2 hG, ?_⟩
      rw [List.drop_length] at e
      cases e
      rw [List.append_nil] at ey
      subst ey
      refine h _ _ _ D (s1.trans k) R2 (s1.had D (.of hD)) ⟨rfl, ⟨fD, nTa, nTb, R1.had D (.of hD), vacc, hd, ?_, q⟩, no⟩
      have := of_decide_eq_true hok
      rw [sizeLine_eq]
      omega
theorem n_comp {elt tg iter : Expr} {ifs : List Expr} {scope : Scope} {own : List (Str × Nat)} {pos : Pos} {tgt : Tg} {fi : Rho → Tw → Res (List D)} {fc : Rho → Tw → Res (Option D)} {fe : Rho → Tw → Res D} (hc : X.calm = true) (hN : X.N.Nodup)
    {w0 : Bool} (hw : w0 = true → tgt.isT = true) (hi : PI X tg iter (tI P false w0 fi)) (ok : BlkOk X.N X.env.scope scope own) (hg : ∀ (s : Shared) (H : Hp) (C : Addr) (cl : List (Str × Addr)) (fp : List Addr), PG (X.blk s H scope (compEnvC scope cl C X.env) fp) tg (gT P.nox tgt))
    (ht : ∀ (s : Shared) (H : Hp) (C : Addr) (cl : List (Str × Addr)) (fp : List Addr), PTs (X.blk s H scope (compEnvC scope cl C X.env) fp) ifs (tC1 P.nox fc))
    (he : ∀ (s : Shared) (H : Hp) (C : Addr) (cl : List (Str × Addr)) (fp : List Addr), PE (X.blk s H scope (compEnvC scope cl C X.env) fp) elt (tD P.nox fe)) (hs : ∀ x, foldedSetIterable iter X.env x = pure x) (hsl : ∀ i ∈ tgt.slots, i ∈ own.map (·.2)) :
    PE X (.ListComp elt [⟨tg, iter, ifs, 0⟩] scope pos) (tN P (compE tgt (own.map (·.2)) fi fc fe)) :=
  peMono (pe_lc hc hN hi ok hg ht he hs) (comp_read hw hsl)
/-! ### calls of own defs -/
/-- what a def promises: its value by data -/
def spD (K : PySem.W.Frag) (T : Tn) (cl : Nat → Addr) (np : Nat) (Γ : List D → Tw → Res D) : Sp := fun vs H Q E => ∃ F t ds, RelH K T F H F t H ∧ RpL K T F vs ds ∧ ds.length = np ∧ match Γ ds t with
  | .ok d t' => ∀ v F' H', RelH K T F H F' t' H' → Rp K T F' v d → Q v H'
  | .exc n t' => ∀ F' H', RelH K T F H F' t' H' → E (.ref (cl n)) none H'
  | .bad => False
/-- an exception's wish -/
def EX (cl : Nat → Addr) (XE : Nat → Hp → Prop) : XK := fun c d H => ∃ n, c = .ref (cl n) ∧ d = none ∧ XE n H
theorem sp_call {cl : Nat → Addr} {np : Nat} {Γ : List D → Tw → Res D} {F H : Hp} {r : Rho} {t : Tw} {σ : L2.St} {vs : List V} {ds : List D} {Q : VK} (R : RelP P F r t σ H) (rv : RpL P.K P.T F vs ds) (hl : ds.length = np)
    (h : Aft P F (Γ ds t) fun d t' => ∀ v F' H', Kp P.T F H F' H' → RelP P F' r t' σ H' → Rp P.K P.T F' v d → Q v H') : spD P.K P.T cl np Γ vs H Q (EX cl P.XE) := by
  refine ⟨F, t, ds, R.toRelH.refl, rv, hl, ?_⟩
  cases e : Γ ds t with
  | ok d t' =>
    rw [e] at h
    exact fun v F' H' b rv => h v F' H' (Kp.of b) (R.step b) rv
  | exc n t' =>
    rw [e] at h
    exact fun F' H' b => ⟨n, rfl, rfl, h F' H' b.base (R.toRelH.trans b)⟩
  | bad =>
    rw [e] at h
    exact h
variable {k np : Nat} {f : Addr} {fd : FuncData} {ps ks : List Str} {x : Str} {p pos : Pos} {e : Expr} {es : List Expr} {kws : List Keyword} {cl : Nat → Addr} {Γ : List D → Tw → Res D} {fs gs : Rho → Tw → Res (List D)} {dvs : List V} {ds : List Value} {dds : List D}
theorem s_call (F : FnOk X.prog X.w X.K X.mg X.base (CX X.prog X.w) k f fd ps (spD P.K P.T cl np Γ)) (hr : Room k X.A) (hg : Gl X x) (hm : X.mg x = some (.ref f)) (hk : PySem.W.keepIn X.K (.ref f) = true) (hb : Binds X.K fd ps ds) (hd : Vals dvs ds)
    (hdd : ∀ F, RpL P.K P.T F dvs dds) (tk : Takes X fun c d _ H => EX cl P.XE c d H) (ha : PA X (e :: es) (tDs P fs)) (hnp : ∀ r t xs t1, fs r t = .ok xs t1 → xs.length + dds.length = np) (hdb : (x == ("__debug__" : Str)) = false)
    (he : starEach (e :: es) X.env = (false, eval e X.env) :: starEach es X.env) (hpl : (backTo pos (starEach es X.env)).any (·.1) = false) :
    PE X (.Call (.Name x p) (e :: es) [] pos) (tD P fun r t => (fs r t).bind fun xs t1 => Γ (xs ++ dds) t1) :=
  peMono (pe_call F hr hg hm hk hb hd (passes_call tk fun _ _ _ _ h => h) ha hdb he hpl) fun σ H Q ⟨F, r, t, R, h⟩ => ⟨F, r, t, R, by
    dsimp only at h
    cases ef : fs r t with
    | ok xs t1 =>
      rw [ef] at h
      intro vs F1 H1 s1 R1 rv
      exact sp_call R1 (rv.append (hdd F1)) (by rw [List.length_append]; exact hnp r t xs t1 ef) (((show Aft P F (Γ (xs ++ dds) t1) _ from h).up s1.1).mono fun d t' q v F' H' s R' rv => q v F' H' (s1.trans s) R' rv)
    | exc n t1 =>
      rw [ef] at h
      exact h
    | bad =>
      rw [ef] at h
      exact h⟩
theorem s_call0 (F : FnOk X.prog X.w X.K X.mg X.base (CX X.prog X.w) k f fd ps (spD P.K P.T cl np Γ)) (hr : Room k X.A) (hg : Gl X x) (hm : X.mg x = some (.ref f)) (hk : PySem.W.keepIn X.K (.ref f) = true) (hb : Binds X.K fd ps ds) (hd : Vals dvs ds)
    (hdd : ∀ F, RpL P.K P.T F dvs dds) (tk : Takes X fun c d _ H => EX cl P.XE c d H) (hnp : dds.length = np) (hdb : (x == ("__debug__" : Str)) = false) :
    PE X (.Call (.Name x p) [] [] pos) (tD P fun r t => Γ dds t) :=
  peMono (pe_call0 F hr hg hm hk hb hd (passes_call tk fun _ _ _ _ h => h) hdb) fun σ H Q ⟨F, r, t, R, h⟩ => sp_call R (by simpa using hdd F) hnp h
/-- keywords' values -/
theorem pkMono {t u : TA} (h : PK X kws t) (i : ∀ σ H Q, u σ H Q → t σ H Q) : PK X kws u := ⟨fun pos pins s σ H Q I q => h.run pos pins s σ H Q I (i σ H Q q)⟩
theorem k_nil : PK X [] (tDs P fun _ t => .ok [] t) := pkMono pk_nil fun σ H Q ⟨F, r, t, R, q⟩ => q [] F H Kp.refl R .nil
theorem k_cons {fa : Rho → Tw → Res D} {nm : Option Str} {kpos : Pos} (ha : PE X e (tD P fa)) (hr : PK X kws (tDs P fs)) : PK X (⟨nm, e, kpos⟩ :: kws) (tDs P fun r t => (fa r t).bind fun x t1 => (fs r t1).bind fun xs t2 => .ok (x :: xs) t2) :=
  pkMono (pk_cons ha hr) fun σ H Q ⟨F, r, t, R, h⟩ => ⟨F, r, t, R, h.bind.mono fun d t1 h v F1 H1 s1 R1 rv => ⟨F1, r, t1, R1, (h.up s1.1).bind.mono fun ds t2 q vs F2 H2 s2 R2 rvs =>
    q (v :: vs) F2 H2 (s1.trans s2) R2 (.cons (rv.mono s2.1) rvs)⟩⟩
theorem s_callK {n : Nat} {g : List Value → List Value → List Value} (F : FnOk X.prog X.w X.K X.mg X.base (CX X.prog X.w) k f fd ps (spD P.K P.T cl np Γ)) (hr : Room k X.A) (hg : Gl X x) (hm : X.mg x = some (.ref f)) (hk : PySem.W.keepIn X.K (.ref f) = true)
    (hb : KBn X.K fd ps n ks g (fun vs zs => vs ++ zs ++ dvs)) (hdd : ∀ F, RpL P.K P.T F dvs dds) (tk : Takes X fun c d _ H => EX cl P.XE c d H) (ha : PA X (e :: es) (tDs P fs)) (hkw : PK X kws (tDs P gs))
    (hn1 : ∀ r t xs t1, fs r t = .ok xs t1 → xs.length = n) (hn2 : ∀ r t xs t1, gs r t = .ok xs t1 → xs.length = ks.length) (hnp : n + ks.length + dds.length = np)
    (hall : (backToKw pos (keywordEach kws X.env)).all (·.1.isSome) = true) (hks : (backToKw pos (keywordEach kws X.env)).filterMap (·.1) = ks)
    (hdb : (x == ("__debug__" : Str)) = false) (he : starEach (e :: es) X.env = (false, eval e X.env) :: starEach es X.env)
    (hpl : ((backTo pos (starEach (e :: es) X.env)).any (·.1) || (backToKw pos (keywordEach kws X.env)).any (·.1.isNone)) = false) :
    PE X (.Call (.Name x p) (e :: es) kws pos) (tD P fun r t => (fs r t).bind fun xs t1 => (gs r t1).bind fun ys t2 => Γ (xs ++ ys ++ dds) t2) :=
  peMono (pe_callN F hr hg hm hk hb (passes_call tk fun _ _ _ _ h => h) ha hkw hall hks hdb he hpl) fun σ H Q ⟨F, r, t, R, h⟩ => ⟨F, r, t, R, by
    dsimp only at h
    cases ef : fs r t with
    | ok xs t1 =>
      rw [ef] at h
      intro vs F1 H1 s1 R1 rv
      have h : Aft P F ((gs r t1).bind fun ys t2 => Γ (xs ++ ys ++ dds) t2) _ := h
      refine ⟨F1, r, t1, R1, ?_⟩
      have h := h.up s1.1
      cases eg : gs r t1 with
      | ok ys t2 =>
        rw [eg] at h
        intro zs F2 H2 s2 R2 rz
        have l1 := hn1 r t xs t1 ef
        have l2 := hn2 r t1 ys t2 eg
        refine ⟨by rw [rv.length]; exact l1, by rw [rz.length]; exact l2, sp_call R2 (((rv.mono s2.1).append rz).append (hdd F2)) (by rw [List.length_append, List.length_append]; omega) (((show Aft P F1 (Γ (xs ++ ys ++ dds) t2) _ from h).up s2.1).mono fun d t' q v F' H' s R' rv => q v F' H' (s1.trans (s2.trans s)) R' rv)⟩
      | exc n t1 =>
        rw [eg] at h
        exact h
      | bad =>
        rw [eg] at h
        exact h
    | exc n t1 =>
      rw [ef] at h
      exact h
    | bad =>
      rw [ef] at h
      exact h⟩
end
end Fm

/-! ### statements -/
namespace Fm
open PySem PySem.Spec PyProof.Rows L2
def aftS (P : Pm) (F : Hp) (D : Ends) (p : Fl × Rho) (t' : Tw) : Prop := match p.1 with
  | .nx => ∀ F' σ' H', Same F F' → RelP P F' p.2 t' σ' H' → D.nx σ' H'
  | .brk => ∀ F' σ' H', Same F F' → RelP P F' p.2 t' σ' H' → D.bk σ' H'
  | .cont => ∀ F' σ' H', Same F F' → RelP P F' p.2 t' σ' H' → D.ct σ' H'
  | .ret d => ∀ v F' H', Same F F' → RelH P.K P.T P.F0 P.H0 F' t' H' → Rp P.K P.T F' v d → D.rt v H'
def tS (P : Pm) (f : Rho → Tw → Res (Fl × Rho)) : TS := fun D σ H => ∃ F r t, RelP P F r t σ H ∧ Aft P F (f r t) (aftS P F D)
section
variable {P : Pm} {X : Cx} {a b c : Expr} {pos p1 p2 : Pos} {fa fb fc : Rho → Tw → Res D} {st : Stmt} {rest : List Stmt} {f g : Rho → Tw → Res (Fl × Rho)}
theorem aftS.up {F F' : Hp} {D : Ends} {p : Fl × Rho} {t : Tw} (h : aftS P F D p t) (s : Same F F') : aftS P F' D p t := by
  obtain ⟨fl, r⟩ := p
  cases fl with
  | nx => exact fun F2 σ2 H2 s2 => h F2 σ2 H2 (s.trans s2)
  | brk => exact fun F2 σ2 H2 s2 => h F2 σ2 H2 (s.trans s2)
  | cont => exact fun F2 σ2 H2 s2 => h F2 σ2 H2 (s.trans s2)
  | ret d => exact fun v F2 H2 s2 => h v F2 H2 (s.trans s2)
def nilE (r : Rho) (t : Tw) : Res (Fl × Rho) := .ok (.nx, r) t
def consE (f g : Rho → Tw → Res (Fl × Rho)) (r : Rho) (t : Tw) : Res (Fl × Rho) := (f r t).bind fun p t1 => match p with
    | (.nx, r1) => g r1 t1
    | q => .ok q t1
theorem ss_nil : PSs X [] (tS P nilE) := pssMono pss_nil fun D σ H ⟨F, r, t, R, h⟩ => h F σ H (Same.refl F) R
theorem seq_aft {F : Hp} {D : Ends} {r : Rho} {t : Tw} (h : Aft P F (consE f g r t) (aftS P F D)) : Aft P F (f r t) (aftS P F { D with nx := tS P g D }) := by
  unfold consE at h
  refine h.bind.mono fun p t1 h => ?_
  obtain ⟨fl, r1⟩ := p
  cases fl with
  | nx => exact fun F' σ' H' s R => ⟨F', r1, t1, R, ((show Aft P F (g r1 t1) (aftS P F D) from h).up s).mono fun p t2 q => q.up s⟩
  | brk => exact h
  | cont => exact h
  | ret d => exact h
theorem ss_cons (h1 : PS X st (tS P f)) (h2 : PSs X rest (tS P g)) : PSs X (st :: rest) (tS P (consE f g)) := pssMono (pss_cons h1 h2) fun D σ H ⟨F, r, t, R, h⟩ => ⟨F, r, t, R, seq_aft h⟩
theorem st_ret (ha : PE X a (tD P fa)) : PS X (.Return (some a) pos) (tS P fun r t => (fa r t).bind fun x t1 => .ok (.ret x, r) t1) :=
  psMono (ps_ret ha) fun D σ H ⟨F, r, t, R, h⟩ => ⟨F, r, t, R, h.bind.mono fun d t' q v F' H' s R' rv => q v F' H' s.1 R'.toRelH rv⟩
theorem st_exp (ha : PE X a (tD P fa)) (hs : swapsWith a none pos.line X.env = pure false) : PS X (.Expr a pos) (tS P fun r t => (fa r t).bind fun _ t1 => .ok (.nx, r) t1) :=
  psMono (ps_expr ha hs) fun D σ H ⟨F, r, t, R, h⟩ => ⟨F, r, t, R, h.bind.mono fun d t' q v F' H' s R' rv => q F' σ H' s.1 R'⟩
def iteS (fc : Rho → Tw → Res D) (f g : Rho → Tw → Res (Fl × Rho)) (r : Rho) (t : Tw) : Res (Fl × Rho) := (fc r t).bind fun x t1 => match truD x with
    | some true => f r t1
    | some false => g r t1
    | none => .bad
theorem st_ite {as bs : List Stmt} (hc : PT X c (tT P fc)) (ha : PSs X as (tS P f)) (hb : PSs X bs (tS P g)) : PS X (.If c as bs pos) (tS P (iteS fc f g)) :=
  psMono (ps_if hc ha hb) fun D σ H ⟨F, r, t, R, h⟩ => ⟨F, r, t, R, h.bind.mono fun d t' h => by
    cases e : truD d with
    | none =>
      rw [e] at h
      exact h.elim
    | some k =>
      rw [e] at h
      refine ⟨k, rfl, fun F' H' s R' => ?_⟩
      cases k with
      | true => exact ⟨F', r, t', R', ((show Aft P F (f r t') _ from h).up s.1).mono fun p t2 q => q.up s.1⟩
      | false => exact ⟨F', r, t', R', ((show Aft P F (g r t') _ from h).up s.1).mono fun p t2 q => q.up s.1⟩⟩
theorem st_brk : PS X (.Break pos) (tS P fun r t => .ok (.brk, r) t) := psMono ps_break fun D σ H ⟨F, r, t, R, h⟩ => h F σ H (Same.refl F) R
theorem st_cont : PS X (.Continue pos) (tS P fun r t => .ok (.cont, r) t) := psMono ps_continue fun D σ H ⟨F, r, t, R, h⟩ => h F σ H (Same.refl F) R
/-! ### assignments -/
/-- name = e -/
theorem st_set {i : Nat} {y : Str} {py : Pos} (h : PS X (.Assign [.Name y py] a pos) (tAsg (tD P fa) (gName i))) : PS X (.Assign [.Name y py] a pos) (tS P fun r t => (fa r t).bind fun x t1 => Fm.lift ((setT (.name i) x r).map fun r1 => (.nx, r1)) t1) :=
  psMono h fun D σ H ⟨F, r, t, R, h⟩ => ⟨F, r, t, R, h.bind.mono fun d t' h v F' H' s R' rv => by
    obtain ⟨p, e, q⟩ := h.lift
    obtain ⟨r1, e1, rfl⟩ := Option.map_eq_some_iff.mp e
    simp only [setT] at e1
    split at e1
    · cases e1
      exact q F' _ H' s.1 (R'.setVal rv)
    · cases e1⟩
theorem st_new {i : Nat} {y : Str} {py : Pos} (h : PS X (.Assign [.Name y py] a pos) (tAsg (tN P fa) (gName i))) : PS X (.Assign [.Name y py] a pos) (tS P fun r t => (fa r t).bind fun x t1 => okSet r i (.own x) t1) :=
  psMono h fun D σ H ⟨F, r, t, R, h⟩ => ⟨F, r, t, R, h.bind.mono fun d t' h v F' H' p s R' hp fr => by
    unfold okSet at h
    split at h
    · obtain ⟨rfl, o, no⟩ := fr
      exact h F' _ H' s.1 (R'.setOwn o fun j e h1 _ => no j e h1)
    · exact h.elim⟩
theorem asg_plain {i : Nat} {y : Str} {py : Pos} {te : TE} (hN : X.N.Nodup) (hi : X.N[i]? = some y) (hx : Loc X.env.scope y) (ha : PE X a te) (hs : swapsWith a (some (.Name y py)) pos.line X.env = pure false) (hf : X.fn y = true ∨ X.env.scope.names.lookup y = some .local) :
    PS X (.Assign [.Name y py] a pos) (tAsg te (gName i)) := ps_set hN hi hx ha hs hf
/-- targets = e -/
theorem st_asg {tg : Expr} {tt : Tg} (ha : PE X a (tD P fa)) (hg : PG X tg (gT P tt)) (hs : swapsWithSole [tg] a pos.line X.env = pure false) (hw : swappedStores [tg] a X.env = pure none)
    (h1 : (assignEach [tg] X.env).map (·.2) = [assign tg X.env]) : PS X (.Assign [tg] a pos) (tS P fun r t => (fa r t).bind fun x t1 => Fm.lift ((setT tt x r).map fun r1 => (.nx, r1)) t1) :=
  psMono (ps_asg ha hg hs hw h1) fun D σ H ⟨F, r, t, R, h⟩ => ⟨F, r, t, R, h.bind.mono fun d t' h v F' H' s R' rv => by
    obtain ⟨p, e, q⟩ := h.lift
    obtain ⟨r1, e1, rfl⟩ := Option.map_eq_some_iff.mp e
    exact ⟨F', r, t', d, r1, R', .inl rv, e1, fun σ' R2 _ => q F' σ' H' s.1 R2⟩⟩
def parE (is : List Nat) (fs : Rho → Tw → Res (List D)) (r : Rho) (t : Tw) : Res (Fl × Rho) := (fs r t).bind fun xs t1 => Fm.lift ((setAll is xs r).map fun r1 => (.nx, r1)) t1
theorem st_par2 {i j : Nat} {x y : Str} {fs : Rho → Tw → Res (List D)} {px py pt pt2 : Pos} {kt k2 : Nat} (hc : X.calm = true) (hN : X.N.Nodup) (hi : X.N[i]? = some x) (hj : X.N[j]? = some y) (hij : i ≠ j)
    (hx : X.env.scope.names.lookup x = some .local) (hy : X.env.scope.names.lookup y = some .local) (ha : PA X [a, b] (tDs P fs))
    (hw : swappedStores [.Tuple [.Name x px, .Name y py] kt pt] (.Tuple [a, b] k2 pt2) X.env = pure (some [x, y])) :
    PS X (.Assign [.Tuple [.Name x px, .Name y py] kt pt] (.Tuple [a, b] k2 pt2) pos) (tS P (parE [i, j] fs)) :=
  psMono (ps_par hc hN hi hj hij hx hy ha hw) fun D σ H ⟨F, r, t, R, h⟩ => ⟨F, r, t, R, h.bind.mono fun ds t' h vs F' H' s R' rv => by
    obtain ⟨p, e, q⟩ := h.lift
    obtain ⟨r1, e1, rfl⟩ := Option.map_eq_some_iff.mp e
    cases rv with
    | nil => simp [setAll] at e1
    | @cons v1 _ d1 _ h1 rv =>
      cases rv with
      | nil => simp [setAll] at e1
      | @cons v2 _ d2 _ h2 rv =>
        cases rv with
        | nil =>
          simp only [setAll] at e1
          split at e1
          · split at e1
            · cases e1
              exact ⟨v1, v2, rfl, q F' _ H' s.1 ((R'.setVal h1).setVal h2)⟩
            · cases e1
          · cases e1
        | cons _ _ =>
          simp only [setAll] at e1
          split at e1
          · split at e1
            · cases e1
            · cases e1
          · cases e1⟩
theorem st_par3 {i j l : Nat} {x y z : Str} {fs : Rho → Tw → Res (List D)} {px py pz pt pt2 : Pos} {kt k2 : Nat} (hc : X.calm = true) (hN : X.N.Nodup) (hi : X.N[i]? = some x) (hj : X.N[j]? = some y) (hl : X.N[l]? = some z) (hij : i ≠ j) (hil : i ≠ l) (hjl : j ≠ l)
    (hx : X.env.scope.names.lookup x = some .local) (hy : X.env.scope.names.lookup y = some .local) (hz : X.env.scope.names.lookup z = some .local) (ha : PA X [a, b, c] (tDs P fs))
    (hw : swappedStores [.Tuple [.Name x px, .Name y py, .Name z pz] kt pt] (.Tuple [a, b, c] k2 pt2) X.env = pure (some [x, y, z])) :
    PS X (.Assign [.Tuple [.Name x px, .Name y py, .Name z pz] kt pt] (.Tuple [a, b, c] k2 pt2) pos) (tS P (parE [i, j, l] fs)) :=
  psMono (ps_par3 hc hN hi hj hl hij hil hjl hx hy hz ha hw) fun D σ H ⟨F, r, t, R, h⟩ => ⟨F, r, t, R, h.bind.mono fun ds t' h vs F' H' s R' rv => by
    obtain ⟨p, e, q⟩ := h.lift
    obtain ⟨r1, e1, rfl⟩ := Option.map_eq_some_iff.mp e
    cases rv with
    | nil => simp [setAll] at e1
    | @cons v1 _ d1 _ h1 rv =>
      cases rv with
      | nil => simp [setAll] at e1
      | @cons v2 _ d2 _ h2 rv =>
        cases rv with
        | nil => simp [setAll] at e1
        | @cons v3 _ d3 _ h3 rv =>
          cases rv with
          | nil =>
            simp only [setAll] at e1
            split at e1
            · split at e1
              · split at e1
                · cases e1
                  exact ⟨v1, v2, v3, rfl, q F' _ H' s.1 (((R'.setVal h1).setVal h2).setVal h3)⟩
                · cases e1
              · cases e1
            · cases e1
          | cons _ _ => simp [setAll] at e1⟩
/-! ### freezing a slot -/
theorem Rel.unOwn {K : PySem.W.Frag} {T : Tn} {F0 H0 F H : Hp} {r : Rho} {t : Tw} {σ : L2.St} {i : Nat} (R : Rel K T F0 H0 F r t σ H) : Rel K T F0 H0 F (r.set i .un) t σ H := by
  have cs : ∀ {j : Nat} {s : Sl}, (r.set i .un)[j]? = some s → s ≠ .un → i ≠ j ∧ r[j]? = some s := fun {j s} q n => by
    by_cases hj : i = j
    · subst hj
      by_cases hi : i < r.length
      · rw [List.getElem?_set_self hi] at q
        exact absurd (Option.some.inj q).symm n
      · rw [List.getElem?_eq_none (by simpa using hi)] at q
        cases q
    · rw [List.getElem?_set_ne hj] at q
      exact ⟨hj, q⟩
  exact ⟨R.toRelH, by simpa using R.len, fun j d h => R.val j d (cs h (by intro z; cases z)).2, fun j d h => R.own j d (cs h (by intro z; cases z)).2, fun j k d e p h1 h2 h3 h4 => R.inj j k d e p (cs h1 (by intro z; cases z)).2 (cs h2 (by intro z; cases z)).2 h3 h4⟩
theorem Rel.asVal {K : PySem.W.Frag} {T : Tn} {F0 H0 F H : Hp} {r : Rho} {t : Tw} {σ : L2.St} {i : Nat} {v : V} {d : D} (R : Rel K T F0 H0 F r t σ H) (e : σ[i]? = some (some v)) (h : Rp K T F v d) : Rel K T F0 H0 F (r.set i (.val d)) t σ H := by
  have hs : σ.set i (some v) = σ := by
    refine List.ext_getElem? fun j => ?_
    by_cases hj : i = j
    · subst hj
      rw [List.getElem?_set_self (List.getElem?_eq_some_iff.mp e).1, e]
    · rw [List.getElem?_set_ne hj]
  have := R.setVal (i := i) h
  rw [hs] at this
  exact this
theorem Rel.noOwn {K : PySem.W.Frag} {T : Tn} {F0 H0 F H : Hp} {r : Rho} {t : Tw} {σ : L2.St} {i : Nat} {d : D} {p : Addr} (R : Rel K T F0 H0 F r t σ H) (e : r[i]? = some (.own d)) (e1 : σ[i]? = some (some (.ref p))) :
    ∀ (j : Nat) (e' : D), (r.set i .un)[j]? = some (.own e') → σ[j]? ≠ some (some (.ref p)) := fun j e' h z => by
  by_cases hj : i = j
  · subst hj
    rw [List.getElem?_set_self (List.getElem?_eq_some_iff.mp e).1] at h
    cases h
  · rw [List.getElem?_set_ne hj] at h
    exact hj (R.inj i j d e' p e h e1 z)
theorem set_set {r : Rho} {i : Nat} {a b : Sl} : (r.set i a).set i b = r.set i b := List.set_set ..
def frzE (i : Nat) (r : Rho) (t : Tw) : Res (Fl × Rho) := match r[i]? with
    | some (.own d) => .ok (.nx, r.set i (.val d)) t
    | some (.val _) => .ok (.nx, r) t
    | _ => .bad
theorem ss_frz {i : Nat} (h2 : PSs X rest (tS P g)) : PSs X rest (tS P (consE (frzE i) g)) := by
  refine ⟨fun pins s σ H D I ⟨F, r, t, R, h⟩ => ?_⟩
  unfold consE frzE at h
  cases e : r[i]? with
  | none =>
    rw [e] at h
    exact h.elim
  | some sl =>
    rw [e] at h
    cases sl with
    | un => exact h.elim
    | val d => exact h2.run pins s σ H D I ⟨F, r, t, R, h⟩
    | own d =>
      have h : Aft P F (g (r.set i (.val d)) t) (aftS P F D) := h
      obtain ⟨p, e1, o⟩ := R.own i d e
      have no := R.noOwn e e1
      cases d with
      | lst ds =>
        obtain ⟨vs, h1, hz, h3⟩ := o.at_
        have s2 : Same F (L2.upd F p (.lst vs)) := same_new o.fr
        have R2 := (R.unOwn (i := i)).freeze h1 (by intro _ z; cases z) o.fr o.h0 o.n1 o.n2 no
        have R3 := R2.asVal e1 (.lst upd_same hz (h3.mono s2))
        rw [set_set] at R3
        exact h2.run pins s σ H D I ⟨_, _, t, R3, (h.up s2).mono fun p t2 q => q.up s2⟩
      | dct es =>
        obtain ⟨kvs, h1, hz, h3⟩ := o.at_
        obtain ⟨od, I2⟩ := I.lock h1 trivial
        have s2 : Same F (L2.upd F p (.frz od (.dK kvs))) := same_new o.fr
        have R2 := (R.unOwn (i := i)).lockF (od := od) (u := .dK kvs) (tabs_dK R.tabs h1) o.fr o.h0 o.n1 o.n2 no
        have R3 := R2.asVal e1 (.dct upd_same hz (h3.mono s2))
        rw [set_set] at R3
        exact h2.run pins s σ _ D I2 ⟨_, _, t, R3, (h.up s2).mono fun p t2 q => q.up s2⟩
      | dcn es =>
        obtain ⟨xs, h1, hy, hz, h3⟩ := o.at_
        obtain ⟨od, I2⟩ := I.lock h1 trivial
        have s2 : Same F (L2.upd F p (.frz od (DN P.T.pg P.T.wo p xs))) := same_new o.fr
        have R2 := (R.unOwn (i := i)).lockF (od := od) (u := DN P.T.pg P.T.wo p xs) (tabs_dn R.tabs h1 hy.2) o.fr o.h0 o.n1 o.n2 no
        have R3 := R2.asVal e1 (.dcn upd_same hy hz (h3.mono s2))
        rw [set_set] at R3
        exact h2.run pins s σ _ D I2 ⟨_, _, t, R3, (h.up s2).mono fun p t2 q => q.up s2⟩
      | _ => exact o.at_.elim
/-! ### an object of ours is changed -/
theorem Rel.updOwn {F H : Hp} {r : Rho} {t : Tw} {σ : L2.St} {i : Nat} {d d' : D} {p : Addr} {o : HO} (R : RelP P F r t σ H) (e : r[i]? = some (.own d)) (e1 : σ[i]? = some (some (.ref p))) (h : OwnAt P.K P.T F (L2.upd H p o) p d') :
    RelP P F (r.set i (.own d')) t σ (L2.upd H p o) := by
  obtain ⟨p', e2, w⟩ := R.own i d e
  rw [e1] at e2
  cases e2
  have hi : i < r.length := (List.getElem?_eq_some_iff.mp e).1
  obtain ⟨ob, ho, _⟩ := w.at_.obj
  have hNT : NT o := by
    obtain ⟨o2, z, n⟩ := h.obj
    rw [upd_same] at z
    cases z
    exact n
  have cs : ∀ {j : Nat} {s : Sl}, (r.set i (.own d'))[j]? = some s → (i = j ∧ s = .own d') ∨ (i ≠ j ∧ r[j]? = some s) := fun {j s} q => by
    by_cases hj : i = j
    · subst hj
      rw [List.getElem?_set_self hi] at q
      exact .inl ⟨rfl, (Option.some.inj q).symm⟩
    · rw [List.getElem?_set_ne hj] at q
      exact .inr ⟨hj, q⟩
  have nF : ∀ b u, F b = some u → b ≠ p := fun b u h e => by
    rw [e, w.fr] at h
    cases h
  refine ⟨⟨fun b u h => ?_, R.new, R.base, fun b u h m1 m2 m3 => ?_, fun b h => R.had b (h.upd hNT).1, ⟨?_, ?_, R.tw.ne, R.tw.small⟩, R.tF1, R.tF2, R.sc, ?_, R.nt⟩, by simpa using R.len, fun j e2 h2 => ?_, fun j e2 h2 => ?_, fun j k e2 e3 q h1 h2 h3 h4 => ?_⟩
  · rw [upd_ne (nF b u h)]
    exact R.sub b u h
  · have : b ≠ p := fun e => w.h0.no (by rw [← e]; exact h) m3
    rw [upd_ne this]
    exact R.old b u h m1 m2 m3
  · rw [upd_ne (Ne.symm w.n1)]
    exact R.tw.a
  · rw [upd_ne (Ne.symm w.n2)]
    exact R.tw.b
  · have w2 := w.at_
    cases d with
    | lst ds =>
      obtain ⟨vs, h1, _⟩ := w2
      exact tabs_lst R.tabs h1
    | dct ds =>
      obtain ⟨vs, h1, _⟩ := w2
      exact tabs_dK R.tabs h1
    | dcn ds =>
      obtain ⟨vs, h1, hy, _⟩ := w2
      exact tabs_dn R.tabs h1 hy.2
    | _ => exact w2.elim
  · rcases cs h2 with ⟨rfl, z⟩ | ⟨hj, z⟩
    · cases z
    · exact R.val j e2 z
  · rcases cs h2 with ⟨rfl, z⟩ | ⟨hj, z⟩
    · cases z
      exact ⟨p, e1, ⟨w.fr, w.n1, w.n2, w.h0, h⟩⟩
    · obtain ⟨q, e4, w2⟩ := R.own j e2 z
      have nq : q ≠ p := fun z2 => by
        subst z2
        exact hj (R.inj i j d e2 q e z e1 e4)
      exact ⟨q, e4, ⟨w2.fr, w2.n1, w2.n2, w2.h0, w2.at_.keep (Same.refl F) fun o h => by rw [upd_ne nq]; exact h⟩⟩
  · have own : ∀ {j : Nat} {e2 : D}, (r.set i (.own d'))[j]? = some (.own e2) → ∃ e3, r[j]? = some (.own e3) := fun {j e2} q => by
      rcases cs q with ⟨rfl, z⟩ | ⟨_, z⟩
      · exact ⟨d, e⟩
      · exact ⟨e2, z⟩
    obtain ⟨e4, z1⟩ := own h1
    obtain ⟨e5, z2⟩ := own h2
    exact R.inj j k e4 e5 q z1 z2 h3 h4
def borE (i : Nat) (r : Rho) (t : Tw) : Res D := match r[i]? with
    | some (.val d) => .ok d t
    | some (.own d) => .ok d t
    | _ => .bad
/-- the slot itself -/
theorem pe_slot {i : Nat} {x : Str} (hN : X.N[i]? = some x) (hv : Vis X.env.scope x) (hd : (x == ("__debug__" : Str)) = false) (hcd : (x == ("__classdict__" : Str)) = false) : PE X (.Name x pos) (tVar i) := pe_var hN hv hd hcd
def appE (i : Nat) (fa : Rho → Tw → Res D) (r : Rho) (t : Tw) : Res (Fl × Rho) := match r[i]? with
    | some (.own (.lst xs)) => (fa r t).bind fun x t1 => if decide (xs.length < 16777216) then .ok (.nx, r.set i (.own (.lst (xs ++ [x])))) t1 else .bad
    | _ => .bad
/-- the list that a slot has -/
theorem own_lst {F H : Hp} {r : Rho} {t : Tw} {σ : L2.St} {i : Nat} {xs : List D} (R : RelP P F r t σ H) (e : r[i]? = some (.own (.lst xs))) : ∃ p vs, σ[i]? = some (some (.ref p)) ∧ H p = some (.lst vs) ∧ vs.length ≤ sizeLine ∧ RpL P.K P.T F vs xs := by
  obtain ⟨p, e1, w⟩ := R.own i _ e
  obtain ⟨vs, h1, h2, h3⟩ := w.at_
  exact ⟨p, vs, e1, h1, h2, h3⟩
theorem own_dct {F H : Hp} {r : Rho} {t : Tw} {σ : L2.St} {i : Nat} {xs : List (Key × D)} (R : RelP P F r t σ H) (e : r[i]? = some (.own (.dct xs))) : ∃ p vs, σ[i]? = some (some (.ref p)) ∧ H p = some (.dK vs) ∧ vs.length ≤ sizeLine ∧ RpK P.K P.T F vs xs := by
  obtain ⟨p, e1, w⟩ := R.own i _ e
  obtain ⟨vs, h1, h2, h3⟩ := w.at_
  exact ⟨p, vs, e1, h1, h2, h3⟩
theorem own_dcn {F H : Hp} {r : Rho} {t : Tw} {σ : L2.St} {i : Nat} {xs : List (NestedKey × D)} (R : RelP P F r t σ H) (e : r[i]? = some (.own (.dcn xs))) : ∃ p vs, σ[i]? = some (some (.ref p)) ∧ H p = some (DN P.T.pg P.T.wo p vs) ∧ ((p == sysModules) = false ∧ (vs.map (·.1)).Nodup) ∧ vs.length ≤ sizeLine ∧ RpN P.K P.T F vs xs := by
  obtain ⟨p, e1, w⟩ := R.own i _ e
  obtain ⟨vs, h1, h2, h3, h4⟩ := w.at_
  exact ⟨p, vs, e1, h1, h2, h3, h4⟩
theorem appE_ok {i : Nat} {F : Hp} {r : Rho} {t : Tw} {Z : Fl × Rho → Tw → Prop} (h : Aft P F (appE i fa r t) Z) : ∃ xs, r[i]? = some (.own (.lst xs)) ∧ Aft P F ((fa r t).bind fun x t1 => if decide (xs.length < 16777216) then .ok (.nx, r.set i (.own (.lst (xs ++ [x])))) t1 else .bad) Z := by
  unfold appE at h
  split at h
  · rename_i xs e
    exact ⟨xs, e, h⟩
  · exact h.elim
theorem st_app {i : Nat} {y : Str} (hK : X.K = P.K) (hN : X.N[i]? = some y) (hv : Vis X.env.scope y) (hd : (y == ("__debug__" : Str)) = false) (hcd : (y == ("__classdict__" : Str)) = false) (ha : PE X a (tD P fa)) (hline : (p1.endLine == p2.line) = true)
    (hs : starEach [a] X.env = (false, eval a X.env) :: starEach [] X.env) {q : Pos} : PS X (.Expr (.Call (.Attribute (.Name y q) "append" p1) [a] [] p2) pos) (tS P (appE i fa)) := by
  have hfew : ((backTo p2 (starEach [a] X.env)).all (fun x => !x.1) && (backToKw p2 (keywordEach [] X.env)).all (fun x => x.1.isSome)
      && decide (([a] : List Expr).length + ([] : List Keyword).length + (if ([] : List Keyword).isEmpty then 0 else 1) < 30)) = true := by
    rw [hs]
    rfl
  refine psMono (ps_expr (pe_bm PySem.F.plainAttrs_list PySem.F.slot_list_append PySem.F.type_list_append mt_append (pe_slot hN hv hd hcd) (pa_cons ha pa_nil hs) rfl hfew hline hs rfl) rfl) fun D σ H ⟨F, r, t, R, h⟩ => ?_
  obtain ⟨xs, e, h⟩ := appE_ok h
  obtain ⟨p, vs, e1, h1, h2, h3⟩ := own_lst R e
  refine ⟨_, e1, .inl ⟨rfl, vs, SqL.of h1⟩, F, r, t, R, h.bind.mono fun d t' h v F' H' s R' rv => ?_⟩
  split at h
  · rename_i hl
    have hl := of_decide_eq_true hl
    obtain ⟨p', vs', e1', h1', h2', h3'⟩ := own_lst R' e
    rw [e1] at e1'
    cases e1'
    have hz : vs'.length < sizeLine := by
      rw [h3'.length, sizeLine_eq]
      exact hl
    refine ⟨p, vs', v, rfl, rfl, h1', hz, h F' σ _ s.1 (Rel.updOwn R' e e1 ⟨_, upd_same, ?_, h3'.append (.cons rv .nil)⟩)⟩
    rw [List.length_append, List.length_singleton]
    omega
  · exact h.elim
def putE (i : Nat) (fk fa : Rho → Tw → Res D) (r : Rho) (t : Tw) : Res (Fl × Rho) := match r[i]? with
    | some (.own (.dct kvs)) => (fa r t).bind fun x t1 => (fk r t1).bind fun y t2 => (match keyD y with
      | some k => if decide (kvs.length < 16777216) then .ok (.nx, r.set i (.own (.dct (putD kvs k x)))) t2 else .bad
      | none => .bad)
    | some (.own (.dcn kvs)) => (fa r t).bind fun x t1 => (fk r t1).bind fun y t2 => (match keyT y with
      | some k => if decide (kvs.length < 16777216) then .ok (.nx, r.set i (.own (.dcn (putN kvs k x)))) t2 else .bad
      | none => .bad)
    | _ => .bad
theorem putE_ok {i : Nat} {fk : Rho → Tw → Res D} {F : Hp} {r : Rho} {t : Tw} {Z : Fl × Rho → Tw → Prop} (h : Aft P F (putE i fk fa r t) Z) : (∃ kvs, r[i]? = some (.own (.dct kvs)) ∧ Aft P F ((fa r t).bind fun x t1 => (fk r t1).bind fun y t2 => (match keyD y with
      | some k => if decide (kvs.length < 16777216) then .ok (.nx, r.set i (.own (.dct (putD kvs k x)))) t2 else .bad
      | none => .bad)) Z) ∨ ∃ kvs, r[i]? = some (.own (.dcn kvs)) ∧ Aft P F ((fa r t).bind fun x t1 => (fk r t1).bind fun y t2 => (match keyT y with
      | some k => if decide (kvs.length < 16777216) then .ok (.nx, r.set i (.own (.dcn (putN kvs k x)))) t2 else .bad
      | none => .bad)) Z := by
  unfold putE at h
  split at h
  · rename_i xs e
    exact .inl ⟨xs, e, h⟩
  · rename_i xs e
    exact .inr ⟨xs, e, h⟩
  · exact h.elim
theorem st_put {i : Nat} {y : Str} {q : Pos} (hK : X.K = P.K) (hpw : P.T.pg = X.prog ∧ P.T.wo = X.w) (hu : X.A.units + 200 < cLine) (hN : X.N[i]? = some y) (hv : Vis X.env.scope y) (hd : (y == ("__debug__" : Str)) = false) (hcd : (y == ("__classdict__" : Str)) = false) (hb : PE X b (tB P fb)) (ha : PE X a (tD P fa))
    (hs : swapsWith a (some (.Subscript (.Name y q) b p1)) pos.line X.env = pure false) : PS X (.Assign [.Subscript (.Name y q) b p1] a pos) (tS P (putE i fb fa)) := by
  refine psMono (ps_xput hu (pe_slot hN hv hd hcd) hb ha hs) fun D σ H ⟨F, r, t, R, h⟩ => ?_
  rcases putE_ok h with ⟨xs, e, h⟩ | ⟨xs, e, h⟩
  · obtain ⟨p, vs, e1, h1, h2, h3⟩ := own_dct R e
    refine ⟨F, r, t, R, h.bind.mono fun d t1 h v F1 H1 s1 R1 rv => ⟨_, e1, F1, r, t1, R1, (h.up s1.1).bind.mono fun dk t2 h w F2 H2 s2 R2 rw' => ?_⟩⟩
    cases ek : keyD dk with
    | none =>
      rw [ek] at h
      exact h.elim
    | some k =>
      rw [ek] at h
      obtain rfl := key_of' R2 rw' ek
      have h : Aft P F1 (if decide (xs.length < 16777216) then .ok (.nx, r.set i (.own (.dct (putD xs k d)))) t2 else .bad) (aftS P F D) := h
      split at h
      · rename_i hl
        have hl := of_decide_eq_true hl
        obtain ⟨p', vs', e1', h1', h2', h3'⟩ := own_dct R2 e
        rw [e1] at e1'
        cases e1'
        have hz : vs'.length < sizeLine := by
          rw [h3'.length, sizeLine_eq]
          exact hl
        refine ⟨p, rfl, .inl ⟨_, DPut.k h1' hz, h F2 σ _ (s1.1.trans s2.1) (Rel.updOwn R2 e e1 ⟨_, upd_same, ?_, h3'.put k (rv.mono s2.1)⟩)⟩⟩
        have := length_putK vs' k v
        omega
      · exact h.elim
  · obtain ⟨p, vs, e1, h1, h2, h3, h4⟩ := own_dcn R e
    refine ⟨F, r, t, R, h.bind.mono fun d t1 h v F1 H1 s1 R1 rv => ⟨_, e1, F1, r, t1, R1, (h.up s1.1).bind.mono fun dk t2 h w F2 H2 s2 R2 rw' => ?_⟩⟩
    cases ek : keyT dk with
    | none =>
      rw [ek] at h
      exact h.elim
    | some k =>
      rw [ek] at h
      obtain ⟨b', rfl, nk, hb'⟩ := nk_of hK R2 rw' ek
      have h : Aft P F1 (if decide (xs.length < 16777216) then .ok (.nx, r.set i (.own (.dcn (putN xs k d)))) t2 else .bad) (aftS P F D) := h
      split at h
      · rename_i hl
        have hl := of_decide_eq_true hl
        obtain ⟨p', vs', e1', h1', h2', h3', h4'⟩ := own_dcn R2 e
        rw [e1] at e1'
        cases e1'
        have hz : vs'.length < sizeLine := by
          rw [h4'.length, sizeLine_eq]
          exact hl
        refine ⟨p, rfl, .inr ⟨vs', k, b', by rw [← hpw.1, ← hpw.2]; exact h1', do_of hK R2.sub hpw (.inl h1') h2'.1 h4', rfl, nk, by omega, fun u ru => ?_⟩⟩
        rw [← hpw.1, ← hpw.2]
        refine h F2 σ _ (s1.1.trans s2.1) (Rel.updOwn R2 e e1 ⟨_, upd_same, ⟨h2'.1, storedH_nodup _ _ _ _ h2'.2⟩, ?_, h4'.put hb' (keyT_kd ek).2 ru (rv.mono s2.1)⟩)
        have := storedH_len vs' k b' u
        omega
      · exact h.elim
def putLE (i : Nat) (fk fa : Rho → Tw → Res D) (r : Rho) (t : Tw) : Res (Fl × Rho) := match r[i]? with
    | some (.own (.lst xs)) => (fa r t).bind fun x t1 => (fk r t1).bind fun y t2 => (match y with
      | .int j => (match L2.ixN xs.length j with
        | some n => .ok (.nx, r.set i (.own (.lst (xs.set n x)))) t2
        | none => .bad)
      | _ => .bad)
    | _ => .bad
theorem putLE_ok {i : Nat} {fk : Rho → Tw → Res D} {F : Hp} {r : Rho} {t : Tw} {Z : Fl × Rho → Tw → Prop} (h : Aft P F (putLE i fk fa r t) Z) : ∃ xs, r[i]? = some (.own (.lst xs)) ∧ Aft P F ((fa r t).bind fun x t1 => (fk r t1).bind fun y t2 => (match y with
      | .int j => (match L2.ixN xs.length j with
        | some n => .ok (.nx, r.set i (.own (.lst (xs.set n x)))) t2
        | none => .bad)
      | _ => .bad)) Z := by
  unfold putLE at h
  split at h
  · rename_i xs e
    exact ⟨xs, e, h⟩
  · exact h.elim
theorem st_putL {i : Nat} {y : Str} {q : Pos} (hN : X.N[i]? = some y) (hv : Vis X.env.scope y) (hd : (y == ("__debug__" : Str)) = false) (hcd : (y == ("__classdict__" : Str)) = false) (hb : PE X b (tB P fb)) (ha : PE X a (tD P fa))
    (hasg : ∀ v, assign (.Subscript (.Name y q) b p1) X.env v = (do
      let ov ← holding [v] (eval (.Name y q) X.env)
      let iv ← holding [v, ov] (eval b X.env)
      standAt p1
      holding [v, ov, iv] (setItem ov iv v)
      release [v, ov, iv] []))
    (hs : swapsWithSole [.Subscript (.Name y q) b p1] a pos.line X.env = pure false) (hw : swappedStores [.Subscript (.Name y q) b p1] a X.env = pure none) : PS X (.Assign [.Subscript (.Name y q) b p1] a pos) (tS P (putLE i fb fa)) := by
  refine psMono (ps_asg ha (pg_sub (pe_slot hN hv hd hcd) hb set_list hasg) hs hw rfl) fun D σ H ⟨F, r, t, R, h⟩ => ?_
  obtain ⟨xs, e, h⟩ := putLE_ok h
  obtain ⟨p, vs, e1, h1, h2, h3⟩ := own_lst R e
  refine ⟨F, r, t, R, h.bind.mono fun d t1 h v F1 H1 s1 R1 rv => ⟨_, e1, F1, r, t1, R1, (h.up s1.1).bind.mono fun dk t2 h w F2 H2 s2 R2 rw' => ?_⟩⟩
  cases dk with
  | int j =>
    obtain rfl := rw'.int R2
    obtain ⟨p', vs', e1', h1', h2', h3'⟩ := own_lst R2 e
    rw [e1] at e1'
    cases e1'
    have h : Aft P F1 (match L2.ixN xs.length j with
        | some n => .ok (.nx, r.set i (.own (.lst (xs.set n d)))) t2
        | none => .bad) (aftS P F D) := h
    cases en : L2.ixN xs.length j with
    | none =>
      rw [en] at h
      exact h.elim
    | some n =>
      rw [en] at h
      refine ⟨p, vs', j, n, rfl, rfl, h1', by rw [h3'.length]; exact en, ?_⟩
      exact h F2 σ _ (s1.1.trans s2.1) (Rel.updOwn R2 e e1 ⟨_, upd_same, by rw [List.length_set]; exact h2', h3'.set (rv.mono s2.1) n⟩)
  | _ => exact (show False from h).elim
/-! ### name op= e, of ints -/
def augE (i : Nat) (op : Operator) (fa : Rho → Tw → Res D) (r : Rho) (t : Tw) : Res (Fl × Rho) := match r[i]? with
    | some (.val x) => (fa r t).bind fun y t1 => match x, y with
      | .int _, .int _ => Fm.lift ((binD op x y).map fun z => (.nx, r.set i (.val z))) t1
      | _, _ => .bad
    | _ => .bad
theorem augE_ok {i : Nat} {op : Operator} {F : Hp} {r : Rho} {t : Tw} {Z : Fl × Rho → Tw → Prop} (h : Aft P F (augE i op fa r t) Z) : ∃ x, r[i]? = some (.val x) ∧ Aft P F ((fa r t).bind fun y t1 => match x, y with
      | .int _, .int _ => Fm.lift ((binD op x y).map fun z => (.nx, r.set i (.val z))) t1
      | _, _ => .bad) Z := by
  unfold augE at h
  split at h
  · rename_i xs e
    exact ⟨xs, e, h⟩
  · exact h.elim
/-- the rule of an in-place operator upon ints -/
def IpS (X : Cx) (op : Operator) : Prop := ∃ (C : Int → Int → Prop) (g : Int → Int → Int), OpR X (inplaceOp op) (rI C fun i j => .int (g i j)) ∧ ∀ i j d, binD op (.int i) (.int j) = some d → C i j ∧ d = .int (g i j)
theorem ip_of {op : Operator} (h : op = .Add ∨ op = .Sub ∨ op = .Mult ∨ op = .FloorDiv ∨ op = .Mod) : IpS X op := by
  rcases h with rfl | rfl | rfl | rfl | rfl
  · exact ⟨fun _ _ => True, fun i j => i + j, opI fun _ _ _ _ _ _ _ _ q => iadd_int q, fun i j d e => by cases e; exact ⟨trivial, rfl⟩⟩
  · exact ⟨fun _ _ => True, fun i j => i - j, opI fun _ _ _ _ _ _ _ _ q => isub_int q, fun i j d e => by cases e; exact ⟨trivial, rfl⟩⟩
  · refine ⟨CMulW, fun i j => i * j, opI fun _ _ _ _ _ _ _ hc q => imul_int q hc.ok, fun i j d e => ?_⟩
    simp only [binD, mulD] at e
    split at e
    · rename_i h
      cases e
      exact ⟨(of_decide_eq_true h : i.natAbs.log2 + j.natAbs.log2 < 1000000), rfl⟩
    · cases e
  · refine ⟨CDivA, fun i j => i.fdiv j, opI fun i j _ _ _ _ _ hc q => ifloordiv_int hc.1 q (.inl (PyProof.noPylong_of_log2 hc.2)), fun i j d e => ?_⟩
    simp only [binD, fdivD] at e
    split at e
    · rename_i h
      cases e
      have h2 := Bool.and_eq_true_iff.mp h
      exact ⟨⟨of_decide_eq_true h2.1, of_decide_eq_true h2.2⟩, rfl⟩
    · cases e
  · refine ⟨fun _ j => j ≠ 0, fun i j => i.fmod j, opI fun i j _ _ _ _ _ hc q => imod_int hc q, fun i j d e => ?_⟩
    simp only [binD, modD] at e
    split at e
    · cases e
    · rename_i h
      cases e
      exact ⟨h, rfl⟩
theorem st_aug {i : Nat} {y : Str} {q : Pos} {op : Operator} (hop : IpS X op) (hN : X.N.Nodup) (hi : X.N[i]? = some y) (hx : Loc X.env.scope y) (hf : X.fn y = true ∨ X.env.scope.names.lookup y = some .local) (ha : PE X a (tB P fa)) :
    PS X (.AugAssign (.Name y q) op a pos) (tS P (augE i op fa)) := by
  obtain ⟨C, g, ho, hg⟩ := hop
  refine psMono (ps_aug hN hi hx ha ho hf) fun D σ H ⟨F, r, t, R, h⟩ => ?_
  obtain ⟨x, e, h⟩ := augE_ok h
  obtain ⟨v, e1, rv⟩ := R.val i x e
  refine ⟨v, e1, F, r, t, R, h.bind.mono fun d t' h w F' H' s R' rw' => ?_⟩
  cases x with
  | int m =>
    cases d with
    | int n =>
      obtain ⟨p, e2, q⟩ := Aft.lift h
      obtain ⟨z, e3, rfl⟩ := Option.map_eq_some_iff.mp e2
      obtain ⟨c, rfl⟩ := hg m n z e3
      cases rv
      exact ⟨m, n, rfl, rw'.int R', c, q F' _ H' s.1 (R'.setVal (.int _))⟩
    | _ => exact (show False from h).elim
  | _ => exact (show False from h).elim
end
end Fm

/-! ### loops, starred targets, raise -/
namespace Fm
open PySem PySem.Spec PyProof.Rows L2
section
variable {P : Pm} {X : Cx} {a b c : Expr} {pos p1 p2 : Pos} {fa fb fc : Rho → Tw → Res D} {st : Stmt} {rest : List Stmt} {f g : Rho → Tw → Res (Fl × Rho)}
def forE (tg : Tg) (fi : Rho → Tw → Res (List D)) (f : Rho → Tw → Res (Fl × Rho)) (r : Rho) (t : Tw) : Res (Fl × Rho) := (fi r t).bind fun xs t1 => loopF (fun d r t => match setT tg d r with
    | some r1 => f r1 t
    | none => .bad) xs r t1
theorem for_turn {tg : Tg} {d : D} {ds : List D} {F : Hp} {r : Rho} {t : Tw} {D' : Ends} (h : Aft P F (loopF (fun d r t => match setT tg d r with
    | some r1 => f r1 t
    | none => .bad) (d :: ds) r t) (aftS P F D')) : ∃ r1, setT tg d r = some r1 ∧ Aft P F (f r1 t) fun p t1 => match p with
      | (.nx, r2) => Aft P F (loopF (fun d r t => match setT tg d r with
        | some r1 => f r1 t
        | none => .bad) ds r2 t1) (aftS P F D')
      | (.cont, r2) => Aft P F (loopF (fun d r t => match setT tg d r with
        | some r1 => f r1 t
        | none => .bad) ds r2 t1) (aftS P F D')
      | (.brk, r2) => aftS P F D' (.nx, r2) t1
      | (.ret d, r2) => aftS P F D' (.ret d, r2) t1 := by
  simp only [loopF] at h
  cases e : setT tg d r with
  | none =>
    rw [e] at h
    exact h.elim
  | some r1 =>
    rw [e] at h
    refine ⟨r1, rfl, h.bind.mono fun p t1 h => ?_⟩
    obtain ⟨fl, r2⟩ := p
    cases fl with
    | nx => exact h
    | cont => exact h
    | brk => exact h
    | ret d => exact h
theorem st_for {tg iter : Expr} {tt : Tg} {body : List Stmt} {fi : Rho → Tw → Res (List D)} (hp : PassesOwn (model X.prog X.w) X.A X.env X.xe) (hc : X.calm = true) {w0 : Bool} (hw : w0 = true → tt.isT = true) (hi : PI X tg iter (tI P true w0 fi)) (hg : PG X tg (gT P tt)) (hb : PSs X body (tS P f))
    (hs : ∀ x, foldedSetIterable iter X.env x = pure x) : PS X (.For tg iter body [] pos) (tS P (forE tt fi f)) := by
  refine psMono (ps_for hp hc hi hg hb hs) fun D σ H ⟨F, r, t, R, h⟩ => ⟨F, r, t, R, h.bind.mono fun ds t1 h J F1 H1 s1 R1 w => ?_⟩
  have w : WD P w0 J (Same F1) F1 ds := w
  refine ⟨fun i m σ H => m = ds.length - i ∧ i ≤ ds.length ∧ ∃ F2 r2 t2, Same F1 F2 ∧ RelP P F2 r2 t2 σ H ∧ Aft P F2 (loopF (fun d r t => match setT tt d r with
    | some r1 => f r1 t
    | none => .bad) (ds.drop i) r2 t2) (aftS P F2 D), ⟨ds.length, by simp, Nat.zero_le _, F1, r, t1, Same.refl F1, R1, (h.up s1.1).mono fun p t2 q => q.up s1.1⟩, fun i m σ2 H2 hW => ?_⟩
  obtain ⟨rfl, hi, F2, r2, t2, s2, R2, h⟩ := hW
  have hG : Same F1 H2 := s2.trans R2.sub
  by_cases hlt : i < ds.length
  · refine .inr ⟨w.goes i H2 hlt hG, fun σ' H' => ∃ F2 r2 t2, Same F1 F2 ∧ RelP P F2 r2 t2 σ' H' ∧ Aft P F2 (loopF (fun d r t => match setT tt d r with
      | some r1 => f r1 t
      | none => .bad) (ds.drop (i + 1)) r2 t2) (aftS P F2 D), fun σ' H' hn => ⟨_, by omega, rfl, hlt, hn⟩, fun x H' hy => ?_⟩
    have hdi : ds[i]? = some ds[i] := List.getElem?_eq_getElem hlt
    rw [List.drop_eq_getElem_cons hlt] at h
    obtain ⟨r3, e3, h⟩ := for_turn h
    obtain ⟨F3, k3, _, R3, rx⟩ := w.draw hw hdi hG hy s2 R2
    have s3 := k3.base
    refine ⟨F3, r2, t2, ds[i], r3, R3, rx, e3, fun σ4 R4 _ => ⟨F3, r3, t2, R4, (h.up s3).mono fun p t4 h => ?_⟩⟩
    obtain ⟨fl, r4⟩ := p
    cases fl with
    | nx => exact fun F5 σ5 H5 s5 R5 => ⟨F5, r4, t4, (s2.trans s3).trans s5, R5, ((show Aft P F2 _ (aftS P F2 D) from h).up (s3.trans s5)).mono fun p t q => q.up (s3.trans s5)⟩
    | cont => exact fun F5 σ5 H5 s5 R5 => ⟨F5, r4, t4, (s2.trans s3).trans s5, R5, ((show Aft P F2 _ (aftS P F2 D) from h).up (s3.trans s5)).mono fun p t q => q.up (s3.trans s5)⟩
    | brk => exact fun F5 σ5 H5 s5 R5 => h F5 σ5 H5 (s3.trans s5) R5
    | ret d => exact fun v F5 H5 s5 R5 rv => h v F5 H5 (s3.trans s5) R5 rv
  · have ei : i = ds.length := by omega
    subst ei
    refine .inl ⟨w.stops H2 hG, ?_⟩
    rw [List.drop_length] at h
    exact h F2 σ2 H2 (Same.refl F2) R2
theorem st_while {body : List Stmt} (hp : PassesOwn (model X.prog X.w) X.A X.env X.xe) (hc : PT X c (tT P fc)) (hb : PSs X body (tS P f)) : PS X (.While c body [] pos) (tS P (loopW fc f)) := by
  refine psMono (ps_while hp hc hb) fun D σ H ⟨F, r, t, R, h⟩ => ?_
  obtain ⟨n, hn⟩ := loopW_not (c := fc) (f := f) (r := r) (t := t) fun e => by
    rw [e] at h
    exact h
  refine ⟨fun m σ H => ∃ F2 r2 t2 v, RelP P F2 r2 t2 σ H ∧ loopN fc f m r2 t2 = some v ∧ Aft P F2 v (aftS P F2 D), ⟨n, F, r, t, _, R, hn, h⟩, fun m σ2 H2 hW => ?_⟩
  obtain ⟨F2, r2, t2, v, R2, hm, h⟩ := hW
  cases m with
  | zero => simp [loopN] at hm
  | succ m =>
    simp only [loopN] at hm
    refine ⟨F2, r2, t2, R2, ?_⟩
    cases ec : fc r2 t2 with
    | exc k t3 =>
      rw [ec] at hm
      cases hm
      exact h
    | bad =>
      rw [ec] at hm
      cases hm
      exact h
    | ok x t3 =>
      rw [ec] at hm
      dsimp only at hm
      cases ex : truD x with
      | none =>
        rw [ex] at hm
        cases hm
        exact h.elim
      | some k =>
        rw [ex] at hm
        refine ⟨k, ex, fun F3 H3 s3 R3 => ?_⟩
        cases k with
        | false =>
          cases hm
          rw [if_neg (by decide)]
          exact h F3 σ2 H3 s3.1 R3
        | true =>
          rw [if_pos rfl]
          dsimp only at hm
          refine ⟨fun σ' H' => ∃ F2 r2 t2 v, RelP P F2 r2 t2 σ' H' ∧ loopN fc f m r2 t2 = some v ∧ Aft P F2 v (aftS P F2 D), fun σ' H' q => ⟨m, by omega, q⟩, F3, r2, t3, R3, ?_⟩
          cases ef : f r2 t3 with
          | exc k t4 =>
            rw [ef] at hm
            cases hm
            exact Aft.up h s3.1
          | bad =>
            rw [ef] at hm
            cases hm
            exact h
          | ok p t4 =>
            rw [ef] at hm
            obtain ⟨fl, r4⟩ := p
            cases fl with
            | nx => exact fun F5 σ5 H5 s5 R5 => ⟨F5, r4, t4, v, R5, hm, (h.up (s3.1.trans s5)).mono fun p t q => q.up (s3.1.trans s5)⟩
            | cont => exact fun F5 σ5 H5 s5 R5 => ⟨F5, r4, t4, v, R5, hm, (h.up (s3.1.trans s5)).mono fun p t q => q.up (s3.1.trans s5)⟩
            | brk =>
              cases hm
              exact fun F5 σ5 H5 s5 R5 => h F5 σ5 H5 (s3.1.trans s5) R5
            | ret d =>
              cases hm
              exact fun v F5 H5 s5 R5 rv => h v F5 H5 (s3.1.trans s5) R5 rv
/-! ### x, *y = e -/
theorem star_unpack {prog : Program} {w : World} {A : Around} {E : Value → Shared → Prop} {s : Shared} {l : Addr} {y : Value} {ys : List Value} {Q : List Value → Shared → Prop} (hl : IsTup s.heap l (y :: ys).toArray) (hh : A.handled = none) (hz : ys.length < 16384)
    (h : ∀ (h' : Heap) (tk : Nat), (∀ b o, s.heap.get? b = some o → h'.get? b = some o) → Q [y, .ref h'.objs.size] { s with heap := h'.push { cls := .type "list", data := .seq ys.toArray }, toks := tk }) :
    wpAny (model prog w) A (unpackItems (.ref l) 2 (some 1)) Q E s := by
  have hlt : l ≠ s.heap.objs.size := let ⟨_, ho, _⟩ := hl; Nat.ne_of_lt (Heap.lt_size ho)
  have iterable : ∀ {R : Bool → Shared → Prop}, R false s → wpAny (model prog w) A (notIterableAtAll (.ref l)) R E s := fun q => wpAny_bind (wpAny_specialOf hl.typeIs slot_tuple_iter.lookup (wpAny_pure q))
  unfold unpackItems
  refine wpAny_bind (iterable ?_)
  rw [if_neg Bool.false_ne_true]
  refine wpAny_bind (wpAny_holding (iter_tuple hl (?_)))
  refine wpAny_bind (wpAny_holding (draw_tuple hlt 1 0 _ _ ⟨_, Heap.get?_push_size _ rfl, rfl, rfl⟩ (hl.push _) (by simp) fun h₁ hit₁ hs₁ => ?_))
  have hl₁ : IsTup h₁ l (y :: ys).toArray := (hl.push _).extBut hs₁.extBut hlt
  rw [Nat.zero_add] at hit₁
  have hit₁' := hit₁
  obtain ⟨oi, hoi, _⟩ := hit₁'
  have hl₁' := hl₁
  obtain ⟨ol, hol, _⟩ := hl₁'
  refine wpAny_bind (wpAny_holding (PySem.W.kun_collect (s := { s with heap := h₁ }) (T := "tuple_iterator") (.inr (.inr (.inr rfl))) (Walks.tuple (A := A.in1) hh s.heap.objs.size l hlt (y :: ys).toArray) (fun j u st => st.1.typeIs) (k := 1) (by simp) ⟨hit₁, hl₁⟩ (Heap.lt_size hoi) (Heap.lt_size hol) (fun h₂ tk hk => ?_) (by rw [sizeLine_eq]; simp; omega)))
  show wpAny _ _ (newList (ys.take (ys.length - 0)) >>= fun d => pure ([y] ++ [d] ++ ys.drop (ys.length - 0))) _ _ _
  have e1 : ys.take (ys.length - 0) = ys := by simp
  have e2 : ys.drop (ys.length - 0) = [] := by simp
  rw [e1, e2]
  have he : ∀ b o, s.heap.get? b = some o → h₂.get? b = some o := fun b o e => by
    have nb : b ≠ s.heap.objs.size := Nat.ne_of_lt (Heap.lt_size e)
    exact hk b o nb (hs₁.extBut b o nb (Heap.get?_push_of_some _ e))
  refine wpAny_bind (wpAny_newList (wpAny_pure ?_) (by rw [sizeLine_eq]; omega))
  exact h h₂ tk he
def starE (i j : Nat) (fa : Rho → Tw → Res D) (r : Rho) (t : Tw) : Res (Fl × Rho) := (fa r t).bind fun x t1 => match x with
    | .tup (y :: ys) => if decide (i < r.length) && decide (j < r.length) && decide (ys.length < 16384) then .ok (.nx, (r.set i (.val y)).set j (.val (.lst ys))) t1 else .bad
    | _ => .bad
def gSt (P : Pm) (i j : Nat) : TG := fun v σ H Q => ∃ F r t y ys, RelP P F r t σ H ∧ Rp P.K P.T F v (.tup (y :: ys)) ∧ ys.length < 16384 ∧ ∀ F' σ' H', Same F F' → RelP P F' ((r.set i (.val y)).set j (.val (.lst ys))) t σ' H' → Q σ' H'
theorem g_star {i j : Nat} {x y : Str} {k : Nat} {q1 q2 q3 : Pos} (hK : X.K = P.K) (hc : X.calm = true) (hN : X.N.Nodup) (hi : X.N[i]? = some x) (hj : X.N[j]? = some y) (hx : Loc X.env.scope x) (hy : Loc X.env.scope y)
    (hfx : X.fn x = true ∨ X.env.scope.names.lookup x = some .local) (hfy : X.fn y = true ∨ X.env.scope.names.lookup y = some .local) : PG X (.Tuple [.Name x q1, .Starred (.Name y q2) q3] k pos) (gSt P i j) := by
  refine ⟨fun pins s σ H v u Q I rv h => ?_⟩
  obtain ⟨F, r, t, d, ds, R, rd, hl, q⟩ := h
  cases rd with
  | @tup p xs _ h1 z h2 =>
  cases h2 with
  | @cons v1 vs _ _ r1 r2 =>
  cases rv
  have h1' : SqT X.K H p (v1 :: vs) := by
    rw [hK]
    exact sqP_t R.sub h1
  obtain ⟨its, rv, ht, hz⟩ := I.tuple h1'
  cases rv with
  | @cons _ u1 _ us ru rus =>
  rw [assign_Tuple]
  refine wpAny_bind (wpAny_standAt ?_)
  unfold unpack
  show wpAny _ _ (assignInOrder _ =<< holding [.ref p] (unpackItems (.ref p) 2 (some 1))) _ _ _
  have hlen : vs.length = us.length := rus.length
  have hvs : vs.length = ds.length := r2.length
  refine wpAny_bind (wpAny_holding (star_unpack ht (I.ok.hd hc) (by omega) fun h' tk hk => ?_))
  have I1 : Inv X pins σ H { s with heap := h', toks := tk } := I.kept hk
  have hf : H h'.objs.size = none := I1.hok.fresh (Nat.le_refl _)
  have hzz : vs.length ≤ sizeLine := by
    rw [sizeLine_eq]
    omega
  have I2 : Inv X pins σ (L2.upd H h'.objs.size (.lst vs)) { s with heap := h'.push { cls := .type "list", data := .seq us.toArray }, toks := tk } := I1.lnew rus hzz
  have b := R.toRelH.newF (o := .lst vs) hf
  have R2 := R.step b
  have pgs : PGs X [.Name x q1, .Name y q2] (gCons (gName i) (gCons (gName j) gNil)) := pgs_cons (pg_name hN hi hx hfx) (pgs_cons (pg_name hN hj hy hfy) pgs_nil rfl) rfl
  refine pgs.run pins _ σ _ [v1, .ref h'.objs.size] [u1, .ref h'.objs.size] Q I2 (.cons ru (.cons rfl .nil)) ⟨v1, _, rfl, .ref _, [], rfl, rfl, ?_⟩
  exact q _ _ _ b.base ((R2.setVal (r1.mono b.base)).setVal (.lst upd_same hzz (r2.mono b.base)))
theorem st_star {i j : Nat} {x y : Str} {k : Nat} {q1 q2 q3 q4 : Pos} (hK : X.K = P.K) (hc : X.calm = true) (hN : X.N.Nodup) (hi : X.N[i]? = some x) (hj : X.N[j]? = some y) (hx : Loc X.env.scope x) (hy : Loc X.env.scope y)
    (hfx : X.fn x = true ∨ X.env.scope.names.lookup x = some .local) (hfy : X.fn y = true ∨ X.env.scope.names.lookup y = some .local) (ha : PE X a (tD P fa)) (hs : swapsWithSole [.Tuple [.Name x q1, .Starred (.Name y q2) q3] k q4] a pos.line X.env = pure false)
    (hw : swappedStores [.Tuple [.Name x q1, .Starred (.Name y q2) q3] k q4] a X.env = pure none) : PS X (.Assign [.Tuple [.Name x q1, .Starred (.Name y q2) q3] k q4] a pos) (tS P (starE i j fa)) :=
  psMono (ps_asg ha (g_star (P := P) hK hc hN hi hj hx hy hfx hfy) hs hw rfl) fun D σ H ⟨F, r, t, R, h⟩ => ⟨F, r, t, R, h.bind.mono fun d t' h v F' H' s R' rv => by
    cases d with
    | tup xs =>
      cases xs with
      | nil => exact (show False from h).elim
      | cons y ys =>
        have h : Aft P F (if decide (i < r.length) && decide (j < r.length) && decide (ys.length < 16384) then .ok (.nx, (r.set i (.val y)).set j (.val (.lst ys))) t' else .bad) (aftS P F D) := h
        split at h
        · rename_i hb
          exact ⟨F', r, t', y, ys, R', rv, of_decide_eq_true (Bool.and_eq_true_iff.mp hb).2, fun F2 σ2 H2 s2 R2 => h F2 σ2 H2 (s.1.trans s2) R2⟩
        · exact h.elim
    | _ => exact (show False from h).elim⟩
/-! ### raise -/
theorem st_raise {n : Nat} {C : Addr} {cl : Nat → Addr} {x m : Str} {j : Nat} {p3 p4 : Pos} {bmB : List Value} {B newId initId : String} (hc : X.calm = true) (tk : Takes X fun c d _ H => EX cl P.XE c d H) (F : ExcBaseFacts B newId initId bmB)
    (q : PySem.W.excIn X.K (cl n) bmB newId = true) (gC : X.mg x = some (.ref (cl n))) (kC : PySem.W.keepIn X.K (.ref (cl n)) = true) (rC : Raises X (.ref (cl n))) (hg : Gl X x) (hdb : (x == ("__debug__" : Str)) = false) :
    PS X (.Raise (some (.Call (.Name x p1) [.Constant (.str m) j p2] [] p3)) none p4) (tS P fun _ t => .exc n t) :=
  psMono (ps_raise hc tk (pmk_own F q gC kC rC hg hdb)) fun D σ H ⟨F, r, t, R, h⟩ => ⟨n, rfl, rfl, h F H (Same.refl F) R.toRelH⟩
end
end Fm

/-! ### dicts with nested keys: the walk over the keys -/
namespace Fm
open PySem PySem.Spec PyProof.Rows L2
/-- the keys' own tuples -/
def Itkn (P : Program) (w : World) (d : Addr) (o : Obj) (xs : List (NestedKey × Addr × Value)) : It :=
  ⟨fun i H => H d = some (.frz o (DN P w d xs)) ∧ i < xs.length, fun i H x H' => H' = H ∧ ∃ e, xs[i]? = some e ∧ x = .ref e.2.1, fun i H => H d = some (.frz o (DN P w d xs)) ∧ xs.length ≤ i⟩
theorem frzN {X : Cx} {pins : List (Addr × Obj)} {σ : L2.St} {H : Hp} {s : Shared} {d : Addr} {o : Obj} {xs : List (NestedKey × Addr × Value)} (I : Inv X pins σ H s) (h : H d = some (.frz o (DN X.prog X.w d xs))) :
    s.heap.get? d = some o ∧ o.ExactDict ∧ ∃ (es : Array DictEntry) (ep : Nat), o.data = .dict es ep ∧ es.size = xs.length ∧
      ∀ (i : Nat) (x : NestedKey × Addr × Value), xs[i]? = some x → ∃ en : DictEntry, es[i]? = some en ∧ en.key = .ref x.2.1 := by
  obtain ⟨hd, ⟨o', es, ep, ho, hx, hdt, he, _⟩, _⟩ := I.hok d _ h
  rw [hd] at ho
  cases ho
  refine ⟨hd, hx, es, ep, hdt, size_of_entries he, fun i x e => ?_⟩
  have q := entry_at he i
  rw [e] at q
  exact ⟨_, q, rfl⟩
theorem turn_keysN {P : Program} {w : World} {K : PySem.W.Frag} {tg : Expr} {d : Addr} {o : Obj} {es : Array DictEntry} {ep : Nat} {xs : List (NestedKey × Addr × Value)} (it : Addr) (hod : o.data = .dict es ep) : Turn P w K tg (Itkn P w d o xs) [it] it (fun i h => h.IsKeyIter it d i xs.length ep) := by
  -- what does not look at the keys is the walk's over any dict of that length
  have plain : Turn P w K tg (Itk d o (xs.map fun _ => ((Sum.inl 0 : L2.Key), V.int 0))) [it] it (fun i h => h.IsKeyIter it d i xs.length ep) := by simpa using turn_keys (P := P) (w := w) (K := K) (tg := tg) (kvs := xs.map fun _ => ((Sum.inl 0 : L2.Key), V.int 0)) it hod
  -- the dict as the walk meets it
  have seen : ∀ {X : Cx} {pins σ H s}, X.prog = P → X.w = w → Inv X pins σ H s → H d = some (.frz o (DN P w d xs)) → s.heap.get? d = some o ∧ es.size = xs.length ∧ ∀ (i : Nat) x, xs[i]? = some x → ∃ en : DictEntry, es[i]? = some en ∧ en.key = .ref x.2.1 := by
    rintro X pins σ H s rfl rfl I hd
    obtain ⟨at_, _, es2, ep2, data, size, keys⟩ := frzN I hd
    obtain ⟨rfl, _⟩ := dict_ep hod data
    exact ⟨at_, size, keys⟩
  refine ⟨plain.mem, plain.obj, plain.keep, ?_, ?_, plain.self⟩
  · intro X hP hw hK hc i pins s σ H E I foot st ⟨hd, lt⟩
    obtain ⟨at_, size, keys⟩ := seen hP hw I hd
    obtain ⟨en, hen, key⟩ := keys i xs[i] (List.getElem?_eq_getElem lt)
    obtain ⟨k0, k1, _, k3, k4, k5⟩ := foot it List.mem_cons_self
    refine next_key_item st at_ hod size hen fun h2 st2 same => ⟨en.key, rfl, ?_⟩
    have ⟨_, e, c, dd⟩ := st2
    have I2 := I.turned (h' := h2) (t' := s.toks) (fun b _ hb => (same.2 b hb).trans) k0 k1 k3 k4 k5
    exact go_of (s := { s with heap := h2 }) e c dd (by decide) ⟨.ref xs[i].2.1, H, I2, key, ⟨rfl, _, List.getElem?_eq_getElem lt, rfl⟩, st2, fun b hb => (foot b hb).1⟩
  · intro X hP hw hK hc i pins s σ H E I foot st ⟨hd, ge⟩
    obtain ⟨at_, size, _⟩ := seen hP hw I hd
    obtain ⟨k0, k1, _, k3, k4, k5⟩ := foot it List.mem_cons_self
    exact next_key_end (I.ok.hd hc) st at_ hod size ge fun h2 same => ⟨rfl, I.turned (t' := s.toks) same k0 k1 k3 k4 k5⟩
def iKeysX (X : Cx) (td : TE) : TI := fun σ H R => td σ H fun x H1 => ∃ d o, x = .ref d ∧ ((∃ kvs, H1 d = some (.frz o (.dK kvs)) ∧ R (Itk d o kvs) H1) ∨ ∃ xs, (d == sysModules) = false ∧ H1 d = some (.frz o (DN X.prog X.w d xs)) ∧ R (Itkn X.prog X.w d o xs) H1)
theorem pi_keysX {X : Cx} {tg e : Expr} {td : TE} (he : PE X e td) : PI X tg e (iKeysX X td) := by
  constructor
  intro pins s σ H R I h
  have run := he.run pins s σ H _ I h
  refine thn run fun u s1 ⟨_, H1, I1, rel, d, o, ev, q⟩ => ?_
  subst ev
  cases (show u = .ref d from rel)
  rcases q with ⟨kvs, hd, q⟩ | ⟨xs, notSys, hd, q⟩
  · have ⟨notSys, at_, exact_, _, _, _, data, size, _⟩ := I1.frzK hd
    exact iter_keys notSys at_ exact_ data (pi_one (tk := s1.toks) I1 _ (turn_keys _ data) ⟨_, Heap.get?_push_size _ rfl, rfl, by rw [size] <;> rfl⟩ q)
  · have ⟨at_, exact_, _, _, data, size, _⟩ := frzN I1 hd
    exact iter_keys notSys at_ exact_ data (pi_one (tk := s1.toks) I1 _ (turn_keysN _ data) ⟨_, Heap.get?_push_size _ rfl, rfl, by rw [size] <;> rfl⟩ q)
theorem RpN.getK {K : PySem.W.Frag} {T : Tn} {F : Hp} : ∀ {xs : List (NestedKey × Addr × Value)} {es : List (NestedKey × D)}, RpN K T F xs es → ∀ (i : Nat) (x : NestedKey × Addr × Value) (d : D), xs[i]? = some x → (es.map fun p => kdN p.1)[i]? = some d → Rp K T F (.ref x.2.1) d
  | _, _, .nil, i, x, d, h, _ => by cases i <;> cases h
  | _, _, .cons h1 h2 h3 h4 h5, 0, x, d, h, h' => by
    cases h
    cases h'
    exact h1
  | _, _, .cons h1 h2 h3 h4 h5, i + 1, x, d, h, h' => h5.getK i x d h h'
end Fm

/-! ### dict(x) of a tuple or list of pairs whose keys are nested tuples; {} -/
namespace Fm
open PySem PySem.Spec PyProof.Rows L2 PySem.W
section
variable {X : Cx} {pins : List (Addr × Obj)} {σ : L2.St} {H : Hp} {s : Shared}
def tDNewN (X : Cx) : TE := fun _ H Q => ∀ p, H p = none → (p == sysModules) = false → Q (.ref p) (upd H p (DN X.prog X.w p []))
theorem pe_dnewN {pos : Pos} : PE X (.Dict [] [] pos) (tDNewN X) := ⟨fun pins s σ H Q I h =>
  wpAny_Dict_empty ⟨.ref s.heap.objs.size, _, I.laid (a := s.heap.objs.size) (o := DN X.prog X.w s.heap.objs.size []) (t' := s.toks) (fun _ _ q => Heap.get?_push_of_some _ q) (Nat.le_refl _) (dn_ok (Heap.DictOfH.new s.heap)), rfl, h _ (I.hok.fresh (Nat.le_refl _)) (beq_eq_false_iff_ne.mpr (Nat.ne_of_gt I.big))⟩⟩
abbrev PairK (X : Cx) (H : Hp) : List Addr → List (NestedKey × Addr × V) → Prop := Paired fun t p => SqT X.K H t [.ref p.2.1, p.2.2] ∧ NK X H p.2.1 p.1
abbrev PairU : List (NestedKey × Addr × V) → List (NestedKey × Addr × Value) → Prop := Paired fun p u => p.1 = u.1 ∧ p.2.1 = u.2.1 ∧ RelV p.2.2 u.2.2
theorem pairsN_of (I : Inv X pins σ H s) : ∀ {ts : List Addr} {ps : List (NestedKey × Addr × V)}, PairK X H ts ps →
    ∃ us : List (NestedKey × Addr × Value), PairU ps us ∧ us.length = ts.length ∧ ∀ (j : Nat) (q : NestedKey × Addr × Value), us[j]? = some q → ∃ t, ts[j]? = some t ∧ IsTup s.heap t #[.ref q.2.1, q.2.2] ∧ NestedIs s.heap q.1 (.ref q.2.1) ∧ q.1.depth ≤ 8
  | _, _, .nil => ⟨[], .nil, rfl, fun j q e => by simp at e⟩
  | _, _, .cons (a := t) (b := p) h r => by
    obtain ⟨us, q1, q2, q3⟩ := pairsN_of I r
    obtain ⟨its, rv, ht, _⟩ := I.tuple h.1
    obtain ⟨u, y, ei, ru, ry⟩ := vals2 rv
    subst ei
    cases (show u = Value.ref p.2.1 from ru)
    refine ⟨(p.1, p.2.1, y) :: us, .cons ⟨rfl, rfl, ry⟩ q1, by rw [List.length_cons, List.length_cons, q2], fun j q e => ?_⟩
    cases j with
    | zero =>
      cases (show (p.1, p.2.1, y) = q from Option.some.inj e)
      exact ⟨t, rfl, ht, h.2 _ _ _ I⟩
    | succ j => exact q3 j q (by simpa using e)
theorem plainT (I : Inv X pins σ H s) {a : Addr} {xs : List V} (h : SqT X.K H a xs) (n : NoD X.K H a) : ∃ its : List Value, Vals xs its ∧ PlainSeq "tuple" s.heap a its.toArray ∧ xs.length ≤ sizeLine := by
  obtain ⟨its, r, ⟨o, ho, hc, m, hd⟩, z⟩ := I.tuple h
  refine ⟨its, r, ⟨o, m, ho, hc, ?_, hd⟩, z⟩
  rcases n with ⟨o', xs', h1, h2⟩ | ⟨o', h1, h2⟩
  · obtain ⟨h3, _⟩ := I.hok a _ h1
    rw [ho] at h3
    cases h3
    exact h2
  · have h3 := I.kIn a o' h1
    rw [ho] at h3
    cases h3
    exact h2
def rDictN (X : Cx) : List V → Hp → VK → Prop := fun xs H Q => ∃ (a : Addr) (ts : List Addr) (ps : List (NestedKey × Addr × V)), xs = [.ref a] ∧ ((SqT X.K H a (ts.map V.ref) ∧ NoD X.K H a) ∨ SqL X.K H a (ts.map V.ref)) ∧ PairK X H ts ps ∧
  ∀ q us, PairU ps us → H q = none → (q == sysModules) = false → Q (.ref q) (upd H q (DN X.prog X.w q (storedAllH [] us)))
theorem call_dictN (hc : X.calm = true) (hu : X.A.units + 200 < cLine) : CallR X (.type "dict") (rDictN X) := by
  intro pins s σ H xs vs Q I r h
  obtain ⟨a, ts, ps, ex, hq, hp, q⟩ := h
  subst ex
  obtain ⟨u, eu, rx⟩ := vals1 r
  subst eu
  cases rx
  obtain ⟨us, r1, r2, r3⟩ := pairsN_of I hp
  have items : ∀ (j : Nat) (k v : Value), (us.map fun q => (Value.ref q.2.1, q.2.2))[j]? = some (k, v) → (ts.map Value.ref).toArray[j]? = some (.ref ((ts[j]?).getD 0)) ∧ PairAt s.heap ((ts[j]?).getD 0) k v := fun j k v e => by
    rw [List.getElem?_map] at e
    obtain ⟨q, e1, e2⟩ := Option.map_eq_some_iff.mp e
    cases e2
    obtain ⟨t, h1, h2, _⟩ := r3 j q e1
    rw [h1]
    exact ⟨by simp [h1], .inl h2⟩
  have pit : PairItems s.heap (ts.map Value.ref).toArray (fun j => (ts[j]?).getD 0) (us.map fun q => (Value.ref q.2.1, q.2.2)) := ⟨by simp [r2], items⟩
  have hav : PairsHaveH (nestedKind X.prog X.w) (us.map fun q => (Value.ref q.2.1, q.2.2)).length (PairRel (us.map fun q => (Value.ref q.2.1, q.2.2))) us := by
    refine ⟨by simp, fun i key v e => ?_⟩
    have e : (us.map fun q => (Value.ref q.2.1, q.2.2))[i]? = some (key, v) := e
    rw [List.getElem?_map] at e
    obtain ⟨q, e1, e2⟩ := Option.map_eq_some_iff.mp e
    cases e2
    exact ⟨q.1, q.2.1, e1, rfl⟩
  have stay : KeysStay (nestedKind X.prog X.w) s.heap s.heap.objs.size [] us := fun h' hk x hx => by
    obtain ⟨j, hj⟩ := List.getElem?_of_mem hx
    obtain ⟨t, _, _, h3⟩ := r3 j x hj
    exact nestedKind_stays.all h' (fun b o _ e => hk b o (Nat.ne_of_lt (Heap.lt_size e)) (by simp) e) _ _ h3
  have fin : ∀ h' tk, h'.DictOfH (nestedKind X.prog X.w) s.heap.objs.size (storedAllH [] us) → (∀ b o, b ∉ ([] : List Addr) → s.heap.get? b = some o → h'.get? b = some o) → EP X pins σ Q (.ref s.heap.objs.size) { s with heap := h', toks := tk } := fun h' tk hd hk => by
    exact ⟨.ref s.heap.objs.size, _, I.laid (t' := tk) (fun b o e => hk b o (by simp) e) (Nat.le_refl _) (dn_ok hd), rfl, q _ us r1 (I.hok.fresh (Nat.le_refl _)) (beq_eq_false_iff_ne.mpr (Nat.ne_of_gt I.big))⟩
  have room : (nestedKind X.prog X.w).room X.A.in1.in1 := show X.A.in1.in1.units + 8 < cLine from Nat.lt_of_le_of_lt (by show X.A.units + 1 + 1 + 8 ≤ X.A.units + 200; omega) hu
  rcases hq with ⟨hq, hn⟩ | hq
  · obtain ⟨its, rv, pl, hz⟩ := plainT I hq hn
    have ei := refs_at rv
    subst ei
    exact call_dict_pairsH (PairArg.tuple a _ (fun j => (ts[j]?).getD 0) (us.map fun q => (Value.ref q.2.1, q.2.2))) (I.ok.hd hc) room ⟨pl, pit⟩ hav stay (by rw [List.length_map] at hz ⊢; omega) fin
  · obtain ⟨its, rv, pl, hz⟩ := I.list hq
    have ei := refs_at rv
    subst ei
    obtain ⟨o, n, ho, hc', hd, hdat⟩ := pl
    exact call_dict_pairsH (PairArg.list a _ (fun j => (ts[j]?).getD 0) (us.map fun q => (Value.ref q.2.1, q.2.2))) (I.ok.hd hc) room ⟨⟨o, n, ho, hc', hd, hdat⟩, pit⟩ hav stay (by rw [List.length_map] at hz ⊢; omega) fin
end
section
variable {P : Pm} {X : Cx} {a : Expr} {pos p1 : Pos} {fa : Rho → Tw → Res D}
theorem n_dn0 (hpw : P.T.pg = X.prog ∧ P.T.wo = X.w) : PE X (.Dict [] [] pos) (tN P fun _ t => .ok (.dcn []) t) := by
  refine peMono pe_dnewN fun σ H Q ⟨F, r, t, R, q⟩ p hp hs => ?_
  have q : ∀ v F' H' p, Kp P.T F H F' H' → RelP P F' r t σ H' → Nn H p → Fre P F' r σ H' v (.dcn []) p → Q v H' := q
  obtain ⟨R2, k2, fr⟩ := mkNew (o := DN P.T.pg P.T.wo p []) (d := .dcn []) R hp ⟨[], upd_same, ⟨hs, .nil⟩, Nat.zero_le _, .nil⟩
  rw [← hpw.1, ← hpw.2]
  exact q _ _ _ p k2 R2 (.of hp) fr
theorem prs_rel {F H : Hp} (hK : X.K = P.K) (sub : Same F H) : ∀ {vs : List V} {ds : List D} {ps : List (NestedKey × D)}, RpL P.K P.T F vs ds → prsN ds = some ps →
    ∃ ts kvs, vs = ts.map V.ref ∧ PairK X H ts kvs ∧ Paired (fun (kv : NestedKey × Addr × V) (p : NestedKey × D) => kv.1 = p.1 ∧ p.1.depth ≤ 8 ∧ Rp P.K P.T F (.ref kv.2.1) (kdN p.1) ∧ Rp P.K P.T F kv.2.2 p.2) kvs ps
  | _, _, _, .nil, h => by
    cases h
    exact ⟨[], [], rfl, .nil, .nil⟩
  | _, _, ps, @RpL.cons _ _ _ v vs d ds h1 h2, h => by
    unfold prsN at h
    split at h
    · rename_i z; cases z
    · rename_i k w r z
      cases z
      obtain ⟨k', e1, h⟩ := Option.bind_eq_some_iff.mp h
      obtain ⟨ps', e2, rfl⟩ := Option.map_eq_some_iff.mp h
      obtain ⟨ts, kvs, rfl, q1, q2⟩ := prs_rel hK sub h2 e2
      obtain ⟨e3, e4⟩ := keyT_kd e1
      obtain ⟨xs, rfl⟩ := keyT_tup e1
      cases h1 with
      | @tup t us _ g1 g2 g3 =>
        cases g3 with
        | @cons u1 _ _ _ g4 g5 =>
          cases g5 with
          | @cons u2 _ _ _ g6 g7 =>
            cases g7
            have g4' := g4
            rw [← e3] at g4'
            cases g4 with
            | @tup b _ _ g8 g9 g10 =>
              exact ⟨t :: ts, (k', b, u2) :: kvs, rfl, .cons ⟨by rw [hK]; exact sqP_t sub g1, fun _ _ _ I => ⟨nis I hK sub k' _ _ g4' rfl, e4⟩⟩ q1, .cons ⟨rfl, e4, g4', g6⟩ q2⟩
    · cases h
theorem puts_rel {K : PySem.W.Frag} {T : Tn} {F : Hp} : ∀ {kvs : List (NestedKey × Addr × V)} {ps : List (NestedKey × D)} {us xs : List (NestedKey × Addr × Value)} {es : List (NestedKey × D)},
    Paired (fun (kv : NestedKey × Addr × V) (p : NestedKey × D) => kv.1 = p.1 ∧ p.1.depth ≤ 8 ∧ Rp K T F (.ref kv.2.1) (kdN p.1) ∧ Rp K T F kv.2.2 p.2) kvs ps → PairU kvs us → RpN K T F xs es → (xs.map (·.1)).Nodup →
    RpN K T F (storedAllH xs us) (putsN es ps) ∧ ((storedAllH xs us).map (·.1)).Nodup ∧ (storedAllH xs us).length ≤ xs.length + ps.length
  | _, _, _, xs, es, .nil, .nil, q, n => ⟨q, n, Nat.le_refl _⟩
  | _, _, _, xs, es, .cons (a := kv) (b := p) h1 h2, .cons (b := u) g1 g2, q, n => by
    obtain ⟨a1, a2, a3, a4⟩ := h1
    obtain ⟨b1, b2, b3⟩ := g1
    rw [a1] at b1
    rw [b2] at a3
    have q' := q.put (k := p.1) (b := u.2.1) a3 a2 b3 a4
    have n' := storedH_nodup xs p.1 u.2.1 u.2.2 n
    obtain ⟨c1, c2, c3⟩ := puts_rel h2 g2 q' n'
    have l := storedH_len xs p.1 u.2.1 u.2.2
    have e : ∀ l, storedAllH xs (u :: l) = storedAllH (storedH xs p.1 u.2.1 u.2.2) l := fun l => by
      unfold storedAllH
      rw [List.foldl_cons, ← b1]
    rw [e]
    exact ⟨c1, c2, by rw [List.length_cons]; omega⟩
theorem cn_dictN (hK : X.K = P.K) (hpw : P.T.pg = X.prog ∧ P.T.wo = X.w) (hc : X.calm = true) (hu : X.A.units + 200 < cLine) : CallN P X (.type "dict") (blt1 .dictN) := by
  refine ⟨_, call_dictN hc hu, fun {x dx d F r t σ H Q} e R rx q => ?_⟩
  have fin : ∀ {vs : List V} {ds : List D} {a : Addr} {ps : List (NestedKey × D)}, prsN ds = some ps → d = .dcn (putsN [] ps) → RpL P.K P.T F vs ds → vs.length ≤ sizeLine → ((SqT X.K H a vs ∧ NoD X.K H a) ∨ SqL X.K H a vs) → rDictN X [.ref a] H Q := fun {vs ds a ps} e1 e2 h1 hz h2 => by
    obtain ⟨ts, kvs, rfl, q1, q2⟩ := prs_rel hK R.sub h1 e1
    refine ⟨a, ts, kvs, rfl, h2, q1, fun p us hus hp hs => ?_⟩
    obtain ⟨c1, c2, c3⟩ := puts_rel q2 hus (xs := []) (es := []) .nil .nil
    subst e2
    have hl : (storedAllH [] us).length ≤ sizeLine := by
      have l1 : ts.length = kvs.length := Paired.length q1
      have l2 : kvs.length = ps.length := Paired.length q2
      rw [List.length_map] at hz
      simp at c3
      omega
    obtain ⟨R2, k2, fr⟩ := mkNew (o := DN P.T.pg P.T.wo p (storedAllH [] us)) (d := .dcn (putsN [] ps)) R hp ⟨_, upd_same, ⟨hs, c2⟩, hl, c1⟩
    rw [← hpw.1, ← hpw.2]
    exact q _ _ _ p k2 R2 (.of hp) fr
  cases dx with
  | lst ds =>
    obtain ⟨ps, e1, e2⟩ := Option.map_eq_some_iff.mp (show (prsN ds).map (fun ps => D.dcn (putsN [] ps)) = some d from e)
    obtain ⟨p1, v1, rfl, g2, z1, g1⟩ := rx.lst R
    exact fin e1 e2.symm g1 z1 (.inr (SqL.of g2))
  | tup ds =>
    obtain ⟨ps, e1, e2⟩ := Option.map_eq_some_iff.mp (show (prsN ds).map (fun ps => D.dcn (putsN [] ps)) = some d from e)
    obtain ⟨p1, v1, rfl, g2, z1, g1⟩ := rx.tup R
    exact fin e1 e2.symm g1 z1 (.inl ⟨by rw [hK]; exact sqP_t R.sub g2, by rw [hK]; exact noD_mono R.sub g2.2⟩)
  | _ => cases e
end
end Fm

/-! ### sorted(x, key=lambda y: e) -/
namespace Fm
open PySem PySem.Spec PyProof.Rows L2
/-- a lambda of one parameter, without captured names, is called -/
theorem lam1_call {CX : CXT} {P : Program} {w : World} {K : PySem.W.Frag} {mg : Str → Option Value} {base : Heap} {k : Nat} {f c' : Addr} {qual x : Str} {params : Arguments} {body : Expr} {scope : Scope} {pm ctv : Value} {N : List Str}
    {A : Around} {outer : List Env} {s : Shared} {H : Hp} {u : Value} {v : V} {Q : VK} {E : XK} {tb : TE}
    (hf : s.heap.get? f = some (PySem.W.kla_obj "<lambda>" qual params body scope [] pm c' ctv)) (hc : H c' = some (LamX.CodeO c' qual)) (S : FnScope N [x] scope) (hr : Room (k + 1) A) (e0 : Env0 P w K mg base A outer s H)
    (hbind : bindArgs (PySem.W.kla_fn "<lambda>" qual params body scope [] pm (.ref c') ctv) ⟨[u], []⟩ = pure [(x, u)]) (rv : RelV v u)
    (hbody : Room k (A.deeper (envOfC qual scope s.heap.objs.size f (.ref c'))) → PE (cxOf CX P w K mg base N qual scope f (.ref c') A outer s H E) body tb) (h : tb (L2.start N [v]) H Q) :
    codeAny (model P w) A (.call (.ref f) ⟨[u], []⟩) (CR CX outer P w H s Q E) s := by
  have lim : s.heap.NoLimit := e0.mod.nolimit.keeps fun b o e => (e0.bs b o e).1
  have hkind : ∀ y ∈ [(x, u)], scope.names.lookup y.1 = some .local ∨ (scope.names.lookup y.1 = some .cell ∧ ((cellsFrom (s.heap.objs.size + 1) scope.names []).lookup y.1).isSome = true) := fun y hy => by
    obtain rfl := List.mem_singleton.mp hy
    rcases S.par x (by simp) with q | q
    · exact .inl q
    · exact .inr ⟨q, PySem.W.cellsFrom_some _ _ _ (.inl q)⟩
  obtain ⟨⟨oc, vs, t, hoc, hdc, hvc⟩, _, _⟩ := e0.hok c' _ hc
  refine PySem.W.kla_callFunE hr.depth hf rfl S.co S.gen rfl ⟨c', oc, vs, t, rfl, hoc, hdc, hvc⟩ ?_
  rw [hbind]
  refine wpAny_pure (wpAny_newFunctionEnv_cells S.kind hkind fun env he s1 x => ?_)
  subst he
  refine ⟨lim.keeps x.toInCall.keep, ?_⟩
  have I : Inv (cxOf CX P w K mg base N qual scope f (.ref c') A outer s H E) [] (L2.start N [v]) H s1 := inv_start S hr.hd e0 rfl (.cons rv .nil) x
  refine PySem.W.kla_codeExpr (wpAny_mono ((hbody (hr.deeper _)).run [] s1 _ H Q I h) (fun v s' hq => ?_) fun e s' hq => hq)
  obtain ⟨w', H', J', rv, q⟩ := hq
  exact ⟨w', H', J'.os, J'.bare, J'.base, J'.hok, rv, q⟩
theorem Room.in2 {k : Nat} {A : Around} (r : Room (k + 1) A) : Room k A.in1.in1 :=
  ⟨r.hd, by have := r.dp; show A.depth + 3 * k + 5 < _; omega, by have := r.un; show A.units + 1 + 1 + 16 * k + 200 < _; omega⟩
section
variable {X : Cx} {pins : List (Addr × Obj)} {σ : L2.St} {H : Hp} {s : Shared}
/-- an object of ours, that was not tracked, is told as a list; another one has turned -/
theorem inv_told {a b : Addr} {h' : Heap} {t' : Nat} {ys : List V} {out : List Value} {n : Nat} (I : Inv X pins σ H s) (k : ∀ c o, c ≠ a → c ≠ b → s.heap.get? c = some o → h'.get? c = some o) (ha : H a = none) (hb : H b = none)
    (hch : ∀ c, c = a ∨ c = b → (c ∈ X.ex ∨ X.s_0.heap.objs.size ≤ c) ∧ c ≠ X.env.locals ∧ (∀ x e, X.env.cells.lookup x = some e → e ≠ c) ∧ ∀ p ∈ X.pn ++ pins, p.1 ≠ c)
    (ht : ys.length ≤ sizeLine) (hv : Vals ys out) (ho : h'.get? a = some { cls := .type "list", data := .seq out.toArray n }) :
    Inv X pins σ (upd H a (.lst ys)) { s with heap := h', toks := t' } := by
  have ne : ∀ c u, H c = some u → c ≠ a ∧ c ≠ b := fun c u e => ⟨fun z => (by rw [z, ha] at e; cases e), fun z => (by rw [z, hb] at e; cases e)⟩
  have nc : ∀ c, c ∉ [a, b] → c ≠ a ∧ c ≠ b := fun c h => ⟨fun z => h (by simp [z]), fun z => h (by simp [z])⟩
  refine I.step (g' := s.gens) (d' := s.drawn) (ch := [a, b]) (fun c hc => hch c (by simpa using hc)) (fun c o _ _ hc e _ => k c o (nc c hc).1 (nc c hc).2 e) (fun c o _ _ hc e _ => ⟨o.slots, k c o (nc c hc).1 (nc c hc).2 e⟩)
    (fun c o hc e n => by rw [upd_ne (nc c hc).1]; exact n) (fun c o hc e => ⟨o, k c o (nc c hc).1 (nc c hc).2 e⟩) (fun c xs e => by rw [upd_ne (ne c _ e).1]; exact e) (fun c o u e => by rw [upd_ne (ne c _ e).1]; exact e) (fun c ps e => ⟨#[], by rw [upd_ne (ne c _ e).1, e]; simp⟩) (fun m hm => ?_) (fun c u e => ?_) I.bare
  · obtain ⟨o, es, ep, ho, r⟩ := hm
    exact ⟨o, es, ep, k _ o (Ne.symm (hch a (.inl rfl)).2.1) (Ne.symm (hch b (.inr rfl)).2.1) ho, r⟩
  · by_cases hc : c = a
    · subst hc
      rw [upd_same] at e
      cases e
      exact ⟨ht, out, n, hv, ho⟩
    · rw [upd_ne hc] at e
      refine (I.hok c u e).stay (fun d v hd q => ?_) (fun d q => by rw [upd_ne (ne d _ q).1]; exact q) fun d xs q => by rw [upd_ne (ne d _ q).1]; exact q
      rcases hd with z | z
      · rw [z] at q ⊢
        exact k c v (ne c u e).1 (ne c u e).2 q
      · exact k d v (ne d _ z).1 (ne d _ z).2 q
theorem vals_each : ∀ {ys : List V} {out : List Value}, PySem.W.EachIs (fun u (y : V) => RelV y u) out ys → Vals ys out
  | _, _, .nil => .nil
  | _, _, .cons h r => .cons h (vals_each r)
theorem each_vals : ∀ {ys : List V} {out : List Value}, Vals ys out → PySem.W.EachIs (fun u (y : V) => RelV y u) out ys
  | _, _, .nil => .nil
  | _, _, .cons h r => .cons h (each_vals r)
theorem sortK_run {a f c' : Addr} {xs : List V} {params : Arguments} {body : Expr} {scope : Scope} {pm ctv : Value} {x : Str} {N : List Str} {k : Nat} {tb : TE} {Q : VK}
    (I : Inv X pins σ H s) (hs : SqL X.K H a xs) (hf : s.heap.get? f = some (PySem.W.kla_obj "<lambda>" (X.env.qual ++ "<lambda>") params body scope [] pm c' ctv)) (hfn : H f = none) (hfl : f ≠ X.env.locals) (hfs : f ∉ X.fs)
    (S : FnScope N [x] scope) (hr : Room (k + 2) X.A) (hbind : ∀ u, bindArgs (PySem.W.kla_fn "<lambda>" (X.env.qual ++ "<lambda>") params body scope [] pm (.ref c') ctv) ⟨[u], []⟩ = pure [(x, u)])
    (hbody : ∀ (A : Around) (outer : List Env) (s : Shared) (H : Hp), Room k (A.deeper (envOfC (X.env.qual ++ "<lambda>") scope s.heap.objs.size f (.ref c'))) → PE (cxOf (L2.CX X.prog X.w) X.prog X.w X.K X.mg X.base N (X.env.qual ++ "<lambda>") scope f (.ref c') A outer s H fun _ _ _ => False) body tb)
    (J : Nat → List V → Hp → Prop) (j0 : J 0 [] H) (jc : ∀ i ks H', J i ks H' → H' c' = some (LamX.CodeO c' (X.env.qual ++ "<lambda>")))
    (jt : ∀ i v ks H', xs[i]? = some v → J i ks H' → tb (L2.start N [v]) H' fun kv H'' => J (i + 1) (ks ++ [kv]) H'')
    (jn : ∀ ks H', J xs.length ks H' → ∃ kz : List PyData, kz.length = xs.length ∧ DpAll X.K H' ks kz ∧ PySem.W.AllAlike kz ∧ PySem.W.Sortable kz ∧ (∀ d ∈ kz, X.A.in1.in1.units + d.depth < cLine) ∧ ∀ p, H' p = none → Q (.ref p) (upd H' p (.lst (((xs.zip kz).mergeSort (PySem.W.dataLe false Prod.snd)).map Prod.fst)))) :
    wpAny (model X.prog X.w) X.A (call (.builtin "sorted") [.ref a] [(Str.ofString "key", .ref f)]) (EP X pins σ Q) X.xe s := by
  obtain ⟨its, rv, hl, hz⟩ := I.list hs
  have hlen : its.length = xs.length := rv.length.symm
  refine PySem.W.sorted_of_sort hl.isList (by rw [hlen]; exact hz) (PyProof.Rows.ksk_s1 _ _) (fun _ => PyProof.Rows.ksk_l1 _ _) fun E' => ?_
  rw [PyProof.Rows.ksk_t1]
  have oD := PySem.W.copyHeap_at s.heap its
  have kC : ∀ b o, s.heap.get? b = some o → (PySem.W.copyHeap s.heap its).get? b = some o := fun b o e => PySem.W.copyHeap_old e
  have lC : s.heap.objs.size + 1 < (PySem.W.copyHeap s.heap its).objs.size := Heap.lt_size oD
  obtain ⟨D, hD⟩ : ∃ D, D = s.heap.objs.size + 1 := ⟨_, rfl⟩
  rw [← hD] at oD lC ⊢
  generalize PySem.W.copyHeap s.heap its = hc at oD kC lC ⊢
  unfold PyProof.Rows.ksk_tree
  refine wpAny_bind (listItems_at oD rfl ?_)
  refine wpAny_bind (listUpdate_at oD rfl ?_ (by rw [List.size_toArray, hlen]; exact hz) (Nat.zero_le _))
  obtain ⟨e1, o1⟩ : ∃ e1, (hc.update D (Obj.mapSeq fun _ => (#[] : Array Value))).get? D = some (seqObj "list" #[] e1) := ⟨_, get?_update_seq oD fun _ => #[]⟩
  have k1 : ∀ b o, s.heap.get? b = some o → (hc.update D (Obj.mapSeq fun _ => (#[] : Array Value))).get? b = some o := fun b o e => by
    rw [Heap.get?_update_ne _ _ _ _ (Nat.ne_of_lt (by rw [hD]; exact Nat.lt_succ_of_lt (Heap.lt_size e)))]
    exact kC b o e
  have l1 : D < (hc.update D (Obj.mapSeq fun _ => (#[] : Array Value))).objs.size := by rw [Heap.size_update]; exact lC
  refine wpAny_bind (seqEpoch_at o1 rfl ?_)
  generalize hc.update D (Obj.mapSeq fun _ => (#[] : Array Value)) = h1 at o1 k1 l1 ⊢
  refine wpAny_bind (wpAny_newTuple ?_ (by show its.length ≤ _; rw [hlen]; exact hz))
  refine wpAny_bind (wpAny_newList ?_ (Nat.zero_le _))
  refine wpAny_holding ?_
  have l2 : (h1.push (seqObj "tuple" its.toArray 0)).objs.size = h1.objs.size + 1 := size_push' ..
  have k2 : ∀ b o, s.heap.get? b = some o → ((h1.push (seqObj "tuple" its.toArray 0)).push (seqObj "list" #[] 0)).get? b = some o := fun b o e => Heap.get?_push_of_some _ (Heap.get?_push_of_some _ (k1 b o e))
  have o2 : ((h1.push (seqObj "tuple" its.toArray 0)).push (seqObj "list" #[] 0)).get? D = some (seqObj "list" #[] e1) := Heap.get?_push_of_some _ (Heap.get?_push_of_some _ o1)
  have nk : ((h1.push (seqObj "tuple" its.toArray 0)).push (seqObj "list" #[] 0)).get? (h1.push (seqObj "tuple" its.toArray 0)).objs.size = some (seqObj "list" #[] 0) := Heap.get?_push_size _ rfl
  show wpAny _ _ (PyProof.Rows.ksk_rest D (.ref f) false its.toArray e1 (.ref (h1.push (seqObj "tuple" its.toArray 0)).objs.size)) _ _ { s with heap := (h1.push (seqObj "tuple" its.toArray 0)).push (seqObj "list" #[] 0) }
  obtain ⟨kS, hkS⟩ : ∃ kS, kS = (h1.push (seqObj "tuple" its.toArray 0)).objs.size := ⟨_, rfl⟩
  rw [← hkS] at nk ⊢
  have hkD : kS ≠ D := by rw [hkS, l2]; omega
  have gD : s.heap.objs.size ≤ D := by omega
  have gk : s.heap.objs.size ≤ kS := by rw [hkS, l2]; omega
  generalize (h1.push (seqObj "tuple" its.toArray 0)).push (seqObj "list" #[] 0) = h2 at k2 o2 nk ⊢
  have nlt : ∀ d : Nat, d < s.heap.objs.size → ∀ c : Nat, s.heap.objs.size ≤ c → d ≠ c := fun d h1 c h2 z => Nat.lt_irrefl _ (Nat.lt_of_lt_of_le (z ▸ h1) h2)
  have nw : ∀ c, s.heap.objs.size ≤ c → c ≠ X.env.locals ∧ c ∉ X.fs ∧ (c ∈ X.ex ∨ X.s_0.heap.objs.size ≤ c) ∧ (∀ x e, X.env.cells.lookup x = some e → e ≠ c) ∧ (∀ p ∈ X.pn ++ pins, p.1 ≠ c) ∧ c ≠ f := fun c hc => by
    refine ⟨fun z => ?_, I.nofs hc, .inr (Nat.le_trans I.sz hc), fun x e he z => ?_, fun p hp z => ?_, fun z => ?_⟩
    · exact nlt _ I.lt c hc z.symm
    · obtain ⟨v, o, ho, _⟩ := I.cell x e he
      exact nlt _ (Heap.lt_size ho) c hc z
    · exact nlt _ (Heap.lt_size (I.pin p hp).1) c hc z
    · exact nlt _ (Heap.lt_size hf) c hc z.symm
  have hcl : ∀ v, (PySem.W.kla_obj "<lambda>" (X.env.qual ++ "<lambda>") params body scope [] pm c' ctv).data ≠ .cell v := fun v z => by cases z
  have hsq : ∀ (t : String) (y : Array Value) (n : Nat) v, (seqObj t y n).data ≠ .cell v := fun t y n v z => by cases z
  obtain ⟨fo, hfo⟩ : ∃ fo, fo = PySem.W.kla_obj "<lambda>" (X.env.qual ++ "<lambda>") params body scope [] pm c' ctv := ⟨_, rfl⟩
  rw [← hfo] at hf hcl
  have I2 : Inv X ((f, fo) :: pins) σ H { s with heap := h2 } := (I.kept (t' := s.toks) k2).pins_of fun p hp => by
    rcases List.mem_cons.mp hp with e | hp
    · rw [e]
      exact ⟨k2 _ _ hf, hfn, hfl, hfs, hcl⟩
    · exact (I.kept (t' := s.toks) k2).pin p (List.mem_append_right _ hp)
  unfold PyProof.Rows.ksk_rest
  refine wpAny_bind (wpAny_rule ?_)
  first
    | rw [List.forIn_toArray]
    | (rw [← Array.forIn_toList]; simp only [List.toList_toArray])
    | rw [← Array.forIn_toList]
  refine wpAny_bind (PyProof.Rows.ksk_fold (fun i s' => ∃ ks H' kA e, Inv X ((f, fo) :: pins) σ H' s' ∧ s'.heap.get? kS = some (seqObj "list" kA e) ∧ s'.heap.get? D = some (seqObj "list" #[] e1) ∧ H' kS = none ∧ H' D = none ∧ J i ks H' ∧ Vals ks kA.toList ∧ kA.size = i) its 0 _
    ⟨[], H, #[], 0, I2, nk, o2, I.hok.fresh gk, I.hok.fresh gD, j0, .nil, rfl⟩ ?step ?done)
  case step =>
    rintro j xv s' hx ⟨ks, H', kA, e, I', nk', na', nH, nD, hJ, rk, hA⟩
    simp only [Nat.zero_add] at hJ hA ⊢
    have hj : j < its.length := (List.getElem?_eq_some_iff.mp hx).1
    obtain ⟨v, hv⟩ : ∃ v, xs[j]? = some v := ⟨_, List.getElem?_eq_getElem (by omega)⟩
    obtain ⟨u', hu', ru⟩ := rv.get hv
    rw [hx] at hu'
    cases hu'
    obtain ⟨k1', k2', k3', k4', k5', k6'⟩ := nw kS gk
    obtain ⟨d1', d2', d3', d4', d5', d6'⟩ := nw D gD
    have I3 : Inv X ((kS, seqObj "list" kA e) :: (D, seqObj "list" #[] e1) :: (f, fo) :: pins) σ H' s' := I'.pins_of fun p hp => by
      rcases List.mem_cons.mp hp with z | hp
      · rw [z]
        exact ⟨nk', nH, k1', k2', hsq _ _ _⟩
      · rcases List.mem_cons.mp hp with z | hp
        · rw [z]
          exact ⟨na', nD, d1', d2', hsq _ _ _⟩
        · exact I'.pin p (List.mem_append_right _ hp)
    have hf' : s'.heap.get? f = some (PySem.W.kla_obj "<lambda>" (X.env.qual ++ "<lambda>") params body scope [] pm c' ctv) := by
      rw [← hfo]
      exact (I'.pin (f, fo) (List.mem_append_right _ (List.mem_cons_self ..))).1
    have e0 : Env0 X.prog X.w X.K X.mg X.base X.A.in1.in1 X.stack s' H' := by
      have e := I'.env0
      exact ⟨e.frames, e.mod, e.bs, e.bsz, e.funs, e.frf, e.hok, e.bare⟩
    have rc := lam1_call (CX := L2.CX X.prog X.w) (k := k) hf' (jc j ks H' hJ) S (Room.in2 hr) e0 (hbind xv) ru (fun hr' => hbody _ _ _ _ hr') (jt j v ks H' hv hJ)
    refine wpAny_bind (wpAny_attempt (wpAny_call (codeAny_mono rc fun r s2 hq => ?_)))
    cases r with
    | error e =>
      obtain ⟨_, _, _, _, _, _, _, _, _, _, _, _, z⟩ := (show L2.CX X.prog X.w _ _ _ _ _ _ from hq)
      exact z.elim
    | ok fl =>
      cases fl with
      | next => exact False.elim hq
      | brk => exact False.elim hq
      | cont => exact False.elim hq
      | ret u =>
        obtain ⟨kv, H2, I4, rkv, hJ2⟩ := I3.after hq
        obtain ⟨nk4, nH4, _, _, _⟩ := I4.pin (kS, seqObj "list" kA e) (List.mem_append_right _ (by simp))
        obtain ⟨na4, nD4, _, _, _⟩ := I4.pin (D, seqObj "list" #[] e1) (List.mem_append_right _ (by simp))
        have I5 : Inv X ((f, fo) :: pins) σ H2 s2 := I4.pins_of fun p hp => I4.pin p (List.mem_append_right _ (List.mem_cons_of_mem _ (List.mem_cons_of_mem _ hp)))
        have hz2 : kA.size ≤ sizeLine := by
          rw [hA]
          omega
        have s1 := Heap.SameBut.update s2.heap kS (Obj.mapSeq (·.push u))
        obtain ⟨c2, hc2⟩ : ∃ c2, (s2.heap.update kS (Obj.mapSeq (·.push u))).get? kS = some (seqObj "list" (kA.push u) c2) := ⟨_, get?_update_seq nk4 (·.push u)⟩
        try dsimp only
        refine wpAny_bind (listUpdate_at nk4 rfl ?_ hz2 (Nat.le_trans (Nat.le_of_eq (Array.size_push ..)) (Nat.succ_le_succ hz2)))
        refine wpAny_pure ⟨rfl, ks ++ [kv], H2, kA.push u, c2, ?_, hc2, (s1.2 D hkD.symm).trans na4, nH4, nD4, hJ2, ?_, ?_⟩
        · exact I5.turned (t' := s2.toks) (fun b o hb e => (s1.2 b hb).trans e) nH4 k1' k3' k4' fun p hp => by
            rcases List.mem_append.mp hp with hp | hp
            · exact k5' p (List.mem_append_left _ hp)
            · rcases List.mem_cons.mp hp with z | hp
              · rw [z]
                exact k6'.symm
              · exact k5' p (List.mem_append_right _ hp)
        · rw [Array.toList_push]
          exact rk.append (.cons rkv .nil)
        · rw [Array.size_push, hA]
  case done =>
    rintro s' ⟨ks, H', kA, e, I', nk', na', nH, nD, hJ, rk, hA⟩
    simp only [Nat.zero_add] at hJ hA
    rw [hlen] at hJ
    obtain ⟨kz, hkl, hdp, hal, hsk, hu, hQ⟩ := jn ks H' hJ
    obtain ⟨as, hra⟩ := Dp.readsAll I' kz ks kA.toList hdp rk
    have hk' : PySem.W.EachIs (fun v k => ∃ as, Reads s'.heap v k as) kA.toList kz := by
      have := PySem.W.readsAll_each id (by rw [List.map_id]; exact hra)
      exact this
    try dsimp only
    refine wpAny_bind (listItems_at nk' rfl ?_)
    obtain ⟨k1', k2', k3', k4', k5', k6'⟩ := nw kS gk
    obtain ⟨d1', d2', d3', d4', d5', d6'⟩ := nw D gD
    refine PySem.W.keyH_end (κ := PySem.W.dataKind s'.heap kz) (h₁ := PySem.W.hideAll s'.heap [kS]) (fun b o hb e => PySem.W.of_hideAll _ e) (PySem.W.hideAll_none _ (by simp)) nk' na' hkD (PySem.W.SortsAt.data hk' hal hsk hu) hA (by rw [hlen]; exact hz) fun h3 tk3 c k3 n3 => ⟨rfl, ?_⟩
    have hE : PySem.W.EachIs (fun u (b : V × PyData) => RelV b.1 u) its (xs.zip kz) := by
      clear hQ hdp hal hsk hu hra hk' n3 k3 hJ hs hl
      have aux : ∀ {xs : List V} {its : List Value} {kz : List PyData}, Vals xs its → kz.length = xs.length → PySem.W.EachIs (fun u (b : V × PyData) => RelV b.1 u) its (xs.zip kz) := by
        intro xs its kz r
        induction r generalizing kz with
        | nil => intro _; exact .nil
        | cons h r ih =>
          intro hl
          cases kz with
          | nil => cases hl
          | cons d ds => exact .cons h (ih (by simpa using hl))
      exact aux rv hkl
    have ez : (xs.zip kz).map Prod.snd = kz := List.map_snd_zip (by omega)
    have ko : PySem.W.KeyedOut false ((xs.zip kz).map Prod.snd) its (PySem.W.sortVals (PySem.W.dataKind s'.heap kz) false kA.toList its) := by
      rw [ez]
      exact ⟨s'.heap, kA.toList, hal, rfl, hk'⟩
    have hO := PySem.W.keyedOut_each Prod.snd ko hE
    generalize PySem.W.sortVals (PySem.W.dataKind s'.heap kz) false kA.toList its = out at n3 hO ko
    have hV : Vals (((xs.zip kz).mergeSort (PySem.W.dataLe false Prod.snd)).map Prod.fst) out := by
      generalize (xs.zip kz).mergeSort (PySem.W.dataLe false Prod.snd) = l at hO ⊢
      have aux : ∀ {out : List Value} {l : List (V × PyData)}, PySem.W.EachIs (fun u (b : V × PyData) => RelV b.1 u) out l → Vals (l.map Prod.fst) out := by
        intro out l r
        induction r with
        | nil => exact .nil
        | cons h r ih => exact .cons h ih
      exact aux hO
    have I5 : Inv X pins σ H' s' := I'.pins_of fun p hp => I'.pin p (List.mem_append_right _ (List.mem_cons_of_mem _ hp))
    refine ⟨.ref D, _, inv_told (a := D) (b := kS) (t' := tk3) I5 (fun b o hb hb2 e => k3 b o hb (PySem.W.hideAll_get _ e (by simpa using hb2))) nD nH (fun c hc => ?_) ?_ hV n3, rfl, hQ D nD⟩
    · rcases hc with rfl | rfl
      · exact ⟨d3', d1', d4', d5'⟩
      · exact ⟨k3', k1', k4', k5'⟩
    · rw [List.length_map, List.length_mergeSort, List.length_zip]
      omega
end
theorem clo_nil (cells : List (Str × Addr)) : ∀ {names : List (Str × NameKind)}, (∀ y ∈ names, y.2 ≠ .free) → L2.cloFrom cells names [] = []
  | [], _ => rfl
  | (n, k) :: r, h => by
    have hk : (k == .free) = false := by
      have := h (n, k) (by simp)
      cases k <;> first | rfl | exact absurd rfl this
    show (if k == .free then _ else L2.cloFrom cells r []) = []
    rw [hk]
    exact clo_nil cells fun y hy => h y (List.mem_cons_of_mem _ hy)
theorem bind1 {q x : Str} {an : Option Expr} {ap : Pos} {body : Expr} {scope : Scope} {cl : List (Str × Addr)} {pm cv ctv u : Value} :
    bindArgs (PySem.W.kla_fn "<lambda>" q { posonlyargs := [], args := [⟨x, an, ap⟩], vararg := none, kwonlyargs := [], kw_defaults := [], kwarg := none, defaults := [] } body scope cl pm cv ctv) ⟨[u], []⟩ = pure [(x, u)] := by
  simp [bindArgs, seqItems?, List.lookup]
  rfl
/-- sorted(a, key=lambda x: e) -/
def sortKE (lv : Nat) (fa : Rho → Tw → Res D) (N : List Str) (fe : Rho → Tw → Res D) : Rho → Tw → Res D := fun r t => if decide (2 ≤ lv) then (fa r t).bind fun x t1 => match x with
    | .lst xs => (compL (fun d t => (fe (startR N [d]) t).bind fun x t => .ok (some x) t) xs t1).bind fun ks t2 => if okKeys ks then .ok (.lst (sortD xs ks)) t2 else .bad
    | _ => .bad
    else .bad
theorem okKeys_parts {ks : List D} (h : okKeys ks = true) : (∀ a ∈ ks, lay a = true ∧ dep a ≤ 190) ∧ PySem.W.AllAlike (pys ks) ∧ PySem.W.Sortable (pys ks) := by
  obtain ⟨h1, h2⟩ := Bool.and_eq_true_iff.mp h
  have g : ∀ a ∈ ks, (lay a = true ∧ dep a ≤ 190) ∧ ∀ b ∈ ks, PySem.W.alike a.py b.py = true := fun a ha => by
    obtain ⟨q1, q2⟩ := Bool.and_eq_true_iff.mp (List.all_eq_true.mp h1 a ha)
    obtain ⟨q3, q4⟩ := Bool.and_eq_true_iff.mp q1
    exact ⟨⟨q3, of_decide_eq_true q4⟩, fun b hb => List.all_eq_true.mp q2 b hb⟩
  have e : pys ks = ks.map D.py := pys_map ks
  refine ⟨fun a ha => (g a ha).1, ?_, ?_⟩
  · rw [e]
    intro d hd d' hd'
    obtain ⟨a, ha, rfl⟩ := List.mem_map.mp hd
    obtain ⟨b, hb, rfl⟩ := List.mem_map.mp hd'
    exact (g a ha).2 b hb
  · rw [e]
    rcases Bool.or_eq_true_iff.mp h2 with h2 | h2
    · refine .inl fun d hd => ?_
      obtain ⟨a, ha, rfl⟩ := List.mem_map.mp hd
      have := List.all_eq_true.mp h2 a ha
      cases a with
      | tup xs =>
        cases xs with
        | nil => cases this
        | cons x xs => exact ⟨x.py, pys xs, by simp [D.py, pys]⟩
      | _ => cases this
    · refine .inr fun d hd => ?_
      obtain ⟨a, ha, rfl⟩ := List.mem_map.mp hd
      have h3 := List.all_eq_true.mp h2 a ha
      have hl := (g a ha).1.1
      cases a <;> first | (cases h3; done) | exact ⟨fun z => by simp [D.py] at z, fun xs z => by simp [D.py] at z⟩
/-- the items go with their data -/
theorem sort_rel {K : PySem.W.Frag} {T : Tn} {F : Hp} {xs : List V} {ds kd : List D} (h : RpL K T F xs ds) (hl : kd.length = ds.length) : RpL K T F (((xs.zip (pys kd)).mergeSort (PySem.W.dataLe false Prod.snd)).map Prod.fst) (sortD ds kd) := by
  have key : ∀ {xs : List V} {ds kd : List D}, RpL K T F xs ds → kd.length = ds.length → ∃ L : List (V × D × D), xs.zip (pys kd) = L.map (fun q => (q.1, q.2.2.py)) ∧ ds.zip kd = L.map (fun q => (q.2.1, q.2.2)) ∧ ∀ q ∈ L, Rp K T F q.1 q.2.1 := by
    intro xs ds kd h
    induction ds generalizing xs kd with
    | nil =>
      intro hl
      cases h
      exact ⟨[], rfl, rfl, fun q hq => by cases hq⟩
    | cons d ds ih =>
      intro hl
      cases h with
      | @cons v vs _ _ h1 h2 =>
        cases kd with
        | nil => cases hl
        | cons k kd =>
          obtain ⟨L, e1, e2, e3⟩ := ih h2 (by simpa using hl)
          refine ⟨(v, d, k) :: L, ?_, ?_, fun q hq => ?_⟩
          · simp only [pys, List.zip_cons_cons, List.map_cons, e1]
          · simp only [List.zip_cons_cons, List.map_cons, e2]
          · rcases List.mem_cons.mp hq with z | hq
            · rw [z]
              exact h1
            · exact e3 q hq
  obtain ⟨L, e1, e2, e3⟩ := key h hl
  unfold sortD
  rw [e1, e2, ← List.map_mergeSort (r := fun a b : V × D × D => !PySem.W.dataLt b.2.2.py a.2.2.py) (fun a _ b _ => rfl), ← List.map_mergeSort (r := fun a b : V × D × D => !PySem.W.dataLt b.2.2.py a.2.2.py) (fun a _ b _ => rfl), List.map_map, List.map_map]
  have : ∀ M : List (V × D × D), (∀ q ∈ M, Rp K T F q.1 q.2.1) → RpL K T F (M.map (Prod.fst ∘ fun q => (q.1, q.2.2.py))) (M.map ((·.1) ∘ fun q => (q.2.1, q.2.2))) := by
    intro M hM
    induction M with
    | nil => exact .nil
    | cons q M ih => exact .cons (hM q (by simp)) (ih fun q hq => hM q (by simp [hq]))
  exact this _ fun q hq => e3 q (List.mem_mergeSort.mp hq)
end Fm

/-! ### the town of the draws -/
namespace Fm
open PySem PySem.Spec PyProof.Rows L2
section
variable {P : Pm} {X : Cx} {a b c : Expr} {pos p1 p2 : Pos} {fa fb fc : Rho → Tw → Res D} {i : Nat} {y : Str} {q : Pos} {j : Nat}
theorem tok_at {F H : Hp} {r : Rho} {t : Tw} {σ : L2.St} (R : RelP P F r t σ H) (e : r[i]? = some (.val .tok)) : σ[i]? = some (some (.ref P.T.a)) := by
  obtain ⟨v, e1, h⟩ := R.val i _ e
  cases h
  exact e1
/-- the town is changed -/
theorem Rel.town {F H H' : Hp} {r : Rho} {t t' : Tw} {σ : L2.St} (R : RelP P F r t σ H) (hn : ∀ b, b ≠ P.T.a → b ≠ P.T.b → H' b = H b) (tw : Town P.T t' H') : RelP P F r t' σ H' := by
  have fa := R.tF1
  have fb := R.tF2
  refine ⟨⟨fun b o h => ?_, R.new, R.base, fun b o h n1 n2 n3 => ?_, fun b h => ?_, tw, fa, fb, R.sc, fun x hx => ?_, R.nt⟩, R.len, R.val, fun i d h => ?_, R.inj⟩
  · have n1 : b ≠ P.T.a := fun e => by
      rw [e, fa] at h
      cases h
    have n2 : b ≠ P.T.b := fun e => by
      rw [e, fb] at h
      cases h
    rw [hn b n1 n2]
    exact R.sub b o h
  · rw [hn b n1 n2]
    exact R.old b o h n1 n2 n3
  · by_cases n1 : b = P.T.a
    · subst n1
      exact (h.no tw.a (by intro _ z; cases z)).elim
    · by_cases n2 : b = P.T.b
      · subst n2
        exact (h.no tw.b (by intro _ z; cases z)).elim
      · exact R.had b fun o e => h o (by rw [hn b n1 n2]; exact e)
  · have ka : ∀ b o, H b = some o → (∀ kvs, o ≠ .dK kvs) → H' b = some o := fun b o h n => by
      rw [hn b (fun z => by rw [z, R.tw.a] at h; cases h; exact n _ rfl) (fun z => by rw [z, R.tw.b] at h; cases h; exact n _ rfl)]
      exact h
    obtain ⟨ps, h1, h2, h3⟩ := R.tabs x hx
    refine ⟨ps, ka _ _ h1 (by intro _ z; cases z), h2, fun pos cv hc => ?_⟩
    obtain ⟨c, e1, e2⟩ := h3 pos cv hc
    exact ⟨c, e1, ka _ _ e2 (by intro _ z; cases z)⟩
  · obtain ⟨p, e, w⟩ := R.own i d h
    exact ⟨p, e, ⟨w.fr, w.n1, w.n2, w.h0, w.at_.keep (Same.refl F) fun o h => by rw [hn p w.n1 w.n2]; exact h⟩⟩
def tcountE (i : Nat) (r : Rho) (t : Tw) : Res D := match r[i]? with
    | some (.val .tok) => .ok (.int t.count) t
    | _ => .bad
def tgetE (i : Nat) (fk fd : Rho → Tw → Res D) (r : Rho) (t : Tw) : Res D := match r[i]? with
    | some (.val .tok) => (fk r t).bind fun y t1 => (fd r t1).bind fun z t2 => (match y, z with
      | .int a, .int b => .ok (.int ((lkT t2.rests a).getD b)) t2
      | _, _ => .bad)
    | _ => .bad
def tcntE (i : Nat) (fa : Rho → Tw → Res D) (r : Rho) (t : Tw) : Res (Fl × Rho) := match r[i]? with
    | some (.val .tok) => (fa r t).bind fun x t1 => (match x with
      | .int c => .ok (.nx, r) { t1 with count := c }
      | _ => .bad)
    | _ => .bad
def trstE (i : Nat) (fk fa : Rho → Tw → Res D) (r : Rho) (t : Tw) : Res (Fl × Rho) := match r[i]? with
    | some (.val .tok) => (fa r t).bind fun x t1 => (fk r t1).bind fun y t2 => (match x, y with
      | .int v, .int a => if decide (t2.rests.length < 1000000) then .ok (.nx, r) { t2 with rests := putT t2.rests a v } else .bad
      | _, _ => .bad)
    | _ => .bad
theorem tok_of {α : Type} {F : Hp} {r : Rho} {m : Res α} {Z : α → Tw → Prop} (h : Aft P F (match r[i]? with
    | some (.val .tok) => m
    | _ => .bad) Z) : r[i]? = some (.val .tok) ∧ Aft P F m Z := by
  split at h
  · rename_i e
    exact ⟨e, h⟩
  · exact h.elim
theorem valV_rests (rs : List (Int × Int)) (k : Int) : valV (rs.map fun p => ((.inl p.1 : Key), V.int p.2)) (.inl k) = (lkT rs k).map V.int := by
  induction rs with
  | nil => rfl
  | cons p r ih =>
    by_cases e : p.1 = k
    · rw [List.map_cons, valV_pos (by rw [e])]
      simp [lkT, List.find?_cons, e]
    · rw [List.map_cons, valV_neg (by simpa using e), ih]
      simp [lkT, List.find?_cons, e]
theorem putK_rests (rs : List (Int × Int)) (k v : Int) : putK (rs.map fun p => ((.inl p.1 : Key), V.int p.2)) (.inl k) (.int v) = (putT rs k v).map fun p => ((.inl p.1 : Key), V.int p.2) := by
  unfold putK putT
  have e : ((rs.map fun p => ((.inl p.1 : Key), V.int p.2)).any fun kv => decide (kv.1 = (.inl k : Key))) = rs.any fun p => decide (p.1 = k) := by
    rw [List.any_map]
    congr 1
    funext p
    simp
  rw [e]
  split
  · rw [List.map_map, List.map_map]
    refine List.map_congr_left fun p _ => ?_
    simp only [Function.comp]
    by_cases e : p.1 = k
    · simp [e]
    · simp [e]
  · simp
theorem putT_len (rs : List (Int × Int)) (k v : Int) : (putT rs k v).length ≤ rs.length + 1 := by
  unfold putT
  split <;> simp
/-- town['count'] -/
theorem s_tcount (hu : X.A.units + 200 < cLine) (hN : X.N[i]? = some y) (hv : Vis X.env.scope y) (hd : (y == ("__debug__" : Str)) = false) (hcd : (y == ("__classdict__" : Str)) = false) : PE X (.Subscript (.Name y q) (.Constant (.str "count") j p1) pos) (tD P (tcountE i)) := by
  refine peMono (pe_dget (by omega) (pe_slot hN hv hd hcd) pe_str (fun _ _ => rfl)) fun σ H Q ⟨F, r, t, R, h⟩ => ?_
  obtain ⟨e, h⟩ := tok_of h
  refine ⟨_, tok_at R e, P.T.a, .int t.count, rfl, DGet.k (k := .inr "count") R.tw.a, h _ _ _ Kp.refl R (.int _)⟩
theorem town_rests (hu : X.A.units + 200 < cLine) (hN : X.N[i]? = some y) (hv : Vis X.env.scope y) (hd : (y == ("__debug__" : Str)) = false) (hcd : (y == ("__classdict__" : Str)) = false) :
    PE X (.Subscript (.Name y q) (.Constant (.str "rests") j p1) pos) (fun σ H Q => ∃ F r t, RelP P F r t σ H ∧ r[i]? = some (.val .tok) ∧ Q (.ref P.T.b) H) := by
  refine peMono (pe_dget (by omega) (pe_slot hN hv hd hcd) pe_str (fun _ _ => rfl)) fun σ H Q ⟨F, r, t, R, e, h⟩ => ?_
  refine ⟨_, tok_at R e, P.T.a, .ref P.T.b, rfl, ?_, h⟩
  have := DGet.k (k := .inr "rests") R.tw.a
  exact this
theorem s_tget (hu : X.A.units + 200 < cLine) (hN : X.N[i]? = some y) (hv : Vis X.env.scope y) (hd : (y == ("__debug__" : Str)) = false) (hcd : (y == ("__classdict__" : Str)) = false) {p3 p4 : Pos} (hb : PE X b (tB P fb)) (hc : PE X c (tD P fc))
    (m : M2 X (.Subscript (.Name y q) (.Constant (.str "rests") j p1) pos) "get" p3 b c p4) : PE X (.Call (.Attribute (.Subscript (.Name y q) (.Constant (.str "rests") j p1) pos) "get" p3) [b, c] [] p4) (tD P (tgetE i fb fc)) := by
  refine peMono (pe_dget2 (by omega) (town_rests (P := P) hu hN hv hd hcd) hb hc m) fun σ H Q ⟨F, r, t, R, h⟩ => ?_
  obtain ⟨e, h⟩ := tok_of h
  refine ⟨F, r, t, R, e, P.T.b, rfl, .inl ⟨_, .inl R.tw.b⟩, F, r, t, R, h.bind.mono fun dy t1 h v F1 H1 s1 R1 ry => ⟨F1, r, t1, R1, (h.up s1.1).bind.mono fun dz t2 h u F2 H2 s2 R2 rz => ?_⟩⟩
  cases dy with
  | int k =>
    cases dz with
    | int z =>
      obtain rfl := (ry.mono s2.1).int R2
      cases rz
      refine ⟨_, DGet.k (k := .inl k) R2.tw.b, ?_⟩
      rw [valV_rests]
      have := h (.int ((lkT t2.rests k).getD z)) F2 H2 (s1.trans s2) R2 (.int _)
      cases e2 : lkT t2.rests k with
      | none =>
        rw [e2] at this
        exact this
      | some w =>
        rw [e2] at this
        exact this
    | _ => exact (show False from h).elim
  | _ => exact (show False from h).elim
/-- town['count'] = e -/
theorem st_tcnt (hu : X.A.units + 200 < cLine) (hN : X.N[i]? = some y) (hv : Vis X.env.scope y) (hd : (y == ("__debug__" : Str)) = false) (hcd : (y == ("__classdict__" : Str)) = false) (ha : PE X a (tD P fa))
    (hs : swapsWith a (some (.Subscript (.Name y q) (.Constant (.str "count") j p1) p2)) pos.line X.env = pure false) : PS X (.Assign [.Subscript (.Name y q) (.Constant (.str "count") j p1) p2] a pos) (tS P (tcntE i fa)) := by
  refine psMono (ps_dput (by omega) (pe_slot hN hv hd hcd) pe_str ha hs) fun D σ H ⟨F, r, t, R, h⟩ => ?_
  obtain ⟨e, h⟩ := tok_of h
  refine ⟨F, r, t, R, h.bind.mono fun d t1 h v F1 H1 s1 R1 rv => ⟨_, tok_at R1 e, ?_⟩⟩
  split at h
  · rename_i c
    cases rv
    have d := DPut.k (k := .inr "count") (v := .int c) R1.tw.a (by rw [sizeLine_eq]; simp)
    refine ⟨P.T.a, _, rfl, d, h F1 σ _ s1.1 (Rel.town R1 (fun b n1 n2 => upd_ne n1) ⟨?_, ?_, R1.tw.ne, R1.tw.small⟩)⟩
    · rw [upd_same]
      rfl
    · rw [upd_ne (Ne.symm R1.tw.ne)]
      exact R1.tw.b
  · exact h.elim
/-- town['rests'][k] = e -/
theorem st_trst (hu : X.A.units + 200 < cLine) (hN : X.N[i]? = some y) (hv : Vis X.env.scope y) (hd : (y == ("__debug__" : Str)) = false) (hcd : (y == ("__classdict__" : Str)) = false) {p3 : Pos} (hb : PE X b (tB P fb)) (ha : PE X a (tD P fa))
    (hs : swapsWith a (some (.Subscript (.Subscript (.Name y q) (.Constant (.str "rests") j p1) p2) b p3)) pos.line X.env = pure false) : PS X (.Assign [.Subscript (.Subscript (.Name y q) (.Constant (.str "rests") j p1) p2) b p3] a pos) (tS P (trstE i fb fa)) := by
  refine psMono (ps_dput (by omega) (town_rests (P := P) hu hN hv hd hcd) hb ha hs) fun D σ H ⟨F, r, t, R, h⟩ => ?_
  obtain ⟨e, h⟩ := tok_of h
  refine ⟨F, r, t, R, h.bind.mono fun d t1 h v F1 H1 s1 R1 rv => ⟨F1, r, t1, R1, e, F1, r, t1, R1, (h.up s1.1).bind.mono fun dk t2 h w F2 H2 s2 R2 rk => ?_⟩⟩
  cases d with
  | int z =>
    cases dk with
    | int k =>
      obtain rfl := rk.int R2
      have rv := rv.mono s2.1
      cases rv
      have h : Aft P F1 (if decide (t2.rests.length < 1000000) then .ok (.nx, r) { t2 with rests := putT t2.rests k z } else .bad) (aftS P F D) := h
      split at h
      · rename_i hl
        have hl := of_decide_eq_true hl
        have d := DPut.k (k := .inl k) (v := .int z) R2.tw.b (by rw [List.length_map, sizeLine_eq]; omega)
        rw [putK_rests] at d
        refine ⟨P.T.b, _, rfl, d, h F2 σ _ (s1.1.trans s2.1) (Rel.town R2 (fun b n1 n2 => upd_ne n2) ⟨?_, ?_, R2.tw.ne, ?_⟩)⟩
        · rw [upd_ne R2.tw.ne]
          exact R2.tw.a
        · rw [upd_same]
        · have := putT_len t2.rests k z
          show (putT t2.rests k z).length ≤ 1000000
          omega
      · exact h.elim
    | _ => exact (show False from h).elim
  | _ => exact (show False from h).elim
end
end Fm

/-! ### d.update(d2), displays of a dict, its keys walked, isinstance of a caught exception -/
namespace Fm
open PySem PySem.Spec PyProof.Rows L2
def rUpdD : V → List V → Hp → VK → Prop := fun x vs H Q => ∃ (a b : Addr) (kvs more : List (Key × V)), x = .ref a ∧ vs = [.ref b] ∧ a ≠ b ∧ H a = some (.dK kvs) ∧ Rd H b (.dK more) ∧ kvs.length + more.length ≤ sizeLine ∧ Q .non (upd H a (.dK (mergeK kvs more)))
theorem mt_updD {X : Cx} : MtR X "dict.update" rUpdD := by
  intro pins s σ H x vs v us Q I rx rv h
  obtain ⟨a, b, kvs, more, ex, ev, hab, e, e2, hz, q⟩ := h
  subst ex ev
  obtain rfl : v = Value.ref a := rx
  obtain ⟨u, rfl, ru⟩ := vals1 rv
  cases ru
  obtain ⟨z, hd, ws, rel, dd⟩ := dk_of I.hok e
  obtain ⟨z2, hd2, ws2, rel2, dd2⟩ := dk_rd I.hok e2
  refine call_meetsIn PySem.F.slot_dict_update dd.typeIs PySem.F.entry_dict_update (PySem.F.args_dict_update_2 _ _) (meets_dict_update (mixKind X.prog X.w) a b hab hd2) ⟨ws, ws2, dd, dd2, ?_, fun h' dd' _ hs => ?_⟩
  · rw [← rel.length, ← rel2.length]
    exact hz
  · have he : ∃ q, h'.get? a = some q := let ⟨q, _, _, hq, _⟩ := dd'; ⟨q, hq⟩
    have hl := length_mergeK more kvs
    exact ⟨.non, _, d_write (t' := s.toks) I (by rw [e]; exact True.intro) hs he (dk_new (by omega) hd (KV.merge rel2 rel) dd'), rfl, q⟩
section
variable {P : Pm} {X : Cx} {a b c : Expr} {pos p1 p2 : Pos} {fa fb fc : Rho → Tw → Res D}
def updE (i : Nat) (fa : Rho → Tw → Res D) (r : Rho) (t : Tw) : Res (Fl × Rho) := match r[i]? with
    | some (.own (.dct kvs)) => (fa r t).bind fun x t1 => (match x with
      | .dct more => if decide (kvs.length + more.length ≤ 16777216) then .ok (.nx, r.set i (.own (.dct (joinD kvs more)))) t1 else .bad
      | _ => .bad)
    | _ => .bad
theorem updE_ok {i : Nat} {F : Hp} {r : Rho} {t : Tw} {Z : Fl × Rho → Tw → Prop} (h : Aft P F (updE i fa r t) Z) : ∃ kvs, r[i]? = some (.own (.dct kvs)) ∧ Aft P F ((fa r t).bind fun x t1 => (match x with
      | .dct more => if decide (kvs.length + more.length ≤ 16777216) then .ok (.nx, r.set i (.own (.dct (joinD kvs more)))) t1 else .bad
      | _ => .bad)) Z := by
  unfold updE at h
  split at h
  · rename_i kvs e
    exact ⟨kvs, e, h⟩
  · exact h.elim
theorem RpK.join {K : PySem.W.Frag} {T : Tn} {F : Hp} : ∀ {more : List (Key × V)} {ms : List (Key × D)} {kvs : List (Key × V)} {es : List (Key × D)}, RpK K T F more ms → RpK K T F kvs es → RpK K T F (mergeK kvs more) (joinD es ms)
  | _, _, _, _, .nil, q => q
  | _, _, kvs, es, @RpK.cons _ _ _ k v ms d ns h r, q => (RpK.join r (q.put k h) : RpK K T F (mergeK (L2.putK kvs k v) ms) (joinD (putD es k d) ns))
theorem st_upd {i : Nat} {y : Str} (hN : X.N[i]? = some y) (hv : Vis X.env.scope y) (hd : (y == ("__debug__" : Str)) = false) (hcd : (y == ("__classdict__" : Str)) = false) (ha : PE X a (tD P fa)) (hline : (p1.endLine == p2.line) = true)
    (hs : starEach [a] X.env = (false, eval a X.env) :: starEach [] X.env) {q : Pos} : PS X (.Expr (.Call (.Attribute (.Name y q) "update" p1) [a] [] p2) pos) (tS P (updE i fa)) := by
  have hfew : ((backTo p2 (starEach [a] X.env)).all (fun x => !x.1) && (backToKw p2 (keywordEach [] X.env)).all (fun x => x.1.isSome)
      && decide (([a] : List Expr).length + ([] : List Keyword).length + (if ([] : List Keyword).isEmpty then 0 else 1) < 30)) = true := by
    rw [hs]
    rfl
  refine psMono (ps_expr (pe_bm PySem.F.plainAttrs_dict PySem.F.slot_dict_update PySem.F.type_dict_update mt_updD (pe_slot hN hv hd hcd) (pa_cons ha pa_nil hs) rfl hfew hline hs rfl) rfl) fun D σ H ⟨F, r, t, R, h⟩ => ?_
  obtain ⟨xs, e, h⟩ := updE_ok h
  obtain ⟨p, vs, e1, h1, h2, h3⟩ := own_dct R e
  refine ⟨_, e1, .inr (.inr (.inl ⟨rfl, .inl ⟨vs, h1⟩⟩)), F, r, t, R, h.bind.mono fun d t' h v F' H' s R' rv => ?_⟩
  cases d with
  | dct more =>
    cases rv with
    | @dct b o kvs _ hb hz hq =>
      have h : Aft P F (if decide (xs.length + more.length ≤ 16777216) then .ok (.nx, r.set i (.own (.dct (joinD xs more)))) t' else .bad) (aftS P F D) := h
      split at h
      · rename_i hl
        have hl := of_decide_eq_true hl
        obtain ⟨p', vs', e1', h1', h2', h3'⟩ := own_dct R' e
        rw [e1] at e1'
        cases e1'
        have hz2 : vs'.length + kvs.length ≤ sizeLine := by
          rw [h3'.length, hq.length, sizeLine_eq]
          exact hl
        have hlm := length_mergeK kvs vs'
        refine ⟨p, b, vs', kvs, rfl, rfl, fun z => ?_, h1', .inr ⟨o, R'.sub _ _ hb⟩, hz2, h F' σ _ s.1 (Rel.updOwn R' e e1 ⟨_, upd_same, by omega, RpK.join hq h3'⟩)⟩
        have := R'.sub _ _ hb
        rw [← z, h1'] at this
        cases this
      · exact h.elim
  | _ => exact (show False from h).elim
/-! ### {"a": e, ..} -/
def evL : List (Rho → Tw → Res D) → Rho → Tw → Res (List D)
  | [], _, t => .ok [] t
  | f :: fs, r, t => (f r t).bind fun x t1 => (evL fs r t1).bind fun xs t2 => .ok (x :: xs) t2
/-- keys and values as they are written -/
inductive DspE (X : Cx) (P : Pm) : List Str → List (Rho → Tw → Res D) → List (Option Expr) → List Expr → Prop
  | nil : DspE X P [] [] [] []
  | cons {x : Str} {f : Rho → Tw → Res D} {xs : List Str} {fs : List (Rho → Tw → Res D)} {ks : List (Option Expr)} {e : Expr} {vs : List Expr} {j : Nat} {q : Pos} : PE X e (tD P f) → DspE X P xs fs ks vs → DspE X P (x :: xs) (f :: fs) (some (.Constant (.str x) j q) :: ks) (e :: vs)
theorem DspE.pps {xs : List Str} {fs : List (Rho → Tw → Res D)} {ks : List (Option Expr)} {vs : List Expr} (h : DspE X P xs fs ks vs) : PPs X pos ks vs ((xs.zip fs).map fun p => (tC (.str p.1), tD P p.2)) := by
  induction h with
  | nil => exact pps_nil
  | cons h1 h ih => exact pps_cons pe_str h1 ih
theorem DspE.all {xs : List Str} {fs : List (Rho → Tw → Res D)} {ks : List (Option Expr)} {vs : List Expr} (h : DspE X P xs fs ks vs) : ks.all (·.isSome) = true ∧ ks.length = xs.length ∧ vs.length = xs.length ∧ fs.length = xs.length := by
  induction h with
  | nil => exact ⟨rfl, rfl, rfl, rfl⟩
  | cons h1 h ih => exact ⟨by simp [ih.1], by simp [ih.2.1], by simp [ih.2.2.1], by simp [ih.2.2.2]⟩
theorem evL_len {fs : List (Rho → Tw → Res D)} {r : Rho} : ∀ {t : Tw} {xs : List D} {t' : Tw}, evL fs r t = .ok xs t' → xs.length = fs.length := by
  induction fs with
  | nil =>
    intro t xs t' h
    cases h
    rfl
  | cons f fs ih =>
    intro t xs t' h
    unfold evL at h
    cases e : f r t with
    | ok x t1 =>
      rw [e] at h
      simp only [Res.bind_ok] at h
      cases e2 : evL fs r t1 with
      | ok ys t2 =>
        rw [e2] at h
        cases h
        simp [ih e2]
      | exc n t2 =>
        rw [e2] at h
        cases h
      | bad =>
        rw [e2] at h
        cases h
    | exc n t1 =>
      rw [e] at h
      cases h
    | bad =>
      rw [e] at h
      cases h
theorem pairs_read {σ : L2.St} {r : Rho} : ∀ {xs : List Str} {fs : List (Rho → Tw → Res D)} {F H : Hp} {t : Tw} {Z : List D → Tw → Prop} {Q : List (V × V) → Hp → Prop}, xs.length = fs.length → RelP P F r t σ H → Aft P F (evL fs r t) Z →
    (∀ ds t' vs F' H', Z ds t' → Kp P.T F H F' H' → RelP P F' r t' σ H' → RpL P.K P.T F' vs ds → vs.length = xs.length → Q ((xs.zip vs).map fun p => (V.str p.1, p.2)) H') → tPairs ((xs.zip fs).map fun p => (tC (.str p.1), tD P p.2)) σ H Q
  | [], [], F, H, t, Z, Q, _, R, h, q => q [] t [] F H h Kp.refl R .nil rfl
  | [], _ :: _, F, H, t, Z, Q, l, R, h, q => by cases l
  | _ :: _, [], F, H, t, Z, Q, l, R, h, q => by cases l
  | x :: xs, f :: fs, F, H, t, Z, Q, l, R, h, q => by
    have h : Aft P F ((f r t).bind fun x t1 => (evL fs r t1).bind fun xs t2 => .ok (x :: xs) t2) Z := h
    refine ⟨F, r, t, R, h.bind.mono fun d t1 h v F1 H1 s1 R1 rv => ?_⟩
    refine pairs_read (xs := xs) (fs := fs) (by simpa using l) R1 ((h.up s1.1).bind) fun ds t' vs F' H' z k R' rvs hl => ?_
    exact q (d :: ds) t' (v :: vs) F' H' z (s1.trans k) R' (.cons (rv.mono k.base) rvs) (by simp [hl])
theorem merge_rel2 {K : PySem.W.Frag} {T : Tn} {F : Hp} : ∀ {xs : List Str} {vs : List V} {ds : List D} {kvs : List (Key × V)} {es : List (Key × D)}, RpL K T F vs ds → RpK K T F kvs es →
    RpK K T F (mergeK kvs ((xs.zip vs).map fun p => (Sum.inr p.1, p.2))) (mergeD es (xs.zip ds))
  | [], _, _, _, _, _, q => q
  | _ :: _, _, _, _, _, .nil, q => q
  | x :: xs, _, _, _, _, .cons h r, q => merge_rel2 (xs := xs) r (q.put (Sum.inr x) h)
def dspEE (ks : List Str) (fs : List (Rho → Tw → Res D)) (r : Rho) (t : Tw) : Res D := (evL fs r t).bind fun xs t1 => if decide (xs.length ≤ 15) && decide (xs.length = ks.length) && decide (0 < xs.length) then .ok (.dct (mergeD [] (ks.zip xs))) t1 else .bad
theorem n_dspE {xs : List Str} {fs : List (Rho → Tw → Res D)} {ks : List (Option Expr)} {vs : List Expr} (h : DspE X P xs fs ks vs) (hl : xs.length ≤ 15 ∧ 0 < xs.length) : PE X (.Dict ks vs pos) (tN P (dspEE xs fs)) := by
  obtain ⟨a1, a2, a3, a4⟩ := h.all
  · have h0 : ks ≠ [] := fun e => by
      rw [e] at a2
      simp at a2
      omega
    refine peMono (pe_disp h.pps a1 (a2.trans a3.symm) h0 (by rw [a2]; exact hl.1)) fun σ H Q ⟨F, r, t, R, q⟩ p hp => ?_
    have q : Aft P F ((evL fs r t).bind fun ds t1 => if decide (ds.length ≤ 15) && decide (ds.length = xs.length) && decide (0 < ds.length) then .ok (D.dct (mergeD [] (xs.zip ds))) t1 else .bad) (fun d t' => ∀ v F' H' p, Kp P.T F H F' H' → RelP P F' r t' σ H' → Nn H p → Fre P F' r σ H' v d p → Q v H') := q
    have b0 := R.toRelH.newO (o := .dK []) hp
    refine pairs_read a4.symm (R.step b0) q.bind fun ds t' vs F' H' z k R' rvs hlv => ?_
    have n1 : p ≠ P.T.a := fun e => by
      rw [e, R.tw.a] at hp
      cases hp
    have n2 : p ≠ P.T.b := fun e => by
      rw [e, R.tw.b] at hp
      cases hp
    have hd : H' p = some (.dK []) := k.old p _ upd_same n1 n2 (by intro _ z; cases z)
    have hdl : ds.length = xs.length := by rw [← rvs.length, hlv]
    rw [if_pos (by simp only [Bool.and_eq_true, decide_eq_true_eq]; omega)] at z
    refine ⟨hd, (xs.zip vs).map (fun p => (Sum.inr p.1, p.2)), by simp [kV], by simp; omega, ?_⟩
    have fF : F' p = none := by
      cases e : F' p with
      | none => rfl
      | some o =>
        rcases k.new p o e with e2 | e2
        · rw [R.sub.free hp] at e2
          cases e2
        · exact (e2.no upd_same (by intro _ z; cases z)).elim
    have no : ∀ (i : Nat) (e : D), r[i]? = some (.own e) → σ[i]? ≠ some (some (.ref p)) := fun i e h1 h2 => by
      obtain ⟨q, e1, w⟩ := R.own i e h1
      rw [h2] at e1
      cases e1
      obtain ⟨o2, ho, _⟩ := w.at_.obj
      rw [hp] at ho
      cases ho
    have R2 : RelP P F' r t' σ (L2.upd H' p (.dK (mergeK [] ((xs.zip vs).map fun p => (Sum.inr p.1, p.2))))) := Rel.upd R' (by rw [hd]; simp) (fun ps z => by rw [hd] at z; cases z) (fun c q z => by rw [hd] at z; cases z) fF (R.had p (.of hp)) n1 n2 no
    refine z _ F' _ p ⟨b0.base.trans k.base, fun c o e => ?_, fun c o e m1 m2 m3 => ?_, fun c e => ?_⟩ R2 (.of hp) ⟨rfl, ⟨fF, n1, n2, R.had p (.of hp), _, upd_same, ?_, merge_rel2 rvs .nil⟩, no⟩
    · rcases k.new c o e with e2 | e2
      · exact .inl e2
      · exact .inr (b0.had c e2)
    · have nc : c ≠ p := fun z => by
        rw [z, hp] at e
        cases e
      rw [upd_ne nc]
      exact k.old c o (by rw [upd_ne nc]; exact e) m1 m2 m3
    · exact b0.had c (k.had c (e.upd (by intro _ z; cases z)).1)
    · have := length_mergeK ((xs.zip vs).map fun p => (Sum.inr p.1, p.2)) ([] : List (Key × V))
      rw [sizeLine_eq]
      simp at this
      omega
/-! ### for k in d -/
theorem RpK.getK {K : PySem.W.Frag} {T : Tn} {F : Hp} : ∀ {kvs : List (Key × V)} {es : List (Key × D)}, RpK K T F kvs es → kvs.map (·.1) = es.map (·.1)
  | _, _, .nil => rfl
  | _, _, .cons _ r => by simp [r.getK]
def keysE (fa : Rho → Tw → Res D) (r : Rho) (t : Tw) : Res (List D) := (fa r t).bind fun x t1 => match x with
    | .dct kvs => .ok (kvs.map fun p => kD p.1) t1
    | .dcn kvs => .ok (kvs.map fun p => kdN p.1) t1
    | _ => .bad
theorem i_keys {w0 : Bool} {tg : Expr} {fz : Bool} (hpw : P.T.pg = X.prog ∧ P.T.wo = X.w) (ha : PE X a (tD P fa)) : PI X tg a (tI P fz w0 (keysE fa)) := piMono (pi_keysX ha) fun σ H Q ⟨F, r, t, R, h⟩ => ⟨F, r, t, R, h.bind.mono fun d t' h v F' H' s R' rv => by
  cases d with
  | dct es =>
    cases rv with
    | @dct p o kvs _ h1 z h2 =>
      refine ⟨p, o, rfl, .inl ⟨kvs, R'.sub _ _ h1, h _ _ _ s R' (WD.fz ?_ fz)⟩⟩
      have w := walk_keys (d := p) (o := o) (kvs := kvs)
      have hl : (es.map fun q => kD q.1).length = kvs.length := by rw [List.length_map, h2.length]
      refine ⟨fun i H hi g => w.goes i H (by rw [← hl]; exact hi) (g _ _ h1), fun H g => by rw [hl]; exact w.stops H (g _ _ h1), fun i H x H' d e g y => .inl ?_⟩
      have hi : i < kvs.length := by
        rw [← hl]
        exact (List.getElem?_eq_some_iff.mp e).1
      obtain ⟨e1, k, v, e2, rfl⟩ := w.yields i H x H' hi (g _ _ h1) y
      refine ⟨e1, ?_⟩
      have e3 : (es.map (·.1))[i]? = some k := by
        rw [← h2.getK, List.getElem?_map, e2]
        rfl
      have e4 : (es.map fun q => kD q.1)[i]? = some (kD k) := by
        have : (es.map fun q => kD q.1) = (es.map (·.1)).map kD := by simp
        rw [this, List.getElem?_map, e3]
        rfl
      rw [e4] at e
      cases e
      cases k with
      | inl i => exact .int i
      | inr x => exact .str x
  | dcn es =>
    cases rv with
    | @dcn p o xs _ h1 hy z h2 =>
      rw [hpw.1, hpw.2] at h1
      refine ⟨p, o, rfl, .inr ⟨xs, hy.1, R'.sub _ _ h1, h _ _ _ s R' (WD.fz ?_ fz)⟩⟩
      have hl : (es.map fun q => kdN q.1).length = xs.length := by rw [List.length_map, h2.length]
      refine ⟨fun i H hi g => ⟨g _ _ h1, by rw [← hl]; exact hi⟩, fun H g => by rw [hl]; exact ⟨g _ _ h1, Nat.le_refl _⟩, fun i H x H' d e g y => .inl ?_⟩
      obtain ⟨e1, x', e2, rfl⟩ := y
      exact ⟨e1, h2.getK i x' d e2 e⟩
  | _ => exact (show False from h).elim⟩
/-! ### isinstance of a caught exception -/
def rIsX (K : PySem.W.Frag) : List V → Hp → VK → Prop := fun xs H Q => ∃ (a C : Addr) (c : V) (cv : Value) (b : Bool), xs = [.ref a, c] ∧ ExcC K C ∧ H a = some (ExI (.ref C) a) ∧ (∀ u, RelV c u → u = cv) ∧ PySem.W.kitOne K (.ref C) cv = some b ∧ Q (.bl b) H
theorem call_isX : CallR X (.builtin "isinstance") (rIsX X.K) := by
  intro pins s σ H xs us Q I r h
  obtain ⟨a, C, c, cv, b, rfl, hC, ha, hcv, e, q⟩ := h
  cases r with
  | cons rx rr =>
    cases rr with
    | cons rt rr =>
      cases rr
      cases rx
      have ec := hcv _ rt
      subst ec
      obtain ⟨⟨oe, vs, hget, hz, hv⟩, _, _⟩ := I.hok a _ ha
      have J : PySem.W.InstAt s.heap a oe C none := by
        obtain ⟨oc, od, oda, osl⟩ := oe
        obtain ⟨h1, h2⟩ := hz
        dsimp only at h1 h2 hv
        subst h1 h2 hv
        exact ⟨hget, rfl, rfl, trivial⟩
      exact PySem.W.kia_one (PySem.W.handS_kitx_exc hC.hg hC.hk hC.hs hC.hd hC.ha hC.hn hC.ht hC.hm) I.kIn J e (fun z => nomatch z) fun tk => ⟨.bl b, H, I.kept (t' := tk) fun _ _ z => z, rfl, q⟩
/-- what the nine classes say -/
structure Nine (K : PySem.W.Frag) (cl : Nat → Addr) : Prop where
  c : ∀ m, m < 9 → ExcC K (cl m)
  s : ∀ m n, m < 9 → n < 9 → PySem.W.kitOne K (.ref (cl m)) (.ref (cl n)) = some (decide (m = n))
  v : ∀ m, m < 9 → PySem.W.kitOne K (.ref (cl m)) (.type "ValueError") = some true
theorem s_isx (hK : X.K = P.K) (N9 : Nine X.K P.T.cl) {n : Nat} {y : Str} (hn : n < 9) (hg : Gl X "isinstance") (hm : X.mg "isinstance" = none) (hgy : Gl X y) (hmy : X.mg y = some (.ref (P.T.cl n))) (hdy : (y == ("__debug__" : Str)) = false) (ha : PE X a (tB P fa))
    (hs : starEach [a, .Name y p2] X.env = (false, eval a X.env) :: starEach [.Name y p2] X.env) :
    PE X (.Call (.Name "isinstance" p1) [a, .Name y p2] [] pos) (tD P fun r t => (fa r t).bind fun x t1 => Fm.lift (isxD x n) t1) := by
  have hT : PE X (.Name y p2) (tC (.ref (P.T.cl n))) := pe_glob hgy hmy rfl hdy
  refine peMono (pe_callB call_isX hg hm PyProof.Rows.boot_isinstance (pa_cons ha (pa_cons hT pa_nil rfl) hs) (by decide) (by decide) hs (by rfl)) fun σ H Q ⟨F, r, t, R, h⟩ => ⟨F, r, t, R, h.bind.mono fun d t1 h v F1 H1 s1 R1 rv => ?_⟩
  obtain ⟨d2, e, q⟩ := h.lift
  cases d with
  | exc m =>
    have e : (if decide (m < 9) && decide (n < 9) then some (D.bl (decide (m = n))) else none) = some d2 := e
    split at e
    · rename_i hm9
      simp only [Bool.and_eq_true, decide_eq_true_eq] at hm9
      cases e
      cases rv.rp R1 (fun _ z => by cases z) (fun _ z => by cases z) with
      | exc _ h1 => exact ⟨_, P.T.cl m, .ref (P.T.cl n), .ref (P.T.cl n), decide (m = n), rfl, N9.c m hm9.1, R1.sub _ _ h1, fun u z => z, N9.s m n hm9.1 hn, q _ _ _ s1 R1 (.bl _)⟩
    · cases e
  | _ => cases e
theorem s_isv (hK : X.K = P.K) (N9 : Nine X.K P.T.cl) (hg : Gl X "isinstance") (hm : X.mg "isinstance" = none) (hgy : Gl X "ValueError") (hmy : X.mg "ValueError" = none) (ha : PE X a (tB P fa))
    (hs : starEach [a, .Name "ValueError" p2] X.env = (false, eval a X.env) :: starEach [.Name "ValueError" p2] X.env) :
    PE X (.Call (.Name "isinstance" p1) [a, .Name "ValueError" p2] [] pos) (tD P fun r t => (fa r t).bind fun x t1 => Fm.lift (isvD x) t1) := by
  have hT : PE X (.Name "ValueError" p2) (tC (.ty "ValueError")) := pe_bltn hgy hmy (by decide +kernel) rfl (by decide) (by decide)
  refine peMono (pe_callB call_isX hg hm PyProof.Rows.boot_isinstance (pa_cons ha (pa_cons hT pa_nil rfl) hs) (by decide) (by decide) hs (by rfl)) fun σ H Q ⟨F, r, t, R, h⟩ => ⟨F, r, t, R, h.bind.mono fun d t1 h v F1 H1 s1 R1 rv => ?_⟩
  obtain ⟨d2, e, q⟩ := h.lift
  cases d with
  | exc m =>
    have e : (if decide (m < 9) then some (D.bl true) else none) = some d2 := e
    split at e
    · rename_i hm9
      simp only [decide_eq_true_eq] at hm9
      cases e
      cases rv.rp R1 (fun _ z => by cases z) (fun _ z => by cases z) with
      | exc _ h1 => exact ⟨_, P.T.cl m, .ty "ValueError", .type "ValueError", true, rfl, N9.c m hm9, R1.sub _ _ h1, fun u z => z, N9.v m hm9, q _ _ _ s1 R1 (.bl _)⟩
    · cases e
  | _ => cases e
end
end Fm

/-! ### try: body, except x as n: suite; the exception is known behind it -/
namespace Fm
open PySem PySem.Spec PyProof.Rows L2
section
variable {X : Cx} {pins : List (Addr × Obj)} {σ : L2.St} {H : Hp} {s : Shared}
theorem inv_track {a : Addr} {φ : Heap → Prop} {oe : Obj} {vs : Array Value} (I : Inv X pins σ H s) (hn : H a = none) (h0 : X.s_0.heap.get? a = none) (ha : s.heap.get? a = some oe) (hd : oe.data = .fields vs) (nL : a ≠ X.env.locals)
    (np : ∀ p ∈ X.pn ++ pins, p.1 ≠ a) (new : ObjOk X.prog X.w (upd H a (.ext φ)) s.heap a (.ext φ)) : Inv X pins σ (upd H a (.ext φ)) s := by
  -- at every other place the table tells what it told
  have off : ∀ {b}, b ≠ a → upd H a (.ext φ) b = H b := upd_ne
  have was : ∀ {b u}, H b = some u → upd H a (.ext φ) b = some u := fun {b u} e => (off (ne_of_none e hn)).trans e
  have noCell : ∀ x c, X.env.cells.lookup x = some c → c ≠ a := by
    rintro x c e rfl
    obtain ⟨v, o, ho, hc⟩ := I.cell x c e
    rw [show o = oe from Option.some.inj (ho.symm.trans ha), hd] at hc
    exact nomatch hc
  exact {
    ok := I.ok, os := I.os, bare := I.bare, loc := I.loc, cell := I.cell, len := I.len
    base := {
      keep := I.base.keep, slot := I.base.slot, there := I.base.there
      free := fun b o e n hx => (off (by rintro rfl; rw [h0] at e; cases e)).trans (I.base.free b o e n hx)
      tups := fun b xs e => was (I.base.tups b xs e)
      frzs := fun b o u e => was (I.base.frzs b o u e)
      tbls := fun b ps e => (I.base.tbls b ps e).imp fun _ => was }
    free := (off nL.symm).trans I.free
    freeC := fun x c e => (off (noCell x c e)).trans (I.freeC x c e)
    pin := fun p hp => (I.pin p hp).imp_right fun q => q.imp_left (off (np p hp)).trans
    hok := fun b u e => by
      by_cases hb : b = a
      · subst hb
        obtain rfl : HO.ext φ = u := Option.some.inj (upd_same.symm.trans e)
        exact new
      · exact (I.hok b u ((off hb).symm.trans e)).stay (fun _ _ _ q => q) (fun _ => was) fun _ _ => was }
end
/-- what the clause wishes of an exception of the body -/
def wKeep (K : PySem.W.Frag) (N : List Str) (c : Value) (i : Nat) (ts : Addr → Value → Option Addr → TS) (D : Ends) : WX := fun cls d σ H =>
  d = none ∧ PySem.W.exmOne K cls c = some true ∧ (σ.length = N.length → ∀ a, H a = none → ts a cls d { nx := fun σ' H' => H' a = none → D.nx (σ'.set i none) (upd H' a (ExI cls a)), rt := fun _ _ => False, bk := fun _ _ => False, ct := fun _ _ => False } (σ.set i (some (.ref a))) H)
/-- an exception in the air is nothing that the def knew -/
structure Aloft (X : Cx) (pins : List (Addr × Obj)) (a : Addr) : Prop where
  loc : a ≠ X.env.locals
  fs : a ∉ X.fs
  old : X.s_0.heap.get? a = none
  pin : ∀ p ∈ X.pn ++ pins, p.1 ≠ a
theorem aloft {X : Cx} {pins : List (Addr × Obj)} {σ : L2.St} {H : Hp} {sI : Shared} {B h : Heap} {a : Addr} {Z : Obj → Prop} (hs : X.stack = X.env :: X.outer) (hf : X.env.frame = some X.env.locals) (hex : X.ex = []) (J : Inv X pins σ H sI)
    (nb : ∀ b o, sI.heap.get? b = some o → b ∉ frs X.stack → B.get? b = some o) (fl : HandSPX.FlyingZ B (X.env :: X.outer) a Z h) : Aloft X pins a := by
  have noFrame : a ∉ frs X.stack := by
    rw [hs]
    intro m
    obtain ⟨o, vs, e, _, dd⟩ := fl.there
    obtain ⟨_, o2, e2, no⟩ := fl.2.2.1.mem m
    exact no vs (Option.some.inj (e2.symm.trans e) ▸ dd)
  have unseen : sI.heap.get? a = none := Option.eq_none_iff_forall_ne_some.mpr fun o e => by
    have z := nb a o e noFrame
    rw [fl.2.1] at z
    exact nomatch z
  have up : ∀ e ∈ X.env :: X.outer, e.frame = some a → False := fun e he q => noFrame (hs ▸ List.mem_filterMap.mpr ⟨e, he, q⟩)
  refine ⟨?_, ?_, ?_, ?_⟩
  · rintro rfl
    exact up _ List.mem_cons_self hf
  · intro m
    obtain ⟨e, he, q⟩ := List.mem_filterMap.mp m
    exact up e (List.mem_cons_of_mem _ he) q
  · refine Option.eq_none_iff_forall_ne_some.mpr fun o e => ?_
    obtain ⟨o2, e2⟩ := J.base.there a o e (by rw [hex]; exact List.not_mem_nil)
    rw [unseen] at e2
    exact nomatch e2
  · rintro ⟨_, o⟩ hp rfl
    have z := (J.pin _ hp).1
    rw [unseen] at z
    exact nomatch z
section
variable {X : Cx} {x n : Str} {c : Value} {i : Nat} {body suite : List Stmt} {b₀ : Stmt} {np pos pos' : Pos} {tb : WX → TS} {ts : Addr → Value → Option Addr → TS}
theorem ps_try_keep (hs : X.stack = X.env :: X.outer) (hf : X.env.frame = some X.env.locals) (hex : X.ex = []) (hN : X.N.Nodup) (hi : X.N[i]? = some n) (hln : X.env.kindOf n = some .local) (hc : Names X x c)
    (hb : ∀ (W : WX) (pn : List (Addr × Obj)) (xe : Value → Shared → Prop), Takes (X.tr pn xe) W → PassesOwn (model X.prog X.w) X.A X.env xe → PSs (X.tr pn xe) body (tb W))
    (hsu : ∀ (a : Addr) (oe : Obj) (cls : Value) (d : Option Addr) (pn : List (Addr × Obj)), Zc cls d oe → (∃ vs, oe.data = .fields vs) → PSs (X.suite a ((a, oe) :: pn)) (b₀ :: suite) (ts a cls d)) :
    PS X (.Try body [.ExceptHandler (some (.Name x np)) (some n) (b₀ :: suite) pos'] [] [] pos) (fun D σ H => tb (wKeep X.K X.N c i ts D) D σ H) := by
  constructor
  intro pins s σ H D I h
  have ok := I.ok
  -- the body's end in the try's context is one in the def's own
  have plainEnd : ∀ {pn : List (Addr × Obj)} {xe : Value → Shared → Prop} {fl : Flow} {s1 : Shared}, SP (X.tr (X.pn ++ pins) xe) pn D fl s1 → SP X pins D fl s1 := fun {pn xe fl s1} q => by
    cases fl
    case ret => exact let ⟨v, σ1, H1, J, r⟩ := q; ⟨v, σ1, H1, J.ofTry ok, r⟩
    all_goals exact let ⟨σ1, H1, J, r⟩ := q; ⟨σ1, H1, J.ofTry ok, r⟩
  refine wpAny_Try_except (wpAny_mono ((hb (wKeep X.K X.N c i ts D) (X.pn ++ pins) _ ?landed PassesOwn.looking).run [] s σ H D (I.toTry _) h) ?fine fun _ _ z => z)
  case fine =>
    intro fl s1 q
    have q := plainEnd q
    cases fl
    case next => exact wpAny_execs_nil q
    all_goals exact q
  case landed =>
    rintro _ s1 ⟨a, B, sI, pn, σ1, H1, cls, _, rfl, J0, nb, up, sky, na, os, ag, rfl, fits, go⟩
    have J : Inv X pins σ1 H1 sI := J0.ofTry ok
    have frames : X.A.frames = some (X.env :: X.outer) := ok.frames.trans (congrArg some hs)
    refine Sky.land Zc.steady frames hf (show Sky B (X.env :: X.outer) a (Zc cls none) X.env.locals s1.heap from hs ▸ sky) fun h2 fl2 up2 => ?_
    have al : Aloft X pins a := aloft hs hf hex J nb fl2
    -- in whatever heap it has landed, the suite may begin
    have begun : ∀ {h : Heap}, HandSPX.FlyingZ B (X.env :: X.outer) a (Zc cls none) h → sI.heap.UpToSlots h → ∃ oe vs, h.get? a = some oe ∧ Zc cls none oe ∧ oe.data = .fields vs ∧ Inv X pins σ1 H1 { s1 with heap := h } ∧ Inv (X.suite a ((a, oe) :: (X.pn ++ pins))) [] σ1 H1 { s1 with heap := h } := fun {h} fl to => by
      obtain ⟨oe, vs, e, z, dd⟩ := fl.there
      have K : Inv X pins σ1 H1 { s1 with heap := h } := J.landed nb fl.1 to os ag
      exact ⟨oe, vs, e, z, dd, K, K.suite e dd na al.loc al.fs⟩
    obtain ⟨o2, _, e2, z2, _, K2, S2⟩ := begun fl2 (up.trans up2)
    refine wpAny_handleBy_cons (codeAny_handlers_test ?_) nofun
    have kind : PySem.W.Looks (model X.prog X.w) h2 (typeOf (.ref a)) cls := fun _ _ _ _ k q => wpAny_typeOf_ref (k _ _ e2) (z2.1.symm ▸ q)
    have caught := PySem.W.exm_one (M := model X.prog X.w) K2.kIn kind fits
    have named : ∀ {Q E}, Q c { s1 with heap := h2 } → wpAny (model X.prog X.w) (X.A.mark (some (.ref a))) (eval (.Name x np) X.env) Q E { s1 with heap := h2 } := fun q => by
      obtain ⟨hg, dbg, hm | ⟨hm, hv, nn⟩⟩ := hc
      · exact ld_glob (X := X.suite a _) S2 hg hm q dbg
      · exact ld_blt (X := X.suite a _) S2 hg hm hv q nn dbg
    refine named (caught.here (codeAny_handlers_suite_as (HandSPX.lands_againZ fl2 fun h4 fl4 up4 => ?_)))
    obtain ⟨o4, v4, _, z4, d4, _, S4⟩ := begun fl4 ((up.trans up2).trans up4)
    refine store_ok (X := X.suite a _) (v := .ref a) S4 hN hi (.inl hln) rfl (fun s5 S5 => ?_) (.inr hln)
    refine wpAny_mono ((hsu a o4 cls none _ z4 ⟨v4, d4⟩).run [] s5 _ H1 _ S5 (go J.len a na)) (fun fl s6 q => ?_) fun _ _ z => z.elim
    cases fl
    case next =>
      obtain ⟨σ6, H6, S6, q⟩ := q
      refine gone_ok (X := X.suite a _) S6 hN hi hln fun s7 S7 => ?_
      have ⟨there, none7, _⟩ := S7.pin (a, o4) (List.mem_append_left _ List.mem_cons_self)
      exact ⟨_, _, inv_track (S7.unsuite ok) none7 al.old there d4 al.loc al.pin ⟨⟨o4, v4, there, z4, d4⟩, ⟨o4, there⟩, fun _ _ ⟨o, v, q, r⟩ k => ⟨o, v, k o q, r⟩⟩, q none7⟩
    case ret => exact let ⟨_, _, _, _, _, z⟩ := q; z.elim
    all_goals exact let ⟨_, _, _, z⟩ := q; z.elim
end
end Fm

/-! ### x.index(y), l.insert(i, y) -/
namespace Fm
open PySem PySem.Spec PyProof.Rows L2
theorem RpL.strsOf {K : PySem.W.Frag} {T : Tn} {F : Hp} : ∀ {vs : List V} {ds : List D} {ys : List Str}, RpL K T F vs ds → strsD ds = some ys → vs = ys.map V.str ∧ ds = ys.map D.str
  | _, _, ns, .nil, h => by
    simp only [strsD, Option.some.injEq] at h
    subst h
    exact ⟨rfl, rfl⟩
  | _, _, ns, @RpL.cons _ _ _ v vs d ds h r, e => by
    cases h with
    | str i =>
      simp only [strsD, Option.map_eq_some_iff] at e
      obtain ⟨ms, e1, e2⟩ := e
      subst e2
      obtain ⟨q1, q2⟩ := r.strsOf e1
      rw [q1, q2]
      exact ⟨rfl, rfl⟩
    | _ => simp [strsD] at e
theorem idxOf_first {ys : List Str} {z : Str} : ∀ m, m < ys.idxOf z → ys[m]? ≠ some z := by
  induction ys with
  | nil => intro m h; simp at h
  | cons y ys ih =>
    intro m h
    rw [List.idxOf_cons] at h
    by_cases e : y = z
    · subst e
      simp at h
    · have e2 : (y == z) = false := by simpa using e
      rw [e2] at h
      simp only [cond_false] at h
      cases m with
      | zero => simpa using e
      | succ m =>
        simp only [List.getElem?_cons_succ]
        exact ih m (by omega)
theorem idxOf_at {ys : List Str} {z : Str} (h : z ∈ ys) : ys[ys.idxOf z]? = some z := by
  rw [List.getElem?_eq_getElem (List.idxOf_lt_length_of_mem h)]
  simp
section
variable {P : Pm} {X : Cx} {a b c : Expr} {pos p1 p2 : Pos} {fa fb fc : Rho → Tw → Res D}
theorem few1 (hs : starEach [a] X.env = (false, eval a X.env) :: starEach [] X.env) : ((backTo p2 (starEach [a] X.env)).all (fun x => !x.1) && (backToKw p2 (keywordEach [] X.env)).all (fun x => x.1.isSome)
      && decide (([a] : List Expr).length + ([] : List Keyword).length + (if ([] : List Keyword).isEmpty then 0 else 1) < 30)) = true := by
  rw [hs]
  rfl
def idxE (fa fb : Rho → Tw → Res D) (r : Rho) (t : Tw) : Res D := (fa r t).bind fun x t1 => if isSq true x then (fb r t1).bind fun y t2 => Fm.lift (idxD true x y) t2 else .bad
/-- a constant that is a tuple -/
structure ConT (X : Cx) (P : Pm) (x : Str) (d : D) : Prop where
  ex : ∃ (a : Addr) (o : Obj) (xs : List V) (ds : List D), X.mg x = some (.ref a) ∧ X.K.lookup a = some o ∧ o.cls = .type "tuple" ∧ o.dict = none ∧ d = .tup ds ∧ SqT X.K (fun _ => none) a xs ∧ RpL P.K P.T (fun _ => none) xs ds
theorem s_idxG {x : Str} {d0 : D} {q : Pos} (hg : Gl X x) (c0 : ConT X P x d0) (hdb : (x == ("__debug__" : Str)) = false) (hb : PE X b (tD P fb)) (hline : (p1.endLine == p2.line) = true) (hs : starEach [b] X.env = (false, eval b X.env) :: starEach [] X.env) :
    PE X (.Call (.Attribute (.Name x q) "index" p1) [b] [] p2) (tD P fun r t => (fb r t).bind fun y t1 => Fm.lift (idxD false d0 y) t1) := by
  obtain ⟨a, o, vs, xs, hm, lk, oc, od, rfl, e1, q1⟩ := c0.ex
  refine peMono (pe_bm PySem.F.plainAttrs_tuple PySem.F.slot_tuple_index PySem.F.type_tuple_index mt_tup_index (pe_glob (v := .ref a) hg hm rfl hdb) (pa_cons hb pa_nil hs) rfl (few1 hs) hline hs rfl) fun σ H Q ⟨F, r, t, R, h⟩ => ⟨.inr (.inl ⟨rfl, o, lk, oc, od⟩), F, r, t, R, h.bind.mono fun dy t2 h w F2 H2 s2 R2 ry => ?_⟩
  obtain ⟨d, e, q⟩ := h.lift
  cases dy with
  | str z =>
    cases ry
    obtain ⟨ys, e2, e3⟩ := Option.bind_eq_some_iff.mp (show ((strsD xs).bind fun ys => if decide (z ∈ ys) then some (D.int (ys.idxOf z : Nat)) else none) = some d from e)
    split at e3
    · rename_i hm
      have hm := of_decide_eq_true hm
      cases e3
      obtain ⟨rfl, _⟩ := q1.strsOf e2
      exact ⟨a, ys, z, ys.idxOf z, rfl, rfl, sqT_mono (fun _ _ z => by cases z) e1, idxOf_at hm, idxOf_first, q _ _ _ s2 R2 (.int _)⟩
    · cases e3
  | _ => cases e
theorem strs_eqv (y z : Str) : PyData.eqv (D.str y).py (D.str z).py = decide (y = z) := by
  simp [D.py, PyData.eqv, Bool.beq_eq_decide_eq]
theorem shaped_lst {ys : List Str} (h : lay (.lst (ys.map D.str)) = true) : SeqAt.shaped (D.lst (ys.map D.str)).py = true := by
  have hd : (D.lst (ys.map D.str)).py.depth ≤ 1 := by
    simp only [D.py, PyData.depth]
    have : ∀ ys : List Str, PyData.depthAll (pys (ys.map D.str)) = 0 := fun ys => by
      induction ys with
      | nil => rfl
      | cons y ys ih => simp [pys, PyData.depthAll, D.py, PyData.depth, ih]
    rw [this]
    exact Nat.le_refl _
  unfold SeqAt.shaped
  rw [Bool.and_eq_true, decide_eq_true_eq]
  exact ⟨h, by omega⟩
theorem s_idxL (hK : X.K = P.K) (hu : X.A.units + 200 < cLine) (ha : PE X a (tB P fa)) (hb : PE X b (tD P fb)) (hbase : attributeBase a "index" X.env (eval a X.env) = eval a X.env) (hline : (p1.endLine == p2.line) = true) (hs : starEach [b] X.env = (false, eval b X.env) :: starEach [] X.env) :
    PE X (.Call (.Attribute a "index" p1) [b] [] p2) (tD P (idxE fa fb)) := by
  refine peMono (pe_bm PySem.F.plainAttrs_list PySem.F.slot_list_index PySem.F.type_list_index (mt_indexD (by omega)) ha (pa_cons hb pa_nil hs) hbase (few1 hs) hline hs rfl) fun σ H Q ⟨F, r, t, R, h⟩ => ⟨F, r, t, R, h.bind.mono fun dx t1 h v F1 H1 s1 R1 rx => ?_⟩
  cases dx with
  | lst xs =>
    have h : Aft P F ((fb r t1).bind fun y t2 => Fm.lift (idxD true (.lst xs) y) t2) _ := h
    obtain ⟨p, vs, rfl, e1, z1, q1⟩ := rx.lst R1
    refine ⟨.inl ⟨rfl, vs, SqL.of e1⟩, F1, r, t1, R1, (h.up s1.1).bind.mono fun dy t2 h w F2 H2 s2 R2 ry => ?_⟩
    obtain ⟨d, e, q⟩ := h.lift
    cases dy with
    | str z =>
      cases ry
      obtain ⟨ys, e2, e3⟩ := Option.bind_eq_some_iff.mp (show ((strsD xs).bind fun ys => if decide (z ∈ ys) && (lay (.lst xs) && lay (.str z)) then some (D.int (ys.idxOf z : Nat)) else none) = some d from e)
      split at e3
      · rename_i hm
        obtain ⟨hm1, hl⟩ := Bool.and_eq_true_iff.mp hm
        obtain ⟨hl1, hl2⟩ := Bool.and_eq_true_iff.mp hl
        have hmz : z ∈ ys := of_decide_eq_true hm1
        cases e3
        have rx2 := rx.mono s2.1
        obtain ⟨rfl, rfl⟩ := q1.strsOf e2
        have D1 := rx2.dp R2 hl1
        have hD : (D.lst (ys.map D.str)).py = .list (pys (ys.map D.str)) := rfl
        rw [hD] at D1
        have gp : ∀ m y, ys[m]? = some y → (pys (ys.map D.str))[m]? = some (D.str y).py := fun m y e => by
          have : ∀ (l : List D), pys l = l.map D.py := fun l => by
            induction l with
            | nil => rfl
            | cons x l ih => simp [pys, ih]
          rw [this, List.map_map, List.getElem?_map, e]
          rfl
        have gl : (pys (ys.map D.str)).length = ys.length := by
          have : ∀ (l : List D), pys l = l.map D.py := fun l => by
            induction l with
            | nil => rfl
            | cons x l ih => simp [pys, ih]
          rw [this]
          simp
        rw [hK]
        refine ⟨p, .str z, (D.str z).py, pys (ys.map D.str), ys.idxOf z, (D.str z).py, rfl, rfl, D1, .str z, shaped_lst hl1, ?_, gp _ _ (idxOf_at hmz), by rw [strs_eqv]; simp, fun m z' hm' hz' => ?_, q _ _ _ (s1.trans s2) R2 (.int _)⟩
        · unfold SeqAt.shaped
          rw [Bool.and_eq_true, decide_eq_true_eq]
          exact ⟨hl2, by simp [D.py, PyData.depth]⟩
        · have hlt : m < ys.length := by
            have := (List.getElem?_eq_some_iff.mp hz').1
            rw [gl] at this
            exact this
          have e4 := gp m _ (List.getElem?_eq_getElem hlt)
          rw [e4] at hz'
          cases hz'
          rw [strs_eqv]
          have := idxOf_first m hm'
          rw [List.getElem?_eq_getElem hlt] at this
          simpa using fun z => this (by rw [z])
      · cases e3
    | _ => cases e
  | _ => exact (show False from h).elim
/-! ### name.insert(k, e) -/
def insE (i : Nat) (fk fa : Rho → Tw → Res D) (r : Rho) (t : Tw) : Res (Fl × Rho) := match r[i]? with
    | some (.own (.lst xs)) => (fk r t).bind fun y t1 => (fa r t1).bind fun x t2 => (match y with
      | .int j => if decide (0 ≤ j) && decide (j < 2 ^ 63) && decide (xs.length < 16777216) then .ok (.nx, r.set i (.own (.lst (xs.take j.toNat ++ [x] ++ xs.drop j.toNat)))) t2 else .bad
      | _ => .bad)
    | _ => .bad
theorem insE_ok {i : Nat} {F : Hp} {r : Rho} {t : Tw} {Z : Fl × Rho → Tw → Prop} (h : Aft P F (insE i fb fa r t) Z) : ∃ xs, r[i]? = some (.own (.lst xs)) ∧ Aft P F ((fb r t).bind fun y t1 => (fa r t1).bind fun x t2 => (match y with
      | .int j => if decide (0 ≤ j) && decide (j < 2 ^ 63) && decide (xs.length < 16777216) then .ok (.nx, r.set i (.own (.lst (xs.take j.toNat ++ [x] ++ xs.drop j.toNat)))) t2 else .bad
      | _ => .bad)) Z := by
  unfold insE at h
  split at h
  · rename_i xs e
    exact ⟨xs, e, h⟩
  · exact h.elim
theorem st_ins {i : Nat} {y : Str} (hN : X.N[i]? = some y) (hv : Vis X.env.scope y) (hd : (y == ("__debug__" : Str)) = false) (hcd : (y == ("__classdict__" : Str)) = false) (hb : PE X b (tD P fb)) (ha : PE X a (tD P fa)) (hline : (p1.endLine == p2.line) = true)
    (hs : starEach [b, a] X.env = (false, eval b X.env) :: starEach [a] X.env) (hs2 : starEach [a] X.env = (false, eval a X.env) :: starEach [] X.env) {q : Pos} : PS X (.Expr (.Call (.Attribute (.Name y q) "insert" p1) [b, a] [] p2) pos) (tS P (insE i fb fa)) := by
  have hfew : ((backTo p2 (starEach [b, a] X.env)).all (fun x => !x.1) && (backToKw p2 (keywordEach [] X.env)).all (fun x => x.1.isSome)
      && decide (([b, a] : List Expr).length + ([] : List Keyword).length + (if ([] : List Keyword).isEmpty then 0 else 1) < 30)) = true := by
    rw [hs, hs2]
    rfl
  refine psMono (ps_expr (pe_bm PySem.F.plainAttrs_list PySem.F.slot_list_insert PySem.F.type_list_insert mt_insert (pe_slot hN hv hd hcd) (pa_cons hb (pa_cons ha pa_nil hs2) hs) rfl hfew hline hs (by rw [hs2]; rfl)) rfl) fun D σ H ⟨F, r, t, R, h⟩ => ?_
  obtain ⟨xs, e, h⟩ := insE_ok h
  obtain ⟨p, vs, e1, h1, h2, h3⟩ := own_lst R e
  refine ⟨_, e1, .inl ⟨rfl, vs, SqL.of h1⟩, F, r, t, R, h.bind.mono fun dk t1 h k F1 H1 s1 R1 rk => ⟨F1, r, t1, R1, (h.up s1.1).bind.mono fun d t' h v F' H' s2 R' rv => ?_⟩⟩
  cases dk with
  | int j =>
    cases rk
    have h : Aft P F1 (if decide (0 ≤ j) && decide (j < 2 ^ 63) && decide (xs.length < 16777216) then .ok (.nx, r.set i (.own (.lst (xs.take j.toNat ++ [d] ++ xs.drop j.toNat)))) t' else .bad) (aftS P F D) := h
    split at h
    · rename_i hl
      simp only [Bool.and_eq_true, decide_eq_true_eq] at hl
      obtain ⟨⟨j0, j1⟩, hl⟩ := hl
      obtain ⟨p', vs', e1', h1', h2', h3'⟩ := own_lst R' e
      rw [e1] at e1'
      cases e1'
      have hz : vs'.length < sizeLine := by
        rw [h3'.length, sizeLine_eq]
        exact hl
      refine ⟨p, vs', j, v, rfl, rfl, h1', hz, j0, j1, h F' σ _ (s1.trans s2).1 (Rel.updOwn R' e e1 ⟨_, upd_same, ?_, ((h3'.take _).append (.cons rv .nil)).append (h3'.drop _)⟩)⟩
      rw [List.length_append, List.length_append, List.length_singleton, List.length_take, List.length_drop]
      omega
    · exact h.elim
  | _ => exact (show False from h).elim
end
end Fm

/-! ### enumerate(a tuple) -/
namespace Fm
open PySem PySem.Spec PyProof.Rows L2 RZ
section
variable {prog : Program} {w : World} {A : Around} {E : Value → Shared → Prop} {s : Shared}
theorem drawsT {it a : Addr} {items : Array Value} (hh : A.handled = none) (hne : it ≠ a) : Draws prog w A it [it, a] items.size (fun i x => items[i]? = some x) (fun i h => h.IsTupleIter it a i ∧ h.IsTuple a items) where
  live := fun i h st => let ⟨⟨o, ho, _⟩, _⟩ := st; ⟨o, ho⟩
  frame := fun i h h' st k => ⟨st.1.at fun o q => k it (by simp) o q, let ⟨o, ho, r⟩ := st.2; ⟨o, k a (by simp) o ho, r⟩⟩
  item := fun i s Q E hi st hQ => nextOf_tuple_item st.1 st.2 (Array.getElem?_eq_getElem hi) fun h' h1 sb => hQ _ h' s.toks (Array.getElem?_eq_getElem hi) ⟨h1, let ⟨o, ho, r⟩ := st.2; ⟨o, (sb.2 a (Ne.symm hne)).trans ho, r⟩⟩ sb
  done := fun s Q E st hE => nextOf_tuple_end hh st.1 st.2 (Array.getElem?_eq_none (Nat.le_refl _)) hE
end
/-- the tuple at a, each item in a new pair -/
def IteT (K : PySem.W.Frag) (a : Addr) : It :=
  ⟨fun i H => ∃ (xs : List V) (x : V), SqT K H a xs ∧ xs[i]? = some x, fun i H v H' => ∃ T x, v = .ref T ∧ H T = none ∧ H' = upd H T (.tup [.int (i : Nat), x]) ∧ ∀ xs, SqT K H a xs → xs[i]? = some x, fun i H => ∃ xs : List V, SqT K H a xs ∧ xs.length = i⟩
theorem walk_enumT {K : PySem.W.Frag} {a : Addr} {xs : List V} : Walk (IteT K a) xs.length (fun H => SqT K H a xs) (YPair (fun i => some (.int (i : Nat))) (fun i => xs[i]?)) := by
  refine ⟨fun i _ hi q => ⟨xs, xs[i], q, by simp [hi]⟩, fun _ q => ⟨xs, q, rfl⟩, fun i H v H' _ q y => ?_⟩
  obtain ⟨T, x, h1, h2, h3, h4⟩ := y
  exact ⟨T, .int (i : Nat), x, h1, h2, h3, rfl, h4 xs q⟩
section
variable {P : Pm} {X : Cx} {a b : Expr} {pos p1 : Pos} {fa fb : Rho → Tw → Res D}
def enumTE (fa : Rho → Tw → Res D) (r : Rho) (t : Tw) : Res (List D) := (fa r t).bind fun x t1 => match x with
    | .tup xs => .ok (enumD 0 xs) t1
    | _ => .bad
end
end Fm

/-! ### [e for a in x for b in y] -/
namespace Fm
open PySem PySem.Spec PyProof.Rows L2
def noC : Rho → Tw → Res (Option D) := fun _ t => .ok none t
def innE (tg1 : Tg) (fi1 : Rho → Tw → Res (List D)) (fe : Rho → Tw → Res D) (r2 : Rho) (t : Tw) : Res (List D) := match fi1 r2 t with
  | .ok es t1 => if okLen es.length then compL (turnE tg1 tg1.slots noC fe r2) es t1 else .bad
  | _ => .bad
def outE (tg : Tg) (vs : List Nat) (tg1 : Tg) (fi1 : Rho → Tw → Res (List D)) (fe : Rho → Tw → Res D) (r : Rho) (d : D) (t : Tw) : Res (List D) := match setT tg d (wipeR r vs) with
  | some r2 => innE tg1 fi1 fe r2 t
  | none => .bad
def comp2E (tg : Tg) (vs : List Nat) (fi : Rho → Tw → Res (List D)) (tg1 : Tg) (fi1 : Rho → Tw → Res (List D)) (fe : Rho → Tw → Res D) (r : Rho) (t : Tw) : Res D :=
  (fi r t).bind fun xs t1 => if okLen xs.length then (comp2L (outE tg vs tg1 fi1 fe r) xs t1).bind fun ys t2 => if okLen ys.length then .ok (.lst ys) t2 else .bad else .bad
theorem comp2_noexc {f : D → Tw → Res (List D)} (l : List D) : ∀ (t : Tw) (n : Nat) (t2 : Tw), comp2L f l t ≠ .exc n t2 := by
  induction l with
  | nil =>
    intro t n t2 z
    cases z
  | cons d l ih =>
    intro t n t2 z
    unfold comp2L at z
    split at z
    · rename_i o t3 _
      cases e4 : comp2L f l t3 with
      | ok a b =>
        rw [e4] at z
        cases z
      | exc a b => exact ih _ _ _ e4
      | bad =>
        rw [e4] at z
        cases z
    · cases z
mutual
theorem setT_own {i : Nat} {e : D} : ∀ {tg : Tg} {d : D} {r r2 : Rho}, setT tg d r = some r2 → r2[i]? = some (.own e) → r[i]? = some (.own e) ∧ i ∉ tg.slots
  | .name j, d, r, r2, h, h2 => by
    simp only [setT] at h
    split at h
    · rename_i hj
      have hj := of_decide_eq_true hj
      cases h
      by_cases hi : j = i
      · subst hi
        rw [List.getElem?_set_self hj] at h2
        cases h2
      · rw [List.getElem?_set_ne hi] at h2
        exact ⟨h2, by simpa [Tg.slots] using Ne.symm hi⟩
    · cases h
  | .tup ts, .tup xs, r, r2, h, h2 => by
    have h : setTs ts xs r = some r2 := by simpa only [setT] using h
    have := setTs_own h h2
    exact ⟨this.1, by simpa [Tg.slots] using this.2⟩
  | .tup ts, .non, _, _, h, _ => by simp [setT] at h
  | .tup ts, .bl _, _, _, h, _ => by simp [setT] at h
  | .tup ts, .int _, _, _, h, _ => by simp [setT] at h
  | .tup ts, .str _, _, _, h, _ => by simp [setT] at h
  | .tup ts, .lst _, _, _, h, _ => by simp [setT] at h
  | .tup ts, .dct _, _, _, h, _ => by simp [setT] at h
  | .tup ts, .tok, _, _, h, _ => by simp [setT] at h
  | .tup ts, .scr _, _, _, h, _ => by simp [setT] at h
  | .tup ts, .exc _, _, _, h, _ => by simp [setT] at h
  | .tup ts, .dcn _, _, _, h, _ => by simp [setT] at h
theorem setTs_own {i : Nat} {e : D} : ∀ {ts : Tgs} {ds : List D} {r r2 : Rho}, setTs ts ds r = some r2 → r2[i]? = some (.own e) → r[i]? = some (.own e) ∧ i ∉ ts.slots
  | .nil, [], r, r2, h, h2 => by
    simp only [setTs, Option.some.injEq] at h
    subst h
    exact ⟨h2, by simp [Tgs.slots]⟩
  | .nil, _ :: _, _, _, h, _ => by simp [setTs] at h
  | .cons _ _, [], _, _, h, _ => by simp [setTs] at h
  | .cons t ts, d :: ds, r, r2, h, h2 => by
    obtain ⟨r1, e1, e2⟩ := Option.bind_eq_some_iff.mp (show ((setT t d r).bind fun r1 => setTs ts ds r1) = some r2 from h)
    obtain ⟨a, b⟩ := setTs_own e2 h2
    obtain ⟨c, d'⟩ := setT_own e1 a
    exact ⟨c, by simp [Tgs.slots, d', b]⟩
end
theorem wipeR_own {r : Rho} {i : Nat} {e : D} : ∀ {vs : List Nat}, (wipeR r vs)[i]? = some (.own e) → r[i]? = some (.own e) ∧ i ∉ vs
  | [], h => ⟨h, by simp⟩
  | v :: vs, h => by
    have h : ((wipeR r vs).set v .un)[i]? = some (.own e) := h
    by_cases hv : v = i
    · subst hv
      by_cases hl : v < (wipeR r vs).length
      · rw [List.getElem?_set_self hl] at h
        cases h
      · rw [List.getElem?_eq_none (by simpa using hl)] at h
        cases h
    · rw [List.getElem?_set_ne hv] at h
      obtain ⟨a, b⟩ := wipeR_own h
      exact ⟨a, by simp [b, Ne.symm hv]⟩
section
variable {P : Pm} {X : Cx}
/-- the second for's invariant -/
structure C2 (P : Pm) (r r2 : Rho) (σ σ2 : L2.St) (F1 H1 F5 : Hp) (D : Addr) (f : Fm.D → Tw → Res (Option Fm.D)) (acc es ysI : List Fm.D) (t3 : Tw) (j : Nat) (H F6 : Hp) (t6 : Tw) (vacc : List V) (accI restI : List Fm.D) : Prop where
  k : Kp P.T F1 H1 F6 H
  R : RelP P F6 r t6 σ H
  R2 : RelP P F6 r2 t6 σ2 H
  d : H D = some (.lst vacc)
  q : RpL P.K P.T F6 vacc (acc ++ accI)
  e : compL f (es.drop j) t6 = .ok restI t3
  y : ysI = accI ++ restI
  fD : F6 D = none
  s : Same F5 F6
theorem comp2_read {tg tg1 : Tg} {vs : List Nat} {fi fi1 : Rho → Tw → Res (List D)} {fe : Rho → Tw → Res D} {w0 w1' : Bool} (hw : w0 = true → tg.isT = true) (hw1 : w1' = true → tg1.isT = true) (hsl : ∀ i ∈ tg.slots, i ∈ vs) (σ : L2.St) (H : Hp) (Q : VK) (h : tN P (comp2E tg vs fi tg1 fi1 fe) σ H Q) :
    tLc2 (tI P false w0 fi) (gT P.nox tg) (tC1 P.nox noC) (tI P.nox true w1' fi1) (gT P.nox tg1) (tC1 P.nox noC) (tD P.nox fe) vs tg1.slots σ H Q := by
  obtain ⟨F, r, t, R, h⟩ := h
  refine ⟨F, r, t, R, h.bind.mono fun ds t1 h J F1 H1 s1 R1 w D hD => ?_⟩
  have w : WD P w0 J (keepG P F1 H1) F1 ds := w
  split at h
  rotate_left
  · exact h.elim
  obtain ⟨ys, t2, ec, hly, h⟩ : ∃ ys t2, comp2L (outE tg vs tg1 fi1 fe r) ds t1 = .ok ys t2 ∧ ys.length ≤ sizeLine ∧ ∀ v F' H' p, Kp P.T F H F' H' → RelP P F' r t2 σ H' → Nn H p → Fre P F' r σ H' v (.lst ys) p → Q v H' := by
    cases e : comp2L (outE tg vs tg1 fi1 fe r) ds t1 with
    | ok ys t2 =>
      rw [e] at h
      simp only [Res.bind_ok] at h
      split at h
      · rename_i hl
        exact ⟨ys, t2, rfl, okLen_le hl, h⟩
      · exact h.elim
    | exc n t2 => exact absurd e (comp2_noexc _ _ _ _)
    | bad =>
      rw [e] at h
      exact h.elim
  have nTa : D ≠ P.T.a := fun e => by
    rw [e, R1.tw.a] at hD
    cases hD
  have nTb : D ≠ P.T.b := fun e => by
    rw [e, R1.tw.b] at hD
    cases hD
  have no : ∀ (i : Nat) (e : Fm.D), r[i]? = some (.own e) → σ[i]? ≠ some (some (.ref D)) := fun i e h1 h2 => by
    obtain ⟨q, e1, w⟩ := R1.own i e h1
    rw [h2] at e1
    cases e1
    obtain ⟨o2, ho, _⟩ := w.at_.obj
    rw [hD] at ho
    cases ho
  have b0 := R1.toRelH.newO (o := .lst []) hD
  have fDk : ∀ {F2 H2 F3 H3 : Hp} {vacc : List V}, Kp P.T F2 H2 F3 H3 → H2 D = some (.lst vacc) → F2 D = none → F3 D = none := fun {F2 H2 F3 H3 vacc} k hd fD => by
    cases z : F3 D with
    | none => rfl
    | some u =>
      rcases k.new D u z with z | z
      · rw [fD] at z
        cases z
      · exact (z.no hd (by intro _ z; cases z)).elim
  refine ⟨fun i m H => m = ds.length - i ∧ i ≤ ds.length ∧ ∃ F2 t' vacc acc rest, (Kp P.T F1 H1 F2 H ∧ RelP P F2 r t' σ H ∧ H D = some (.lst vacc) ∧ RpL P.K P.T F2 vacc acc ∧ comp2L (outE tg vs tg1 fi1 fe r) (ds.drop i) t' = .ok rest t2 ∧ ys = acc ++ rest) ∧ F2 D = none, ⟨ds.length, by simp, Nat.zero_le _, F1, t1, [], [], ys, ?_, ?_⟩, fun i m H2 hW => ?_⟩
  · exact ⟨Kp.of b0, R1.step b0, upd_same, .nil, by simpa using ec, rfl⟩
  · exact R1.sub.free hD
  · obtain ⟨rfl, hi, F2, t', vacc, acc, rest, ⟨k, R2, hd, q, e, ey⟩, fD⟩ := hW
    have hG : keepG P F1 H1 H2 := ⟨k.base.trans R2.sub, k.old⟩
    by_cases hlt : i < ds.length
    · refine .inr ⟨w.goes i H2 hlt hG, fun H' => ∃ F2 t' vacc acc rest, (Kp P.T F1 H1 F2 H' ∧ RelP P F2 r t' σ H' ∧ H' D = some (.lst vacc) ∧ RpL P.K P.T F2 vacc acc ∧ comp2L (outE tg vs tg1 fi1 fe r) (ds.drop (i + 1)) t' = .ok rest t2 ∧ ys = acc ++ rest) ∧ F2 D = none, fun H' hn => ⟨_, by omega, rfl, hlt, hn⟩, fun x H' hy => ?_⟩
      have hdi : ds[i]? = some ds[i] := List.getElem?_eq_getElem hlt
      have e' : comp2L (outE tg vs tg1 fi1 fe r) (ds[i] :: ds.drop (i + 1)) t' = .ok rest t2 := by
        rw [← List.drop_eq_getElem_cons hlt]
        exact e
      unfold comp2L at e'
      cases et : outE tg vs tg1 fi1 fe r ds[i] t' with
      | exc n t3 =>
        rw [et] at e'
        cases e'
      | bad =>
        rw [et] at e'
        cases e'
      | ok ysI t3 =>
        rw [et] at e'
        dsimp only at e'
        obtain ⟨rest', er, eo⟩ : ∃ rest', comp2L (outE tg vs tg1 fi1 fe r) (ds.drop (i + 1)) t3 = .ok rest' t2 ∧ rest = ysI ++ rest' := by
          cases e4 : comp2L (outE tg vs tg1 fi1 fe r) (ds.drop (i + 1)) t3 with
          | ok a b =>
            rw [e4] at e'
            simp only [Res.bind_ok] at e'
            cases e'
            exact ⟨a, rfl, rfl⟩
          | exc a b =>
            rw [e4] at e'
            cases e'
          | bad =>
            rw [e4] at e'
            cases e'
        -- the first target, the second source
        obtain ⟨r2, es, tE, es0, efi, hes, eci⟩ : ∃ r2 es tE, setT tg ds[i] (wipeR r vs) = some r2 ∧ fi1 r2 t' = .ok es tE ∧ es.length ≤ sizeLine ∧ compL (turnE tg1 tg1.slots noC fe r2) es tE = .ok ysI t3 := by
          unfold outE at et
          cases z : setT tg ds[i] (wipeR r vs) with
          | none =>
            rw [z] at et
            cases et
          | some r2 =>
            rw [z] at et
            dsimp only at et
            unfold innE at et
            cases z2 : fi1 r2 t' with
            | ok es tE =>
              rw [z2] at et
              dsimp only at et
              split at et
              · rename_i hl
                exact ⟨r2, es, tE, rfl, z2, okLen_le hl, et⟩
              · cases et
            | exc n t4 =>
              rw [z2] at et
              cases et
            | bad =>
              rw [z2] at et
              cases et
        obtain ⟨F3, k3, _, R3, rx⟩ := w.draw hw hdi hG hy k.base R2
        refine ⟨F3, wipeR r vs, t', ds[i], r2, R3.wipe vs, rx, es0, fun σ2 R4 c => ⟨(c.wipe hsl).trans (wipe_wipe σ vs), ?_⟩⟩
        have no2 : ∀ (i : Nat) (e : Fm.D), r2[i]? = some (.own e) → σ2[i]? ≠ some (some (.ref D)) := fun i e h1 h2 => by
          obtain ⟨a, b⟩ := setT_own es0 h1
          obtain ⟨a2, b2⟩ := wipeR_own a
          rw [c.2 i b, wipe_get, if_neg (fun z => b2 z.1)] at h2
          exact no i e a2 h2
        refine ⟨F3, r2, t', R4, true, rfl, fun F4 H4 k4 R5 => ?_⟩
        show (if true = true then _ else _)
        rw [if_pos rfl]
        refine ⟨F4, r2, t', R5, ?_⟩
        rw [efi]
        intro J1 F5 H5 k5 R6 w1
        have w1 : WD P.nox w1' J1 (Same F5) F5 es := w1
        have k6 : Kp P.T F2 H2 F5 H5 := k3.trans (k4.trans k5)
        have hd5 : H5 D = some (.lst vacc) := k6.old D _ hd nTa nTb (by intro _ z; cases z)
        have fD5 := fDk k6 hd fD
        have R7 : RelP P F5 r tE σ H5 := R2.step (Kp.relH (P := P.nox) k6 R6)
        refine ⟨fun j m H => m = es.length - j ∧ j ≤ es.length ∧ ∃ F6 t6 va accI restI, C2 P r r2 σ σ2 F1 H1 F5 D (turnE tg1 tg1.slots noC fe r2) acc es ysI t3 j H F6 t6 va accI restI, ⟨es.length, by simp, Nat.zero_le _, F5, tE, vacc, [], ysI, ⟨k.trans k6, R7, R6, hd5, by rw [List.append_nil]; exact q.mono k6.base, by simpa using eci, rfl, fD5, Same.refl _⟩⟩, fun j m HJ hW1 => ?_⟩
        obtain ⟨rfl, hj, F6, t6, va, accI, restI, ⟨kJ, RJ, RJ2, hdJ, qJ, eJ, yJ, fDJ, sJ⟩⟩ := hW1
        have hGJ : Same F5 HJ := sJ.trans RJ.sub
        have lva : va.length = (acc ++ accI).length := qJ.length
        by_cases hjl : j < es.length
        · refine .inr ⟨w1.goes j HJ hjl hGJ, fun H' => ∃ F6 t6 va accI restI, C2 P r r2 σ σ2 F1 H1 F5 D (turnE tg1 tg1.slots noC fe r2) acc es ysI t3 (j + 1) H' F6 t6 va accI restI, fun H' hn => ⟨_, by omega, rfl, hjl, hn⟩, fun x1 HX hy1 => ?_⟩
          have hej : es[j]? = some es[j] := List.getElem?_eq_getElem hjl
          have eJ' : compL (turnE tg1 tg1.slots noC fe r2) (es[j] :: es.drop (j + 1)) t6 = .ok restI t3 := by
            rw [← List.drop_eq_getElem_cons hjl]
            exact eJ
          unfold compL at eJ'
          cases etj : turnE tg1 tg1.slots noC fe r2 es[j] t6 with
          | exc n t4 =>
            rw [etj] at eJ'
            cases eJ'
          | bad =>
            rw [etj] at eJ'
            cases eJ'
          | ok o t4 =>
            rw [etj] at eJ'
            dsimp only at eJ'
            obtain ⟨restI', erI, eoI⟩ : ∃ rest', compL (turnE tg1 tg1.slots noC fe r2) (es.drop (j + 1)) t4 = .ok rest' t3 ∧ restI = consO o rest' := by
              cases e4 : compL (turnE tg1 tg1.slots noC fe r2) (es.drop (j + 1)) t4 with
              | ok a b =>
                rw [e4] at eJ'
                simp only [Res.bind_ok] at eJ'
                cases eJ'
                exact ⟨a, rfl, rfl⟩
              | exc a b =>
                rw [e4] at eJ'
                cases eJ'
              | bad =>
                rw [e4] at eJ'
                cases eJ'
            obtain ⟨r3, oc, tc, b, es3, efc, eb, alt⟩ := turn_ok etj
            cases efc
            cases eb
            obtain ⟨y, efe, rfl⟩ : ∃ y, fe r3 t6 = .ok y t4 ∧ o = some y := by
              rcases alt with ⟨_, y, efe, rfl⟩ | ⟨z, _⟩
              · exact ⟨y, efe, rfl⟩
              · cases z
            obtain ⟨F7, k7, toX, RX2, rx1⟩ := w1.draw hw1 hej hGJ hy1 sJ RJ2
            have RX := toX (P' := P) rfl rfl RJ
            refine ⟨F7, wipeR r2 tg1.slots, t6, es[j], r3, RX2.wipe tg1.slots, rx1, es3, fun σ3 R8 c3 => ⟨(c3.wipe fun i hi => hi).trans (wipe_wipe σ2 _), ?_⟩⟩
            refine ⟨F7, r3, t6, R8, true, rfl, fun F8 H8 k8 R9 => ?_⟩
            show (if true = true then _ else _)
            rw [if_pos rfl]
            refine ⟨F8, r3, t6, R9, ?_⟩
            rw [efe]
            intro v F9 H9 k9 R10 rv
            have k10 : Kp P.T F6 HJ F9 H9 := k7.trans (k8.trans k9)
            have hd9 : H9 D = some (.lst va) := k10.old D _ hdJ nTa nTb (by intro _ z; cases z)
            have fD9 := fDk k10 hdJ fDJ
            have hsz : va.length < sizeLine := by
              have e1 : ys.length = acc.length + (accI.length + (restI'.length + 1) + rest'.length) := by
                rw [ey, eo, yJ, eoI]
                simp [consO]
                omega
              rw [lva, List.length_append]
              omega
            have bK := Kp.relH (P := P.nox) k10 R10
            have R11 : RelP P F9 r t4 σ H9 := RJ.step bK
            have R12 : RelP P F9 r2 t4 σ2 H9 := RJ2.step bK
            have hN := R1.had D (.of hD)
            have R13 : RelP P F9 r t4 σ (L2.upd H9 D (.lst (va ++ [v]))) := Rel.upd R11 (by rw [hd9]; simp) (fun ps z => by rw [hd9] at z; cases z) (fun c q z => by rw [hd9] at z; cases z) fD9 hN nTa nTb no
            have R14 : RelP P F9 r2 t4 σ2 (L2.upd H9 D (.lst (va ++ [v]))) := Rel.upd R12 (by rw [hd9]; simp) (fun ps z => by rw [hd9] at z; cases z) (fun c q z => by rw [hd9] at z; cases z) fD9 hN nTa nTb no2
            refine ⟨va, hd9, hsz, F9, t4, va ++ [v], accI ++ [y], restI', ⟨?_, R13, R14, upd_same, by rw [← List.append_assoc]; exact (qJ.mono k10.base).append (.cons rv .nil), erI, ?_, fD9, sJ.trans k10.base⟩⟩
            · have k11 := kJ.trans k10
              refine ⟨k11.base, k11.new, fun a o ha m1 m2 m3 => ?_, fun a ha => k11.had a (ha.upd (by intro _ z; cases z)).1⟩
              have : a ≠ D := fun e => by
                rw [e, hD] at ha
                cases ha
              rw [upd_ne this]
              exact k11.old a o ha m1 m2 m3
            · rw [yJ, eoI]
              simp [consO]
        · have ej : j = es.length := by omega
          subst ej
          refine .inl ⟨w1.stops HJ hGJ, F6, t3, va, acc ++ ysI, rest', ⟨kJ, ?_, hdJ, ?_, er, ?_⟩, fDJ⟩
          all_goals
            rw [List.drop_length] at eJ
            cases eJ
            rw [List.append_nil] at yJ
            subst yJ
          · exact RJ
          · exact qJ
          · rw [ey, eo, List.append_assoc]
    · have ei : i = ds.length := by omega
      subst ei
      refine .inl ⟨w.stops H2 hG, ?_⟩
      rw [List.drop_length] at e
      cases e
      rw [List.append_nil] at ey
      subst ey
      exact h _ _ _ D (s1.trans k) R2 (s1.had D (.of hD)) ⟨rfl, ⟨fD, nTa, nTb, R1.had D (.of hD), vacc, hd, by rw [q.length]; exact hly, q⟩, no⟩
theorem n_comp2 {elt tg iter tg1 iter1 : Expr} {scope : Scope} {own : List (Str × Nat)} {pos : Pos} {tgt tgt1 : Tg} {fi fi1 : Rho → Tw → Res (List D)} {fe : Rho → Tw → Res D} (hc : X.calm = true) (hN : X.N.Nodup)
    {w0 w1' : Bool} (hw : w0 = true → tgt.isT = true) (hw1 : w1' = true → tgt1.isT = true) (hi : PI X tg iter (tI P false w0 fi)) (ok : BlkOk X.N X.env.scope scope own) (hg : ∀ (s : Shared) (H : Hp) (C : Addr) (cl : List (Str × Addr)) (fp : List Addr), PG (X.blk s H scope (compEnvC scope cl C X.env) fp) tg (gT P.nox tgt))
    (hi1 : ∀ (s : Shared) (H : Hp) (C : Addr) (cl : List (Str × Addr)) (fp : List Addr), PI (X.blk s H scope (compEnvC scope cl C X.env) fp) tg1 iter1 (tI P.nox true w1' fi1))
    (hg1 : ∀ (s : Shared) (H : Hp) (C : Addr) (cl : List (Str × Addr)) (fp : List Addr), PG (X.blk s H scope (compEnvC scope cl C X.env) fp) tg1 (gT P.nox tgt1))
    (he : ∀ (s : Shared) (H : Hp) (C : Addr) (cl : List (Str × Addr)) (fp : List Addr), PE (X.blk s H scope (compEnvC scope cl C X.env) fp) elt (tD P.nox fe)) (hs : ∀ x, foldedSetIterable iter X.env x = pure x) (hs1 : ∀ env x, foldedSetIterable iter1 env x = pure x) (hsl : ∀ i ∈ tgt.slots, i ∈ own.map (·.2)) (hsl1 : ∀ i ∈ tgt1.slots, i ∈ own.map (·.2)) :
    PE X (.ListComp elt [⟨tg, iter, [], 0⟩, ⟨tg1, iter1, [], 0⟩] scope pos) (tN P (comp2E tgt (own.map (·.2)) fi tgt1 fi1 fe)) :=
  peMono (pe_lc2 hc hN hi ok hsl1 hg (fun _ _ _ _ _ => c_none) hi1 hg1 (fun _ _ _ _ _ => c_none) he hs hs1) (comp2_read hw hw1 hsl)
end
end Fm

/-! ### a, b, c, d = x, y, z, [] -/
namespace Fm
open PySem PySem.Spec PyProof.Rows L2
section
variable {P : Pm} {X : Cx} {a1 a2 a3 : Expr} {f1 f2 f3 : Rho → Tw → Res D} {pos : Pos}
def unsE (is : List Nat) (j : Nat) (fs : Rho → Tw → Res (List D)) (r : Rho) (t : Tw) : Res (Fl × Rho) := (fs r t).bind fun xs t1 => (match setAll is xs r with
    | some r1 => okSet r1 j (.own (.lst [])) t1
    | none => .bad)
theorem noSet {r : Rho} {σ : L2.St} {p : Addr} {k : Nat} {d : D} {v : Option V} (no : ∀ (i : Nat) (e : D), r[i]? = some (.own e) → σ[i]? ≠ some (some (.ref p))) : ∀ (i : Nat) (e : D), (r.set k (.val d))[i]? = some (.own e) → (σ.set k v)[i]? ≠ some (some (.ref p)) := fun i e h => by
  by_cases hk : k = i
  · subst hk
    by_cases hl : k < r.length
    · rw [List.getElem?_set_self hl] at h
      cases h
    · rw [List.getElem?_eq_none (by simpa using hl)] at h
      cases h
  · rw [List.getElem?_set_ne hk] at h ⊢
    exact no i e h
theorem st_uns {i1 i2 i3 j : Nat} {x1 x2 x3 y : Str} {q1 q2 q3 q4 q5 q6 q7 : Pos} {k1 k2 : Nat} (hK : X.K = P.K) (hc : X.calm = true) (hN : X.N.Nodup) (h1 : X.N[i1]? = some x1) (h2 : X.N[i2]? = some x2) (h3 : X.N[i3]? = some x3) (h4 : X.N[j]? = some y)
    (l1 : Loc X.env.scope x1) (l2 : Loc X.env.scope x2) (l3 : Loc X.env.scope x3) (l4 : Loc X.env.scope y) (n1 : X.fn x1 = true ∨ X.env.scope.names.lookup x1 = some .local) (n2 : X.fn x2 = true ∨ X.env.scope.names.lookup x2 = some .local) (n3 : X.fn x3 = true ∨ X.env.scope.names.lookup x3 = some .local) (n4 : X.fn y = true ∨ X.env.scope.names.lookup y = some .local)
    (p1 : PE X a1 (tD P f1)) (p2 : PE X a2 (tD P f2)) (p3 : PE X a3 (tD P f3)) (s1 : ∀ es, starEach (a1 :: es) X.env = (false, eval a1 X.env) :: starEach es X.env) (s2 : ∀ es, starEach (a2 :: es) X.env = (false, eval a2 X.env) :: starEach es X.env) (s3 : ∀ es, starEach (a3 :: es) X.env = (false, eval a3 X.env) :: starEach es X.env)
    (hw : swappedStores [.Tuple [.Name x1 q1, .Name x2 q2, .Name x3 q3, .Name y q4] k1 q5] (.Tuple [a1, a2, a3, .List [] q6] k2 q7) X.env = pure none) :
    PS X (.Assign [.Tuple [.Name x1 q1, .Name x2 q2, .Name x3 q3, .Name y q4] k1 q5] (.Tuple [a1, a2, a3, .List [] q6] k2 q7) pos) (tS P (unsE [i1, i2, i3] j fun r t => (f1 r t).bind fun x t1 => (f2 r t1).bind fun y t2 => (f3 r t2).bind fun z t3 => .ok [x, y, z] t3)) := by
  refine psMono (ps_asg (pe_tup (pa_cons p1 (pa_cons p2 (pa_cons p3 (pa_cons (pe_lst pa_nil) pa_nil rfl) (s3 _)) (s2 _)) (s1 _)))
    (pg_tup hc (pgs_cons (pg_name hN h1 l1 n1) (pgs_cons (pg_name hN h2 l2 n2) (pgs_cons (pg_name hN h3 l3 n3) (pgs_cons (pg_name hN h4 l4 n4) pgs_nil))))) rfl hw rfl) fun D σ H ⟨F, r, t, R, h⟩ => ?_
  have h := h.bind
  refine ⟨F, r, t, R, h.bind.mono fun d1 t1 h v1 F1 H1 s1 R1 rv1 => ⟨F1, r, t1, R1, (h.up s1.1).bind.mono fun d2 t2 h v2 F2 H2 s2 R2 rv2 => ⟨F2, r, t2, R2, (h.up s2.1).bind.mono fun d3 t3 h v3 F3 H3 s3 R3 rv3 => ?_⟩⟩⟩
  refine ⟨Nat.zero_le _, fun p hp => ⟨by show 4 ≤ sizeLine; decide, fun a ha => ?_⟩⟩
  have h : Aft P F (match setAll [i1, i2, i3] [d1, d2, d3] r with
    | some r1 => okSet r1 j (.own (.lst [])) t3
    | none => .bad) (aftS P F D) := h
  obtain ⟨R4, k4, ⟨_, ow, no⟩⟩ := mkNew (o := .lst []) (d := .lst []) R3 hp ⟨[], upd_same, Nat.zero_le _, .nil⟩
  have b5 := R4.toRelH.newO (o := .tup [v1, v2, v3, .ref p]) ha
  have R5 := R4.step b5
  have nap : p ≠ a := (upd_none ha).2.symm
  have ow5 : Own P.K P.T P.H0 F3 (L2.upd (L2.upd H3 p (.lst [])) a (.tup [v1, v2, v3, .ref p])) p (.lst []) := ⟨ow.fr, ow.n1, ow.n2, ow.h0, [], by rw [upd_ne nap]; exact upd_same, Nat.zero_le _, .nil⟩
  refine ⟨a, _, rfl, .inl (.inl upd_same), rfl, v1, _, rfl, v2, _, rfl, v3, _, rfl, .ref p, _, rfl, rfl, ?_⟩
  by_cases c1 : i1 < r.length
  · by_cases c2 : i2 < r.length
    · by_cases c3 : i3 < r.length
      · by_cases c4 : j < r.length
        · have h : aftS P F D (.nx, (((r.set i1 (.val d1)).set i2 (.val d2)).set i3 (.val d3)).set j (.own (.lst []))) t3 := by
            simp only [setAll, c1, c2, c3, List.length_set, decide_true, if_true, okSet, c4] at h
            exact h
          have R6 := ((R5.setVal (i := i1) (rv1.mono (s2.trans s3).1)).setVal (i := i2) (rv2.mono s3.1)).setVal (i := i3) rv3
          exact h F3 _ _ ((s1.trans (s2.trans s3)).1) (R6.setOwn (i := j) ow5 fun jj e hj _ => noSet (noSet (noSet no)) jj e hj)
        · simp only [setAll, c1, c2, c3, List.length_set, decide_true, if_true, okSet, c4, decide_false] at h
          exact h.elim
      · simp only [setAll, c1, c2, c3, List.length_set, decide_true, if_true, decide_false] at h
        exact h.elim
    · simp only [setAll, c1, c2, List.length_set, decide_true, if_true, decide_false] at h
      exact h.elim
  · simp only [setAll, c1, decide_false] at h
    exact h.elim
/-! ### y, x = [], e; x, y = e, [] -/
def pnlE (j i : Nat) (f : Rho → Tw → Res D) (r : Rho) (t : Tw) : Res (Fl × Rho) := (f r t).bind fun x t1 => if decide (j < r.length) && decide (i < r.length) then .ok (.nx, (r.set j (.own (.lst []))).set i (.val x)) t1 else .bad
theorem setCm {α : Type} {l : List α} {i j : Nat} {a b : α} (h : i ≠ j) : (l.set i a).set j b = (l.set j b).set i a := List.set_comm a b h
theorem pnl_end {F F1 : Hp} {r : Rho} {t1 : Tw} {σ : L2.St} {H1 : Hp} {p : Addr} {d : D} {v : V} {i j : Nat} {Z : Ends} (hji : j ≠ i) (h : Aft P F (if decide (j < r.length) && decide (i < r.length) then Res.ok (Fl.nx, (r.set j (.own (.lst []))).set i (.val d)) t1 else .bad) (aftS P F Z)) (s1 : Same F F1) (R1 : RelP P F1 r t1 σ H1) (rv : Rp P.K P.T F1 v d)
    (ow : Own P.K P.T P.H0 F1 H1 p (.lst [])) (no : ∀ (i : Nat) (e : D), r[i]? = some (.own e) → σ[i]? ≠ some (some (.ref p))) : Z.nx ((σ.set j (some (.ref p))).set i (some v)) H1 := by
  split at h
  · have h : aftS P F Z (.nx, (r.set j (.own (.lst []))).set i (.val d)) t1 := h
    exact h F1 _ _ s1 ((R1.setOwn (i := j) ow fun jj e hj _ => no jj e hj).setVal rv)
  · exact h.elim
theorem st_pnlT {i j : Nat} {x y : Str} {px py pt pt2 q : Pos} {kt k2 : Nat} (hc : X.calm = true) (hN : X.N.Nodup) (hj : X.N[j]? = some y) (hi : X.N[i]? = some x) (hji : j ≠ i)
    (hy : X.env.scope.names.lookup y = some .local) (hx : X.env.scope.names.lookup x = some .local) (p1 : PE X a1 (tD P f1)) (s1 : ∀ es, starEach (a1 :: es) X.env = (false, eval a1 X.env) :: starEach es X.env)
    (hw : swappedStores [.Tuple [.Name y py, .Name x px] kt pt] (.Tuple [.List [] q, a1] k2 pt2) X.env = pure (some [y, x])) :
    PS X (.Assign [.Tuple [.Name y py, .Name x px] kt pt] (.Tuple [.List [] q, a1] k2 pt2) pos) (tS P (pnlE j i f1)) := by
  refine psMono (ps_par hc hN hj hi hji hy hx (pa_cons (pe_lst pa_nil) (pa_cons p1 pa_nil (s1 _)) rfl) hw) fun D σ H ⟨F, r, t, R, h⟩ => ?_
  refine ⟨Nat.zero_le _, fun p hp => ?_⟩
  obtain ⟨R4, k4, ⟨_, ow, no⟩⟩ := mkNew (o := .lst []) (d := .lst []) R hp ⟨[], upd_same, Nat.zero_le _, .nil⟩
  refine ⟨F, r, t, R4, h.bind.mono fun d1 t1 h v1 F1 H1 s1 R1 rv1 => ⟨.ref p, v1, rfl, ?_⟩⟩
  have hs : H1 p = some (.lst []) := s1.old p _ upd_same ow.n1 ow.n2 (by intro _ z; cases z)
  have hfr : F1 p = none := by
    cases z : F1 p with
    | none => rfl
    | some u =>
      rcases s1.new p u z with q | q
      · rw [ow.fr] at q
        cases q
      · exact (q.no upd_same (by intro _ z; cases z)).elim
  have ow1 : Own P.K P.T P.H0 F1 H1 p (.lst []) := ⟨hfr, ow.n1, ow.n2, ow.h0, [], hs, Nat.zero_le _, .nil⟩
  exact pnl_end hji h s1.1 R1 rv1 ow1 no
theorem st_pnlF {i j : Nat} {x y : Str} {px py pt pt2 q : Pos} {kt k2 : Nat} (hc : X.calm = true) (hN : X.N.Nodup) (hi : X.N[i]? = some x) (hj : X.N[j]? = some y) (hji : j ≠ i)
    (hx : X.env.scope.names.lookup x = some .local) (hy : X.env.scope.names.lookup y = some .local) (p1 : PE X a1 (tD P f1)) (s1 : ∀ es, starEach (a1 :: es) X.env = (false, eval a1 X.env) :: starEach es X.env)
    (hw : swappedStores [.Tuple [.Name x px, .Name y py] kt pt] (.Tuple [a1, .List [] q] k2 pt2) X.env = pure (some [x, y])) :
    PS X (.Assign [.Tuple [.Name x px, .Name y py] kt pt] (.Tuple [a1, .List [] q] k2 pt2) pos) (tS P (pnlE j i f1)) := by
  refine psMono (ps_par hc hN hi hj (Ne.symm hji) hx hy (pa_cons p1 (pa_cons (pe_lst pa_nil) pa_nil rfl) (s1 _)) hw) fun D σ H ⟨F, r, t, R, h⟩ => ?_
  refine ⟨F, r, t, R, h.bind.mono fun d1 t1 h v1 F1 H1 s1 R1 rv1 => ⟨Nat.zero_le _, fun p hp => ⟨v1, .ref p, rfl, ?_⟩⟩⟩
  obtain ⟨R4, k4, ⟨_, ow, no⟩⟩ := mkNew (o := .lst []) (d := .lst []) R1 hp ⟨[], upd_same, Nat.zero_le _, .nil⟩
  rw [setCm (Ne.symm hji)]
  exact pnl_end hji h s1.1 R4 rv1 ow no
end
end Fm

/-! ### the text is the one of a Core text: a check by computation -/
namespace Fm
open PySem PySem.Spec PyProof.Rows L2
/-- a call's form: the def's name, positional values, keywords' names, what fills up -/
structure Sh where
  name : Str
  np : Nat
  ks : List Str
  dfl : List Cst
  fn : Nat
structure Tb where
  sh : List Sh
  cs : List Str
  ex : List (Nat × Str)
  hd : Bool
/-- a block's names: its scope; the names whose cells are its own -/
structure Cs where
  sc : Scope
  fn : Str → Bool
  lm : Bool
  lk : Bool
/-- no parameters -/
def noArgs (a : Arguments) : Bool := a.posonlyargs.isEmpty && a.args.isEmpty && a.vararg.isNone && a.kwonlyargs.isEmpty && a.kw_defaults.isEmpty && a.kwarg.isNone && a.defaults.isEmpty
/-- one parameter -/
def oneArg (N : List Str) (a : Arguments) : Bool := a.posonlyargs.isEmpty && a.vararg.isNone && a.kwonlyargs.isEmpty && a.kw_defaults.isEmpty && a.kwarg.isNone && a.defaults.isEmpty && match a.args with
  | [x] => decide (N.take 1 = [x.arg])
  | _ => false
/-- the scope's check -/
def scB (N ps : List Str) (sc : Scope) : Bool := decide (sc.kind = .function) && !sc.isCoroutine && !sc.isGenerator && decide N.Nodup && decide (N.take ps.length = ps) && (ps.all fun x => decide (sc.names.lookup x = some .local) || decide (sc.names.lookup x = some .cell)) && sc.names.all fun y => decide (y.2 ≠ .free)
def keysB : List Str → List (Option Expr) → Bool
  | [], [] => true
  | x :: xs, some (.Constant (.str y) _ _) :: ks => decide (x = y) && keysB xs ks
  | _, _ => false
/-- keys of as many values -/
def keysV (ks : List Str) (kes : List (Option Expr)) (vs : List Expr) : Bool := keysB ks kes && decide (kes.length = vs.length)
def nameB (x : Str) : Bool := !(x == ("__debug__" : Str)) && !(x == ("__classdict__" : Str)) && decide (x ≠ "__name__")
def visB (c : Cs) (x : Str) : Bool := match c.sc.names.lookup x with
  | some .local => true
  | some .cell => true
  | some .free => true
  | _ => false
def locB (c : Cs) (x : Str) : Bool := match c.sc.names.lookup x with
  | some .local => true
  | some .cell => c.fn x
  | _ => false
def lclB (c : Cs) (x : Str) : Bool := match c.sc.names.lookup x with
  | some .local => true
  | _ => false
def glB (c : Cs) (x : Str) : Bool := nameB x && match c.sc.names.lookup x with
  | some .globalImplicit => true
  | _ => false
def varB (N : List Str) (c : Cs) (i : Nat) (x : Str) : Bool := decide (N[i]? = some x) && visB c x && nameB x
def tgtB (N : List Str) (c : Cs) (i : Nat) (x : Str) : Bool := decide (N[i]? = some x) && locB c x && nameB x
def nStar : Expr → Bool
  | .Starred _ _ => false
  | _ => true
def nSlice : Expr → Bool
  | .Slice _ _ _ _ => false
  | _ => true
def nSet : Expr → Bool
  | .Set _ _ _ => false
  | _ => true
def nComp : Expr → Bool
  | .ListComp _ _ _ _ => false
  | .SetComp _ _ _ _ => false
  | .DictComp _ _ _ _ _ => false
  | _ => true
def nCall : Expr → Bool
  | .Call _ _ _ _ => false
  | _ => true
def isTupB : Expr → Bool
  | .Tuple _ _ _ => true
  | _ => false
def isNmB : Expr → Bool
  | .Name _ _ => true
  | _ => false
def opB : Operator → Bool
  | .Add => true
  | .Sub => true
  | .Mult => true
  | .FloorDiv => true
  | .Mod => true
  | .Pow => true
  | .LShift => true
  | _ => false
def Blt.nm : Blt → Str
  | .len => "len"
  | .abs => "abs"
  | .all => "all"
  | .any => "any"
  | .sum => "sum"
  | .tuple => "tuple"
  | .list => "list"
  | .sorted => "sorted"
  | .int => "int"
  | .dictN => "dict"
def bltB : Blt → Bool
  | .int => false
  | _ => true
mutual
def mTg (N : List Str) (c : Cs) : Tg → Expr → Bool
  | .name i, .Name x _ => tgtB N c i x
  | .tup ts, .Tuple es _ _ => mTgs N c ts es
  | _, _ => false
def mTgs (N : List Str) (c : Cs) : Tgs → List Expr → Bool
  | .nil, [] => true
  | .cons t ts, e :: es => nStar e && mTg N c t e && mTgs N c ts es
  | _, _ => false
end
def mDsp : List (Str × Cst) → List (Option Expr) → List Expr → Bool
  | [], [], [] => true
  | (x, k) :: r, some (.Constant (.str y) _ _) :: ks, .Constant k' _ _ :: vs => decide (x = y) && decide (k.k = k') && mDsp r ks vs
  | _, _, _ => false
def isStr (x : Str) : Expr → Bool
  | .Constant (.str y) _ _ => decide (y = x)
  | _ => false
/-- a block of a comprehension -/
def blkCs (c : Cs) (scope : Scope) : Cs := ⟨relS scope c.sc, fun x => scope.names.lookup x == some .cell, false, false⟩
/-- a lambda's body -/
def lamCs (scope : Scope) : Cs := ⟨scope, fun _ => false, false, false⟩
mutual
def mE (tb : Tb) (N : List Str) (c : Cs) (fl : Bool) : E → Expr → Bool
  | .cst k, .Constant k' _ _ => decide (k.k = k')
  | .var i, .Name x _ => varB N c i x
  | .bor i, .Name x _ => fl && varB N c i x
  | .glob g, .Name x _ => decide (tb.cs[g]? = some x) && glB c x
  | .bin op a b, .BinOp ea op' eb _ => decide (op = op') && opB op && mE tb N c true a ea && mE tb N c true b eb
  | .cat a b, .BinOp ea .Add eb _ => mE tb N c true a ea && mE tb N c true b eb
  | .neg a, .UnaryOp .USub ea _ => mE tb N c true a ea
  | .not a, .UnaryOp .Not ea _ => mE tb N c true a ea
  | .and a b, .BoolOp .And (x :: y :: r) pos => mE tb N c false a x && (match r with
    | [] => mE tb N c false b y
    | z :: r' => mE tb N c false b (.BoolOp .And (y :: z :: r') pos))
  | .or a b, .BoolOp .Or (x :: y :: r) pos => mE tb N c false a x && (match r with
    | [] => mE tb N c false b y
    | z :: r' => mE tb N c false b (.BoolOp .Or (y :: z :: r') pos))
  | .ite k a b, .IfExp ek ea eb _ => mE tb N c true k ek && mE tb N c false a ea && mE tb N c false b eb
  | .cmp op a b, .Compare ea [op'] [eb] _ => decide (op = op') && !behindInMarks op eb && mE tb N c true a ea && mE tb N c true b eb
  | .chain o1 o2 a b k, .Compare ea [o1', o2'] [eb, ek] _ => decide (o1 = o1') && decide (o2 = o2') && !lastMarks [o1, o2] [eb, ek] && mE tb N c true a ea && mE tb N c true b eb && mE tb N c true k ek
  | .cut a lo hi, .Subscript ea (.Slice l h none _) _ => mE tb N c true a ea && mO tb N c lo l && mO tb N c hi h
  | .ix a b, .Subscript ea eb _ => nSlice eb && mE tb N c true a ea && mE tb N c true b eb
  | .dix a b, .Subscript ea eb _ => nSlice eb && mE tb N c true a ea && mE tb N c true b eb
  | .tup es, .Tuple xs _ _ => mEs tb N c es xs
  | .lst es, .List xs _ => mEs tb N c es xs
  | .call i es ks, .Call (.Name x _) xs kws _ => (match tb.sh[i]? with
    | some sh => decide (sh.name = x) && glB c x && decide (xs.length = sh.np) && decide (kws.map (·.arg) = sh.ks.map some) && (decide (kws = []) || !decide (xs = [])) && mEs tb N c es xs && mKs tb N c ks kws
    | none => false)
  | .blt b a, .Call (.Name x _) [ea] [] _ => bltB b && decide (b.nm = x) && glB c x && nStar ea && mE tb N c true a ea
  | .isa a T, .Call (.Name x _) [ea, .Name y _] [] _ => decide (x = "isinstance") && decide (T.nm = y) && glB c x && glB c y && nStar ea && mE tb N c true a ea
  | .get a k d, .Call (.Attribute ea m p) [ek, ed] [] cp => decide (m = "get") && nCall ea && (p.endLine == cp.line) && nStar ek && nStar ed && mE tb N c true a ea && mE tb N c true k ek && mE tb N c false d ed
  | .tcount i, .Subscript (.Name y _) eb _ => varB N c i y && isStr "count" eb
  | .tget i k d, .Call (.Attribute (.Subscript (.Name y _) eb _) m p) [ek, ed] [] cp => varB N c i y && isStr "rests" eb && decide (m = "get") && (p.endLine == cp.line) && nStar ek && nStar ed && mE tb N c true k ek && mE tb N c false d ed
  | .dsp kvs, .Dict ks vs _ => mDsp kvs ks vs
  | .heard e, .Call (.Name x _) [.Lambda params body scope _] [] _ => decide (x = "_law_heard") && tb.hd && c.lm && glB c x && noArgs params && LamX.lamSB c.sc scope && mE tb N (lamCs scope) false e body
  | .isx a n, .Call (.Name x _) [ea, .Name y _] [] _ => decide (x = "isinstance") && decide (tb.ex.lookup n = some y) && decide (n < 9) && tb.hd && glB c x && glB c y && nStar ea && mE tb N c true a ea
  | .isv a, .Call (.Name x _) [ea, .Name y _] [] _ => decide (x = "isinstance") && decide (y = "ValueError") && tb.hd && glB c x && glB c y && nStar ea && mE tb N c true a ea
  | .dn0, .Dict [] [] _ => true
  | .bad, _ => true
  | .sortK a N' e, .Call (.Name x _) [ea] [⟨some kw, .Lambda params body scope _, _⟩] _ => decide (x = "sorted") && decide (kw = "key") && c.lk && glB c x && nStar ea && oneArg N' params && scB N' (N'.take 1) scope && mE tb N c true a ea && mE tb N' ⟨scope, fun _ => true, false, false⟩ false e body
  | .dspE ks es, .Dict kes vs _ => keysV ks kes vs && decide (ks.length ≤ 15) && decide (0 < ks.length) && mEs tb N c es vs
  | .idxG g b, .Call (.Attribute (.Name x _) m p) [eb] [] cp => decide (m = "index") && decide (tb.cs[g]? = some x) && glB c x && (p.endLine == cp.line) && nStar eb && mE tb N c false b eb
  | .idx a b, .Call (.Attribute ea m p) [eb] [] cp => decide (m = "index") && nCall ea && (p.endLine == cp.line) && nStar eb && mE tb N c true a ea && mE tb N c false b eb
  | .comp2 own elt tg it tg1 it1, .ListComp ee [⟨et, ei, [], z⟩, ⟨et1, ei1, [], z1⟩] scope _ => decide (z = 0) && decide (z1 = 0) && blkC N c.sc scope own && (tg.slots.all fun i => (own.map (·.2)).contains i) && (tg1.slots.all fun i => (own.map (·.2)).contains i) && mI tb N c false et it ei && nSet ei && nSet ei1 && mTg N (blkCs c scope) tg et && mI tb N (blkCs c scope) true et1 it1 ei1 && mTg N (blkCs c scope) tg1 et1 && mE tb N (blkCs c scope) false elt ee
  | .rev a, .Subscript ea (.Slice none none (some (.UnaryOp .USub (.Constant (.int z) _ _) _)) _) _ => decide (z = 1) && mE tb N c true a ea
  | .comp own elt tg it cd, .ListComp ee [⟨et, ei, ifs, z⟩] scope _ => decide (z = 0) && blkC N c.sc scope own && (tg.slots.all fun i => (own.map (·.2)).contains i) && mI tb N c false et it ei && nSet ei && mTg N (blkCs c scope) tg et && mCd tb N (blkCs c scope) cd ifs && mE tb N (blkCs c scope) false elt ee
  | _, _ => false
def mO (tb : Tb) (N : List Str) (c : Cs) : O → Option Expr → Bool
  | .none, none => true
  | .some e, some x => mE tb N c true e x
  | _, _ => false
def mCd (tb : Tb) (N : List Str) (c : Cs) : O → List Expr → Bool
  | .none, [] => true
  | .some k, [x] => mE tb N c true k x
  | _, _ => false
def mEs (tb : Tb) (N : List Str) (c : Cs) : Es → List Expr → Bool
  | .nil, [] => true
  | .cons e es, x :: xs => nStar x && mE tb N c false e x && mEs tb N c es xs
  | _, _ => false
def mKs (tb : Tb) (N : List Str) (c : Cs) : Es → List Keyword → Bool
  | .nil, [] => true
  | .cons e es, ⟨_, x, _⟩ :: xs => mE tb N c false e x && mKs tb N c es xs
  | _, _ => false
def mI (tb : Tb) (N : List Str) (c : Cs) (fz : Bool) (tg : Expr) : I → Expr → Bool
  | .val e, x => mE tb N c (!fz) e x
  | .rng1 a, .Call (.Name x _) [ea] [] _ => decide (x = "range") && glB c x && nStar ea && mE tb N c true a ea
  | .rng2 a b, .Call (.Name x _) [ea, eb] [] _ => decide (x = "range") && glB c x && nStar ea && nStar eb && mE tb N c true a ea && mE tb N c true b eb
  | .zip a b, .Call (.Name x _) [ea, eb] [] _ => isTupB tg && decide (x = "zip") && glB c x && nStar ea && nStar eb && mE tb N c (!fz) a ea && mE tb N c (!fz) b eb
  | .zipN _ _, _ => false
  | .keys a, x => mE tb N c false a x
  | .enumT _, _ => false
  | .enum a, .Call (.Name x _) [ea] [] _ => isTupB tg && decide (x = "enumerate") && glB c x && nStar ea && mE tb N c (!fz) a ea
  | _, _ => false
end
end Fm

/-! ### soundness of expressions -/
namespace Fm
open PySem PySem.Spec PyProof.Rows L2
/-- a def that may be called, at the level k -/
structure CallOk (X : Cx) (P : Pm) (cl : Nat → Addr) (sh : Sh) (k : Nat) (g : List D → List D → Tw → Res D) : Prop where
  ex : ∃ f fd ps Γ, FnOk X.prog X.w X.K X.mg X.base (CX X.prog X.w) k f fd ps (spD P.K P.T cl (sh.np + sh.ks.length + sh.dfl.length) Γ) ∧ X.mg sh.name = some (.ref f) ∧ PySem.W.keepIn X.K (.ref f) = true ∧
    (sh.ks = [] → ∃ ds, Vals (sh.dfl.map Cst.v) ds ∧ Binds X.K fd ps ds) ∧ (sh.ks ≠ [] → ∃ gg, KBn X.K fd ps sh.np sh.ks gg (fun vs zs => vs ++ zs ++ sh.dfl.map Cst.v)) ∧ ∀ xs ys t, g xs ys t = Γ (xs ++ ys ++ sh.dfl.map Cst.d) t
structure ExcOk (X : Cx) (C : Addr) (x : Str) : Prop where
  q : PySem.W.excIn X.K C He.veBase "ValueError.__new__" = true
  g : X.mg x = some (.ref C)
  k : PySem.W.keepIn X.K (.ref C) = true
  r : Raises X (.ref C)
def freeNames : List Str := ["len", "abs", "all", "any", "sum", "tuple", "list", "sorted", "isinstance", "int", "bool", "str", "range", "zip", "enumerate", "ValueError", "dict"]
def heardN : List Str := ["deed", "refused", "found", "e", "some", "names", "word"]
/-- what is heard of a deed -/
def TTh (K : PySem.W.Frag) (T : Tn) : (XK → Hp → VK → Prop) → Hp → VK → Prop := fun tl H Q => ∃ (F : Hp) (t : Tw), RelH K T F H F t H ∧ ∀ F1 H1, RelH K T F H F1 t H1 →
  tl (fun cls d H' => ∃ (n : Nat) (F' : Hp) (t' : Tw), n < 9 ∧ cls = .ref (T.cl n) ∧ d = none ∧ RelH K T F' H' F' t' H' ∧ ∀ v F2 H2, RelH K T F' H' F2 t' H2 → Rp K T F2 v (.tup [.str (hWord n)]) → Q v H2) H1
    fun v H' => ∃ (F' : Hp) (t' : Tw) (d : D), RelH K T F' H' F' t' H' ∧ Rp K T F' v d ∧ ∀ w F2 H2, RelH K T F' H' F2 t' H2 → Rp K T F2 w (.tup [.str "told", d]) → Q w H2
structure Heard (X : Cx) (P : Pm) : Prop where
  ex : ∃ (g c Pt : Addr) (pg : Arguments) (bg : List Stmt) (sg : Scope) (dV kV doc pm cdv ct oc : Value) (an od : Option Addr) (osl : Array (Option Value)),
    X.mg "_law_heard" = some (.ref g) ∧ PySem.W.keepIn X.K (.ref g) = true ∧ X.K.lookup g = some ⟨oc, od, .func (PySem.W.fnOf "_law_heard" "_law_heard" pg bg sg dV kV doc pm an cdv ct), osl⟩ ∧ PySem.W.codeIn X.K cdv "_law_heard" = true ∧
    L2.Binds X.K (PySem.W.fnOf "_law_heard" "_law_heard" pg bg sg dV kV doc pm an cdv ct) ["deed"] [] ∧ FnScope heardN ["deed"] sg ∧ LamX.GivesTo X heardN "_law_heard" sg g cdv bg "deed" (X.env.qual ++ "<lambda>") (TTh P.K P.T) ∧
    LamX.TabB X.base X.mg c Pt ∧ X.env.code = .ref c ∧ (Pt, X.env.qual ++ "<lambda>") ∈ P.T.tabs ∧ ∀ p ∈ P.T.tabs, p.1 = Pt → p.2 = X.env.qual ++ "<lambda>"
/-- the maker of lambdas: its code object, its table -/
structure LamT (X : Cx) (P : Pm) : Prop where
  ex : ∃ (c Pt : Addr), LamX.TabB X.base X.mg c Pt ∧ X.env.code = .ref c ∧ (Pt, X.env.qual ++ "<lambda>") ∈ P.T.tabs ∧ ∀ p ∈ P.T.tabs, p.1 = Pt → p.2 = X.env.qual ++ "<lambda>"
structure Ok (tb : Tb) (N : List Str) (G : Gam) (cs : Nat → D) (cl : Nat → Addr) (X : Cx) (P : Pm) (c : Cs) : Prop where
  hK : X.K = P.K
  hN : X.N = N
  nd : N.Nodup
  sc : X.env.scope = c.sc
  fn : X.fn = c.fn
  calm : X.calm = true
  room : Room G.lv X.A
  hcl : P.T.cl = cl
  hpw : P.T.pg = X.prog ∧ P.T.wo = X.w
  free : ∀ x ∈ freeNames, X.mg x = none
  con : ∀ g x, tb.cs[g]? = some x → ∃ u v, X.mg x = some u ∧ RelV v u ∧ Rp P.K P.T (fun _ => none) v (cs g)
  conT : ∀ g x, tb.cs[g]? = some x → isSq false (cs g) = true → ConT X P x (cs g)
  call : ∀ d i sh, tb.sh[i]? = some sh → d ≤ G.lv → CallOk X P cl sh (G.lv - d) (G.f d i)
  tk : Takes X fun cc d _ H => EX cl P.XE cc d H
  own : PassesOwn (model X.prog X.w) X.A X.env X.xe
  exc : ∀ n x, tb.ex.lookup n = some x → ExcOk X (cl n) x
  nine : tb.hd = true → Nine X.K cl
  heard : tb.hd = true → c.lm = true → Heard X P
  lamT : c.lk = true → LamT X P
theorem Ok.hu {tb : Tb} {N : List Str} {G : Gam} {cs : Nat → D} {cl : Nat → Addr} {X : Cx} {P : Pm} {c : Cs} (ok : Ok tb N G cs cl X P c) : X.A.units + 200 < cLine := by
  have := ok.room.un
  omega
structure Snd (X : Cx) (P : Pm) (f : Rho → Tw → Res D) (fl : Bool) (e : Expr) : Prop where
  b : PE X e (tB P f)
  d : fl = false → PE X e (tD P f)
  t : PT X e (tT P f)
  w : ∀ op vs pos, e = .BoolOp op vs pos → PW X e (tT P f)
theorem Snd.plain {X : Cx} {P : Pm} {f : Rho → Tw → Res D} {fl : Bool} {e : Expr} (hK : X.K = P.K) (h : PE X e (tD P f)) (he : ∀ whole, isTrue e X.env whole = (do let v ← whole; standAt e.pos; holding [v] (truthy v))) (nw : ∀ op vs pos, e ≠ .BoolOp op vs pos) : Snd X P f fl e :=
  ⟨tB_tD h, fun _ => h, t_plain hK (tB_tD h) he, fun op vs pos z => absurd z (nw op vs pos)⟩
section
variable {tb : Tb} {N : List Str} {G : Gam} {cs : Nat → D} {cl : Nat → Addr} {X : Cx} {P : Pm} {c : Cs}
theorem and2 {a b : Bool} (h : (a && b) = true) : a = true ∧ b = true := Bool.and_eq_true_iff.mp h
theorem nameB_of {x : Str} (h : nameB x = true) : (x == ("__debug__" : Str)) = false ∧ (x == ("__classdict__" : Str)) = false ∧ x ≠ "__name__" := by
  obtain ⟨h1, h3⟩ := and2 h
  obtain ⟨h1, h2⟩ := and2 h1
  exact ⟨by simpa using h1, by simpa using h2, of_decide_eq_true h3⟩
theorem varB_of (ok : Ok tb N G cs cl X P c) {i : Nat} {x : Str} (h : varB N c i x = true) : X.N[i]? = some x ∧ Vis X.env.scope x ∧ (x == ("__debug__" : Str)) = false ∧ (x == ("__classdict__" : Str)) = false := by
  obtain ⟨h1, h3⟩ := and2 h
  obtain ⟨h1, h2⟩ := and2 h1
  obtain ⟨n1, n2, _⟩ := nameB_of h3
  refine ⟨by rw [ok.hN]; exact of_decide_eq_true h1, ?_, n1, n2⟩
  rw [ok.sc]
  unfold visB at h2
  unfold Vis
  split at h2
  · rename_i e
    exact .inl e
  · rename_i e
    exact .inr (.inl e)
  · rename_i e
    exact .inr (.inr e)
  · cases h2
theorem tgtB_of (ok : Ok tb N G cs cl X P c) {i : Nat} {x : Str} (h : tgtB N c i x = true) : X.N[i]? = some x ∧ Loc X.env.scope x ∧ (X.fn x = true ∨ X.env.scope.names.lookup x = some .local) := by
  obtain ⟨h1, h3⟩ := and2 h
  obtain ⟨h1, h2⟩ := and2 h1
  refine ⟨by rw [ok.hN]; exact of_decide_eq_true h1, ?_⟩
  rw [ok.sc, ok.fn]
  unfold locB at h2
  unfold L2.Loc
  split at h2
  · rename_i e
    exact ⟨.inl e, .inr e⟩
  · rename_i e
    exact ⟨.inr e, .inl h2⟩
  · cases h2
theorem glB_of (ok : Ok tb N G cs cl X P c) {x : Str} (h : glB c x = true) : Gl X x ∧ (x == ("__debug__" : Str)) = false ∧ x ≠ "__name__" := by
  obtain ⟨h1, h2⟩ := and2 h
  obtain ⟨n1, n2, n3⟩ := nameB_of h1
  refine ⟨?_, n1, n3⟩
  show X.env.scope.names.lookup x = _
  rw [ok.sc]
  split at h2
  · rename_i e
    exact e
  · cases h2
theorem star_of {e : Expr} {es : List Expr} {env : Env} (h : nStar e = true) : starEach (e :: es) env = (false, eval e env) :: starEach es env := by
  cases e <;> first | rfl | (cases h; done)
theorem plain_of {b : Expr} (h : nSlice b = true) : PlainIx b := by
  intro o i
  cases b <;> first | rfl | (cases h; done)
theorem fold_of {e : Expr} {env : Env} (h : nSet e = true) : ∀ x, foldedSetIterable e env x = pure x := by
  intro x
  cases e <;> first | rfl | (cases h; done)
theorem base_of {e : Expr} {m : Str} {env : Env} (h : nCall e = true) : attributeBase e m env (eval e env) = eval e env := by
  cases e <;> first | rfl | (cases h; done)
/-- in a comprehension's block -/
theorem Ok.blk (ok : Ok tb N G cs cl X P c) (scope : Scope) (s : Shared) (H : Hp) (C : Addr) (cls : List (Str × Addr)) (fp : List Addr) : Ok tb N G cs cl (X.blk s H scope (compEnvC scope cls C X.env) fp) P.nox (blkCs c scope) where
  hK := ok.hK
  hN := ok.hN
  nd := ok.nd
  sc := by
    show relS scope X.env.scope = relS scope c.sc
    rw [ok.sc]
  fn := rfl
  calm := ok.calm
  room := ok.room
  hcl := ok.hcl
  hpw := ok.hpw
  free := ok.free
  con := ok.con
  conT := fun g x e z => ⟨(ok.conT g x e z).ex⟩
  call := fun d i sh e h => by
    obtain ⟨f, fd, ps, Γ, h1⟩ := (ok.call d i sh e h).ex
    exact ⟨f, fd, ps, Γ, h1⟩
  tk := fun u s' ⟨a, B, sI, pins, σ, H, cls, d, e, I, nb, up, sky, na, os, ag, w⟩ => by
    obtain ⟨n, _, _, z⟩ := w
    exact z
  own := PassesOwn.never
  exc := fun n x e => by
    obtain ⟨h1, h2, h3, h4⟩ := ok.exc n x e
    exact ⟨h1, h2, h3, h4⟩
  nine := ok.nine
  heard := fun _ z => by cases z
  lamT := fun z => by cases z
/-- in a lambda's body -/
theorem Ok.lam (ok : Ok tb N G cs cl X P c) (h2 : 2 ≤ G.lv) (A : Around) (outer : List Env) (s : Shared) (H : Hp) (E : XK) (scope : Scope) (f c' : Addr) (hr : Room (G.lv - 2) (A.deeper (LamX.lamEnv X scope s.heap.objs.size f c'))) (F0 H0 : Hp) :
    Ok tb N G.low cs cl (LamX.lamCx X A outer s H E scope f c') ⟨P.K, P.T, F0, H0, fun n H' => E (.ref (cl n)) none H'⟩ (lamCs scope) where
  hK := ok.hK
  hN := ok.hN
  nd := ok.nd
  sc := rfl
  fn := rfl
  calm := rfl
  room := hr
  hcl := ok.hcl
  hpw := ok.hpw
  free := ok.free
  con := ok.con
  conT := fun g x e z => ⟨(ok.conT g x e z).ex⟩
  call := fun d i sh e h => by
    have h : d ≤ G.lv - 2 := h
    obtain ⟨f, fd, ps, Γ, h1, h2⟩ := (ok.call (d + 2) i sh e (by omega)).ex
    refine ⟨f, fd, ps, Γ, ?_, h2⟩
    have e : G.lv - (d + 2) = G.low.lv - d := by
      show _ = G.lv - 2 - d
      omega
    rw [← e]
    exact h1
  tk := by
    have tk := takes_of (X := LamX.lamCx X A outer s H E scope f c') (E := E) rfl rfl rfl rfl
    exact fun u s' z => tk u s' (by
      obtain ⟨a, B, sI, pins, σ, H, cls, d, e, I, nb, up, sky, na, os, ag, wn⟩ := z
      obtain ⟨n, e1, e2, z⟩ := wn
      exact ⟨a, B, sI, pins, σ, H, cls, d, e, I, nb, up, sky, na, os, ag, by rw [e1, e2]; exact z⟩)
  own := passes_of rfl
  exc := fun n x e => by
    obtain ⟨h1, h2, h3, h4⟩ := ok.exc n x e
    exact ⟨h1, h2, h3, h4⟩
  nine := ok.nine
  heard := fun _ z => by cases z
  lamT := fun z => by cases z
theorem scB_ok {N ps : List Str} {sc : Scope} (h : scB N ps sc = true) : FnScope N ps sc := by
  unfold scB at h
  obtain ⟨h, h7⟩ := and2 h
  obtain ⟨h, h6⟩ := and2 h
  obtain ⟨h, h5⟩ := and2 h
  obtain ⟨h, h4⟩ := and2 h
  obtain ⟨h, h3⟩ := and2 h
  obtain ⟨h1, h2⟩ := and2 h
  refine ⟨of_decide_eq_true h1, by simpa using h2, by simpa using h3, of_decide_eq_true h4, of_decide_eq_true h5, fun x hx => ?_, fun y hy => of_decide_eq_true (List.all_eq_true.mp h7 y hy)⟩
  have := List.all_eq_true.mp h6 x hx
  rcases Bool.or_eq_true_iff.mp this with h | h
  · exact .inl (of_decide_eq_true h)
  · exact .inr (of_decide_eq_true h)
/-- in the body of a lambda of one parameter -/
theorem Ok.lam1 (ok : Ok tb N G cs cl X P c) (h2 : 2 ≤ G.lv) {N' ps : List Str} {q : Str} {scope : Scope} {f : Addr} {cdv : Value} (S : FnScope N' ps scope) (A : Around) (outer : List Env) (s : Shared) (H : Hp) (hr : Room (G.lv - 2) (A.deeper (envOfC q scope s.heap.objs.size f cdv))) (F0 H0 : Hp) :
    Ok tb N' G.low cs cl (cxOf (CX X.prog X.w) X.prog X.w X.K X.mg X.base N' q scope f cdv A outer s H fun _ _ _ => False) ⟨P.K, P.T, F0, H0, fun _ _ => False⟩ ⟨scope, fun _ => true, false, false⟩ where
  hK := ok.hK
  hN := rfl
  nd := S.nd
  sc := rfl
  fn := rfl
  calm := rfl
  room := hr
  hcl := ok.hcl
  hpw := ok.hpw
  free := ok.free
  con := ok.con
  conT := fun g x e z => ⟨(ok.conT g x e z).ex⟩
  call := fun d i sh e h => by
    have h : d ≤ G.lv - 2 := h
    obtain ⟨f, fd, ps, Γ, h1, h2⟩ := (ok.call (d + 2) i sh e (by omega)).ex
    refine ⟨f, fd, ps, Γ, ?_, h2⟩
    have e : G.lv - (d + 2) = G.low.lv - d := by
      show _ = G.lv - 2 - d
      omega
    rw [← e]
    exact h1
  tk := fun u s' ⟨a, B, sI, pins, σ, H, cls, d, e, I, nb, up, sky, na, os, ag, w⟩ => by
    obtain ⟨n, _, _, z⟩ := w
    exact z.elim
  own := passes_of rfl
  exc := fun n x e => by
    obtain ⟨h1, h2, h3, h4⟩ := ok.exc n x e
    exact ⟨h1, h2, h3, h4⟩
  nine := ok.nine
  heard := fun _ z => by cases z
  lamT := fun z => by cases z
/-- a lambda was made -/
theorem RelH.lam {K : PySem.W.Frag} {T : Tn} {F0 H0 F H H1 : Hp} {t : Tw} (R : RelH K T F0 H0 F t H) (e : LamX.ExtN H H1) (tb : LamX.Tabs T.tabs H1) : RelH K T F H F t H1 :=
  ⟨fun b o h => e b o (R.sub b o h) (R.nt b o h), fun _ _ h => .inl h, Same.refl F, fun b o h _ _ n => e b o h n, fun b h o z => Classical.byContradiction fun n => h.no (e b o z (fun ps q => n ⟨ps, q⟩)) fun ps q => n ⟨ps, q⟩,
    ⟨e _ _ R.tw.a (by intro _ z; cases z), e _ _ R.tw.b (by intro _ z; cases z), R.tw.ne, R.tw.small⟩, R.tF1, R.tF2, R.sc, tb, R.nt⟩
theorem valsR_val {r : Rho} {i : Nat} {d : D} (h : (valsR r)[i]? = some (.val d)) : r[i]? = some (.val d) := by
  unfold valsR at h
  rw [List.getElem?_map] at h
  obtain ⟨s, e, z⟩ := Option.map_eq_some_iff.mp h
  cases s with
  | un => cases z
  | val x =>
    cases z
    exact e
  | own x => cases z
theorem valsR_own {r : Rho} {i : Nat} {d : D} (h : (valsR r)[i]? = some (.own d)) : False := by
  unfold valsR at h
  rw [List.getElem?_map] at h
  obtain ⟨s, e, z⟩ := Option.map_eq_some_iff.mp h
  cases s <;> cases z
theorem Rel.vals {K : PySem.W.Frag} {T : Tn} {F0 H0 F H : Hp} {r : Rho} {t : Tw} {σ : L2.St} (R : Rel K T F0 H0 F r t σ H) : Rel K T F H F (valsR r) t σ H :=
  ⟨R.toRelH.refl, by unfold valsR; rw [List.length_map]; exact R.len, fun i d h => R.val i d (valsR_val h), fun i d h => (valsR_own h).elim, fun i j d e p h => (valsR_own h).elim⟩
theorem noArgs_of {a : Arguments} (h : noArgs a = true) : a = { posonlyargs := [], args := [], vararg := none, kwonlyargs := [], kw_defaults := [], kwarg := none, defaults := [] } := by
  unfold noArgs at h
  simp only [Bool.and_eq_true, List.isEmpty_iff, Option.isNone_iff_eq_none] at h
  obtain ⟨⟨⟨⟨⟨⟨h1, h2⟩, h3⟩, h4⟩, h5⟩, h6⟩, h7⟩ := h
  obtain ⟨a1, a2, a3, a4, a5, a6, a7⟩ := a
  subst h1 h2 h3 h4 h5 h6 h7
  rfl
theorem s_heard (ok : Ok tb N G cs cl X P c) (hh : Heard X P) (h2 : 2 ≤ G.lv) {p lpos pos : Pos} {params : Arguments} {body : Expr} {scope : Scope} (hg : Gl X "_law_heard") (hn : noArgs params = true) (L : LamX.LamS X.env.scope scope) {f : Rho → Tw → Res D}
    (hbody : ∀ (X' : Cx) (P' : Pm), Ok tb N G.low cs cl X' P' (lamCs scope) → PE X' body (tD P' f)) : PE X (.Call (.Name "_law_heard" p) [.Lambda params body scope lpos] [] pos) (tD P fun r t => heardR (f (valsR r) t)) := by
  obtain ⟨g, c0, Pt, pg, bg, sg, dV, kV, doc, pm, cdv, ct, oc, an, od, osl, hm, hk, lk, hcg, hb, Sg, hG, TB, hcode, hmT, hu⟩ := hh.ex
  obtain rfl := noArgs_of hn
  have hva : Vis sg "deed" := (Sg.par "deed" (by simp)).elim .inl fun z => .inr (.inl z)
  refine peMono (LamX.pe_lamcall (k := G.lv - 2) (t := fun E σ H Q => ∃ F0 H0, tD ⟨P.K, P.T, F0, H0, fun n H' => E (.ref (cl n)) none H'⟩ f σ H Q) hg hm hk lk hcg hb Sg rfl hva hG TB hcode hmT hu (by rw [Nat.sub_add_cancel h2]; exact ok.room) L rfl (fun q cl pm cv ctv => rfl) (fun A outer s H E f' c' hr => ?_)) fun σ H Q ⟨F, r, t, R, h⟩ => ⟨R.tabs, fun H1 e1 tb1 => ?_⟩
  · refine ⟨fun pins s' σ H' Q I ⟨F0, H0, z⟩ => ?_⟩
    exact (hbody _ _ (ok.lam h2 A outer s H E scope f' c' hr F0 H0)).run pins s' σ H' Q I z
  · have b0 := R.toRelH.lam e1 tb1
    have R0 := R.step b0
    refine ⟨F, t, R0.toRelH.refl, fun F1 H2 b1' => ?_⟩
    have b1 := b0.trans b1'
    have R1 := R0.step b1'
    refine ⟨F1, H2, F1, valsR r, t, R1.vals, ?_⟩
    dsimp only at h
    cases e : f (valsR r) t with
    | ok d t' =>
      rw [e] at h
      have h : ∀ v F' H', Kp P.T F H F' H' → RelP P F' r t' σ H' → Rp P.K P.T F' v (.tup [.str "told", d]) → Q v H' := h
      intro v F' H' k R' rv
      have b2 : RelH P.K P.T F1 H2 F' t' H' := R'.toRelH
      exact ⟨F', t', d, R'.toRelH.refl, rv, fun w F2 H3 b3 rw => h w F2 H3 ((Kp.of b1).trans ((Kp.of b2).trans (Kp.of b3))) ((R1.step b2).step b3) rw⟩
    | exc n t' =>
      rw [e] at h
      unfold heardR at h
      dsimp only at h
      split at h
      · rename_i hn
        have hn := of_decide_eq_true hn
        have h : ∀ v F' H', Kp P.T F H F' H' → RelP P F' r t' σ H' → Rp P.K P.T F' v (.tup [.str (hWord n)]) → Q v H' := h
        intro F' H' s2 b2
        have b2 : RelH P.K P.T F1 H2 F' t' H' := b2
        exact ⟨n, F', t', hn, by rw [ok.hcl], rfl, b2.refl, fun v F2 H3 b3 rv => h v F2 H3 ((Kp.of b1).trans ((Kp.of b2).trans (Kp.of b3))) ((R1.step b2).step b3) rv⟩
      · exact h.elim
    | bad =>
      rw [e] at h
      exact h.elim
theorem map_get {ds : List D} {n i : Nat} {s : Sl} (h : (ds.map Sl.val ++ List.replicate n Sl.un)[i]? = some s) : (∃ d, s = .val d ∧ ds[i]? = some d) ∨ s = .un := by
  by_cases hi : i < ds.length
  · rw [List.getElem?_append_left (by rw [List.length_map]; exact hi), List.getElem?_map] at h
    obtain ⟨d, e, z⟩ := Option.map_eq_some_iff.mp h
    exact .inl ⟨d, z.symm, e⟩
  · rw [List.getElem?_append_right (by rw [List.length_map]; omega), List.getElem?_replicate] at h
    split at h
    · exact .inr (Option.some.inj h).symm
    · cases h
/-- at a def's entry -/
theorem Rel.start {K : PySem.W.Frag} {T : Tn} {F H : Hp} {t : Tw} {N : List Str} {vs : List V} {ds : List D} (R : RelH K T F H F t H) (rv : RpL K T F vs ds) : Rel K T F H F (startR N ds) t (L2.start N vs) H := by
  refine ⟨R, ?_, fun i d h => ?_, fun i d h => ?_, fun i j d e q h => ?_⟩
  · unfold startR L2.start
    simp [rv.length]
  · rcases map_get h with ⟨d', z, e⟩ | z
    · cases z
      obtain ⟨v, ev, q⟩ := rv.get e
      refine ⟨v, ?_, q⟩
      unfold L2.start
      have hi : i < vs.length := (List.getElem?_eq_some_iff.mp ev).1
      rw [List.getElem?_append_left (by rw [List.length_map]; exact hi), List.getElem?_map, ev]
      rfl
    · cases z
  · rcases map_get h with ⟨d', z, e⟩ | z <;> cases z
  · rcases map_get h with ⟨d', z, e⟩ | z <;> cases z
/-- sorted(a, key=lambda x: e) -/
theorem s_sortK (ok : Ok tb N G cs cl X P c) (ht : LamT X P) (h2 : 2 ≤ G.lv) {p lpos kpos pos : Pos} {params : Arguments} {a body : Expr} {scope : Scope} {N' : List Str} {fa f : Rho → Tw → Res D} (hg : Gl X "sorted") (hn : oneArg N' params = true) (S : FnScope N' (N'.take 1) scope) (ha : PE X a (tB P fa))
    (hst : starEach [a] X.env = (false, eval a X.env) :: starEach [] X.env) (hbody : ∀ (X' : Cx) (P' : Pm), Ok tb N' G.low cs cl X' P' ⟨scope, fun _ => true, false, false⟩ → PE X' body (tD P' f)) :
    PE X (.Call (.Name "sorted" p) [a] [⟨some "key", .Lambda params body scope lpos, kpos⟩] pos) (tD P (sortKE G.lv fa N' f)) := by
  obtain ⟨c0, Pt, TB, hcode, hmT, hu⟩ := ht.ex
  obtain ⟨x, an, ap, rfl, hN1⟩ : ∃ x an ap, params = { posonlyargs := [], args := [⟨x, an, ap⟩], vararg := none, kwonlyargs := [], kw_defaults := [], kwarg := none, defaults := [] } ∧ N'.take 1 = [x] := by
    unfold oneArg at hn
    obtain ⟨a1, a2, a3, a4, a5, a6, a7⟩ := params
    obtain ⟨hn, h7⟩ := and2 hn
    simp only [Bool.and_eq_true, List.isEmpty_iff, Option.isNone_iff_eq_none] at hn
    obtain ⟨⟨⟨⟨⟨h1, h2⟩, h3⟩, h4⟩, h5⟩, h6⟩ := hn
    subst h1 h2 h3 h4 h5 h6
    cases a2 with
    | nil => cases h7
    | cons y ys =>
      cases ys with
      | cons _ _ => cases h7
      | nil =>
        obtain ⟨x, an, ap⟩ := y
        exact ⟨x, an, ap, rfl, of_decide_eq_true h7⟩
  rw [hN1] at S
  refine ⟨fun pins s σ H Q I h => ?_⟩
  obtain ⟨F, r, t, R, h⟩ := h
  unfold sortKE at h
  simp only [h2, decide_true, if_true] at h
  refine wpAny_Call_Name_kw (ld_blt I hg (ok.free _ (by decide)) PyProof.Rows.boot_sorted ?_ (by decide) (by decide))
  have hpa : PA X [a] (tCons (tB P fa) tNil) := pa_cons ha pa_nil hst
  refine PyProof.Rows.callWith_kw (thn (hpa.run pos pins s σ H (fun vs H1 => ∃ v dx t1 F1, vs = [v] ∧ Kp P.T F H F1 H1 ∧ RelP P F1 r t1 σ H1 ∧ RpB P F1 r σ v dx ∧ Aft P F1 (match dx with
      | .lst xs => (compL (fun d t => (f (startR N' [d]) t).bind fun x t => .ok (some x) t) xs t1).bind fun ks t2 => if okKeys ks then .ok (.lst (sortD xs ks)) t2 else .bad
      | _ => .bad) fun d t' => ∀ v F' H', Kp P.T F H F' H' → RelP P F' r t' σ H' → Rp P.K P.T F' v d → Q v H') I ?_) fun us s1 ⟨vs, H1, I1, r1, q1⟩ => ?_) ?_ ?_ (by rfl) (by rfl)
  · refine ⟨F, r, t, R, h.bind.mono fun dx t1 h v F1 H1 s1 R1 rx => ⟨v, dx, t1, F1, rfl, s1, R1, rx, h.up s1.1⟩⟩
  · obtain ⟨v, dx, t1, F1, rfl, kp1, R1, rx, h⟩ := q1
    cases dx with
    | lst ds =>
      obtain ⟨l, xs, rfl, hl, hz, rds⟩ := rx.lst R1
      obtain ⟨u, rfl, ru⟩ := vals1 r1
      obtain rfl : u = Value.ref l := ru
      refine wpAny_evalAll_cons (wpAny_bind (LamX.lam_make2 I1 TB hcode hmT hu R1.tabs rfl (fun y hy e => absurd e (S.nofree y hy)) fun fA c' pm ctv H2 s2 I2 eN T2 hf hfn hfr hco => wpAny_bind (wpAny_standAt (wpAny_pure ?_))))
      refine wpAny_evalAll_nil ?_
      rw [clo_nil X.env.cells S.nofree] at hf
      have hfl : fA ≠ X.env.locals := fun z => by
        obtain ⟨m, ⟨o, es, ep, ho, hd, _⟩, _⟩ := I2.loc
        rw [← z, hf] at ho
        cases ho
        cases hd
      have hfs : fA ∉ X.fs := fun z => hfr (by
        rcases I2.ok.stk with e | ⟨e, hff⟩
        · rw [e]
          exact z
        · rw [e]
          show fA ∈ (X.env :: X.outer).filterMap (·.frame)
          rw [List.filterMap_cons, hff]
          exact List.mem_cons_of_mem _ z)
      have b0 := R1.toRelH.lam eN T2
      have R2 := R1.step b0
      show wpAny _ _ (call (.builtin "sorted") [.ref l] [(Str.ofString "key", .ref fA)]) _ _ _
      refine sortK_run (k := G.lv - 2) (tb := fun σ H Q => ∃ F0 H0, tD ⟨P.K, P.T, F0, H0, fun _ _ => False⟩ f σ H Q) I2 (.of (eN _ _ hl (fun ps z => by cases z))) hf hfn hfl hfs S (by rw [Nat.sub_add_cancel h2]; exact ok.room) (fun u => bind1) (fun A outer s H hr => ?_)
        (fun i ks H' => H' c' = some (LamX.CodeO c' (X.env.qual ++ "<lambda>")) ∧ ∃ F' t' kd, Kp P.T F H F' H' ∧ RelP P F' r t' σ H' ∧ RpL P.K P.T F' ks kd ∧ RpL P.K P.T F' xs ds ∧ kd.length = i ∧ Aft P F' ((compL (fun d t => (f (startR N' [d]) t).bind fun x t => .ok (some x) t) (ds.drop i) t').bind fun ks t2 => if okKeys (kd ++ ks) then Res.ok (D.lst (sortD ds (kd ++ ks))) t2 else .bad) fun d t' => ∀ v F' H', Kp P.T F H F' H' → RelP P F' r t' σ H' → Rp P.K P.T F' v d → Q v H')
        ⟨hco, F1, t1, [], kp1.trans (Kp.of b0), R2, .nil, rds, rfl, h⟩ (fun i ks H' h => h.1) (fun i v ks H' hv ⟨hc', F', t', kd, kp', R', rk, rd, hkl, h⟩ => ?_) fun ks H' ⟨hc', F', t', kd, kp', R', rk, rd, hkl, h⟩ => ?_
      · refine ⟨fun pins s' σ H' Q I ⟨F0, H0, z⟩ => ?_⟩
        exact (hbody _ _ (ok.lam1 h2 S A outer s H hr F0 H0)).run pins s' σ H' Q I z
      · obtain ⟨d, hd, rvd⟩ := rd.get' hv
        have hi : i < ds.length := (List.getElem?_eq_some_iff.mp hd).1
        have ed : ds.drop i = d :: ds.drop (i + 1) := by
          rw [List.drop_eq_getElem_cons hi]
          congr 1
          exact Option.some.inj ((List.getElem?_eq_getElem hi).symm.trans hd)
        rw [ed, compL] at h
        refine ⟨F', H', F', startR N' [d], t', Rel.start R'.toRelH.refl (.cons rvd .nil), ?_⟩
        cases e : f (startR N' [d]) t' with
        | exc n t2 =>
          rw [e] at h
          exact h.elim
        | bad =>
          rw [e] at h
          exact h.elim
        | ok y t2 =>
          rw [e] at h
          simp only [Res.bind_ok] at h
          intro kv F2 H2' kp2 Rk rkv
          have b2 : RelH P.K P.T F' H' F2 t2 H2' := Rk.toRelH
          refine ⟨b2.old _ _ hc' (fun z => ?_) (fun z => ?_) (LamX.codeO_ne), F2, t2, kd ++ [y], kp'.trans (Kp.of b2), R'.step b2, (rk.mono b2.base).append (.cons rkv .nil), rd.mono b2.base, by rw [List.length_append, hkl]; rfl, ?_⟩
          · rw [z, R'.tw.a] at hc'
            cases hc'
          · rw [z, R'.tw.b] at hc'
            cases hc'
          · have e2 : ∀ (m : Res (List D)), ((m.bind fun xs t2 => .ok (consO (some y) xs) t2).bind fun ks t2 => if okKeys (kd ++ ks) then Res.ok (D.lst (sortD ds (kd ++ ks))) t2 else .bad) = m.bind fun ks t2 => if okKeys ((kd ++ [y]) ++ ks) then Res.ok (D.lst (sortD ds ((kd ++ [y]) ++ ks))) t2 else .bad := fun m => by
              cases m with
              | ok zs t3 => simp [consO]
              | exc n t3 => rfl
              | bad => rfl
            rw [e2] at h
            exact h.up b2.base
      · have hn : xs.length = ds.length := rd.length
        rw [List.drop_of_length_le (by omega), compL] at h
        simp only [Res.bind_ok, List.append_nil] at h
        split at h
        · rename_i hk
          obtain ⟨k1, k2, k3⟩ := okKeys_parts hk
          have hu := ok.hu
          have hdl : (pys kd).length = kd.length := by rw [pys_map, List.length_map]
          refine ⟨pys kd, by rw [hdl, hkl], ?_, k2, k3, fun d hd => ?_, mkLst R' ?_ (sort_rel rd (by rw [hkl, hn])) fun v F2 H2' kp2 R3 rv => h v F2 H2' (kp'.trans kp2) R3 rv⟩
          · rw [ok.hK]
            refine rk.dp R'.sub ?_
            rw [layAll]
            exact List.all_eq_true.mpr fun a ha => (k1 a ha).1
          · rw [pys_map] at hd
            obtain ⟨a, ha, rfl⟩ := List.mem_map.mp hd
            have := (k1 a ha).2
            show X.A.units + 1 + 1 + dep a < cLine
            omega
          · rw [List.length_map, List.length_mergeSort, List.length_zip]
            omega
        · exact h.elim
    | _ => exact h.elim
  · rw [hst]
    rfl
  · rw [hst]
    rfl
theorem dsp_of : ∀ {kvs : List (Str × Cst)} {ks : List (Option Expr)} {vs : List Expr}, mDsp kvs ks vs = true → DspIs kvs ks vs
  | [], [], [], _ => .nil
  | (x, k) :: r, some (.Constant (.str y) j q) :: ks, .Constant k' j' q' :: vs, h => by
    obtain ⟨h1, h2⟩ := and2 (show (decide (x = y) && decide (k.k = k') && mDsp r ks vs) = true from h)
    obtain ⟨h3, h4⟩ := and2 h1
    obtain rfl := of_decide_eq_true h3
    obtain rfl := of_decide_eq_true h4
    exact .cons (dsp_of h2)
mutual
theorem sTg (ok : Ok tb N G cs cl X P c) : ∀ {t : Tg} {e : Expr}, mTg N c t e = true → PG X e (gT P t)
  | .name i, .Name x p, h => by
    obtain ⟨h1, h2, h3⟩ := tgtB_of ok (show tgtB N c i x = true from h)
    exact g_name (by rw [ok.hN]; exact ok.nd) h1 h2 h3
  | .tup ts, .Tuple es k p, h => by
    have h : mTgs N c ts es = true := h
    obtain ⟨h1, h2, h3⟩ := sTgs ok h
    exact g_tup ok.hK ok.calm h1 h2 h3
theorem sTgs (ok : Ok tb N G cs cl X P c) : ∀ {ts : Tgs} {es : List Expr}, mTgs N c ts es = true → PGs X es (gTs P ts) ∧ (assignEach es X.env).length = ts.count ∧ (assignEach es X.env).findIdx? (·.1) = none
  | .nil, [], _ => ⟨g_nil, rfl, rfl⟩
  | .cons t ts, e :: es, h => by
    obtain ⟨h1, h2⟩ := and2 (show (nStar e && mTg N c t e && mTgs N c ts es) = true from h)
    obtain ⟨h3, h4⟩ := and2 h1
    obtain ⟨g1, g2, g3⟩ := sTgs ok h2
    have ea : assignEach (e :: es) X.env = (false, assign e X.env) :: assignEach es X.env := by
      cases e <;> first | rfl | (cases h3; done)
    refine ⟨g_cons (sTg ok h4) g1 (by rw [ea]; rfl), ?_, ?_⟩
    · rw [ea, List.length_cons, g2]
      rfl
    · rw [ea, List.findIdx?_cons]
      simp [g3]
end
end
end Fm

namespace Fm
open PySem PySem.Spec PyProof.Rows L2
section
variable {G : Gam} {cs : Nat → D}
theorem ev_cst (k : Cst) : ev G cs (.cst k) = fun _ t => .ok k.d t := by funext r t; rw [ev]
theorem ev_var (i : Nat) : ev G cs (.var i) = fun r t => match r[i]? with
    | some (.val d) => .ok d t
    | _ => .bad := by funext r t; first | (rw [ev]; done) | (rw [ev]; rfl)
theorem ev_bor (i : Nat) : ev G cs (.bor i) = fun r t => match r[i]? with
    | some (.val d) => .ok d t
    | some (.own d) => .ok d t
    | _ => .bad := by funext r t; first | (rw [ev]; done) | (rw [ev]; rfl)
theorem ev_glob (g : Nat) : ev G cs (.glob g) = fun _ t => .ok (cs g) t := by funext r t; rw [ev]
theorem ev_bin (op : Operator) (a b : E) : ev G cs (.bin op a b) = fun r t => (ev G cs a r t).bind fun x t1 => (ev G cs b r t1).bind fun y t2 => lift (binD op x y) t2 := by funext r t; rw [ev]
theorem ev_cat (a b : E) : ev G cs (.cat a b) = fun r t => (ev G cs a r t).bind fun x t1 => (ev G cs b r t1).bind fun y t2 => lift (catD x y) t2 := by funext r t; rw [ev]
theorem ev_neg (a : E) : ev G cs (.neg a) = fun r t => (ev G cs a r t).bind fun x t1 => lift (negD x) t1 := by funext r t; rw [ev]
theorem ev_not (a : E) : ev G cs (.not a) = fun r t => (ev G cs a r t).bind fun x t1 => lift (notD x) t1 := by funext r t; rw [ev]
theorem ev_and (a b : E) : ev G cs (.and a b) = andE (ev G cs a) (ev G cs b) := by funext r t; first | (rw [ev]; done) | (rw [ev]; rfl)
theorem ev_or (a b : E) : ev G cs (.or a b) = orE (ev G cs a) (ev G cs b) := by funext r t; first | (rw [ev]; done) | (rw [ev]; rfl)
theorem ev_ite (k a b : E) : ev G cs (.ite k a b) = iteE (ev G cs k) (ev G cs a) (ev G cs b) := by funext r t; first | (rw [ev]; done) | (rw [ev]; rfl)
theorem ev_cmp (op : CmpOp) (a b : E) : ev G cs (.cmp op a b) = fun r t => (ev G cs a r t).bind fun x t1 => (ev G cs b r t1).bind fun y t2 => lift (cmpD op x y) t2 := by funext r t; rw [ev]
theorem ev_chain (o1 o2 : CmpOp) (a b k : E) : ev G cs (.chain o1 o2 a b k) = chainE o1 o2 (ev G cs a) (ev G cs b) (ev G cs k) := by funext r t; first | (rw [ev]; done) | (rw [ev]; rfl)
theorem ev_ix (a b : E) : ev G cs (.ix a b) = fun r t => (ev G cs a r t).bind fun x t1 => (ev G cs b r t1).bind fun y t2 => lift (ixD x y) t2 := by funext r t; rw [ev]
theorem ev_dix (a b : E) : ev G cs (.dix a b) = fun r t => (ev G cs a r t).bind fun x t1 => (ev G cs b r t1).bind fun y t2 => lift (dixD x y) t2 := by funext r t; rw [ev]
theorem ev_cut (a : E) (lo hi : O) : ev G cs (.cut a lo hi) = cutE (ev G cs a) (evO G cs lo) (evO G cs hi) := by funext r t; first | (rw [ev]; done) | (rw [ev]; rfl)
theorem ev_tup (es : Es) : ev G cs (.tup es) = fun r t => (evs G cs es r t).bind fun xs t1 => if okLen xs.length then .ok (.tup xs) t1 else .bad := by funext r t; rw [ev]
theorem ev_lst (es : Es) : ev G cs (.lst es) = fun r t => (evs G cs es r t).bind fun xs t1 => if okLen xs.length then .ok (.lst xs) t1 else .bad := by funext r t; rw [ev]
theorem ev_call (i : Nat) (es ks : Es) : ev G cs (.call i es ks) = fun r t => (evs G cs es r t).bind fun xs t1 => (evs G cs ks r t1).bind fun ys t2 => G.f 0 i xs ys t2 := by funext r t; rw [ev]
theorem ev_blt (b : Blt) (a : E) : ev G cs (.blt b a) = fun r t => (ev G cs a r t).bind fun x t1 => lift (blt1 b x) t1 := by funext r t; rw [ev]
theorem ev_isa (a : E) (T : Ty) : ev G cs (.isa a T) = fun r t => (ev G cs a r t).bind fun x t1 => lift ((isaD x T).map D.bl) t1 := by funext r t; rw [ev]
theorem ev_comp (own : List (Str × Nat)) (elt : E) (tg : Tg) (it : I) (cd : O) : ev G cs (.comp own elt tg it cd) = compE tg (own.map (·.2)) (evI G cs it) (evO G cs cd) (ev G cs elt) := by funext r t; first | (rw [ev]; done) | (rw [ev]; rfl)
theorem ev_get (a k d : E) : ev G cs (.get a k d) = getE (ev G cs a) (ev G cs k) (ev G cs d) := by funext r t; first | (rw [ev]; done) | (rw [ev]; rfl)
theorem ev_dsp (kvs : List (Str × Cst)) : ev G cs (.dsp kvs) = fun _ t => if decide (kvs.length ≤ 15) then .ok (.dct (mergeD [] (kvs.map fun p => (p.1, p.2.d)))) t else .bad := by funext r t; rw [ev]
theorem ev_rev (a : E) : ev G cs (.rev a) = fun r t => (ev G cs a r t).bind fun x t1 => lift (revD x) t1 := by funext r t; rw [ev]
theorem ev_heard (e : E) : ev G cs (.heard e) = fun r t => if decide (2 ≤ G.lv) then heardR (ev G.low cs e (valsR r) t) else .bad := by funext r t; rw [ev]
theorem ev_isx (a : E) (n : Nat) : ev G cs (.isx a n) = fun r t => (ev G cs a r t).bind fun x t1 => lift (isxD x n) t1 := by funext r t; rw [ev]
theorem ev_isv (a : E) : ev G cs (.isv a) = fun r t => (ev G cs a r t).bind fun x t1 => lift (isvD x) t1 := by funext r t; rw [ev]
/-- expressions, one by one -/
def esF (G : Gam) (cs : Nat → D) : Es → List (Rho → Tw → Res D)
  | .nil => []
  | .cons e es => ev G cs e :: esF G cs es
theorem evs_evL : ∀ es : Es, evs G cs es = evL (esF G cs es)
  | .nil => by funext r t; rw [evs]; rfl
  | .cons e es => by
    funext r t
    rw [evs, evs_evL es]
    rfl
theorem ev_dn0 : ev G cs .dn0 = fun _ t => .ok (.dcn []) t := by funext r t; rw [ev]
theorem ev_bad : ev G cs .bad = fun _ _ => .bad := by funext r t; rw [ev]
theorem ev_sortK (a : E) (N : List Str) (e : E) : ev G cs (.sortK a N e) = sortKE G.lv (ev G cs a) N (ev G.low cs e) := by funext r t; first | (rw [ev]; done) | (rw [ev]; rfl)
theorem ev_dspE (ks : List Str) (es : Es) : ev G cs (.dspE ks es) = dspEE ks (esF G cs es) := by funext r t; rw [ev, evs_evL]; rfl
theorem evI_keys (a : E) : evI G cs (.keys a) = keysE (ev G cs a) := by funext r t; first | (rw [evI]; done) | (rw [evI]; rfl)
theorem ev_idxG (g : Nat) (b : E) : ev G cs (.idxG g b) = fun r t => if isSq false (cs g) then (ev G cs b r t).bind fun y t1 => lift (idxD false (cs g) y) t1 else .bad := by funext r t; rw [ev]
theorem ev_idx (a b : E) : ev G cs (.idx a b) = idxE (ev G cs a) (ev G cs b) := by funext r t; first | (rw [ev]; done) | (rw [ev]; rfl)
theorem ev_comp2 (own : List (Str × Nat)) (elt : E) (tg : Tg) (it : I) (tg1 : Tg) (it1 : I) : ev G cs (.comp2 own elt tg it tg1 it1) = comp2E tg (own.map (·.2)) (evI G cs it) tg1 (evI G cs it1) (ev G cs elt) := by funext r t; first | (rw [ev]; done) | (rw [ev]; rfl)
theorem evI_enumT (a : E) : evI G cs (.enumT a) = enumTE (ev G cs a) := by funext r t; first | (rw [evI]; done) | (rw [evI]; rfl)
theorem ev_tcount (i : Nat) : ev G cs (.tcount i) = tcountE i := by funext r t; first | (rw [ev]; done) | (rw [ev]; rfl)
theorem ev_tget (i : Nat) (k d : E) : ev G cs (.tget i k d) = tgetE i (ev G cs k) (ev G cs d) := by funext r t; first | (rw [ev]; done) | (rw [ev]; rfl)
theorem evO_none : evO G cs .none = fun _ t => .ok none t := by funext r t; rw [evO]
theorem evO_some (e : E) : evO G cs (.some e) = fun r t => (ev G cs e r t).bind fun x t1 => .ok (some x) t1 := by funext r t; rw [evO]
theorem evs_nil : evs G cs .nil = fun _ t => .ok [] t := by funext r t; rw [evs]
theorem evs_cons (e : E) (es : Es) : evs G cs (.cons e es) = fun r t => (ev G cs e r t).bind fun x t1 => (evs G cs es r t1).bind fun xs t2 => .ok (x :: xs) t2 := by funext r t; rw [evs]
theorem evI_val (e : E) : evI G cs (.val e) = evV (ev G cs e) := by funext r t; first | (rw [evI]; done) | (rw [evI]; rfl)
theorem evI_rng1 (a : E) : evI G cs (.rng1 a) = fun r t => (ev G cs a r t).bind fun x t1 => match x with
    | .int j => if okRng j then .ok (rngD 0 j.toNat) t1 else .bad
    | _ => .bad := by funext r t; first | (rw [evI]; done) | (rw [evI]; rfl)
theorem evI_rng2 (a b : E) : evI G cs (.rng2 a b) = fun r t => (ev G cs a r t).bind fun x t1 => (ev G cs b r t1).bind fun y t2 => match x, y with
    | .int i, .int j => if okRng i && okRng j then .ok (rngD i (j - i).toNat) t2 else .bad
    | _, _ => .bad := by funext r t; first | (rw [evI]; done) | (rw [evI]; rfl)
theorem evI_zip (a b : E) : evI G cs (.zip a b) = zipE (ev G cs a) (ev G cs b) := by funext r t; first | (rw [evI]; done) | (rw [evI]; rfl)
theorem evI_zipN (a b : E) : evI G cs (.zipN a b) = zipNE (ev G cs a) (ev G cs b) := by funext r t; first | (rw [evI]; done) | (rw [evI]; rfl)
theorem evI_enum (a : E) : evI G cs (.enum a) = enumE (ev G cs a) := by funext r t; first | (rw [evI]; done) | (rw [evI]; rfl)
theorem evs_len {xs : List Expr} {tb : Tb} {N : List Str} {c : Cs} : ∀ {es : Es} {xs : List Expr}, mEs tb N c es xs = true → ∀ r t ys t1, evs G cs es r t = .ok ys t1 → ys.length = xs.length
  | .nil, [], _, r, t, ys, t1, e => by
    rw [evs_nil] at e
    cases e
    rfl
  | .cons k es, x :: xs, h, r, t, ys, t1, e => by
    obtain ⟨_, h2⟩ := and2 (show (nStar x && mE tb N c false k x && mEs tb N c es xs) = true from h)
    rw [evs_cons] at e
    cases e1 : ev G cs k r t with
    | ok y t2 =>
      simp only [e1, Res.bind_ok] at e
      cases e2 : evs G cs es r t2 with
      | ok zs t3 =>
        simp only [e2, Res.bind_ok] at e
        cases e
        rw [List.length_cons, List.length_cons, evs_len (xs := xs) h2 r t2 zs _ e2]
      | exc n t3 =>
        simp only [e2] at e
        cases e
      | bad =>
        simp only [e2] at e
        cases e
    | exc n t2 =>
      simp only [e1] at e
      cases e
    | bad =>
      simp only [e1] at e
      cases e
theorem evs_lenK {tb : Tb} {N : List Str} {c : Cs} : ∀ {es : Es} {xs : List Keyword}, mKs tb N c es xs = true → ∀ r t ys t1, evs G cs es r t = .ok ys t1 → ys.length = xs.length
  | .nil, [], _, r, t, ys, t1, e => by
    rw [evs_nil] at e
    cases e
    rfl
  | .cons k es, ⟨nm, x, p⟩ :: xs, h, r, t, ys, t1, e => by
    obtain ⟨_, h2⟩ := and2 (show (mE tb N c false k x && mKs tb N c es xs) = true from h)
    rw [evs_cons] at e
    cases e1 : ev G cs k r t with
    | ok y t2 =>
      simp only [e1, Res.bind_ok] at e
      cases e2 : evs G cs es r t2 with
      | ok zs t3 =>
        simp only [e2, Res.bind_ok] at e
        cases e
        rw [List.length_cons, List.length_cons, evs_lenK h2 r t2 zs _ e2]
      | exc n t3 =>
        simp only [e2] at e
        cases e
      | bad =>
        simp only [e2] at e
        cases e
    | exc n t2 =>
      simp only [e1] at e
      cases e
    | bad =>
      simp only [e1] at e
      cases e
end
/-- a new object is told as nobody's -/
def freshB : E → Bool
  | .lst _ => true
  | .comp _ _ _ _ _ => true
  | .comp2 _ _ _ _ _ _ => true
  | .blt .list _ => true
  | .blt .sorted _ => true
  | .blt .dictN _ => true
  | .dsp _ => true
  | .dspE _ _ => true
  | .dn0 => true
  | .cat _ _ => true
  | _ => false
theorem t_ite {X : Cx} {P : Pm} {a b c : Expr} {pos : Pos} {fa fb fc : Rho → Tw → Res D} (hc : PT X c (tT P fc)) (ha : PT X a (tT P fa)) (hb : PT X b (tT P fb)) : PT X (.IfExp c a b pos) (tT P (iteE fc fa fb)) := by
  refine ⟨fun pins s0 σ H Q I ⟨F, r, t, R, h⟩ => ?_⟩
  show wpAny _ _ (isTrue c X.env (eval c X.env) >>= fun d => if d = true then isTrue a X.env (eval a X.env) else isTrue b X.env (eval b X.env)) _ _ _
  refine wpAny_bind (thn (hc.run pins s0 σ H (fun k H1 => if k = true then tT P fa σ H1 Q else tT P fb σ H1 Q) I ⟨F, r, t, R, h.bind.mono fun d t' h => ?_⟩) fun d s1 ⟨H1, I1, q1⟩ => ?_)
  · cases e : truD d with
    | none =>
      rw [e] at h
      exact h.elim
    | some k =>
      rw [e] at h
      refine ⟨k, rfl, fun F' H' s R' => ?_⟩
      cases k with
      | true => exact ⟨F', r, t', R', ((show Aft P F (fa r t') _ from h).up s.1).mono fun d2 t2 ⟨b2, e2, q⟩ => ⟨b2, e2, fun F2 H2 s2 R2 => q F2 H2 (s.trans s2) R2⟩⟩
      | false => exact ⟨F', r, t', R', ((show Aft P F (fb r t') _ from h).up s.1).mono fun d2 t2 ⟨b2, e2, q⟩ => ⟨b2, e2, fun F2 H2 s2 R2 => q F2 H2 (s.trans s2) R2⟩⟩
  · cases d with
    | true => exact ha.run pins s1 σ H1 Q I1 q1
    | false => exact hb.run pins s1 σ H1 Q I1 q1
section
variable {tb : Tb} {N : List Str} {G : Gam} {cs : Nat → D} {cl : Nat → Addr}
theorem notWord {X : Cx} {P : Pm} {f : Rho → Tw → Res D} {e : Expr} (nw : ∀ op vs pos, e ≠ .BoolOp op vs pos) : ∀ op vs pos, e = .BoolOp op vs pos → PW X e (tT P f) := fun op vs pos z => absurd z (nw op vs pos)
theorem s_callA {X : Cx} {P : Pm} {c : Cs} (ok : Ok tb N G cs cl X P c) {i : Nat} {sh : Sh} {x : Str} {p pos : Pos} {xs : List Expr} {kws : List Keyword} {es ks : Es} (hsh : tb.sh[i]? = some sh) (hx : sh.name = x) (hg : glB c x = true) (hl : xs.length = sh.np)
    (hk : kws.map (·.arg) = sh.ks.map some) (h0 : kws = [] ∨ xs ≠ []) (he : mEs tb N c es xs = true) (hke : mKs tb N c ks kws = true) (pa : PA X xs (tDs P (evs G cs es))) (pk : PK X kws (tDs P (evs G cs ks))) :
    PE X (.Call (.Name x p) xs kws pos) (tD P (ev G cs (.call i es ks))) := by
  subst hx
  obtain ⟨f, fd, ps, Γ, F, hm, hkp, hb0, hb1, hG⟩ := (ok.call 0 i sh hsh (Nat.zero_le _)).ex
  have hr : Room (G.lv - 0) X.A := ok.room
  obtain ⟨g1, g2, g3⟩ := glB_of ok hg
  have lk : kws.length = sh.ks.length := by
    have := congrArg List.length hk
    simpa using this
  have dd : ∀ F, RpL P.K P.T F (sh.dfl.map Cst.v) (sh.dfl.map Cst.d) := fun F => by
    induction sh.dfl with
    | nil => exact .nil
    | cons d r ih => exact .cons d.rp ih
  have ld : (sh.dfl.map Cst.d).length = sh.dfl.length := List.length_map ..
  rw [ev_call]
  by_cases hks : sh.ks = []
  · obtain ⟨ds, hv, hb⟩ := hb0 hks
    rw [hks] at lk F
    have ek : kws = [] := List.length_eq_zero_iff.mp lk
    subst ek
    cases ks with
    | cons _ _ => cases hke
    | nil =>
      cases xs with
      | nil =>
        cases es with
        | cons _ _ => cases he
        | nil =>
          have e : (fun r t => (evs G cs .nil r t).bind fun xs t1 => (evs G cs .nil r t1).bind fun ys t2 => G.f 0 i xs ys t2) = fun (r : Rho) t => Γ (sh.dfl.map Cst.d) t := by
            funext r t
            simp only [evs_nil, Res.bind_ok, hG, List.nil_append]
          rw [e]
          have hl : 0 = sh.np := hl
          exact s_call0 F hr g1 hm hkp hb hv dd ok.tk (by rw [ld, ← hl]; simp) g2
      | cons y ys =>
        have e : (fun r t => (evs G cs es r t).bind fun xs t1 => (evs G cs .nil r t1).bind fun ys t2 => G.f 0 i xs ys t2) = fun (r : Rho) t => (evs G cs es r t).bind fun xs t1 => Γ (xs ++ sh.dfl.map Cst.d) t1 := by
          funext r t
          simp only [evs_nil, Res.bind_ok, hG, List.append_nil]
        rw [e]
        have hst : starEach (y :: ys) X.env = (false, eval y X.env) :: starEach ys X.env := by
          cases es with
          | nil => cases he
          | cons k0 es0 =>
            obtain ⟨h1, _⟩ := and2 (show (nStar y && mE tb N c false k0 y && mEs tb N c es0 ys) = true from he)
            exact star_of (and2 h1).1
        have hpl : ∀ {es0 : Es} {ys : List Expr}, mEs tb N c es0 ys = true → (backTo pos (starEach ys X.env)).any (·.1) = false := by
          intro es0 ys
          induction ys generalizing es0 with
          | nil => intro _; rfl
          | cons z zs ih =>
            intro h
            cases es0 with
            | nil => cases h
            | cons k0 es1 =>
              obtain ⟨h1, h2⟩ := and2 (show (nStar z && mE tb N c false k0 z && mEs tb N c es1 zs) = true from h)
              rw [star_of (and2 h1).1]
              exact ih h2
        have hys : ∃ es0, mEs tb N c es0 ys = true := by
          cases es with
          | nil => cases he
          | cons k0 es0 => exact ⟨es0, (and2 (show (nStar y && mE tb N c false k0 y && mEs tb N c es0 ys) = true from he)).2⟩
        obtain ⟨es0, hys⟩ := hys
        refine s_call F hr g1 hm hkp hb hv dd ok.tk pa (fun r t zs t1 e1 => ?_) g2 hst (hpl hys)
        rw [evs_len (xs := y :: ys) he r t zs t1 e1, ld, hl]
        simp
  · obtain ⟨gg, hb⟩ := hb1 hks
    have kne : kws ≠ [] := fun e => hks (List.length_eq_zero_iff.mp (by rw [← lk, e]; rfl))
    rcases h0 with h0 | h0
    · exact absurd h0 kne
    cases xs with
    | nil => exact absurd rfl h0
    | cons y ys =>
      have hst : starEach (y :: ys) X.env = (false, eval y X.env) :: starEach ys X.env := by
        cases es with
        | nil => cases he
        | cons k0 es0 =>
          obtain ⟨h1, _⟩ := and2 (show (nStar y && mE tb N c false k0 y && mEs tb N c es0 ys) = true from he)
          exact star_of (and2 h1).1
      have hpl : ∀ {es0 : Es} {ys : List Expr}, mEs tb N c es0 ys = true → (backTo pos (starEach ys X.env)).any (·.1) = false := by
        intro es0 ys
        induction ys generalizing es0 with
        | nil => intro _; rfl
        | cons z zs ih =>
          intro h
          cases es0 with
          | nil => cases h
          | cons k0 es1 =>
            obtain ⟨h1, h2⟩ := and2 (show (nStar z && mE tb N c false k0 z && mEs tb N c es1 zs) = true from h)
            rw [star_of (and2 h1).1]
            exact ih h2
      have kwl : ∀ {kws : List Keyword} {l : List Str}, kws.map (·.arg) = l.map some → (backToKw pos (keywordEach kws X.env)).all (·.1.isSome) = true ∧ (backToKw pos (keywordEach kws X.env)).filterMap (·.1) = l ∧ (backToKw pos (keywordEach kws X.env)).any (·.1.isNone) = false := by
        intro kws
        induction kws with
        | nil =>
          intro l h
          cases l with
          | nil => exact ⟨rfl, rfl, rfl⟩
          | cons _ _ => cases h
        | cons k0 kr ih =>
          intro l h
          cases l with
          | nil => cases h
          | cons z zs =>
            obtain ⟨nm, e0, p0⟩ := k0
            simp only [List.map_cons, List.cons.injEq] at h
            obtain ⟨h1, h2⟩ := h
            subst h1
            obtain ⟨i1, i2, i3⟩ := ih h2
            refine ⟨?_, ?_, ?_⟩
            · show (true && (backToKw pos (keywordEach kr X.env)).all (·.1.isSome)) = true
              rw [i1]
              rfl
            · show z :: (backToKw pos (keywordEach kr X.env)).filterMap (·.1) = z :: zs
              rw [i2]
            · show (false || (backToKw pos (keywordEach kr X.env)).any (·.1.isNone)) = false
              rw [i3]
              rfl
      obtain ⟨k1, k2, k3⟩ := kwl hk
      have e : (fun r t => (evs G cs es r t).bind fun xs t1 => (evs G cs ks r t1).bind fun ys t2 => G.f 0 i xs ys t2) = fun (r : Rho) t => (evs G cs es r t).bind fun xs t1 => (evs G cs ks r t1).bind fun ys t2 => Γ (xs ++ ys ++ sh.dfl.map Cst.d) t2 := by
        funext r t
        simp only [hG]
      rw [e]
      refine s_callK F hr g1 hm hkp hb dd ok.tk pa pk (fun r t zs t1 e1 => ?_) (fun r t zs t1 e1 => ?_) (by rw [ld]) k1 k2 g2 hst ?_
      · rw [evs_len (xs := y :: ys) he r t zs t1 e1, hl]
      · rw [evs_lenK hke r t zs t1 e1, lk]
      · rw [hpl he, k3]
        rfl
end
theorem isT_of {N : List Str} {c : Cs} {tg : Tg} {e : Expr} (h : mTg N c tg e = true) : isTupB e = true → tg.isT = true := fun z => by
  cases tg with
  | tup ts => rfl
  | name i => cases e <;> first | (cases z; done) | (cases h; done)
end Fm

namespace Fm
open PySem PySem.Spec PyProof.Rows L2
section
variable {tb : Tb} {N : List Str} {c : Cs} {fl : Bool}
theorem mE_cst {k : Cst} {e : Expr} (h : mE tb N c fl (.cst k) e = true) : ∃ k' j p, e = .Constant k' j p ∧ (decide (k.k = k')) = true := by
  cases e
  all_goals first
    | (cases h; done)
    | exact ⟨_, _, _, rfl, h⟩
theorem mE_var {i : Nat} {e : Expr} (h : mE tb N c fl (.var i) e = true) : ∃ x p, e = .Name x p ∧ (varB N c i x) = true := by
  cases e
  all_goals first
    | (cases h; done)
    | exact ⟨_, _, rfl, h⟩
theorem mE_bor {i : Nat} {e : Expr} (h : mE tb N c fl (.bor i) e = true) : ∃ x p, e = .Name x p ∧ (fl && varB N c i x) = true := by
  cases e
  all_goals first
    | (cases h; done)
    | exact ⟨_, _, rfl, h⟩
theorem mE_glob {g : Nat} {e : Expr} (h : mE tb N c fl (.glob g) e = true) : ∃ x p, e = .Name x p ∧ (decide (tb.cs[g]? = some x) && glB c x) = true := by
  cases e
  all_goals first
    | (cases h; done)
    | exact ⟨_, _, rfl, h⟩
theorem mE_bin {op : Operator} {a b : E} {e : Expr} (h : mE tb N c fl (.bin op a b) e = true) : ∃ ea op' eb p, e = .BinOp ea op' eb p ∧ (decide (op = op') && opB op && mE tb N c true a ea && mE tb N c true b eb) = true := by
  cases e
  all_goals first
    | (cases h; done)
    | exact ⟨_, _, _, _, rfl, h⟩
theorem mE_cat {a b : E} {e : Expr} (h : mE tb N c fl (.cat a b) e = true) : ∃ ea eb p, e = .BinOp ea .Add eb p ∧ (mE tb N c true a ea && mE tb N c true b eb) = true := by
  cases e
  all_goals first
    | (cases h; done)
    | exact ⟨_, _, _, rfl, h⟩
    | (rename_i a1 a2 a3 a4; cases a2 <;> first | (cases h; done) | exact ⟨_, _, _, rfl, h⟩)
theorem mE_neg {a : E} {e : Expr} (h : mE tb N c fl (.neg a) e = true) : ∃ ea p, e = .UnaryOp .USub ea p ∧ (mE tb N c true a ea) = true := by
  cases e
  all_goals first
    | (cases h; done)
    | exact ⟨_, _, rfl, h⟩
    | (rename_i a1 a2 a3; cases a1 <;> first | (cases h; done) | exact ⟨_, _, rfl, h⟩)
theorem mE_not {a : E} {e : Expr} (h : mE tb N c fl (.not a) e = true) : ∃ ea p, e = .UnaryOp .Not ea p ∧ (mE tb N c true a ea) = true := by
  cases e
  all_goals first
    | (cases h; done)
    | exact ⟨_, _, rfl, h⟩
    | (rename_i a1 a2 a3; cases a1 <;> first | (cases h; done) | exact ⟨_, _, rfl, h⟩)
def mAnd (tb : Tb) (N : List Str) (c : Cs) (b : E) (y : Expr) (r : List Expr) (p : Pos) : Bool := match r with
    | [] => mE tb N c false b y
    | z :: r' => mE tb N c false b (.BoolOp .And (y :: z :: r') p)
theorem mE_and {a b : E} {e : Expr} (h : mE tb N c fl (.and a b) e = true) : ∃ x y r p, e = .BoolOp .And (x :: y :: r) p ∧ (mE tb N c false a x && mAnd tb N c b y r p) = true := by
  cases e
  all_goals first
    | (cases h; done)
    | exact ⟨_, _, _, _, rfl, h⟩
    | (rename_i a1 a2 a3; cases a1 <;> first | (cases h; done) | (cases a2 with | nil => (cases h; done) | cons x a2 => cases a2 with | nil => (cases h; done) | cons y r => exact ⟨_, _, _, _, rfl, h⟩))
def mOr (tb : Tb) (N : List Str) (c : Cs) (b : E) (y : Expr) (r : List Expr) (p : Pos) : Bool := match r with
    | [] => mE tb N c false b y
    | z :: r' => mE tb N c false b (.BoolOp .Or (y :: z :: r') p)
theorem mE_or {a b : E} {e : Expr} (h : mE tb N c fl (.or a b) e = true) : ∃ x y r p, e = .BoolOp .Or (x :: y :: r) p ∧ (mE tb N c false a x && mOr tb N c b y r p) = true := by
  cases e
  all_goals first
    | (cases h; done)
    | exact ⟨_, _, _, _, rfl, h⟩
    | (rename_i a1 a2 a3; cases a1 <;> first | (cases h; done) | (cases a2 with | nil => (cases h; done) | cons x a2 => cases a2 with | nil => (cases h; done) | cons y r => exact ⟨_, _, _, _, rfl, h⟩))
theorem mE_ite {k a b : E} {e : Expr} (h : mE tb N c fl (.ite k a b) e = true) : ∃ ek ea eb p, e = .IfExp ek ea eb p ∧ (mE tb N c true k ek && mE tb N c false a ea && mE tb N c false b eb) = true := by
  cases e
  all_goals first
    | (cases h; done)
    | exact ⟨_, _, _, _, rfl, h⟩
theorem mE_cmp {op : CmpOp} {a b : E} {e : Expr} (h : mE tb N c fl (.cmp op a b) e = true) : ∃ ea op' eb p, e = .Compare ea [op'] [eb] p ∧ (decide (op = op') && !behindInMarks op eb && mE tb N c true a ea && mE tb N c true b eb) = true := by
  cases e
  all_goals first
    | (cases h; done)
    | exact ⟨_, _, _, _, rfl, h⟩
    | (rename_i a1 a2 a3 a4; cases a2 with | nil => (cases h; done) | cons o1 a2 => cases a2 with | nil => (cases a3 with | nil => (cases h; done) | cons x a3 => cases a3 with | nil => exact ⟨_, _, _, _, rfl, h⟩ | cons _ _ => (cases h; done)) | cons o2 a2 => cases a2 with | cons _ _ => (cases a3 <;> (cases h; done)) | nil => (cases a3 with | nil => (cases h; done) | cons x a3 => cases a3 with | nil => (cases h; done) | cons y a3 => cases a3 with | nil => (cases h; done) | cons _ _ => (cases h; done)))
theorem mE_chain {o1 o2 : CmpOp} {a b k : E} {e : Expr} (h : mE tb N c fl (.chain o1 o2 a b k) e = true) : ∃ ea o1' o2' eb ek p, e = .Compare ea [o1', o2'] [eb, ek] p ∧ (decide (o1 = o1') && decide (o2 = o2') && !lastMarks [o1, o2] [eb, ek] && mE tb N c true a ea && mE tb N c true b eb && mE tb N c true k ek) = true := by
  cases e
  all_goals first
    | (cases h; done)
    | exact ⟨_, _, _, _, _, _, rfl, h⟩
    | (rename_i a1 a2 a3 a4; cases a2 with | nil => (cases h; done) | cons o1 a2 => cases a2 with | nil => (cases a3 with | nil => (cases h; done) | cons x a3 => cases a3 with | nil => (cases h; done) | cons _ _ => (cases h; done)) | cons o2 a2 => cases a2 with | cons _ _ => (cases a3 <;> (cases h; done)) | nil => (cases a3 with | nil => (cases h; done) | cons x a3 => cases a3 with | nil => (cases h; done) | cons y a3 => cases a3 with | nil => exact ⟨_, _, _, _, _, _, rfl, h⟩ | cons _ _ => (cases h; done)))
theorem mE_cut {a : E} {lo hi : O} {e : Expr} (h : mE tb N c fl (.cut a lo hi) e = true) : ∃ ea l u p2 p, e = .Subscript ea (.Slice l u none p2) p ∧ (mE tb N c true a ea && mO tb N c lo l && mO tb N c hi u) = true := by
  cases e
  all_goals first
    | (cases h; done)
    | exact ⟨_, _, _, _, _, rfl, h⟩
    | (rename_i a1 a2 a3; cases a2 <;> first | (cases h; done) | (rename_i l u st p2; cases st <;> first | (cases h; done) | exact ⟨_, _, _, _, _, rfl, h⟩))
theorem mE_ix {a b : E} {e : Expr} (h : mE tb N c fl (.ix a b) e = true) : ∃ ea eb p, e = .Subscript ea eb p ∧ (nSlice eb && mE tb N c true a ea && mE tb N c true b eb) = true := by
  cases e
  all_goals first
    | (cases h; done)
    | exact ⟨_, _, _, rfl, h⟩
    | (rename_i a1 a2 a3; cases a2 <;> first | exact ⟨_, _, _, rfl, h⟩ | (rename_i l u st p2; cases st <;> first | exact ⟨_, _, _, rfl, h⟩ | (cases h; done)))
theorem mE_dix {a b : E} {e : Expr} (h : mE tb N c fl (.dix a b) e = true) : ∃ ea eb p, e = .Subscript ea eb p ∧ (nSlice eb && mE tb N c true a ea && mE tb N c true b eb) = true := by
  cases e
  all_goals first
    | (cases h; done)
    | exact ⟨_, _, _, rfl, h⟩
    | (rename_i a1 a2 a3; cases a2 <;> first | exact ⟨_, _, _, rfl, h⟩ | (rename_i l u st p2; cases st <;> first | exact ⟨_, _, _, rfl, h⟩ | (cases h; done)))
theorem mE_tup {es : Es} {e : Expr} (h : mE tb N c fl (.tup es) e = true) : ∃ xs k p, e = .Tuple xs k p ∧ (mEs tb N c es xs) = true := by
  cases e
  all_goals first
    | (cases h; done)
    | exact ⟨_, _, _, rfl, h⟩
theorem mE_lst {es : Es} {e : Expr} (h : mE tb N c fl (.lst es) e = true) : ∃ xs p, e = .List xs p ∧ (mEs tb N c es xs) = true := by
  cases e
  all_goals first
    | (cases h; done)
    | exact ⟨_, _, rfl, h⟩
def mCall (tb : Tb) (N : List Str) (c : Cs) (i : Nat) (es ks : Es) (x : Str) (xs : List Expr) (kws : List Keyword) : Bool := match tb.sh[i]? with
    | some sh => decide (sh.name = x) && glB c x && decide (xs.length = sh.np) && decide (kws.map (·.arg) = sh.ks.map some) && (decide (kws = []) || !decide (xs = [])) && mEs tb N c es xs && mKs tb N c ks kws
    | none => false
theorem mE_call {i : Nat} {es ks : Es} {e : Expr} (h : mE tb N c fl (.call i es ks) e = true) : ∃ x q xs kws p, e = .Call (.Name x q) xs kws p ∧ (mCall tb N c i es ks x xs kws) = true := by
  cases e
  all_goals first
    | (cases h; done)
    | exact ⟨_, _, _, _, _, rfl, h⟩
    | (rename_i f0 xs kws p; cases f0 <;> first | (cases h; done) | exact ⟨_, _, _, _, _, rfl, h⟩)
theorem mE_blt {b : Blt} {a : E} {e : Expr} (h : mE tb N c fl (.blt b a) e = true) : ∃ x q ea p, e = .Call (.Name x q) [ea] [] p ∧ (bltB b && decide (b.nm = x) && glB c x && nStar ea && mE tb N c true a ea) = true := by
  cases e
  all_goals first
    | (cases h; done)
    | exact ⟨_, _, _, _, rfl, h⟩
    | (rename_i f0 xs kws p; cases f0 <;> first | (cases h; done) | (cases xs with | nil => (cases h; done) | cons y xs => cases xs with | cons _ _ => (cases h; done) | nil => cases kws with | cons _ _ => (cases h; done) | nil => exact ⟨_, _, _, _, rfl, h⟩))
theorem mE_isa {a : E} {T : Ty} {e : Expr} (h : mE tb N c fl (.isa a T) e = true) : ∃ x q ea y q2 p, e = .Call (.Name x q) [ea, .Name y q2] [] p ∧ (decide (x = "isinstance") && decide (T.nm = y) && glB c x && glB c y && nStar ea && mE tb N c true a ea) = true := by
  cases e
  all_goals first
    | (cases h; done)
    | exact ⟨_, _, _, _, _, _, rfl, h⟩
    | (rename_i f0 xs kws p; cases f0 <;> first | (cases h; done) | (cases xs with | nil => (cases h; done) | cons y xs => cases xs with | nil => (cases h; done) | cons z xs => cases xs with | cons _ _ => (cases z <;> (cases h; done)) | nil => cases kws with | cons _ _ => (cases z <;> (cases h; done)) | nil => (cases z <;> first | (cases h; done) | exact ⟨_, _, _, _, _, _, rfl, h⟩)))
theorem mE_idxG {g : Nat} {b : E} {e : Expr} (h : mE tb N c fl (.idxG g b) e = true) : ∃ x q m q2 eb cp, e = .Call (.Attribute (.Name x q) m q2) [eb] [] cp ∧ (decide (m = "index") && decide (tb.cs[g]? = some x) && glB c x && (q2.endLine == cp.line) && nStar eb && mE tb N c false b eb) = true := by
  cases e
  all_goals first
    | (cases h; done)
    | exact ⟨_, _, _, _, _, _, rfl, h⟩
    | (rename_i f0 xs kws p; cases f0 <;> first | (cases h; done) | (rename_i ob m p1; cases ob <;> first | (cases h; done) | (cases xs with | nil => (cases h; done) | cons y xs => cases xs with | cons _ _ => (cases h; done) | nil => cases kws with | cons _ _ => (cases h; done) | nil => exact ⟨_, _, _, _, _, _, rfl, h⟩)))
theorem mE_idx {a b : E} {e : Expr} (h : mE tb N c fl (.idx a b) e = true) : ∃ ea m q eb cp, e = .Call (.Attribute ea m q) [eb] [] cp ∧ (decide (m = "index") && nCall ea && (q.endLine == cp.line) && nStar eb && mE tb N c true a ea && mE tb N c false b eb) = true := by
  cases e
  all_goals first
    | (cases h; done)
    | exact ⟨_, _, _, _, _, rfl, h⟩
    | (rename_i f0 xs kws p; cases f0 <;> first | (cases h; done) | (cases xs with | nil => (cases h; done) | cons y xs => cases xs with | cons _ _ => (cases h; done) | nil => cases kws with | cons _ _ => (cases h; done) | nil => exact ⟨_, _, _, _, _, rfl, h⟩))
theorem mE_comp2 {own : List (Str × Nat)} {elt : E} {tg : Tg} {it : I} {tg1 : Tg} {it1 : I} {e : Expr} (h : mE tb N c fl (.comp2 own elt tg it tg1 it1) e = true) : ∃ ee et ei z et1 ei1 z1 scope p, e = .ListComp ee [⟨et, ei, [], z⟩, ⟨et1, ei1, [], z1⟩] scope p ∧ (decide (z = 0) && decide (z1 = 0) && blkC N c.sc scope own && (tg.slots.all fun i => (own.map (·.2)).contains i) && (tg1.slots.all fun i => (own.map (·.2)).contains i) && mI tb N c false et it ei && nSet ei && nSet ei1 && mTg N (blkCs c scope) tg et && mI tb N (blkCs c scope) true et1 it1 ei1 && mTg N (blkCs c scope) tg1 et1 && mE tb N (blkCs c scope) false elt ee) = true := by
  cases e
  all_goals first
    | (cases h; done)
    | exact ⟨_, _, _, _, _, _, _, _, _, rfl, h⟩
    | (rename_i ee gs scope p; cases gs with | nil => (cases h; done) | cons g gs => cases g with | mk et ei ifs z => cases ifs with | cons _ _ => (cases gs <;> (cases h; done)) | nil => cases gs with | nil => (cases h; done) | cons g1 gs => cases g1 with | mk et1 ei1 ifs1 z1 => cases ifs1 with | cons _ _ => (cases gs <;> (cases h; done)) | nil => cases gs with | cons _ _ => (cases h; done) | nil => exact ⟨_, _, _, _, _, _, _, _, _, rfl, h⟩)
theorem mE_heard {k : E} {e : Expr} (h : mE tb N c fl (.heard k) e = true) : ∃ x q params body scope lp p, e = .Call (.Name x q) [.Lambda params body scope lp] [] p ∧ (decide (x = "_law_heard") && tb.hd && c.lm && glB c x && noArgs params && LamX.lamSB c.sc scope && mE tb N (lamCs scope) false k body) = true := by
  cases e
  all_goals first
    | (cases h; done)
    | exact ⟨_, _, _, _, _, _, _, rfl, h⟩
    | (rename_i f0 xs kws p; cases f0 <;> first | (cases h; done) | (cases xs with | nil => (cases h; done) | cons y xs => cases xs with | cons _ _ => (cases y <;> (cases h; done)) | nil => cases kws with | cons _ _ => (cases y <;> (cases h; done)) | nil => (cases y <;> first | (cases h; done) | exact ⟨_, _, _, _, _, _, _, rfl, h⟩)))
theorem mE_isx {a : E} {n : Nat} {e : Expr} (h : mE tb N c fl (.isx a n) e = true) : ∃ x q ea y q2 p, e = .Call (.Name x q) [ea, .Name y q2] [] p ∧ (decide (x = "isinstance") && decide (tb.ex.lookup n = some y) && decide (n < 9) && tb.hd && glB c x && glB c y && nStar ea && mE tb N c true a ea) = true := by
  cases e
  all_goals first
    | (cases h; done)
    | exact ⟨_, _, _, _, _, _, rfl, h⟩
    | (rename_i f0 xs kws p; cases f0 <;> first | (cases h; done) | (cases xs with | nil => (cases h; done) | cons y xs => cases xs with | nil => (cases h; done) | cons z xs => cases xs with | cons _ _ => (cases z <;> (cases h; done)) | nil => cases kws with | cons _ _ => (cases z <;> (cases h; done)) | nil => (cases z <;> first | (cases h; done) | exact ⟨_, _, _, _, _, _, rfl, h⟩)))
theorem mE_isv {a : E} {e : Expr} (h : mE tb N c fl (.isv a) e = true) : ∃ x q ea y q2 p, e = .Call (.Name x q) [ea, .Name y q2] [] p ∧ (decide (x = "isinstance") && decide (y = "ValueError") && tb.hd && glB c x && glB c y && nStar ea && mE tb N c true a ea) = true := by
  cases e
  all_goals first
    | (cases h; done)
    | exact ⟨_, _, _, _, _, _, rfl, h⟩
    | (rename_i f0 xs kws p; cases f0 <;> first | (cases h; done) | (cases xs with | nil => (cases h; done) | cons y xs => cases xs with | nil => (cases h; done) | cons z xs => cases xs with | cons _ _ => (cases z <;> (cases h; done)) | nil => cases kws with | cons _ _ => (cases z <;> (cases h; done)) | nil => (cases z <;> first | (cases h; done) | exact ⟨_, _, _, _, _, _, rfl, h⟩)))
theorem mE_dn0  {e : Expr} (h : mE tb N c fl .dn0 e = true) : ∃ p, e = .Dict [] [] p ∧ (true) = true := by
  cases e
  all_goals first
    | (cases h; done)
    | exact ⟨_, rfl, h⟩
    | (rename_i ks vs p; cases ks <;> cases vs <;> first | (cases h; done) | exact ⟨_, rfl, rfl⟩)
theorem mE_sortK {a : E} {N' : List Str} {k : E} {e : Expr} (h : mE tb N c fl (.sortK a N' k) e = true) : ∃ x q ea kw params body scope lp kp p, e = .Call (.Name x q) [ea] [⟨some kw, .Lambda params body scope lp, kp⟩] p ∧ (decide (x = "sorted") && decide (kw = "key") && c.lk && glB c x && nStar ea && oneArg N' params && scB N' (N'.take 1) scope && mE tb N c true a ea && mE tb N' ⟨scope, fun _ => true, false, false⟩ false k body) = true := by
  cases e
  all_goals first
    | (cases h; done)
    | exact ⟨_, _, _, _, _, _, _, _, _, _, rfl, h⟩
    | (rename_i f0 xs kws p; cases f0 <;> first | (cases h; done) | (cases xs with | nil => (cases h; done) | cons y xs => cases xs with | cons _ _ => (cases h; done) | nil => cases kws with | nil => (cases h; done) | cons kw0 kws => cases kw0 with | mk nm vl kp => cases nm with | none => (cases h; done) | some nm => cases vl <;> first | (cases h; done) | (cases kws with | cons _ _ => (cases h; done) | nil => exact ⟨_, _, _, _, _, _, _, _, _, _, rfl, h⟩)))
theorem mE_dspE {ks : List Str} {es : Es} {e : Expr} (h : mE tb N c fl (.dspE ks es) e = true) : ∃ kes vs p, e = .Dict kes vs p ∧ (keysV ks kes vs && decide (ks.length ≤ 15) && decide (0 < ks.length) && mEs tb N c es vs) = true := by
  cases e
  all_goals first
    | (cases h; done)
    | exact ⟨_, _, _, rfl, h⟩
theorem mE_get {a k d : E} {e : Expr} (h : mE tb N c fl (.get a k d) e = true) : ∃ ea m q ek ed cp, e = .Call (.Attribute ea m q) [ek, ed] [] cp ∧ (decide (m = "get") && nCall ea && (q.endLine == cp.line) && nStar ek && nStar ed && mE tb N c true a ea && mE tb N c true k ek && mE tb N c false d ed) = true := by
  cases e
  all_goals first
    | (cases h; done)
    | exact ⟨_, _, _, _, _, _, rfl, h⟩
    | (rename_i f0 xs kws p; cases f0 <;> first | (cases h; done) | (cases xs with | nil => (cases h; done) | cons y xs => cases xs with | nil => (cases h; done) | cons z xs => cases xs with | cons _ _ => (cases h; done) | nil => cases kws with | cons _ _ => (cases h; done) | nil => exact ⟨_, _, _, _, _, _, rfl, h⟩))
theorem mE_tcount {i : Nat} {e : Expr} (h : mE tb N c fl (.tcount i) e = true) : ∃ y q eb p, e = .Subscript (.Name y q) eb p ∧ (varB N c i y && isStr "count" eb) = true := by
  cases e
  all_goals first
    | (cases h; done)
    | exact ⟨_, _, _, _, rfl, h⟩
    | (rename_i a1 a2 a3; cases a1 <;> first | (cases h; done) | exact ⟨_, _, _, _, rfl, h⟩)
theorem mE_tget {i : Nat} {k d : E} {e : Expr} (h : mE tb N c fl (.tget i k d) e = true) : ∃ y q eb q2 m p ek ed cp, e = .Call (.Attribute (.Subscript (.Name y q) eb q2) m p) [ek, ed] [] cp ∧ (varB N c i y && isStr "rests" eb && decide (m = "get") && (p.endLine == cp.line) && nStar ek && nStar ed && mE tb N c true k ek && mE tb N c false d ed) = true := by
  cases e
  all_goals first
    | (cases h; done)
    | exact ⟨_, _, _, _, _, _, _, _, _, rfl, h⟩
    | (rename_i f0 xs kws p; cases f0 <;> first | (cases h; done) | (rename_i ob m p1; cases ob <;> first | (cases h; done) | (rename_i ob2 eb q2; cases ob2 <;> first | (cases h; done) | (cases xs with | nil => (cases h; done) | cons y xs => cases xs with | nil => (cases h; done) | cons z xs => cases xs with | cons _ _ => (cases h; done) | nil => cases kws with | cons _ _ => (cases h; done) | nil => exact ⟨_, _, _, _, _, _, _, _, _, rfl, h⟩))))
theorem mE_rev {a : E} {e : Expr} (h : mE tb N c fl (.rev a) e = true) : ∃ ea z j q1 q2 q3 p, e = .Subscript ea (.Slice none none (some (.UnaryOp .USub (.Constant (.int z) j q1) q2)) q3) p ∧ (decide (z = 1) && mE tb N c true a ea) = true := by
  cases e
  all_goals first
    | (cases h; done)
    | exact ⟨_, _, _, _, _, _, _, rfl, h⟩
    | (rename_i a1 a2 a3; cases a2 <;> first | (cases h; done) | (rename_i l u st p2; cases l <;> cases u <;> cases st <;> first | (cases h; done) | (rename_i o; cases o <;> first | (cases h; done) | (rename_i op oa q2; cases op <;> first | (cases h; done) | (cases oa <;> first | (cases h; done) | (rename_i cv j q1; cases cv <;> first | (cases h; done) | exact ⟨_, _, _, _, _, _, _, rfl, h⟩))))))
theorem mE_dsp {kvs : List (Str × Cst)} {e : Expr} (h : mE tb N c fl (.dsp kvs) e = true) : ∃ ks vs p, e = .Dict ks vs p ∧ (mDsp kvs ks vs) = true := by
  cases e
  all_goals first
    | (cases h; done)
    | exact ⟨_, _, _, rfl, h⟩
theorem mE_comp {own : List (Str × Nat)} {elt : E} {tg : Tg} {it : I} {cd : O} {e : Expr} (h : mE tb N c fl (.comp own elt tg it cd) e = true) : ∃ ee et ei ifs z scope p, e = .ListComp ee [⟨et, ei, ifs, z⟩] scope p ∧ (decide (z = 0) && blkC N c.sc scope own && (tg.slots.all fun i => (own.map (·.2)).contains i) && mI tb N c false et it ei && nSet ei && mTg N (blkCs c scope) tg et && mCd tb N (blkCs c scope) cd ifs && mE tb N (blkCs c scope) false elt ee) = true := by
  cases e
  all_goals first
    | (cases h; done)
    | exact ⟨_, _, _, _, _, _, _, rfl, h⟩
    | (rename_i ee gs scope p; cases gs with | nil => (cases h; done) | cons g gs => cases g with | mk et ei ifs z => cases gs with | cons _ _ => (cases h; done) | nil => exact ⟨_, _, _, _, _, _, _, rfl, h⟩)
theorem mI_rng1 {a : E} {e : Expr} {fz : Bool} {tg : Expr} (h : mI tb N c fz tg (.rng1 a) e = true) : ∃ x q ea p, e = .Call (.Name x q) [ea] [] p ∧ (decide (x = "range") && glB c x && nStar ea && mE tb N c true a ea) = true := by
  cases e
  all_goals first
    | (cases h; done)
    | exact ⟨_, _, _, _, rfl, h⟩
    | (rename_i f0 xs kws p; cases f0 <;> first | (cases h; done) | (cases xs with | nil => (cases h; done) | cons y xs => cases xs with | cons _ _ => (cases h; done) | nil => cases kws with | cons _ _ => (cases h; done) | nil => exact ⟨_, _, _, _, rfl, h⟩))
theorem mI_rng2 {a b : E} {e : Expr} {fz : Bool} {tg : Expr} (h : mI tb N c fz tg (.rng2 a b) e = true) : ∃ x q ea eb p, e = .Call (.Name x q) [ea, eb] [] p ∧ (decide (x = "range") && glB c x && nStar ea && nStar eb && mE tb N c true a ea && mE tb N c true b eb) = true := by
  cases e
  all_goals first
    | (cases h; done)
    | exact ⟨_, _, _, _, _, rfl, h⟩
    | (rename_i f0 xs kws p; cases f0 <;> first | (cases h; done) | (cases xs with | nil => (cases h; done) | cons y xs => cases xs with | nil => (cases h; done) | cons z xs => cases xs with | cons _ _ => (cases h; done) | nil => cases kws with | cons _ _ => (cases h; done) | nil => exact ⟨_, _, _, _, _, rfl, h⟩))
theorem mI_zip {a b : E} {e : Expr} {fz : Bool} {tg : Expr} (h : mI tb N c fz tg (.zip a b) e = true) : ∃ x q ea eb p, e = .Call (.Name x q) [ea, eb] [] p ∧ (isTupB tg && decide (x = "zip") && glB c x && nStar ea && nStar eb && mE tb N c (!fz) a ea && mE tb N c (!fz) b eb) = true := by
  cases e
  all_goals first
    | (cases h; done)
    | exact ⟨_, _, _, _, _, rfl, h⟩
    | (rename_i f0 xs kws p; cases f0 <;> first | (cases h; done) | (cases xs with | nil => (cases h; done) | cons y xs => cases xs with | nil => (cases h; done) | cons z xs => cases xs with | cons _ _ => (cases h; done) | nil => cases kws with | cons _ _ => (cases h; done) | nil => exact ⟨_, _, _, _, _, rfl, h⟩))
theorem mI_enum {a : E} {e : Expr} {fz : Bool} {tg : Expr} (h : mI tb N c fz tg (.enum a) e = true) : ∃ x q ea p, e = .Call (.Name x q) [ea] [] p ∧ (isTupB tg && decide (x = "enumerate") && glB c x && nStar ea && mE tb N c (!fz) a ea) = true := by
  cases e
  all_goals first
    | (cases h; done)
    | exact ⟨_, _, _, _, rfl, h⟩
    | (rename_i f0 xs kws p; cases f0 <;> first | (cases h; done) | (cases xs with | nil => (cases h; done) | cons y xs => cases xs with | cons _ _ => (cases h; done) | nil => cases kws with | cons _ _ => (cases h; done) | nil => exact ⟨_, _, _, _, rfl, h⟩))
end
end Fm

/-! ### soundness of expressions, all together -/
namespace Fm
open PySem PySem.Spec PyProof.Rows L2
section
variable {tb : Tb} {N : List Str} {G : Gam} {cs : Nat → D} {cl : Nat → Addr}
theorem s_bin {X : Cx} {P : Pm} {a b : Expr} {pos : Pos} {fa fb : Rho → Tw → Res D} (hK : X.K = P.K) {op : Operator} (h : opB op = true) (ha : PE X a (tB P fa)) (hb : PE X b (tB P fb)) :
    PE X (.BinOp a op b pos) (tD P fun r t => (fa r t).bind fun x t1 => (fb r t1).bind fun y t2 => Fm.lift (binD op x y) t2) := by
  cases op with
  | Add => exact s_add hK ha hb
  | Sub => exact s_sub ha hb
  | Mult => exact s_mul ha hb
  | FloorDiv => exact s_fdiv ha hb
  | Mod => exact s_mod ha hb
  | Pow => exact s_pow ha hb
  | LShift => exact s_shl ha hb
  | _ => cases h
theorem mem_free {x : Str} (h : x ∈ freeNames) : x ∈ freeNames := h
theorem s_blt {X : Cx} {P : Pm} {c : Cs} (ok : Ok tb N G cs cl X P c) {a : Expr} {p1 pos : Pos} {fa : Rho → Tw → Res D} {b : Blt} (hb : bltB b = true) (hg : glB c b.nm = true) (hs : nStar a = true) (ha : PE X a (tB P fa)) :
    PE X (.Call (.Name b.nm p1) [a] [] pos) (tD P fun r t => (fa r t).bind fun x t1 => Fm.lift (blt1 b x) t1) ∧ (freshB (.blt b (.cst .non)) = true → PE X (.Call (.Name b.nm p1) [a] [] pos) (tN P fun r t => (fa r t).bind fun x t1 => Fm.lift (blt1 b x) t1)) := by
  obtain ⟨g1, g2, g3⟩ := glB_of ok hg
  have st := star_of (es := []) (env := X.env) hs
  cases b with
  | len => exact ⟨s_callB (cs_len ok.hK) g1 (ok.free _ (by decide)) PySem.boot_len ha g3 g2 st, fun z => by cases z⟩
  | abs => exact ⟨s_callB cs_abs g1 (ok.free _ (by decide)) PyProof.Rows.boot_abs ha g3 g2 st, fun z => by cases z⟩
  | all => exact ⟨s_callB (cs_all ok.hK ok.calm) g1 (ok.free _ (by decide)) PyProof.Rows.boot_all ha g3 g2 st, fun z => by cases z⟩
  | any => exact ⟨s_callB (cs_any ok.hK ok.calm) g1 (ok.free _ (by decide)) PyProof.Rows.boot_any ha g3 g2 st, fun z => by cases z⟩
  | sum => exact ⟨s_callB (cs_sum ok.hK ok.calm) g1 (ok.free _ (by decide)) PyProof.Rows.boot_sum ha g3 g2 st, fun z => by cases z⟩
  | tuple => exact ⟨s_callT (cs_tuple ok.hK) g1 (ok.free _ (by decide)) PyProof.Rows.boot_tuple ha g3 g2 st, fun z => by cases z⟩
  | list =>
    have h := n_callT (cn_list ok.hK) g1 (ok.free _ (by decide)) PyProof.Rows.boot_list ha g3 g2 st (p1 := p1) (pos := pos)
    exact ⟨tN_tD h, fun _ => h⟩
  | sorted =>
    have h := n_callB (cn_sorted ok.hK ok.calm) g1 (ok.free _ (by decide)) PyProof.Rows.boot_sorted ha g3 g2 st (p1 := p1) (pos := pos)
    exact ⟨tN_tD h, fun _ => h⟩
  | int => cases hb
  | dictN =>
    have h := n_callT (cn_dictN ok.hK ok.hpw ok.calm ok.hu) g1 (ok.free _ (by decide)) PyProof.Rows.boot_dict ha g3 g2 st (p1 := p1) (pos := pos)
    exact ⟨tN_tD h, fun _ => h⟩
theorem isTup_of {e : Expr} (h : isTupB e = true) : ∃ elts k p, e = .Tuple elts k p := by
  cases e <;> first | (cases h; done) | exact ⟨_, _, _, rfl⟩
theorem isNm_of {e : Expr} (h : isNmB e = true) : ∃ x p, e = .Name x p := by
  cases e <;> first | (cases h; done) | exact ⟨_, _, rfl⟩
theorem isStr_of {x : Str} {e : Expr} (h : isStr x e = true) : ∃ j p, e = .Constant (.str x) j p := by
  unfold isStr at h
  split at h
  · obtain rfl := of_decide_eq_true h
    exact ⟨_, _, rfl⟩
  · cases h
theorem keysB_of {ks : List Str} {ke : Option Expr} {kes : List (Option Expr)} (h : keysB ks (ke :: kes) = true) : ∃ y ks' j q, ks = y :: ks' ∧ ke = some (.Constant (.str y) j q) ∧ keysB ks' kes = true := by
  unfold keysB at h
  split at h
  · rename_i z
    cases z
  · rename_i x xs y j q ks2 z
    cases z
    obtain ⟨h1, h2⟩ := and2 h
    obtain rfl := of_decide_eq_true h1
    exact ⟨_, _, _, _, rfl, rfl, h2⟩
  · cases h
end
section
variable {tb : Tb} {cs : Nat → D} {cl : Nat → Addr}
mutual
theorem sE : ∀ (k : E) {N : List Str} {G : Gam} {X : Cx} {P : Pm} {c : Cs} {fl : Bool} {e : Expr}, Ok tb N G cs cl X P c → mE tb N c fl k e = true → Snd X P (ev G cs k) fl e
  | .cst k, N, G, X, P, c, fl, e, ok, h => by
    obtain ⟨k', j, p, rfl, h⟩ := mE_cst h
    obtain rfl : k.k = k' := of_decide_eq_true h
    rw [ev_cst]
    exact .plain ok.hK s_cst (fun _ => rfl) (fun _ _ _ z => by cases z)
  | .var i, N, G, X, P, c, fl, e, ok, h => by
    obtain ⟨x, p, rfl, h⟩ := mE_var h
    obtain ⟨h1, h2, h3, h4⟩ := varB_of ok h
    rw [ev_var]
    exact .plain ok.hK (s_var h1 h2 h3 h4) (fun _ => rfl) (fun _ _ _ z => by cases z)
  | .bor i, N, G, X, P, c, fl, e, ok, h => by
    obtain ⟨x, p, rfl, h⟩ := mE_bor h
    obtain ⟨h0, h⟩ := and2 h
    obtain ⟨h1, h2, h3, h4⟩ := varB_of ok h
    rw [ev_bor]
    have hb := b_var (P := P) (pos := p) h1 h2 h3 h4
    exact ⟨hb, fun z => (by rw [z] at h0; cases h0), t_plain ok.hK hb (fun _ => rfl), notWord (fun _ _ _ z => by cases z)⟩
  | .glob g, N, G, X, P, c, fl, e, ok, h => by
    obtain ⟨x, p, rfl, h⟩ := mE_glob h
    obtain ⟨h1, h2⟩ := and2 h
    obtain ⟨g1, g2, g3⟩ := glB_of ok h2
    obtain ⟨u, v, m1, m2, m3⟩ := ok.con g x (of_decide_eq_true h1)
    rw [ev_glob]
    exact .plain ok.hK (s_glob g1 m1 m2 m3 g2) (fun _ => rfl) (fun _ _ _ z => by cases z)
  | .bin op a b, N, G, X, P, c, fl, e, ok, h => by
    obtain ⟨ea, op', eb, p, rfl, h⟩ := mE_bin h
    obtain ⟨h, h4⟩ := and2 h
    obtain ⟨h, h3⟩ := and2 h
    obtain ⟨h1, h2⟩ := and2 h
    obtain rfl := of_decide_eq_true h1
    rw [ev_bin]
    exact .plain ok.hK (s_bin ok.hK h2 (sE a ok h3).b (sE b ok h4).b) (fun _ => rfl) (fun _ _ _ z => by cases z)
  | .cat a b, N, G, X, P, c, fl, e, ok, h => by
    obtain ⟨ea, eb, p, rfl, h⟩ := mE_cat h
    obtain ⟨h3, h4⟩ := and2 h
    rw [ev_cat]
    exact .plain ok.hK (s_cat (sE a ok h3).b (sE b ok h4).b) (fun _ => rfl) (fun _ _ _ z => by cases z)
  | .neg a, N, G, X, P, c, fl, e, ok, h => by
    obtain ⟨ea, p, rfl, h⟩ := mE_neg h
    rw [ev_neg]
    exact .plain ok.hK (s_neg (sE a ok h).b) (fun _ => rfl) (fun _ _ _ z => by cases z)
  | .not a, N, G, X, P, c, fl, e, ok, h => by
    obtain ⟨ea, p, rfl, h⟩ := mE_not h
    have ha := sE a ok h
    rw [ev_not]
    have hd := s_not ok.hK ha.b (pos := p)
    exact ⟨tB_tD hd, fun _ => hd, t_not ha.t, notWord (fun _ _ _ z => by cases z)⟩
  | .and a b, N, G, X, P, c, fl, e, ok, h => by
    obtain ⟨x, y, r, p, rfl, h⟩ := mE_and h
    obtain ⟨h1, h2⟩ := and2 h
    have ha := sE a ok h1
    rw [ev_and]
    cases r with
    | nil =>
      have hb := sE b ok (show mE tb N c false b y = true from h2)
      have hd := s_and ok.hK (ha.d rfl) (pe_one (op := .And) (pos := p) (hb.d rfl))
      have hw := t_and ha.t (pw_and1 (pos := p) hb.t)
      exact ⟨tB_tD hd, fun _ => hd, hw.pt, fun _ _ _ _ => hw⟩
    | cons z r' =>
      have hb := sE b ok (show mE tb N c false b (.BoolOp .And (y :: z :: r') p) = true from h2)
      have hd := s_and ok.hK (ha.d rfl) (hb.d rfl)
      have hw := t_and ha.t (hb.w _ _ _ rfl)
      exact ⟨tB_tD hd, fun _ => hd, hw.pt, fun _ _ _ _ => hw⟩
  | .or a b, N, G, X, P, c, fl, e, ok, h => by
    obtain ⟨x, y, r, p, rfl, h⟩ := mE_or h
    obtain ⟨h1, h2⟩ := and2 h
    have ha := sE a ok h1
    rw [ev_or]
    cases r with
    | nil =>
      have hb := sE b ok (show mE tb N c false b y = true from h2)
      have hd := s_or ok.hK (ha.d rfl) (pe_one (op := .Or) (pos := p) (hb.d rfl))
      have hw := t_or ha.t (pw_or1 (pos := p) hb.t)
      exact ⟨tB_tD hd, fun _ => hd, hw.pt, fun _ _ _ _ => hw⟩
    | cons z r' =>
      have hb := sE b ok (show mE tb N c false b (.BoolOp .Or (y :: z :: r') p) = true from h2)
      have hd := s_or ok.hK (ha.d rfl) (hb.d rfl)
      have hw := t_or ha.t (hb.w _ _ _ rfl)
      exact ⟨tB_tD hd, fun _ => hd, hw.pt, fun _ _ _ _ => hw⟩
  | .ite k a b, N, G, X, P, c, fl, e, ok, h => by
    obtain ⟨ek, ea, eb, p, rfl, h⟩ := mE_ite h
    obtain ⟨h, h3⟩ := and2 h
    obtain ⟨h1, h2⟩ := and2 h
    have hk := sE k ok h1
    have ha := sE a ok h2
    have hb := sE b ok h3
    rw [ev_ite]
    have hd := s_ite hk.t (ha.d rfl) (hb.d rfl) (pos := p)
    exact ⟨tB_tD hd, fun _ => hd, t_ite hk.t ha.t hb.t, notWord (fun _ _ _ z => by cases z)⟩
  | .cmp op a b, N, G, X, P, c, fl, e, ok, h => by
    obtain ⟨ea, op', eb, p, rfl, h⟩ := mE_cmp h
    obtain ⟨h, h4⟩ := and2 h
    obtain ⟨h, h3⟩ := and2 h
    obtain ⟨h1, h2⟩ := and2 h
    obtain rfl := of_decide_eq_true h1
    have hm : behindInMarks op eb = false := by simpa using h2
    have ha := sE a ok h3
    have hb := sE b ok h4
    rw [ev_cmp]
    have hd := s_cmp ok.hK ok.hu ha.b hb.b hm (pos := p)
    exact ⟨tB_tD hd, fun _ => hd, t_cmp ok.hK ok.hu ha.b hb.b hm, notWord (fun _ _ _ z => by cases z)⟩
  | .chain o1 o2 a b k, N, G, X, P, c, fl, e, ok, h => by
    obtain ⟨ea, o1', o2', eb, ek, p, rfl, h⟩ := mE_chain h
    obtain ⟨h, h6⟩ := and2 h
    obtain ⟨h, h5⟩ := and2 h
    obtain ⟨h, h4⟩ := and2 h
    obtain ⟨h, h3⟩ := and2 h
    obtain ⟨h1, h2⟩ := and2 h
    obtain rfl := of_decide_eq_true h1
    obtain rfl := of_decide_eq_true h2
    have hm : lastMarks [o1, o2] [eb, ek] = false := by simpa using h3
    have ha := sE a ok h4
    have hb := sE b ok h5
    have hk := sE k ok h6
    rw [ev_chain]
    have hd := s_chain ok.hK ok.hu ha.b hb.b hk.b hm (pos := p)
    exact ⟨tB_tD hd, fun _ => hd, t_chain ok.hK ok.hu ha.b hb.b hk.b hm, notWord (fun _ _ _ z => by cases z)⟩
  | .cut a lo hi, N, G, X, P, c, fl, e, ok, h => by
    obtain ⟨ea, l, u, p2, p, rfl, h⟩ := mE_cut h
    obtain ⟨h, h3⟩ := and2 h
    obtain ⟨h1, h2⟩ := and2 h
    rw [ev_cut]
    exact .plain ok.hK (s_cut ok.hK (sE a ok h1).b (sO lo ok h2) (sO hi ok h3)) (fun _ => rfl) (fun _ _ _ z => by cases z)
  | .ix a b, N, G, X, P, c, fl, e, ok, h => by
    obtain ⟨ea, eb, p, rfl, h⟩ := mE_ix h
    obtain ⟨h, h3⟩ := and2 h
    obtain ⟨h1, h2⟩ := and2 h
    rw [ev_ix]
    exact .plain ok.hK (s_ix ok.hK (sE a ok h2).b (sE b ok h3).b (plain_of h1)) (fun _ => rfl) (fun _ _ _ z => by cases z)
  | .dix a b, N, G, X, P, c, fl, e, ok, h => by
    obtain ⟨ea, eb, p, rfl, h⟩ := mE_dix h
    obtain ⟨h, h3⟩ := and2 h
    obtain ⟨h1, h2⟩ := and2 h
    rw [ev_dix]
    exact .plain ok.hK (s_dix ok.hK ok.hpw ok.hu (sE a ok h2).b (sE b ok h3).b (plain_of h1)) (fun _ => rfl) (fun _ _ _ z => by cases z)
  | .tup es, N, G, X, P, c, fl, e, ok, h => by
    obtain ⟨xs, k, p, rfl, h⟩ := mE_tup h
    rw [ev_tup]
    exact .plain ok.hK (s_tup (sEs es ok h)) (fun _ => rfl) (fun _ _ _ z => by cases z)
  | .lst es, N, G, X, P, c, fl, e, ok, h => by
    obtain ⟨xs, p, rfl, h⟩ := mE_lst h
    rw [ev_lst]
    exact .plain ok.hK (tN_tD (n_lst (sEs es ok h))) (fun _ => rfl) (fun _ _ _ z => by cases z)
  | .call i es ks, N, G, X, P, c, fl, e, ok, h => by
    obtain ⟨x, q, xs, kws, p, rfl, hc⟩ := mE_call h
    clear h
    have h := hc
    unfold mCall at h
    cases e : tb.sh[i]? with
    | none =>
      rw [e] at h
      cases h
    | some sh =>
      rw [e] at h
      obtain ⟨h, h7⟩ := and2 h
      obtain ⟨h, h6⟩ := and2 h
      obtain ⟨h, h5⟩ := and2 h
      obtain ⟨h, h4⟩ := and2 h
      obtain ⟨h, h3⟩ := and2 h
      obtain ⟨h1, h2⟩ := and2 h
      refine .plain ok.hK (s_callA ok e (of_decide_eq_true h1) h2 (of_decide_eq_true h3) (of_decide_eq_true h4) ?_ h6 h7 (sEs es ok h6) (sKs ks ok h7)) (fun _ => rfl) (fun _ _ _ z => by cases z)
      rcases Bool.or_eq_true_iff.mp h5 with h5 | h5
      · exact .inl (of_decide_eq_true h5)
      · exact .inr (by simpa using h5)
  | .blt b a, N, G, X, P, c, fl, e, ok, h => by
    obtain ⟨x, q, ea, p, rfl, h⟩ := mE_blt h
    obtain ⟨h, h5⟩ := and2 h
    obtain ⟨h, h4⟩ := and2 h
    obtain ⟨h, h3⟩ := and2 h
    obtain ⟨h1, h2⟩ := and2 h
    obtain rfl := of_decide_eq_true h2
    rw [ev_blt]
    exact .plain ok.hK (s_blt ok h1 h3 h4 (sE a ok h5).b).1 (fun _ => rfl) (fun _ _ _ z => by cases z)
  | .isa a T, N, G, X, P, c, fl, e, ok, h => by
    obtain ⟨x, q, ea, y, q2, p, rfl, h⟩ := mE_isa h
    obtain ⟨h, h6⟩ := and2 h
    obtain ⟨h, h5⟩ := and2 h
    obtain ⟨h, h4⟩ := and2 h
    obtain ⟨h, h3⟩ := and2 h
    obtain ⟨h1, h2⟩ := and2 h
    obtain rfl := of_decide_eq_true h1
    obtain rfl := of_decide_eq_true h2
    rw [ev_isa]
    have mT : T.nm ∈ freeNames := by cases T <;> decide
    exact .plain ok.hK (s_isa ok.hK (glB_of ok h3).1 (ok.free _ (by decide)) (glB_of ok h4).1 (ok.free _ mT) (sE a ok h6).b (star_of h5)) (fun _ => rfl) (fun _ _ _ z => by cases z)
  | .get a k d, N, G, X, P, c, fl, e, ok, h => by
    obtain ⟨ea, m, q, ek, ed, cp, rfl, h⟩ := mE_get h
    obtain ⟨h, h8⟩ := and2 h
    obtain ⟨h, h7⟩ := and2 h
    obtain ⟨h, h6⟩ := and2 h
    obtain ⟨h, h5⟩ := and2 h
    obtain ⟨h, h4⟩ := and2 h
    obtain ⟨h, h3⟩ := and2 h
    obtain ⟨h1, h2⟩ := and2 h
    obtain rfl := of_decide_eq_true h1
    rw [ev_get]
    have hst : starEach [ek, ed] X.env = [(false, eval ek X.env), (false, eval ed X.env)] := by
      rw [star_of h4, star_of h5]
      rfl
    have m2 : M2 X ea "get" q ek ed cp := ⟨base_of h2, by rw [hst]; rfl, h3, by rw [hst]; rfl⟩
    exact .plain ok.hK (s_get ok.hK ok.hpw ok.hu (sE a ok h6).b (sE k ok h7).b ((sE d ok h8).d rfl) m2) (fun _ => rfl) (fun _ _ _ z => by cases z)
  | .tcount i, N, G, X, P, c, fl, e, ok, h => by
    obtain ⟨y, q, eb, p, rfl, h⟩ := mE_tcount h
    obtain ⟨h1, h2⟩ := and2 h
    obtain ⟨a1, a2, a3, a4⟩ := varB_of ok h1
    obtain ⟨j, q2, rfl⟩ := isStr_of h2
    rw [ev_tcount]
    exact .plain ok.hK (s_tcount ok.hu a1 a2 a3 a4) (fun _ => rfl) (fun _ _ _ z => by cases z)
  | .tget i k d, N, G, X, P, c, fl, e, ok, h => by
    obtain ⟨y, q, eb, q2, m, p, ek, ed, cp, rfl, h⟩ := mE_tget h
    obtain ⟨h, h8⟩ := and2 h
    obtain ⟨h, h7⟩ := and2 h
    obtain ⟨h, h6⟩ := and2 h
    obtain ⟨h, h5⟩ := and2 h
    obtain ⟨h, h4⟩ := and2 h
    obtain ⟨h, h3⟩ := and2 h
    obtain ⟨h1, h2⟩ := and2 h
    obtain rfl := of_decide_eq_true h3
    obtain ⟨a1, a2, a3, a4⟩ := varB_of ok h1
    obtain ⟨j, q3, rfl⟩ := isStr_of h2
    rw [ev_tget]
    have hst : starEach [ek, ed] X.env = [(false, eval ek X.env), (false, eval ed X.env)] := by
      rw [star_of h5, star_of h6]
      rfl
    exact .plain ok.hK (s_tget ok.hu a1 a2 a3 a4 (sE k ok h7).b ((sE d ok h8).d rfl) ⟨rfl, by rw [hst]; rfl, h4, by rw [hst]; rfl⟩) (fun _ => rfl) (fun _ _ _ z => by cases z)
  | .dsp kvs, N, G, X, P, c, fl, e, ok, h => by
    obtain ⟨ks, vs, p, rfl, h⟩ := mE_dsp h
    rw [ev_dsp]
    exact .plain ok.hK (tN_tD (n_dsp (dsp_of h))) (fun _ => rfl) (fun _ _ _ z => by cases z)
  | .heard k, N, G, X, P, c, fl, e, ok, h => by
    obtain ⟨x, q, params, body, scope, lp, p, rfl, h⟩ := mE_heard h
    obtain ⟨h, h7⟩ := and2 h
    obtain ⟨h, h6⟩ := and2 h
    obtain ⟨h, h5⟩ := and2 h
    obtain ⟨h, h4⟩ := and2 h
    obtain ⟨h, h3⟩ := and2 h
    obtain ⟨h1, h2⟩ := and2 h
    obtain rfl := of_decide_eq_true h1
    rw [ev_heard]
    by_cases hl : 2 ≤ G.lv
    · simp only [hl, decide_true, if_true]
      exact .plain ok.hK (s_heard ok (ok.heard h2 h3) hl (glB_of ok h4).1 h5 (by rw [ok.sc]; exact LamX.lamS_by h6) fun X' P' ok' => (sE k ok' h7).d rfl) (fun _ => rfl) (fun _ _ _ z => by cases z)
    · simp only [hl, decide_false]
      exact .plain ok.hK (peMono (t := fun _ _ _ => False) ⟨fun _ _ _ _ _ _ z => False.elim z⟩ fun σ H Q ⟨F, r, t, R, q⟩ => q) (fun _ => rfl) (fun _ _ _ z => by cases z)
  | .isx a n, N, G, X, P, c, fl, e, ok, h => by
    obtain ⟨x, q, ea, y, q2, p, rfl, h⟩ := mE_isx h
    obtain ⟨h, h8⟩ := and2 h
    obtain ⟨h, h7⟩ := and2 h
    obtain ⟨h, h6⟩ := and2 h
    obtain ⟨h, h5⟩ := and2 h
    obtain ⟨h, h4⟩ := and2 h
    obtain ⟨h, h3⟩ := and2 h
    obtain ⟨h1, h2⟩ := and2 h
    obtain rfl := of_decide_eq_true h1
    have n9 := ok.nine h4
    have eg := (ok.exc n y (of_decide_eq_true h2)).g
    rw [← ok.hcl] at n9 eg
    obtain ⟨g1, g2, g3⟩ := glB_of ok h6
    rw [ev_isx]
    exact .plain ok.hK (s_isx ok.hK n9 (of_decide_eq_true h3) (glB_of ok h5).1 (ok.free _ (by decide)) g1 eg g2 (sE a ok h8).b (star_of h7)) (fun _ => rfl) (fun _ _ _ z => by cases z)
  | .isv a, N, G, X, P, c, fl, e, ok, h => by
    obtain ⟨x, q, ea, y, q2, p, rfl, h⟩ := mE_isv h
    obtain ⟨h, h8⟩ := and2 h
    obtain ⟨h, h7⟩ := and2 h
    obtain ⟨h, h6⟩ := and2 h
    obtain ⟨h, h5⟩ := and2 h
    obtain ⟨h, h4⟩ := and2 h
    obtain ⟨h1, h2⟩ := and2 h
    obtain rfl := of_decide_eq_true h1
    obtain rfl := of_decide_eq_true h2
    have n9 := ok.nine h4
    rw [← ok.hcl] at n9
    rw [ev_isv]
    exact .plain ok.hK (s_isv ok.hK n9 (glB_of ok h5).1 (ok.free _ (by decide)) (glB_of ok h6).1 (ok.free _ (by decide)) (sE a ok h8).b (star_of h7)) (fun _ => rfl) (fun _ _ _ z => by cases z)
  | .dn0, N, G, X, P, c, fl, e, ok, h => by
    obtain ⟨p, rfl, h⟩ := mE_dn0 h
    rw [ev_dn0]
    exact .plain ok.hK (tN_tD (n_dn0 ok.hpw)) (fun _ => rfl) (fun _ _ _ z => by cases z)
  | .bad, N, G, X, P, c, fl, e, ok, h => by
    rw [ev_bad]
    have hf : ∀ {t : TE}, PE X e (fun _ _ _ => False) := fun {t} => ⟨fun _ _ _ _ _ _ z => False.elim z⟩
    refine ⟨peMono (hf (t := tB P fun _ _ => .bad)) fun σ H Q ⟨F, r, t, R, q⟩ => q, fun _ => peMono (hf (t := tB P fun _ _ => .bad)) fun σ H Q ⟨F, r, t, R, q⟩ => q, ⟨fun _ _ _ _ _ _ z => ?_⟩, fun _ _ _ _ => ⟨?_⟩⟩
    · obtain ⟨F, r, t, R, q⟩ := z
      exact False.elim q
    · intros
      rename_i z
      obtain ⟨F, r, t, R, q⟩ := z
      exact False.elim q
  | .sortK a N' k, N, G, X, P, c, fl, e, ok, h => by
    obtain ⟨x, q, ea, kw, params, body, scope, lp, kp, p, rfl, h⟩ := mE_sortK h
    obtain ⟨h, h9⟩ := and2 h
    obtain ⟨h, h8⟩ := and2 h
    obtain ⟨h, h7⟩ := and2 h
    obtain ⟨h, h6⟩ := and2 h
    obtain ⟨h, h5⟩ := and2 h
    obtain ⟨h, h4⟩ := and2 h
    obtain ⟨h, h3⟩ := and2 h
    obtain ⟨h1, h2⟩ := and2 h
    obtain rfl := of_decide_eq_true h1
    obtain rfl := of_decide_eq_true h2
    rw [ev_sortK]
    by_cases hl : 2 ≤ G.lv
    · exact .plain ok.hK (s_sortK ok (ok.lamT h3) hl (glB_of ok h4).1 h6 (scB_ok h7) (sE a ok h8).b (star_of h5) fun X' P' ok' => (sE k ok' h9).d rfl) (fun _ => rfl) (fun _ _ _ z => by cases z)
    · refine .plain ok.hK (peMono (t := fun _ _ _ => False) ⟨fun _ _ _ _ _ _ z => False.elim z⟩ fun σ H Q ⟨F, r, t, R, q⟩ => ?_) (fun _ => rfl) (fun _ _ _ z => by cases z)
      unfold sortKE at q
      simp only [hl, decide_false] at q
      exact q
  | .dspE ks es, N, G, X, P, c, fl, e, ok, h => by
    obtain ⟨kes, vs, p, rfl, h⟩ := mE_dspE h
    obtain ⟨h, h4⟩ := and2 h
    obtain ⟨h, h3⟩ := and2 h
    obtain ⟨h1, h2⟩ := and2 h
    rw [ev_dspE]
    exact .plain ok.hK (tN_tD (n_dspE (sDs es ok (and2 h1).1 (of_decide_eq_true (and2 h1).2) h4) ⟨of_decide_eq_true h2, of_decide_eq_true h3⟩)) (fun _ => rfl) (fun _ _ _ z => by cases z)
  | .idxG g b, N, G, X, P, c, fl, e, ok, h => by
    obtain ⟨x, q, m, q2, eb, cp, rfl, h⟩ := mE_idxG h
    obtain ⟨h, h6⟩ := and2 h
    obtain ⟨h, h5⟩ := and2 h
    obtain ⟨h, h4⟩ := and2 h
    obtain ⟨h, h3⟩ := and2 h
    obtain ⟨h1, h2⟩ := and2 h
    obtain rfl := of_decide_eq_true h1
    obtain ⟨g1, g2, g3⟩ := glB_of ok h3
    rw [ev_idxG]
    by_cases hz : isSq false (cs g) = true
    · simp only [hz, if_true]
      exact .plain ok.hK (s_idxG g1 (ok.conT g x (of_decide_eq_true h2) hz) g2 ((sE b ok h6).d rfl) h4 (star_of h5)) (fun _ => rfl) (fun _ _ _ z => by cases z)
    · simp only [hz]
      exact .plain ok.hK (peMono (t := fun _ _ _ => False) ⟨fun _ _ _ _ _ _ z => False.elim z⟩ fun σ H Q ⟨F, r, t, R, q⟩ => q) (fun _ => rfl) (fun _ _ _ z => by cases z)
  | .idx a b, N, G, X, P, c, fl, e, ok, h => by
    obtain ⟨ea, m, q, eb, cp, rfl, h⟩ := mE_idx h
    obtain ⟨h, h6⟩ := and2 h
    obtain ⟨h, h5⟩ := and2 h
    obtain ⟨h, h4⟩ := and2 h
    obtain ⟨h, h3⟩ := and2 h
    obtain ⟨h1, h2⟩ := and2 h
    obtain rfl := of_decide_eq_true h1
    rw [ev_idx]
    exact .plain ok.hK (s_idxL ok.hK ok.hu (sE a ok h5).b ((sE b ok h6).d rfl) (base_of h2) h3 (star_of h4)) (fun _ => rfl) (fun _ _ _ z => by cases z)
  | .comp2 own elt tg it tg1 it1, N, G, X, P, c, fl, e, ok, h => by
    obtain ⟨ee, et, ei, z, et1, ei1, z1, scope, p, rfl, h⟩ := mE_comp2 h
    obtain ⟨h, h12⟩ := and2 h
    obtain ⟨h, h11⟩ := and2 h
    obtain ⟨h, h10⟩ := and2 h
    obtain ⟨h, h9⟩ := and2 h
    obtain ⟨h, h8⟩ := and2 h
    obtain ⟨h, h7⟩ := and2 h
    obtain ⟨h, h6⟩ := and2 h
    obtain ⟨h, h5⟩ := and2 h
    obtain ⟨h, h4⟩ := and2 h
    obtain ⟨h, h3⟩ := and2 h
    obtain ⟨h1, h2⟩ := and2 h
    obtain rfl := of_decide_eq_true h1
    obtain rfl := of_decide_eq_true h2
    rw [ev_comp2]
    have hsl : ∀ i ∈ tg.slots, i ∈ own.map (·.2) := fun i hi => by
      have := List.all_eq_true.mp h4 i hi
      simpa using this
    have hsl1 : ∀ i ∈ tg1.slots, i ∈ own.map (·.2) := fun i hi => by
      have := List.all_eq_true.mp h5 i hi
      simpa using this
    exact .plain ok.hK (tN_tD (n_comp2 ok.calm (by rw [ok.hN]; exact ok.nd) (isT_of h9) (isT_of h11) (sI it ok h6) (by rw [ok.hN, ok.sc]; exact blkOk_by h3) (fun s H C cl' fp => sTg (ok.blk scope s H C cl' fp) h9) (fun s H C cl' fp => sI it1 (ok.blk scope s H C cl' fp) h10) (fun s H C cl' fp => sTg (ok.blk scope s H C cl' fp) h11)
      (fun s H C cl' fp => (sE elt (ok.blk scope s H C cl' fp) h12).d rfl) (fold_of h7) (fun env => fold_of h8) hsl hsl1)) (fun _ => rfl) (fun _ _ _ z => by cases z)
  | .rev a, N, G, X, P, c, fl, e, ok, h => by
    obtain ⟨ea, z, j, q1, q2, q3, p, rfl, h⟩ := mE_rev h
    obtain ⟨h1, h2⟩ := and2 h
    obtain rfl := of_decide_eq_true h1
    rw [ev_rev]
    exact .plain ok.hK (s_rev ok.hK (sE a ok h2).b) (fun _ => rfl) (fun _ _ _ z => by cases z)
  | .comp own elt tg it cd, N, G, X, P, c, fl, e, ok, h => by
    obtain ⟨ee, et, ei, ifs, z, scope, p, rfl, h⟩ := mE_comp h
    obtain ⟨h, h8⟩ := and2 h
    obtain ⟨h, h7⟩ := and2 h
    obtain ⟨h, h6⟩ := and2 h
    obtain ⟨h, h5⟩ := and2 h
    obtain ⟨h, h4⟩ := and2 h
    obtain ⟨h, h3⟩ := and2 h
    obtain ⟨h1, h2⟩ := and2 h
    obtain rfl := of_decide_eq_true h1
    rw [ev_comp]
    have hsl : ∀ i ∈ tg.slots, i ∈ own.map (·.2) := fun i hi => by
      have := List.all_eq_true.mp h3 i hi
      simpa using this
    refine .plain ok.hK (tN_tD (n_comp ok.calm (by rw [ok.hN]; exact ok.nd) (isT_of h6) (sI it ok h4) (by rw [ok.hN, ok.sc]; exact blkOk_by h2) (fun s H C cl' fp => sTg (ok.blk scope s H C cl' fp) h6) (fun s H C cl' fp => ?_)
      (fun s H C cl' fp => (sE elt (ok.blk scope s H C cl' fp) h8).d rfl) (fold_of h5) hsl)) (fun _ => rfl) (fun _ _ _ z => by cases z)
    cases cd with
    | none =>
      cases ifs with
      | nil =>
        rw [evO_none]
        exact c_none
      | cons _ _ => cases h7
    | some k =>
      cases ifs with
      | nil => cases h7
      | cons x xs =>
        cases xs with
        | nil =>
          rw [evO_some]
          exact c_some (sE k (ok.blk scope s H C cl' fp) (show mE tb N (blkCs c scope) true k x = true from h7)).t
        | cons _ _ => cases h7
theorem sO : ∀ (o : O) {N : List Str} {G : Gam} {X : Cx} {P : Pm} {c : Cs} {e : Option Expr}, Ok tb N G cs cl X P c → mO tb N c o e = true → PO X e (tO P (evO G cs o))
  | .none, N, G, X, P, c, none, ok, h => by
    rw [evO_none]
    exact s_none
  | .some k, N, G, X, P, c, some e, ok, h => by
    rw [evO_some]
    exact s_some (sE k ok h).b
theorem sEs : ∀ (es : Es) {N : List Str} {G : Gam} {X : Cx} {P : Pm} {c : Cs} {xs : List Expr}, Ok tb N G cs cl X P c → mEs tb N c es xs = true → PA X xs (tDs P (evs G cs es))
  | .nil, N, G, X, P, c, [], ok, h => by
    rw [evs_nil]
    exact s_nil
  | .cons k es, N, G, X, P, c, x :: xs, ok, h => by
    obtain ⟨h, h3⟩ := and2 h
    obtain ⟨h1, h2⟩ := and2 h
    rw [evs_cons]
    exact s_cons ((sE k ok h2).d rfl) (sEs es ok h3) (star_of h1)
theorem sDs : ∀ (es : Es) {N : List Str} {G : Gam} {X : Cx} {P : Pm} {c : Cs} {ks : List Str} {kes : List (Option Expr)} {xs : List Expr}, Ok tb N G cs cl X P c → keysB ks kes = true → kes.length = xs.length → mEs tb N c es xs = true → DspE X P ks (esF G cs es) kes xs
  | .nil, N, G, X, P, c, ks, kes, [], ok, hk, hl, h => by
    cases kes with
    | cons _ _ => cases hl
    | nil =>
      cases ks with
      | cons _ _ => cases hk
      | nil => exact .nil
  | .cons k es, N, G, X, P, c, ks, kes, x :: xs, ok, hk, hl, h => by
    obtain ⟨h, h3⟩ := and2 h
    obtain ⟨h1, h2⟩ := and2 h
    cases kes with
    | nil => cases hl
    | cons ke kes =>
      obtain ⟨y, ks', j, q, rfl, rfl, hk2⟩ := keysB_of hk
      exact .cons ((sE k ok h2).d rfl) (sDs es ok hk2 (by simpa using hl) h3)
theorem sKs : ∀ (es : Es) {N : List Str} {G : Gam} {X : Cx} {P : Pm} {c : Cs} {xs : List Keyword}, Ok tb N G cs cl X P c → mKs tb N c es xs = true → PK X xs (tDs P (evs G cs es))
  | .nil, N, G, X, P, c, [], ok, h => by
    rw [evs_nil]
    exact k_nil
  | .cons k es, N, G, X, P, c, ⟨nm, x, p⟩ :: xs, ok, h => by
    obtain ⟨h2, h3⟩ := and2 h
    rw [evs_cons]
    exact k_cons ((sE k ok h2).d rfl) (sKs es ok h3)
theorem sI : ∀ (i : I) {N : List Str} {G : Gam} {X : Cx} {P : Pm} {c : Cs} {fz : Bool} {tg e : Expr}, Ok tb N G cs cl X P c → mI tb N c fz tg i e = true → PI X tg e (tI P fz (isTupB tg) (evI G cs i))
  | .val k, N, G, X, P, c, fz, tg, e, ok, h => by
    have h : mE tb N c (!fz) k e = true := h
    rw [evI_val]
    cases fz with
    | true => exact i_val ok.hK ((sE k ok h).d rfl)
    | false => exact i_bor ok.hK (sE k ok h).b
  | .rng1 a, N, G, X, P, c, fz, tg, e, ok, h => by
    obtain ⟨x, q, ea, p, rfl, h⟩ := mI_rng1 h
    obtain ⟨h, h4⟩ := and2 h
    obtain ⟨h, h3⟩ := and2 h
    obtain ⟨h1, h2⟩ := and2 h
    obtain rfl := of_decide_eq_true h1
    rw [evI_rng1]
    exact i_rng1 (glB_of ok h2).1 (ok.free _ (by decide)) (sE a ok h4).b (star_of h3)
  | .rng2 a b, N, G, X, P, c, fz, tg, e, ok, h => by
    obtain ⟨x, q, ea, eb, p, rfl, h⟩ := mI_rng2 h
    obtain ⟨h, h6⟩ := and2 h
    obtain ⟨h, h5⟩ := and2 h
    obtain ⟨h, h4⟩ := and2 h
    obtain ⟨h, h3⟩ := and2 h
    obtain ⟨h1, h2⟩ := and2 h
    obtain rfl := of_decide_eq_true h1
    rw [evI_rng2]
    exact i_rng2 (glB_of ok h2).1 (ok.free _ (by decide)) (sE a ok h5).b (sE b ok h6).b (star_of h3) (star_of h4)
  | .zip a b, N, G, X, P, c, fz, tg, e, ok, h => by
    obtain ⟨x, q, ea, eb, p, rfl, h⟩ := mI_zip h
    obtain ⟨h, h6⟩ := and2 h
    obtain ⟨h, h5⟩ := and2 h
    obtain ⟨h, h4⟩ := and2 h
    obtain ⟨h, h3⟩ := and2 h
    obtain ⟨h, h2⟩ := and2 h
    obtain ⟨h0, h1⟩ := and2 h
    obtain rfl := of_decide_eq_true h1
    obtain ⟨elts, kk, tpos, rfl⟩ := isTup_of h0
    rw [evI_zip]
    cases fz with
    | true => exact i_zip ok.hK (glB_of ok h2).1 (ok.free _ (by decide)) ((sE a ok h5).d rfl) ((sE b ok h6).d rfl) (star_of h3) (star_of h4)
    | false => exact i_zipB ok.hK (glB_of ok h2).1 (ok.free _ (by decide)) (sE a ok h5).b (sE b ok h6).b (star_of h3) (star_of h4)
  | .zipN a b, N, G, X, P, c, fz, tg, e, ok, h => by
    cases h
  | .keys a, N, G, X, P, c, fz, tg, e, ok, h => by
    have h : mE tb N c false a e = true := h
    rw [evI_keys]
    exact i_keys ok.hpw ((sE a ok h).d rfl)
  | .enumT a, N, G, X, P, c, fz, tg, e, ok, h => by
    cases h
  | .enum a, N, G, X, P, c, fz, tg, e, ok, h => by
    obtain ⟨x, q, ea, p, rfl, h⟩ := mI_enum h
    obtain ⟨h, h5⟩ := and2 h
    obtain ⟨h, h3⟩ := and2 h
    obtain ⟨h, h2⟩ := and2 h
    obtain ⟨h0, h1⟩ := and2 h
    obtain rfl := of_decide_eq_true h1
    obtain ⟨elts, kk, tpos, rfl⟩ := isTup_of h0
    rw [evI_enum]
    cases fz with
    | true => exact i_enum ok.hK (glB_of ok h2).1 (ok.free _ (by decide)) ((sE a ok h5).d rfl) (star_of h3)
    | false => exact i_enumB ok.hK (glB_of ok h2).1 (ok.free _ (by decide)) (sE a ok h5).b (star_of h3)
end
end
end Fm

/-! ### statements: the check by computation -/
namespace Fm
open PySem PySem.Spec PyProof.Rows L2
def augB : Operator → Bool
  | .Add => true
  | .Sub => true
  | .Mult => true
  | .FloorDiv => true
  | .Mod => true
  | _ => false
def isComp : E → Bool
  | .comp _ _ _ _ _ => true
  | _ => false
/-- of name = [..]: the name is stored ahead of the block's names' going, or not -/
def swT (c : Cs) (y : Str) (py : Pos) : Expr → Bool
  | .ListComp _ _ scope p => decide (c.sc.kind = .function) && lclB c y && (py.line == p.line) && !(scope.names.any fun (n, k) => n == y && (k == .local || k == .cell))
  | _ => false
def swF (c : Cs) (y : Str) (py : Pos) (v : Expr) : Bool := nComp v || match v with
  | .ListComp _ _ scope p => decide (c.sc.names.lookup y = some .cell) || !(py.line == p.line)
  | _ => false
def nonLoc (c : Cs) : Expr → Bool
  | .Name x _ => !lclB c x
  | _ => true
def noneB (c : Cs) (ts : List Expr) : Expr → Bool
  | .Tuple vs _ _ => !(ts.length == 2 || ts.length == 3) || ts.any (nonLoc c) || vs.all (foldedForSure 8)
  | _ => true
def mAsg (tb : Tb) (N : List Str) (c : Cs) (tg : Tg) (k : E) : Expr → Expr → Bool
  | .Name y py, v => mTg N c tg (.Name y py) && (swF c y py v || (isComp k && swT c y py v)) && mE tb N c false k v
  | .Tuple ts a p, v => mTg N c tg (.Tuple ts a p) && nComp v && noneB c ts v && mE tb N c false k v
  | _, _ => false
def locAt (N : List Str) (c : Cs) (i : Nat) (x : Str) : Bool := decide (N[i]? = some x) && lclB c x
def mPar (tb : Tb) (N : List Str) (c : Cs) (is : List Nat) (es : Es) (ts vs : List Expr) : Bool := decide (c.sc.kind = .function) && !vs.any (fun e => !nStar e) && !vs.all (foldedForSure 8) && !vs.all (constantsAlone 8) && mEs tb N c es vs &&
  (match is, ts, vs with
    | [i, j], [.Name x px, .Name y py], [_, _] => decide (i ≠ j) && locAt N c i x && locAt N c j y && decide (x ≠ y) && (py.line == px.line)
    | [i, j, l], [.Name x px, .Name y py, .Name z pz], [_, _, _] => decide (i ≠ j) && decide (i ≠ l) && decide (j ≠ l) && locAt N c i x && locAt N c j y && locAt N c l z && decide (x ≠ y) && decide (x ≠ z) && decide (y ≠ z) && (py.line == px.line) && (pz.line == px.line)
    | _, _, _ => false)
def nTup : Expr → Bool
  | .Tuple _ _ _ => false
  | _ => true
def mStar (tb : Tb) (N : List Str) (c : Cs) (i j : Nat) (k : E) (t v : Expr) : Bool := match t with
  | .Tuple [.Name x _, .Starred (.Name y _) _] _ _ => tgtB N c i x && tgtB N c j y && nComp v && nTup v && mE tb N c false k v
  | _ => false
def mNew (tb : Tb) (N : List Str) (c : Cs) (i : Nat) (k : E) (t v : Expr) : Bool := match t with
  | .Name y py => freshB k && tgtB N c i y && (swF c y py v || (isComp k && swT c y py v)) && mE tb N c false k v
  | _ => false
def mApp (tb : Tb) (N : List Str) (c : Cs) (i : Nat) (k : E) : Expr → Bool
  | .Call (.Attribute (.Name y _) m p1) [a] [] p2 => decide (m = "append") && varB N c i y && (p1.endLine == p2.line) && nStar a && mE tb N c false k a
  | _ => false
def mUpd (tb : Tb) (N : List Str) (c : Cs) (i : Nat) (k : E) : Expr → Bool
  | .Call (.Attribute (.Name y _) m p1) [a] [] p2 => decide (m = "update") && varB N c i y && (p1.endLine == p2.line) && nStar a && mE tb N c false k a
  | _ => false
def mIns (tb : Tb) (N : List Str) (c : Cs) (i : Nat) (k e : E) : Expr → Bool
  | .Call (.Attribute (.Name y _) m p1) [b, a] [] p2 => decide (m = "insert") && varB N c i y && (p1.endLine == p2.line) && nStar b && nStar a && mE tb N c false k b && mE tb N c false e a
  | _ => false
def mPnl (tb : Tb) (N : List Str) (c : Cs) (b : Bool) (j i : Nat) (e : E) (ts vs : List Expr) : Bool := decide (c.sc.kind = .function) && !vs.any (fun e => !nStar e) && !vs.all (foldedForSure 8) && !vs.all (constantsAlone 8) &&
  (match b, ts, vs with
    | true, [.Name y py, .Name x px], [.List [] _, a] => decide (j ≠ i) && locAt N c j y && locAt N c i x && decide (y ≠ x) && (px.line == py.line) && nStar a && mE tb N c false e a
    | false, [.Name x px, .Name y py], [a, .List [] _] => decide (j ≠ i) && locAt N c i x && locAt N c j y && decide (x ≠ y) && (py.line == px.line) && nStar a && mE tb N c false e a
    | _, _, _ => false)
def mUns (tb : Tb) (N : List Str) (c : Cs) (is : List Nat) (j : Nat) (es : Es) (ts vs : List Expr) : Bool := match is, es, ts, vs with
  | [i1, i2, i3], .cons e1 (.cons e2 (.cons e3 .nil)), [.Name x1 _, .Name x2 _, .Name x3 _, .Name y _], [a1, a2, a3, .List [] _] => tgtB N c i1 x1 && tgtB N c i2 x2 && tgtB N c i3 x3 && tgtB N c j y && nStar a1 && nStar a2 && nStar a3 && mE tb N c false e1 a1 && mE tb N c false e2 a2 && mE tb N c false e3 a3
  | _, _, _, _ => false
def mPut (tb : Tb) (N : List Str) (c : Cs) (i : Nat) (k e : E) (t v : Expr) : Bool := match t with
  | .Subscript (.Name y _) b _ => varB N c i y && nSlice b && nComp v && mE tb N c true k b && mE tb N c false e v
  | _ => false
def mAug (tb : Tb) (N : List Str) (c : Cs) (i : Nat) (op : Operator) (k : E) (t : Expr) (op' : Operator) (v : Expr) : Bool := match t with
  | .Name y _ => decide (op = op') && augB op && tgtB N c i y && mE tb N c true k v
  | _ => false
def mRaise (tb : Tb) (c : Cs) (n : Nat) (m : Str) (a b : Option Expr) : Bool := match a, b with
  | some (.Call (.Name x _) [.Constant (.str m') _ _] [] _), none => decide (m = m') && decide (tb.ex.lookup n = some x) && glB c x
  | _, _ => false
def mTcnt (tb : Tb) (N : List Str) (c : Cs) (i : Nat) (k : E) (t v : Expr) : Bool := match t with
  | .Subscript (.Name y _) eb _ => varB N c i y && isStr "count" eb && nComp v && mE tb N c false k v
  | _ => false
def mTrst (tb : Tb) (N : List Str) (c : Cs) (i : Nat) (k a : E) (t v : Expr) : Bool := match t with
  | .Subscript (.Subscript (.Name y _) eb _) b _ => varB N c i y && isStr "rests" eb && nComp v && mE tb N c true k b && mE tb N c false a v
  | _ => false
def isFrz : S → Option Nat
  | .frz i => some i
  | _ => none
mutual
def mS (tb : Tb) (N : List Str) (c : Cs) : S → Stmt → Bool
  | .asg tg k, .Assign [t] v _ => mAsg tb N c tg k t v
  | .par is es, .Assign [.Tuple ts _ _] (.Tuple vs _ _) _ => mPar tb N c is es ts vs
  | .star i j k, .Assign [t] v _ => mStar tb N c i j k t v
  | .aug i op k, .AugAssign t op' v _ => mAug tb N c i op k t op' v
  | .ret k, .Return (some v) _ => mE tb N c false k v
  | .ite k a b, .If ek sa sb _ => mE tb N c true k ek && mSs tb N c a sa && mSs tb N c b sb
  | .for tg it b, .For et ei sb [] _ => nSet ei && mTg N c tg et && mI tb N c true et it ei && mSs tb N c b sb
  | .while k b, .While ek sb [] _ => mE tb N c true k ek && mSs tb N c b sb
  | .exp k, .Expr v _ => nComp v && mE tb N c false k v
  | .new i k, .Assign [t] v _ => mNew tb N c i k t v
  | .app i k, .Expr v _ => mApp tb N c i k v
  | .upd i k, .Expr v _ => mUpd tb N c i k v
  | .ins i k e, .Expr v _ => mIns tb N c i k e v
  | .uns is j es, .Assign [.Tuple ts _ _] (.Tuple vs _ _) _ => mUns tb N c is j es ts vs
  | .pnl b j i e, .Assign [.Tuple ts _ _] (.Tuple vs _ _) _ => mPnl tb N c b j i e ts vs
  | .put i k e, .Assign [t] v _ => mPut tb N c i k e t v
  | .putL i k e, .Assign [t] v _ => mPut tb N c i k e t v
  | .tcnt i k, .Assign [t] v _ => mTcnt tb N c i k t v
  | .trst i k e, .Assign [t] v _ => mTrst tb N c i k e t v
  | .brk, .Break _ => true
  | .cont, .Continue _ => true
  | .raise n m, .Raise a b _ => mRaise tb c n m a b
  | .bad, _ => true
  | _, _ => false
def mSs (tb : Tb) (N : List Str) (c : Cs) : Ss → List Stmt → Bool
  | .nil, [] => true
  | .nil, _ :: _ => false
  | .cons s r, ss => match isFrz s with
    | some _ => mSs tb N c r ss
    | none => match ss with
      | st :: rest => mS tb N c s st && mSs tb N c r rest
      | [] => false
end
section
variable {tb : Tb} {N : List Str} {c : Cs}
theorem mS_asg {tg : Tg} {k : E} {e : Stmt} (h : mS tb N c (.asg tg k) e = true) : ∃ t v p, e = .Assign [t] v p ∧ (mAsg tb N c tg k t v) = true := by
  cases e
  all_goals first
    | (cases h; done)
    | exact ⟨_, _, _, rfl, h⟩
    | (rename_i ts v p; cases ts with | nil => (cases h; done) | cons t ts => cases ts with | nil => exact ⟨_, _, _, rfl, h⟩ | cons _ _ => (cases h; done))
theorem mS_star {i j : Nat} {k : E} {e : Stmt} (h : mS tb N c (.star i j k) e = true) : ∃ t v p, e = .Assign [t] v p ∧ (mStar tb N c i j k t v) = true := by
  cases e
  all_goals first
    | (cases h; done)
    | exact ⟨_, _, _, rfl, h⟩
    | (rename_i ts v p; cases ts with | nil => (cases h; done) | cons t ts => cases ts with | nil => exact ⟨_, _, _, rfl, h⟩ | cons _ _ => (cases h; done))
theorem mS_new {i : Nat} {k : E} {e : Stmt} (h : mS tb N c (.new i k) e = true) : ∃ t v p, e = .Assign [t] v p ∧ (mNew tb N c i k t v) = true := by
  cases e
  all_goals first
    | (cases h; done)
    | exact ⟨_, _, _, rfl, h⟩
    | (rename_i ts v p; cases ts with | nil => (cases h; done) | cons t ts => cases ts with | nil => exact ⟨_, _, _, rfl, h⟩ | cons _ _ => (cases h; done))
theorem mS_put {i : Nat} {k a : E} {e : Stmt} (h : mS tb N c (.put i k a) e = true) : ∃ t v p, e = .Assign [t] v p ∧ (mPut tb N c i k a t v) = true := by
  cases e
  all_goals first
    | (cases h; done)
    | exact ⟨_, _, _, rfl, h⟩
    | (rename_i ts v p; cases ts with | nil => (cases h; done) | cons t ts => cases ts with | nil => exact ⟨_, _, _, rfl, h⟩ | cons _ _ => (cases h; done))
theorem mS_putL {i : Nat} {k a : E} {e : Stmt} (h : mS tb N c (.putL i k a) e = true) : ∃ t v p, e = .Assign [t] v p ∧ (mPut tb N c i k a t v) = true := by
  cases e
  all_goals first
    | (cases h; done)
    | exact ⟨_, _, _, rfl, h⟩
    | (rename_i ts v p; cases ts with | nil => (cases h; done) | cons t ts => cases ts with | nil => exact ⟨_, _, _, rfl, h⟩ | cons _ _ => (cases h; done))
theorem mS_tcnt {i : Nat} {k : E} {e : Stmt} (h : mS tb N c (.tcnt i k) e = true) : ∃ t v p, e = .Assign [t] v p ∧ (mTcnt tb N c i k t v) = true := by
  cases e
  all_goals first
    | (cases h; done)
    | exact ⟨_, _, _, rfl, h⟩
    | (rename_i ts v p; cases ts with | nil => (cases h; done) | cons t ts => cases ts with | nil => exact ⟨_, _, _, rfl, h⟩ | cons _ _ => (cases h; done))
theorem mS_trst {i : Nat} {k a : E} {e : Stmt} (h : mS tb N c (.trst i k a) e = true) : ∃ t v p, e = .Assign [t] v p ∧ (mTrst tb N c i k a t v) = true := by
  cases e
  all_goals first
    | (cases h; done)
    | exact ⟨_, _, _, rfl, h⟩
    | (rename_i ts v p; cases ts with | nil => (cases h; done) | cons t ts => cases ts with | nil => exact ⟨_, _, _, rfl, h⟩ | cons _ _ => (cases h; done))
theorem mS_par {is : List Nat} {es : Es} {e : Stmt} (h : mS tb N c (.par is es) e = true) : ∃ ts kt pt vs kv pv p, e = .Assign [.Tuple ts kt pt] (.Tuple vs kv pv) p ∧ (mPar tb N c is es ts vs) = true := by
  cases e
  all_goals first
    | (cases h; done)
    | exact ⟨_, _, _, _, _, _, _, rfl, h⟩
    | (rename_i ts v p; cases ts with | nil => (cases h; done) | cons t ts => cases t <;> first | (cases h; done) | (cases ts with | nil => (cases v <;> first | (cases h; done) | exact ⟨_, _, _, _, _, _, _, rfl, h⟩) | cons _ _ => (cases h; done)))
theorem mS_aug {i : Nat} {op : Operator} {k : E} {e : Stmt} (h : mS tb N c (.aug i op k) e = true) : ∃ t op' v p, e = .AugAssign t op' v p ∧ (mAug tb N c i op k t op' v) = true := by
  cases e
  all_goals first
    | (cases h; done)
    | exact ⟨_, _, _, _, rfl, h⟩
theorem mS_ret {k : E} {e : Stmt} (h : mS tb N c (.ret k) e = true) : ∃ v p, e = .Return (some v) p ∧ (mE tb N c false k v) = true := by
  cases e
  all_goals first
    | (cases h; done)
    | exact ⟨_, _, rfl, h⟩
    | (rename_i v p; cases v with | none => (cases h; done) | some v => exact ⟨_, _, rfl, h⟩)
theorem mS_ite {k : E} {a b : Ss} {e : Stmt} (h : mS tb N c (.ite k a b) e = true) : ∃ ek sa sb p, e = .If ek sa sb p ∧ (mE tb N c true k ek && mSs tb N c a sa && mSs tb N c b sb) = true := by
  cases e
  all_goals first
    | (cases h; done)
    | exact ⟨_, _, _, _, rfl, h⟩
theorem mS_for {tg : Tg} {it : I} {b : Ss} {e : Stmt} (h : mS tb N c (.for tg it b) e = true) : ∃ et ei sb p, e = .For et ei sb [] p ∧ (nSet ei && mTg N c tg et && mI tb N c true et it ei && mSs tb N c b sb) = true := by
  cases e
  all_goals first
    | (cases h; done)
    | exact ⟨_, _, _, _, rfl, h⟩
    | (rename_i et ei sb el p; cases el with | nil => exact ⟨_, _, _, _, rfl, h⟩ | cons _ _ => (cases h; done))
theorem mS_while {k : E} {b : Ss} {e : Stmt} (h : mS tb N c (.while k b) e = true) : ∃ ek sb p, e = .While ek sb [] p ∧ (mE tb N c true k ek && mSs tb N c b sb) = true := by
  cases e
  all_goals first
    | (cases h; done)
    | exact ⟨_, _, _, rfl, h⟩
    | (rename_i ek sb el p; cases el with | nil => exact ⟨_, _, _, rfl, h⟩ | cons _ _ => (cases h; done))
theorem mS_exp {k : E} {e : Stmt} (h : mS tb N c (.exp k) e = true) : ∃ v p, e = .Expr v p ∧ (nComp v && mE tb N c false k v) = true := by
  cases e
  all_goals first
    | (cases h; done)
    | exact ⟨_, _, rfl, h⟩
theorem mS_app {i : Nat} {k : E} {e : Stmt} (h : mS tb N c (.app i k) e = true) : ∃ v p, e = .Expr v p ∧ (mApp tb N c i k v) = true := by
  cases e
  all_goals first
    | (cases h; done)
    | exact ⟨_, _, rfl, h⟩
theorem mS_upd {i : Nat} {k : E} {e : Stmt} (h : mS tb N c (.upd i k) e = true) : ∃ v p, e = .Expr v p ∧ (mUpd tb N c i k v) = true := by
  cases e
  all_goals first
    | (cases h; done)
    | exact ⟨_, _, rfl, h⟩
theorem mS_ins {i : Nat} {k a : E} {e : Stmt} (h : mS tb N c (.ins i k a) e = true) : ∃ v p, e = .Expr v p ∧ (mIns tb N c i k a v) = true := by
  cases e
  all_goals first
    | (cases h; done)
    | exact ⟨_, _, rfl, h⟩
theorem mS_uns {is : List Nat} {j : Nat} {es : Es} {e : Stmt} (h : mS tb N c (.uns is j es) e = true) : ∃ ts kt pt vs kv pv p, e = .Assign [.Tuple ts kt pt] (.Tuple vs kv pv) p ∧ (mUns tb N c is j es ts vs) = true := by
  cases e
  all_goals first
    | (cases h; done)
    | exact ⟨_, _, _, _, _, _, _, rfl, h⟩
    | (rename_i ts v p; cases ts with | nil => (cases h; done) | cons t ts => cases t <;> first | (cases h; done) | (cases ts with | nil => (cases v <;> first | (cases h; done) | exact ⟨_, _, _, _, _, _, _, rfl, h⟩) | cons _ _ => (cases h; done)))
theorem mS_pnl {b : Bool} {j i : Nat} {k : E} {e : Stmt} (h : mS tb N c (.pnl b j i k) e = true) : ∃ ts kt pt vs kv pv p, e = .Assign [.Tuple ts kt pt] (.Tuple vs kv pv) p ∧ (mPnl tb N c b j i k ts vs) = true := by
  cases e
  all_goals first
    | (cases h; done)
    | exact ⟨_, _, _, _, _, _, _, rfl, h⟩
    | (rename_i ts v p; cases ts with | nil => (cases h; done) | cons t ts => cases t <;> first | (cases h; done) | (cases ts with | nil => (cases v <;> first | (cases h; done) | exact ⟨_, _, _, _, _, _, _, rfl, h⟩) | cons _ _ => (cases h; done)))
theorem mS_brk  {e : Stmt} (h : mS tb N c .brk e = true) : ∃ p, e = .Break p ∧ (true) = true := by
  cases e
  all_goals first
    | (cases h; done)
    | exact ⟨_, rfl, h⟩
theorem mS_cont  {e : Stmt} (h : mS tb N c .cont e = true) : ∃ p, e = .Continue p ∧ (true) = true := by
  cases e
  all_goals first
    | (cases h; done)
    | exact ⟨_, rfl, h⟩
theorem mS_raise {n : Nat} {m : Str} {e : Stmt} (h : mS tb N c (.raise n m) e = true) : ∃ a b p, e = .Raise a b p ∧ (mRaise tb c n m a b) = true := by
  cases e
  all_goals first
    | (cases h; done)
    | exact ⟨_, _, _, rfl, h⟩
theorem mSs_frz {i : Nat} {r : Ss} {ss : List Stmt} (h : mSs tb N c (.cons (.frz i) r) ss = true) : mSs tb N c r ss = true := h
theorem mSs_cons {s : S} {r : Ss} {ss : List Stmt} (hf : isFrz s = none) (h : mSs tb N c (.cons s r) ss = true) : ∃ st rest, ss = st :: rest ∧ mS tb N c s st = true ∧ mSs tb N c r rest = true := by
  cases s <;> first | (cases hf; done) | (cases ss with | nil => (cases h; done) | cons st rest => exact ⟨st, rest, rfl, and2 h⟩)
end
end Fm

/-! ### statements: soundness -/
namespace Fm
open PySem PySem.Spec PyProof.Rows L2
section
variable {tb : Tb} {N : List Str} {G : Gam} {cs : Nat → D} {cl : Nat → Addr} {X : Cx} {P : Pm} {c : Cs}
theorem sw_plain {v : Expr} {t : Option Expr} {l : Nat} {env : Env} (h : nComp v = true) : swapsWith v t l env = pure false := by
  cases v <;> first | rfl | (cases h; done)
theorem sw_sole {v t : Expr} {l : Nat} {env : Env} (h : nComp v = true) : swapsWithSole [t] v l env = pure false := sw_plain h
theorem sw_off {elt : Expr} {gs : List Comprehension} {scope : Scope} {pos py : Pos} {y : Str} {l : Nat} {env : Env} (h : env.scope.names.lookup y = some .cell ∨ (py.line == pos.line) = false) : swapsWith (.ListComp elt gs scope pos) (some (.Name y py)) l env = pure false := by
  unfold swapsWith
  rcases h with h | h
  · have ky : env.kindOf y = some .cell := h
    simp only [ky, Expr.pos]
    have : ((some NameKind.cell : Option NameKind) == some NameKind.local) = false := rfl
    simp only [this, Bool.and_false, Bool.false_and]
  · simp only [Expr.pos, h, Bool.and_false, Bool.false_and]
theorem lclB_of {x : Str} (h : lclB c x = true) : c.sc.names.lookup x = some .local := by
  unfold lclB at h
  split at h
  · assumption
  · cases h
theorem swF_of (ok : Ok tb N G cs cl X P c) {y : Str} {py : Pos} {v : Expr} {l : Nat} (h : swF c y py v = true) : swapsWith v (some (.Name y py)) l X.env = pure false := by
  unfold swF at h
  rcases Bool.or_eq_true_iff.mp h with h | h
  · exact sw_plain h
  · split at h
    · refine sw_off ?_
      rw [ok.sc]
      rcases Bool.or_eq_true_iff.mp h with h | h
      · exact .inl (of_decide_eq_true h)
      · exact .inr (by simpa using h)
    · cases h
theorem sCd (ok : Ok tb N G cs cl X P c) {cd : O} {ifs : List Expr} (h7 : mCd tb N c cd ifs = true) : PTs X ifs (tC1 P (evO G cs cd)) := by
  cases cd with
  | none =>
    cases ifs with
    | nil =>
      rw [evO_none]
      exact c_none
    | cons _ _ => cases h7
  | some k =>
    cases ifs with
    | nil => cases h7
    | cons x xs =>
      cases xs with
      | nil =>
        rw [evO_some]
        exact c_some (sE k ok (show mE tb N c true k x = true from h7)).t
      | cons _ _ => cases h7
/-- what is new is told as nobody's -/
theorem sN (ok : Ok tb N G cs cl X P c) {k : E} {v : Expr} (hf : freshB k = true) (hv : mE tb N c false k v = true) : PE X v (tN P (ev G cs k)) := by
  cases k with
  | lst es =>
    obtain ⟨xs, p, rfl, h⟩ := mE_lst hv
    rw [ev_lst]
    exact n_lst (sEs es ok h)
  | dsp kvs =>
    obtain ⟨ks, vs, p, rfl, h⟩ := mE_dsp hv
    rw [ev_dsp]
    exact n_dsp (dsp_of h)
  | dn0 =>
    obtain ⟨p, rfl, h⟩ := mE_dn0 hv
    rw [ev_dn0]
    exact n_dn0 ok.hpw
  | dspE ks es =>
    obtain ⟨kes, vs, p, rfl, h⟩ := mE_dspE hv
    obtain ⟨h, h4⟩ := and2 h
    obtain ⟨h, h3⟩ := and2 h
    obtain ⟨h1, h2⟩ := and2 h
    rw [ev_dspE]
    exact n_dspE (sDs es ok (and2 h1).1 (of_decide_eq_true (and2 h1).2) h4) ⟨of_decide_eq_true h2, of_decide_eq_true h3⟩
  | comp own elt tg it cd =>
    obtain ⟨ee, et, ei, ifs, z, scope, p, rfl, h⟩ := mE_comp hv
    obtain ⟨h, h8⟩ := and2 h
    obtain ⟨h, h7⟩ := and2 h
    obtain ⟨h, h6⟩ := and2 h
    obtain ⟨h, h5⟩ := and2 h
    obtain ⟨h, h4⟩ := and2 h
    obtain ⟨h, h3⟩ := and2 h
    obtain ⟨h1, h2⟩ := and2 h
    obtain rfl := of_decide_eq_true h1
    have hsl : ∀ i ∈ tg.slots, i ∈ own.map (·.2) := fun i hi => by
      have := List.all_eq_true.mp h3 i hi
      simpa using this
    rw [ev_comp]
    exact n_comp ok.calm (by rw [ok.hN]; exact ok.nd) (isT_of h6) (sI it ok h4) (by rw [ok.hN, ok.sc]; exact blkOk_by h2) (fun s H C cl' fp => sTg (ok.blk scope s H C cl' fp) h6) (fun s H C cl' fp => sCd (ok.blk scope s H C cl' fp) h7)
      (fun s H C cl' fp => (sE elt (ok.blk scope s H C cl' fp) h8).d rfl) (fold_of h5) hsl
  | comp2 own elt tg it tg1 it1 =>
    obtain ⟨ee, et, ei, z, et1, ei1, z1, scope, p, rfl, h⟩ := mE_comp2 hv
    obtain ⟨h, h12⟩ := and2 h
    obtain ⟨h, h11⟩ := and2 h
    obtain ⟨h, h10⟩ := and2 h
    obtain ⟨h, h9⟩ := and2 h
    obtain ⟨h, h8⟩ := and2 h
    obtain ⟨h, h7⟩ := and2 h
    obtain ⟨h, h6⟩ := and2 h
    obtain ⟨h, h5⟩ := and2 h
    obtain ⟨h, h4⟩ := and2 h
    obtain ⟨h, h3⟩ := and2 h
    obtain ⟨h1, h2⟩ := and2 h
    obtain rfl := of_decide_eq_true h1
    obtain rfl := of_decide_eq_true h2
    rw [ev_comp2]
    have hsl : ∀ i ∈ tg.slots, i ∈ own.map (·.2) := fun i hi => by
      have := List.all_eq_true.mp h4 i hi
      simpa using this
    have hsl1 : ∀ i ∈ tg1.slots, i ∈ own.map (·.2) := fun i hi => by
      have := List.all_eq_true.mp h5 i hi
      simpa using this
    exact n_comp2 ok.calm (by rw [ok.hN]; exact ok.nd) (isT_of h9) (isT_of h11) (sI it ok h6) (by rw [ok.hN, ok.sc]; exact blkOk_by h3) (fun s H C cl' fp => sTg (ok.blk scope s H C cl' fp) h9) (fun s H C cl' fp => sI it1 (ok.blk scope s H C cl' fp) h10) (fun s H C cl' fp => sTg (ok.blk scope s H C cl' fp) h11)
      (fun s H C cl' fp => (sE elt (ok.blk scope s H C cl' fp) h12).d rfl) (fold_of h7) (fun env => fold_of h8) hsl hsl1
  | cat a b =>
    obtain ⟨ea, eb, p, rfl, h⟩ := mE_cat hv
    obtain ⟨h3, h4⟩ := and2 h
    rw [ev_cat]
    exact n_cat (sE a ok h3).b (sE b ok h4).b
  | blt b a =>
    obtain ⟨x, q, ea, p, rfl, h⟩ := mE_blt hv
    obtain ⟨h, h5⟩ := and2 h
    obtain ⟨h, h4⟩ := and2 h
    obtain ⟨h, h3⟩ := and2 h
    obtain ⟨h1, h2⟩ := and2 h
    obtain rfl := of_decide_eq_true h2
    rw [ev_blt]
    exact (s_blt ok h1 h3 h4 (sE a ok h5).b).2 (by cases b <;> first | rfl | (cases hf; done))
  | _ => cases hf
/-- name = value, the value told as it may be -/
theorem asgN (ok : Ok tb N G cs cl X P c) {i : Nat} {y : Str} {py pos : Pos} {k : E} {v : Expr} {te : TE} (ht : tgtB N c i y = true) (hs : swF c y py v = true) (hv : PE X v te) : PS X (.Assign [.Name y py] v pos) (tAsg te (gName i)) := by
  obtain ⟨h1, h2, h3⟩ := tgtB_of ok ht
  exact asg_plain (by rw [ok.hN]; exact ok.nd) h1 h2 hv (swF_of ok hs) h3
theorem asgC (ok : Ok tb N G cs cl X P c) {i : Nat} {y : Str} {py pos : Pos} {k : E} {v : Expr} (ht : tgtB N c i y = true) (hi : isComp k = true) (hs : swT c y py v = true) (hv : mE tb N c false k v = true) : PS X (.Assign [.Name y py] v pos) (tAsg (tN P (ev G cs k)) (gName i)) := by
  obtain ⟨t1, t2, t3⟩ := tgtB_of ok ht
  cases k <;> first | (cases hi; done) | skip
  rename_i own elt tg it cd
  obtain ⟨ee, et, ei, ifs, z, scope, p, rfl, h⟩ := mE_comp hv
  obtain ⟨h, h8⟩ := and2 h
  obtain ⟨h, h7⟩ := and2 h
  obtain ⟨h, h6⟩ := and2 h
  obtain ⟨h, h5⟩ := and2 h
  obtain ⟨h, h4⟩ := and2 h
  obtain ⟨h, h3⟩ := and2 h
  obtain ⟨h1, h2⟩ := and2 h
  obtain rfl := of_decide_eq_true h1
  have hs : (decide (c.sc.kind = .function) && lclB c y && (py.line == p.line) && !(scope.names.any fun (n, k) => n == y && (k == .local || k == .cell))) = true := hs
  obtain ⟨hs, s4⟩ := and2 hs
  obtain ⟨hs, s3⟩ := and2 hs
  obtain ⟨s1, s2⟩ := and2 hs
  have hsl : ∀ i ∈ tg.slots, i ∈ own.map (·.2) := fun i hi => by
    have := List.all_eq_true.mp h3 i hi
    simpa using this
  have hyl : X.env.scope.names.lookup y = some .local := by rw [ok.sc]; exact lclB_of s2
  rw [ev_comp]
  refine psMono (ps_setLc ok.calm (by rw [ok.hN]; exact ok.nd) t1 hyl (sw_true (by rw [ok.sc]; exact of_decide_eq_true s1) hyl s3 (by simpa using s4)) (sI it ok h4) (by rw [ok.hN, ok.sc]; exact blkOk_by h2) (fun s H C cl' fp => sTg (ok.blk scope s H C cl' fp) h6) (fun s H C cl' fp => sCd (ok.blk scope s H C cl' fp) h7)
    (fun s H C cl' fp => (sE elt (ok.blk scope s H C cl' fp) h8).d rfl) (fold_of h5)) fun D σ H h => comp_read (isT_of h6) hsl σ H _ h
theorem comp_lst {k : E} (hi : isComp k = true) (r : Rho) (t : Tw) (d : D) (t' : Tw) (h : ev G cs k r t = .ok d t') : ∃ xs, d = .lst xs := by
  cases k <;> first | (cases hi; done) | skip
  rw [ev_comp] at h
  unfold compE at h
  rename_i own elt tg it cd
  cases e : evI G cs it r t with
  | ok xs t1 =>
    rw [e] at h
    simp only [Res.bind_ok] at h
    split at h
    · generalize compL _ xs t1 = res at h
      cases res with
      | ok ys t2 =>
        cases h
        exact ⟨_, rfl⟩
      | exc n t2 => cases h
      | bad => cases h
    · cases h
  | exc n t1 =>
    rw [e] at h
    cases h
  | bad =>
    rw [e] at h
    cases h
theorem asgD (ok : Ok tb N G cs cl X P c) {i : Nat} {y : Str} {py pos : Pos} {k : E} {v : Expr} (ht : tgtB N c i y = true) (hs : (swF c y py v || (isComp k && swT c y py v)) = true) (hv : mE tb N c false k v = true) :
    PS X (.Assign [.Name y py] v pos) (tAsg (tD P (ev G cs k)) (gName i)) ∧ (freshB k = true → PS X (.Assign [.Name y py] v pos) (tAsg (tN P (ev G cs k)) (gName i))) := by
  rcases Bool.or_eq_true_iff.mp hs with hs | hs
  · exact ⟨asgN (k := k) ok ht hs ((sE k ok hv).d rfl), fun hf => asgN (k := k) ok ht hs (sN ok hf hv)⟩
  · obtain ⟨h1, h2⟩ := and2 hs
    have h := asgC (pos := pos) ok ht h1 h2 hv
    exact ⟨psMono h fun D σ H q => tNtD_mono (comp_lst h1) σ H _ q, fun _ => h⟩
/-- no stores exchanged -/
theorem none_of (hsc : X.env.scope = c.sc) {ts : List Expr} {v : Expr} {k : Nat} {p : Pos} (h : noneB c ts v = true) : swappedStores [.Tuple ts k p] v X.env = pure none := by
  cases v <;> try rfl
  rename_i vs kv pv
  have h : (!(ts.length == 2 || ts.length == 3) || ts.any (nonLoc c) || vs.all (foldedForSure 8)) = true := h
  unfold swappedStores
  simp only
  by_cases h1 : (!(ts.length == 2 || ts.length == 3) || vs.length != ts.length || X.env.blockKind != .function) = true
  · simp only [h1, if_true]
  · rw [if_neg h1]
    split
    · rfl
    · split
      · rfl
      · rename_i h3
        split
        · rfl
        · rename_i h4
          exfalso
          rcases Bool.or_eq_true_iff.mp h with h | h
          · rcases Bool.or_eq_true_iff.mp h with h | h
            · exact h1 (by rw [h]; rfl)
            · refine h3 (Bool.or_eq_true_iff.mpr (.inl ?_))
              refine bne_iff_ne.mpr fun z => ?_
              have z := List.filterMap_length_eq_length.mp z
              obtain ⟨e, m, q⟩ := List.any_eq_true.mp h
              have z := z e m
              cases e with
              | Name x px =>
                have q : (!lclB c x) = true := q
                simp only at z
                split at z
                · rename_i w
                  have w1 := (and2 w).1
                  have : X.env.kindOf x = some .local := eq_of_beq w1
                  have : X.env.scope.names.lookup x = some .local := this
                  rw [hsc] at this
                  unfold lclB at q
                  rw [this] at q
                  cases q
                · cases z
              | _ => cases z
          · exact h4 h
theorem blk_fn {env : Env} (h : env.scope.kind = .function) : env.blockKind = .function := by
  unfold Env.blockKind
  rw [h]
  rfl
theorem nstar_any {vs : List Expr} (h : (!vs.any fun e => !nStar e) = true) : (vs.any fun | .Starred .. => true | _ => false) = false := by
  induction vs with
  | nil => rfl
  | cons e r ih =>
    simp only [List.any_cons, Bool.not_or, Bool.not_not] at h ⊢
    obtain ⟨h1, h2⟩ := and2 h
    rw [ih h2]
    cases e <;> first | rfl | (cases h1; done)
theorem par2_of (hsc : X.env.scope = c.sc) {x y : Str} {px py : Pos} {a b : Expr} {k k2 : Nat} {p p2 : Pos} (hk : c.sc.kind = .function) (h1 : (!([a, b] : List Expr).any fun e => !nStar e) = true) (h2 : (([a, b] : List Expr).all (foldedForSure 8)) = false) (h3 : (([a, b] : List Expr).all (constantsAlone 8)) = false)
    (hx : c.sc.names.lookup x = some .local) (hy : c.sc.names.lookup y = some .local) (hxy : x ≠ y) (hl : (py.line == px.line) = true) : swappedStores [.Tuple [.Name x px, .Name y py] k p] (.Tuple [a, b] k2 p2) X.env = pure (some [x, y]) := by
  have kx : X.env.kindOf x = some .local := by show X.env.scope.names.lookup x = _; rw [hsc]; exact hx
  have ky : X.env.kindOf y = some .local := by show X.env.scope.names.lookup y = _; rw [hsc]; exact hy
  have hb := blk_fn (env := X.env) (by rw [hsc]; exact hk)
  have s := nstar_any h1
  unfold swappedStores
  simp only [hb, h2, h3, List.head?_cons, Option.map_some, Option.getD_some, Expr.pos, List.filterMap_cons, kx, ky, hl, beq_self_eq_true, Bool.and_self, if_true, List.filterMap_nil]
  have e : ([x, y] : List Str).eraseDups = [x, y] := by
    simp [List.eraseDups_cons, Ne.symm hxy]
  rw [if_neg (by simp)]
  split
  · rename_i z
    exact Bool.noConfusion (s.symm.trans z)
  · simp [e]
theorem par3_of (hsc : X.env.scope = c.sc) {x y z : Str} {px py pz : Pos} {a b d : Expr} {k k2 : Nat} {p p2 : Pos} (hk : c.sc.kind = .function) (h1 : (!([a, b, d] : List Expr).any fun e => !nStar e) = true) (h2 : (([a, b, d] : List Expr).all (foldedForSure 8)) = false) (h3 : (([a, b, d] : List Expr).all (constantsAlone 8)) = false)
    (hx : c.sc.names.lookup x = some .local) (hy : c.sc.names.lookup y = some .local) (hz : c.sc.names.lookup z = some .local) (hxy : x ≠ y) (hxz : x ≠ z) (hyz : y ≠ z) (hl : (py.line == px.line) = true) (hl2 : (pz.line == px.line) = true) : swappedStores [.Tuple [.Name x px, .Name y py, .Name z pz] k p] (.Tuple [a, b, d] k2 p2) X.env = pure (some [x, y, z]) := by
  have kx : X.env.kindOf x = some .local := by show X.env.scope.names.lookup x = _; rw [hsc]; exact hx
  have ky : X.env.kindOf y = some .local := by show X.env.scope.names.lookup y = _; rw [hsc]; exact hy
  have kz : X.env.kindOf z = some .local := by show X.env.scope.names.lookup z = _; rw [hsc]; exact hz
  have hb := blk_fn (env := X.env) (by rw [hsc]; exact hk)
  have s := nstar_any h1
  unfold swappedStores
  simp only [hb, h2, h3, List.head?_cons, Option.map_some, Option.getD_some, Expr.pos, List.filterMap_cons, kx, ky, kz, hl, hl2, beq_self_eq_true, Bool.and_self, if_true, List.filterMap_nil]
  have e : ([x, y, z] : List Str).eraseDups = [x, y, z] := by
    simp [List.eraseDups_cons, Ne.symm hxy, Ne.symm hxz, Ne.symm hyz]
  rw [if_neg (by simp)]
  split
  · rename_i z
    exact Bool.noConfusion (s.symm.trans z)
  · simp [e]
theorem locAt_of (ok : Ok tb N G cs cl X P c) {i : Nat} {x : Str} (h : locAt N c i x = true) : X.N[i]? = some x ∧ X.env.scope.names.lookup x = some .local ∧ c.sc.names.lookup x = some .local := by
  obtain ⟨h1, h2⟩ := and2 h
  exact ⟨by rw [ok.hN]; exact of_decide_eq_true h1, by rw [ok.sc]; exact lclB_of h2, lclB_of h2⟩
theorem sPar (ok : Ok tb N G cs cl X P c) {is : List Nat} {es : Es} {ts vs : List Expr} {kt kv : Nat} {pt pv pos : Pos} (h : mPar tb N c is es ts vs = true) : PS X (.Assign [.Tuple ts kt pt] (.Tuple vs kv pv) pos) (tS P (parE is (evs G cs es))) := by
  unfold mPar at h
  obtain ⟨h, h6⟩ := and2 h
  obtain ⟨h, h5⟩ := and2 h
  obtain ⟨h, h4⟩ := and2 h
  obtain ⟨h, h3⟩ := and2 h
  obtain ⟨h1, h2⟩ := and2 h
  have hk := of_decide_eq_true h1
  have h3 : vs.all (foldedForSure 8) = false := by simpa using h3
  have h4 : vs.all (constantsAlone 8) = false := by simpa using h4
  have nd : X.N.Nodup := by rw [ok.hN]; exact ok.nd
  split at h6
  · obtain ⟨q, q5⟩ := and2 h6
    obtain ⟨q, q4⟩ := and2 q
    obtain ⟨q, q3⟩ := and2 q
    obtain ⟨q1, q2⟩ := and2 q
    obtain ⟨a1, a2, a3⟩ := locAt_of ok q2
    obtain ⟨b1, b2, b3⟩ := locAt_of ok q3
    exact st_par2 ok.calm nd a1 b1 (of_decide_eq_true q1) a2 b2 (sEs es ok h5) (par2_of ok.sc hk h2 h3 h4 a3 b3 (of_decide_eq_true q4) q5)
  · obtain ⟨q, q11⟩ := and2 h6
    obtain ⟨q, q10⟩ := and2 q
    obtain ⟨q, q9⟩ := and2 q
    obtain ⟨q, q8⟩ := and2 q
    obtain ⟨q, q7⟩ := and2 q
    obtain ⟨q, q6⟩ := and2 q
    obtain ⟨q, q5⟩ := and2 q
    obtain ⟨q, q4⟩ := and2 q
    obtain ⟨q, q3⟩ := and2 q
    obtain ⟨q1, q2⟩ := and2 q
    obtain ⟨a1, a2, a3⟩ := locAt_of ok q4
    obtain ⟨b1, b2, b3⟩ := locAt_of ok q5
    obtain ⟨c1, c2, c3⟩ := locAt_of ok q6
    exact st_par3 ok.calm nd a1 b1 c1 (of_decide_eq_true q1) (of_decide_eq_true q2) (of_decide_eq_true q3) a2 b2 c2 (sEs es ok h5) (par3_of ok.sc hk h2 h3 h4 a3 b3 c3 (of_decide_eq_true q7) (of_decide_eq_true q8) (of_decide_eq_true q9) q10 q11)
  · cases h6
theorem sAsg (ok : Ok tb N G cs cl X P c) {tg : Tg} {k : E} {t v : Expr} {pos : Pos} (h : mAsg tb N c tg k t v = true) : PS X (.Assign [t] v pos) (tS P fun r t => (ev G cs k r t).bind fun x t1 => Fm.lift ((setT tg x r).map fun r1 => (.nx, r1)) t1) := by
  unfold mAsg at h
  split at h
  · obtain ⟨h, h3⟩ := and2 h
    obtain ⟨h1, h2⟩ := and2 h
    cases tg with
    | name i => exact st_set (asgD (i := i) ok h1 h2 h3).1
    | tup _ => cases h1
  · obtain ⟨h, h4⟩ := and2 h
    obtain ⟨h, h3⟩ := and2 h
    obtain ⟨h1, h2⟩ := and2 h
    exact st_asg ((sE k ok h4).d rfl) (sTg ok h1) (sw_sole h2) (none_of ok.sc h3) rfl
  · cases h
theorem sStar (ok : Ok tb N G cs cl X P c) {i j : Nat} {k : E} {t v : Expr} {pos : Pos} (h : mStar tb N c i j k t v = true) : PS X (.Assign [t] v pos) (tS P (starE i j (ev G cs k))) := by
  unfold mStar at h
  split at h
  · obtain ⟨h, h5⟩ := and2 h
    obtain ⟨h, h4⟩ := and2 h
    obtain ⟨h, h3⟩ := and2 h
    obtain ⟨h1, h2⟩ := and2 h
    obtain ⟨a1, a2, a3⟩ := tgtB_of ok h1
    obtain ⟨b1, b2, b3⟩ := tgtB_of ok h2
    exact st_star ok.hK ok.calm (by rw [ok.hN]; exact ok.nd) a1 b1 a2 b2 a3 b3 ((sE k ok h5).d rfl) (sw_sole h3) (none_of ok.sc (by cases v <;> first | rfl | (cases h4; done)))
  · cases h
theorem sNew (ok : Ok tb N G cs cl X P c) {i : Nat} {k : E} {t v : Expr} {pos : Pos} (h : mNew tb N c i k t v = true) : PS X (.Assign [t] v pos) (tS P fun r t => (ev G cs k r t).bind fun x t1 => okSet r i (.own x) t1) := by
  unfold mNew at h
  split at h
  · obtain ⟨h, h4⟩ := and2 h
    obtain ⟨h, h3⟩ := and2 h
    obtain ⟨h1, h2⟩ := and2 h
    exact st_new ((asgD ok h2 h3 h4).2 h1)
  · cases h
theorem sApp (ok : Ok tb N G cs cl X P c) {i : Nat} {k : E} {v : Expr} {pos : Pos} (h : mApp tb N c i k v = true) : PS X (.Expr v pos) (tS P (appE i (ev G cs k))) := by
  unfold mApp at h
  split at h
  · obtain ⟨h, h5⟩ := and2 h
    obtain ⟨h, h4⟩ := and2 h
    obtain ⟨h, h3⟩ := and2 h
    obtain ⟨h1, h2⟩ := and2 h
    obtain rfl := of_decide_eq_true h1
    obtain ⟨a1, a2, a3, a4⟩ := varB_of ok h2
    exact st_app ok.hK a1 a2 a3 a4 ((sE k ok h5).d rfl) h3 (star_of h4)
  · cases h
theorem sUpd (ok : Ok tb N G cs cl X P c) {i : Nat} {k : E} {v : Expr} {pos : Pos} (h : mUpd tb N c i k v = true) : PS X (.Expr v pos) (tS P (updE i (ev G cs k))) := by
  unfold mUpd at h
  split at h
  · obtain ⟨h, h5⟩ := and2 h
    obtain ⟨h, h4⟩ := and2 h
    obtain ⟨h, h3⟩ := and2 h
    obtain ⟨h1, h2⟩ := and2 h
    obtain rfl := of_decide_eq_true h1
    obtain ⟨a1, a2, a3, a4⟩ := varB_of ok h2
    exact st_upd a1 a2 a3 a4 ((sE k ok h5).d rfl) h3 (star_of h4)
  · cases h
theorem sIns (ok : Ok tb N G cs cl X P c) {i : Nat} {k a : E} {v : Expr} {pos : Pos} (h : mIns tb N c i k a v = true) : PS X (.Expr v pos) (tS P (insE i (ev G cs k) (ev G cs a))) := by
  unfold mIns at h
  split at h
  · obtain ⟨h, h7⟩ := and2 h
    obtain ⟨h, h6⟩ := and2 h
    obtain ⟨h, h5⟩ := and2 h
    obtain ⟨h, h4⟩ := and2 h
    obtain ⟨h, h3⟩ := and2 h
    obtain ⟨h1, h2⟩ := and2 h
    obtain rfl := of_decide_eq_true h1
    obtain ⟨a1, a2, a3, a4⟩ := varB_of ok h2
    exact st_ins a1 a2 a3 a4 ((sE k ok h6).d rfl) ((sE a ok h7).d rfl) h3 (star_of h4) (star_of h5)
  · cases h
theorem evs3 (e1 e2 e3 : E) : evs G cs (.cons e1 (.cons e2 (.cons e3 .nil))) = fun r t => (ev G cs e1 r t).bind fun x t1 => (ev G cs e2 r t1).bind fun y t2 => (ev G cs e3 r t2).bind fun z t3 => .ok [x, y, z] t3 := by
  funext r t
  simp only [evs_cons, evs_nil]
  cases ev G cs e1 r t with
  | ok x t1 =>
    simp only [Res.bind_ok]
    cases ev G cs e2 r t1 with
    | ok y t2 =>
      simp only [Res.bind_ok]
      cases ev G cs e3 r t2 <;> rfl
    | exc n t2 => rfl
    | bad => rfl
  | exc n t1 => rfl
  | bad => rfl
theorem sUns (ok : Ok tb N G cs cl X P c) {is : List Nat} {j : Nat} {es : Es} {ts vs : List Expr} {kt kv : Nat} {pt pv pos : Pos} (h : mUns tb N c is j es ts vs = true) : PS X (.Assign [.Tuple ts kt pt] (.Tuple vs kv pv) pos) (tS P (unsE is j (evs G cs es))) := by
  unfold mUns at h
  split at h
  · obtain ⟨h, h10⟩ := and2 h
    obtain ⟨h, h9⟩ := and2 h
    obtain ⟨h, h8⟩ := and2 h
    obtain ⟨h, h7⟩ := and2 h
    obtain ⟨h, h6⟩ := and2 h
    obtain ⟨h, h5⟩ := and2 h
    obtain ⟨h, h4⟩ := and2 h
    obtain ⟨h, h3⟩ := and2 h
    obtain ⟨h1, h2⟩ := and2 h
    obtain ⟨a1, a2, a3⟩ := tgtB_of ok h1
    obtain ⟨b1, b2, b3⟩ := tgtB_of ok h2
    obtain ⟨c1, c2, c3⟩ := tgtB_of ok h3
    obtain ⟨d1, d2, d3⟩ := tgtB_of ok h4
    rw [evs3]
    exact st_uns ok.hK ok.calm (by rw [ok.hN]; exact ok.nd) a1 b1 c1 d1 a2 b2 c2 d2 a3 b3 c3 d3 ((sE _ ok h8).d rfl) ((sE _ ok h9).d rfl) ((sE _ ok h10).d rfl) (fun es => star_of h5) (fun es => star_of h6) (fun es => star_of h7) (none_of ok.sc (by simp [noneB]))
  · cases h
theorem sPnl (ok : Ok tb N G cs cl X P c) {b : Bool} {j i : Nat} {k : E} {ts vs : List Expr} {kt kv : Nat} {pt pv pos : Pos} (h : mPnl tb N c b j i k ts vs = true) : PS X (.Assign [.Tuple ts kt pt] (.Tuple vs kv pv) pos) (tS P (pnlE j i (ev G cs k))) := by
  unfold mPnl at h
  obtain ⟨h, h6⟩ := and2 h
  obtain ⟨h, h4⟩ := and2 h
  obtain ⟨h, h3⟩ := and2 h
  obtain ⟨h1, h2⟩ := and2 h
  have hk := of_decide_eq_true h1
  have h3 : vs.all (foldedForSure 8) = false := by simpa using h3
  have h4 : vs.all (constantsAlone 8) = false := by simpa using h4
  have nd : X.N.Nodup := by rw [ok.hN]; exact ok.nd
  split at h6
  · obtain ⟨q, q7⟩ := and2 h6
    obtain ⟨q, q6⟩ := and2 q
    obtain ⟨q, q5⟩ := and2 q
    obtain ⟨q, q4⟩ := and2 q
    obtain ⟨q, q3⟩ := and2 q
    obtain ⟨q1, q2⟩ := and2 q
    obtain ⟨a1, a2, a3⟩ := locAt_of ok q2
    obtain ⟨b1, b2, b3⟩ := locAt_of ok q3
    exact st_pnlT ok.calm nd a1 b1 (of_decide_eq_true q1) a2 b2 ((sE _ ok q7).d rfl) (fun es => star_of q6) (par2_of ok.sc hk h2 h3 h4 a3 b3 (of_decide_eq_true q4) q5)
  · obtain ⟨q, q7⟩ := and2 h6
    obtain ⟨q, q6⟩ := and2 q
    obtain ⟨q, q5⟩ := and2 q
    obtain ⟨q, q4⟩ := and2 q
    obtain ⟨q, q3⟩ := and2 q
    obtain ⟨q1, q2⟩ := and2 q
    obtain ⟨a1, a2, a3⟩ := locAt_of ok q2
    obtain ⟨b1, b2, b3⟩ := locAt_of ok q3
    exact st_pnlF ok.calm nd a1 b1 (of_decide_eq_true q1) a2 b2 ((sE _ ok q7).d rfl) (fun es => star_of q6) (par2_of ok.sc hk h2 h3 h4 a3 b3 (of_decide_eq_true q4) q5)
  · cases h6
theorem sPut (ok : Ok tb N G cs cl X P c) {i : Nat} {k a : E} {t v : Expr} {pos : Pos} (h : mPut tb N c i k a t v = true) : PS X (.Assign [t] v pos) (tS P (putE i (ev G cs k) (ev G cs a))) ∧ PS X (.Assign [t] v pos) (tS P (putLE i (ev G cs k) (ev G cs a))) := by
  unfold mPut at h
  split at h
  · rename_i y q b p
    obtain ⟨h, h5⟩ := and2 h
    obtain ⟨h, h4⟩ := and2 h
    obtain ⟨h, h3⟩ := and2 h
    obtain ⟨h1, h2⟩ := and2 h
    obtain ⟨a1, a2, a3, a4⟩ := varB_of ok h1
    refine ⟨st_put ok.hK ok.hpw ok.hu a1 a2 a3 a4 (sE k ok h4).b ((sE a ok h5).d rfl) (sw_plain h3), st_putL a1 a2 a3 a4 (sE k ok h4).b ((sE a ok h5).d rfl) ?_ (sw_sole h3) (by cases v <;> rfl)⟩
    intro v
    cases b <;> first | rfl | (cases h2; done)
  · cases h
theorem sTcnt (ok : Ok tb N G cs cl X P c) {i : Nat} {k : E} {t v : Expr} {pos : Pos} (h : mTcnt tb N c i k t v = true) : PS X (.Assign [t] v pos) (tS P (tcntE i (ev G cs k))) := by
  unfold mTcnt at h
  split at h
  · obtain ⟨h, h4⟩ := and2 h
    obtain ⟨h, h3⟩ := and2 h
    obtain ⟨h1, h2⟩ := and2 h
    obtain ⟨a1, a2, a3, a4⟩ := varB_of ok h1
    obtain ⟨j, q2, rfl⟩ := isStr_of h2
    exact st_tcnt ok.hu a1 a2 a3 a4 ((sE k ok h4).d rfl) (sw_plain h3)
  · cases h
theorem sTrst (ok : Ok tb N G cs cl X P c) {i : Nat} {k a : E} {t v : Expr} {pos : Pos} (h : mTrst tb N c i k a t v = true) : PS X (.Assign [t] v pos) (tS P (trstE i (ev G cs k) (ev G cs a))) := by
  unfold mTrst at h
  split at h
  · obtain ⟨h, h5⟩ := and2 h
    obtain ⟨h, h4⟩ := and2 h
    obtain ⟨h, h3⟩ := and2 h
    obtain ⟨h1, h2⟩ := and2 h
    obtain ⟨a1, a2, a3, a4⟩ := varB_of ok h1
    obtain ⟨j, q2, rfl⟩ := isStr_of h2
    exact st_trst ok.hu a1 a2 a3 a4 (sE k ok h4).b ((sE a ok h5).d rfl) (sw_plain h3)
  · cases h
theorem sAug (ok : Ok tb N G cs cl X P c) {i : Nat} {op op' : Operator} {k : E} {t v : Expr} {pos : Pos} (h : mAug tb N c i op k t op' v = true) : PS X (.AugAssign t op' v pos) (tS P (augE i op (ev G cs k))) := by
  unfold mAug at h
  split at h
  · obtain ⟨h, h4⟩ := and2 h
    obtain ⟨h, h3⟩ := and2 h
    obtain ⟨h1, h2⟩ := and2 h
    obtain rfl := of_decide_eq_true h1
    obtain ⟨a1, a2, a3⟩ := tgtB_of ok h3
    refine st_aug (ip_of ?_) (by rw [ok.hN]; exact ok.nd) a1 a2 a3 (sE k ok h4).b
    cases op <;> first | (cases h2; done) | simp
  · cases h
theorem sRaise (ok : Ok tb N G cs cl X P c) {n : Nat} {m : Str} {a b : Option Expr} {pos : Pos} (h : mRaise tb c n m a b = true) : PS X (.Raise a b pos) (tS P fun _ t => .exc n t) := by
  unfold mRaise at h
  split at h
  · obtain ⟨h, h3⟩ := and2 h
    obtain ⟨h1, h2⟩ := and2 h
    obtain ⟨e1, e2, e3, e4⟩ := ok.exc n _ (of_decide_eq_true h2)
    obtain ⟨g1, g2, g3⟩ := glB_of ok h3
    exact st_raise (C := cl n) ok.calm ok.tk PySem.F.excBase_ValueError e1 e2 e3 e4 g1 g2
  · cases h
end
section
variable {G : Gam} {cs : Nat → D}
theorem evS_asg (tg : Tg) (e : E) : evS G cs (.asg tg e) = fun r t => (ev G cs e r t).bind fun x t1 => Fm.lift ((setT tg x r).map fun r1 => (.nx, r1)) t1 := by funext r t; rw [evS]
theorem evS_par (is : List Nat) (es : Es) : evS G cs (.par is es) = parE is (evs G cs es) := by funext r t; first | (rw [evS]; done) | (rw [evS]; rfl)
theorem evS_star (i j : Nat) (e : E) : evS G cs (.star i j e) = starE i j (ev G cs e) := by funext r t; first | (rw [evS]; done) | (rw [evS]; rfl)
theorem evS_aug (i : Nat) (op : Operator) (e : E) : evS G cs (.aug i op e) = augE i op (ev G cs e) := by funext r t; first | (rw [evS]; done) | (rw [evS]; rfl)
theorem evS_ret (e : E) : evS G cs (.ret e) = fun r t => (ev G cs e r t).bind fun x t1 => .ok (.ret x, r) t1 := by funext r t; rw [evS]
theorem evS_ite (k : E) (a b : Ss) : evS G cs (.ite k a b) = iteS (ev G cs k) (evSs G cs a) (evSs G cs b) := by funext r t; first | (rw [evS]; done) | (rw [evS]; rfl)
theorem evS_for (tg : Tg) (it : I) (b : Ss) : evS G cs (.for tg it b) = forE tg (evI G cs it) (evSs G cs b) := by funext r t; first | (rw [evS]; done) | (rw [evS]; rfl)
theorem evS_while (k : E) (b : Ss) : evS G cs (.while k b) = loopW (ev G cs k) (evSs G cs b) := by funext r t; rw [evS]
theorem evS_exp (e : E) : evS G cs (.exp e) = fun r t => (ev G cs e r t).bind fun _ t1 => .ok (.nx, r) t1 := by funext r t; rw [evS]
theorem evS_new (i : Nat) (e : E) : evS G cs (.new i e) = fun r t => (ev G cs e r t).bind fun x t1 => okSet r i (.own x) t1 := by funext r t; rw [evS]
theorem evS_app (i : Nat) (e : E) : evS G cs (.app i e) = appE i (ev G cs e) := by funext r t; first | (rw [evS]; done) | (rw [evS]; rfl)
theorem evS_put (i : Nat) (k e : E) : evS G cs (.put i k e) = putE i (ev G cs k) (ev G cs e) := by funext r t; first | (rw [evS]; done) | (rw [evS]; rfl)
theorem evS_upd (i : Nat) (e : E) : evS G cs (.upd i e) = updE i (ev G cs e) := by funext r t; first | (rw [evS]; done) | (rw [evS]; rfl)
theorem evS_ins (i : Nat) (k e : E) : evS G cs (.ins i k e) = insE i (ev G cs k) (ev G cs e) := by funext r t; first | (rw [evS]; done) | (rw [evS]; rfl)
theorem evS_uns (is : List Nat) (j : Nat) (es : Es) : evS G cs (.uns is j es) = unsE is j (evs G cs es) := by funext r t; first | (rw [evS]; done) | (rw [evS]; rfl)
theorem evS_pnl (b : Bool) (j i : Nat) (e : E) : evS G cs (.pnl b j i e) = pnlE j i (ev G cs e) := by funext r t; first | (rw [evS]; done) | (rw [evS]; rfl)
theorem evS_putL (i : Nat) (k e : E) : evS G cs (.putL i k e) = putLE i (ev G cs k) (ev G cs e) := by funext r t; first | (rw [evS]; done) | (rw [evS]; rfl)
theorem evS_frz (i : Nat) : evS G cs (.frz i) = frzE i := by funext r t; first | (rw [evS]; done) | (rw [evS]; rfl)
theorem evS_tcnt (i : Nat) (e : E) : evS G cs (.tcnt i e) = tcntE i (ev G cs e) := by funext r t; first | (rw [evS]; done) | (rw [evS]; rfl)
theorem evS_trst (i : Nat) (k e : E) : evS G cs (.trst i k e) = trstE i (ev G cs k) (ev G cs e) := by funext r t; first | (rw [evS]; done) | (rw [evS]; rfl)
theorem evS_brk : evS G cs .brk = fun r t => .ok (.brk, r) t := by funext r t; rw [evS]
theorem evS_cont : evS G cs .cont = fun r t => .ok (.cont, r) t := by funext r t; rw [evS]
theorem evS_raise (n : Nat) (x : Str) : evS G cs (.raise n x) = fun _ t => .exc n t := by funext r t; rw [evS]
theorem evS_bad : evS G cs .bad = fun _ _ => .bad := by funext r t; rw [evS]
theorem evSs_nil : evSs G cs .nil = nilE := by funext r t; first | (rw [evSs]; done) | (rw [evSs]; rfl)
theorem evSs_cons (s : S) (r : Ss) : evSs G cs (.cons s r) = consE (evS G cs s) (evSs G cs r) := by funext r t; first | (rw [evSs]; done) | (rw [evSs]; rfl)
end
section
variable {tb : Tb} {N : List Str} {G : Gam} {cs : Nat → D} {cl : Nat → Addr} {X : Cx} {P : Pm} {c : Cs}
mutual
theorem sS (ok : Ok tb N G cs cl X P c) : ∀ (s : S) {st : Stmt}, mS tb N c s st = true → PS X st (tS P (evS G cs s))
  | .asg tg k, st, h => by
    obtain ⟨t, v, p, rfl, h⟩ := mS_asg h
    rw [evS_asg]
    exact sAsg ok h
  | .par is es, st, h => by
    obtain ⟨ts, kt, pt, vs, kv, pv, p, rfl, h⟩ := mS_par h
    rw [evS_par]
    exact sPar ok h
  | .star i j k, st, h => by
    obtain ⟨t, v, p, rfl, h⟩ := mS_star h
    rw [evS_star]
    exact sStar ok h
  | .aug i op k, st, h => by
    obtain ⟨t, op', v, p, rfl, h⟩ := mS_aug h
    rw [evS_aug]
    exact sAug ok h
  | .ret k, st, h => by
    obtain ⟨v, p, rfl, h⟩ := mS_ret h
    rw [evS_ret]
    exact st_ret ((sE k ok h).d rfl)
  | .ite k a b, st, h => by
    obtain ⟨ek, sa, sb, p, rfl, h⟩ := mS_ite h
    obtain ⟨h, h3⟩ := and2 h
    obtain ⟨h1, h2⟩ := and2 h
    rw [evS_ite]
    exact st_ite (sE k ok h1).t (sSs ok a h2) (sSs ok b h3)
  | .for tg it b, st, h => by
    obtain ⟨et, ei, sb, p, rfl, h⟩ := mS_for h
    obtain ⟨h, h4⟩ := and2 h
    obtain ⟨h, h3⟩ := and2 h
    obtain ⟨h1, h2⟩ := and2 h
    rw [evS_for]
    exact st_for ok.own ok.calm (isT_of h2) (sI it ok h3) (sTg ok h2) (sSs ok b h4) (fold_of h1)
  | .while k b, st, h => by
    obtain ⟨ek, sb, p, rfl, h⟩ := mS_while h
    obtain ⟨h1, h2⟩ := and2 h
    rw [evS_while]
    exact st_while ok.own (sE k ok h1).t (sSs ok b h2)
  | .exp k, st, h => by
    obtain ⟨v, p, rfl, h⟩ := mS_exp h
    obtain ⟨h1, h2⟩ := and2 h
    rw [evS_exp]
    exact st_exp ((sE k ok h2).d rfl) (sw_plain h1)
  | .new i k, st, h => by
    obtain ⟨t, v, p, rfl, h⟩ := mS_new h
    rw [evS_new]
    exact sNew ok h
  | .app i k, st, h => by
    obtain ⟨v, p, rfl, h⟩ := mS_app h
    rw [evS_app]
    exact sApp ok h
  | .put i k a, st, h => by
    obtain ⟨t, v, p, rfl, h⟩ := mS_put h
    rw [evS_put]
    exact (sPut ok h).1
  | .upd i k, st, h => by
    obtain ⟨v, p, rfl, h⟩ := mS_upd h
    rw [evS_upd]
    exact sUpd ok h
  | .ins i k a, st, h => by
    obtain ⟨v, p, rfl, h⟩ := mS_ins h
    rw [evS_ins]
    exact sIns ok h
  | .uns is j es, st, h => by
    obtain ⟨ts, kt, pt, vs, kv, pv, p, rfl, h⟩ := mS_uns h
    rw [evS_uns]
    exact sUns ok h
  | .pnl b j i k, st, h => by
    obtain ⟨ts, kt, pt, vs, kv, pv, p, rfl, h⟩ := mS_pnl h
    rw [evS_pnl]
    exact sPnl ok h
  | .putL i k a, st, h => by
    obtain ⟨t, v, p, rfl, h⟩ := mS_putL h
    rw [evS_putL]
    exact (sPut ok h).2
  | .tcnt i k, st, h => by
    obtain ⟨t, v, p, rfl, h⟩ := mS_tcnt h
    rw [evS_tcnt]
    exact sTcnt ok h
  | .trst i k a, st, h => by
    obtain ⟨t, v, p, rfl, h⟩ := mS_trst h
    rw [evS_trst]
    exact sTrst ok h
  | .brk, st, h => by
    obtain ⟨p, rfl, _⟩ := mS_brk h
    rw [evS_brk]
    exact st_brk
  | .cont, st, h => by
    obtain ⟨p, rfl, _⟩ := mS_cont h
    rw [evS_cont]
    exact st_cont
  | .raise n m, st, h => by
    obtain ⟨a, b, p, rfl, h⟩ := mS_raise h
    rw [evS_raise]
    exact sRaise ok h
  | .bad, st, h => by
    rw [evS_bad]
    exact ⟨fun _ _ _ _ _ _ ⟨F, r, t, R, q⟩ => False.elim q⟩
  | .frz i, st, h => by cases st <;> cases h
theorem sSs (ok : Ok tb N G cs cl X P c) : ∀ (s : Ss) {ss : List Stmt}, mSs tb N c s ss = true → PSs X ss (tS P (evSs G cs s))
  | .nil, ss, h => by
    cases ss with
    | nil =>
      rw [evSs_nil]
      exact ss_nil
    | cons _ _ => cases h
  | .cons s r, ss, h => by
    rw [evSs_cons]
    cases e : isFrz s with
    | some i =>
      cases s <;> first | (cases e; done) | skip
      rw [evS_frz]
      exact ss_frz (sSs ok r (mSs_frz h))
    | none =>
      obtain ⟨st, rest, rfl, h1, h2⟩ := mSs_cons e h
      exact ss_cons (sS ok s h1) (sSs ok r h2)
end
end
end Fm

/-! ### what the law hears of a deed -/
namespace Fm
open PySem PySem.Spec PyProof.Rows L2
def nineEx : List (Nat × Str) := [(0, "NoRoot"), (1, "NoForm"), (2, "ByNought"), (3, "NoQuotient"), (4, "NoName"), (5, "NoPath"), (6, "Spent"), (7, "BadWord"), (8, "NoText")]
def tbH : Tb := ⟨[], [], nineEx, true⟩
def G0 : Gam := ⟨0, fun _ _ _ _ _ => .bad⟩
def cs0 : Nat → D := fun _ => .non
def two9 (x y : Str) (i j : Nat) : E := .dspE [x, y] (.cons (.isx (.var 1) i) (.cons (.isx (.var 1) j) .nil))
def heardT : Ss :=
  .cons (.ite (.cmp .Is (.var 1) (.cst .non)) (.cons (.ret (.tup (.cons (.cst (.str "told")) (.cons (.var 2) .nil)))) .nil) .nil)
  (.cons (.new 4 (two9 "no root" "no form" 0 1))
  (.cons (.upd 4 (two9 "by nought" "no quotient" 2 3))
  (.cons (.upd 4 (two9 "no name" "no path" 4 5))
  (.cons (.upd 4 (two9 "spent" "bad word" 6 7))
  (.cons (.put 4 (.cst (.str "no text")) (.isx (.var 1) 8))
  (.cons (.frz 4)
  (.cons (.asg (.name 5) (.comp [("word", 6)] (.var 6) (.name 6) (.keys (.var 4)) (.some (.dix (.var 4) (.var 6)))))
  (.cons (.ret (.ite (.and (.cmp .Eq (.blt .len (.var 5)) (.cst (.int 1))) (.isv (.var 1))) (.tup (.cons (.ix (.var 5) (.cst (.int 0))) .nil)) (.tup (.cons (.cst (.str "is wrong")) .nil)))) .nil))))))))
theorem heardT_told (d : D) (t : Tw) : evSs G0 cs0 heardT [.un, .val .non, .val d, .un, .un, .un, .un] t = .ok (.ret (.tup [.str "told", d]), [.un, .val .non, .val d, .un, .un, .un, .un]) t := by
  rfl
theorem heardT_exc (n : Nat) (h : n < 9) (t : Tw) : ∃ r, evSs G0 cs0 heardT [.un, .val (.exc n), .un, .un, .un, .un, .un] t = .ok (.ret (.tup [.str (hWord n)]), r) t := by
  have : n = 0 ∨ n = 1 ∨ n = 2 ∨ n = 3 ∨ n = 4 ∨ n = 5 ∨ n = 6 ∨ n = 7 ∨ n = 8 := by omega
  rcases this with rfl | rfl | rfl | rfl | rfl | rfl | rfl | rfl | rfl
  all_goals exact ⟨_, rfl⟩
/-- what the head tells for it -/
structure HeardK (K : PySem.W.Frag) (mg : Str → Option Value) (cl : Nat → Addr) (CF : Addr) : Prop where
  form : mg "FormError" = some (.ref CF)
  exm : ∀ n, n < 9 → PySem.W.exmOne K (.ref (cl n)) (.ref CF) = some true
def csH (sg : Scope) : Cs := ⟨sg, fun _ => true, false, false⟩
def mHeard (sg : Scope) : List Stmt → Bool
  | .Assign [.Tuple [.Name a1 _, .Name a2 _] _ _] (.Tuple [.Constant .none _ _, .Constant .none _ _] _ _) _ :: .Try [.Assign [.Name a3 _] (.Call (.Name a4 _) [] [] _) _] [.ExceptHandler (some (.Name a5 _)) (some a6) [.Assign [.Name a7 _] (.Name a8 _) _] _] [] [] _ :: rest =>
    tgtB heardN (csH sg) 1 a1 && tgtB heardN (csH sg) 2 a2 && tgtB heardN (csH sg) 2 a3 && decide (a4 = "deed") && decide (a5 = "FormError") && glB (csH sg) a5 && locAt heardN (csH sg) 3 a6 && tgtB heardN (csH sg) 1 a7 && varB heardN (csH sg) 3 a8 && mSs tbH heardN (csH sg) heardT rest
  | _ => false
theorem heardT_ok {X : Cx} {T : Tn} {cl : Nat → Addr} (hcl : T.cl = cl) (hpw : T.pg = X.prog ∧ T.wo = X.w) (free : ∀ x ∈ freeNames, X.mg x = none) (nine : Nine X.K cl) (exc : ∀ n x, nineEx.lookup n = some x → ExcOk X (cl n) x) {sg : Scope} {g : Addr} {cdg : Value} (S : FnScope heardN ["deed"] sg) (s : Shared) (H : Hp)
    (hr : Room 0 (X.A.deeper (envOfC "_law_heard" sg s.heap.objs.size g cdg))) (F0 H0 : Hp) :
    Ok tbH heardN G0 cs0 cl (cxOf C8.CX0 X.prog X.w X.K X.mg X.base heardN "_law_heard" sg g cdg X.A X.stack s H C8.E0).nox ⟨X.K, T, F0, H0, fun _ _ => False⟩ (csH sg) where
  hK := rfl
  hN := rfl
  nd := S.nd
  sc := rfl
  fn := rfl
  calm := rfl
  room := hr
  hcl := hcl
  hpw := hpw
  free := free
  con := fun g x e => by simp [tbH] at e
  conT := fun g x e => by simp [tbH] at e
  call := fun d i sh e => by simp [tbH] at e
  tk := fun u s' ⟨a, B, sI, pins, σ, H, cls, d, e, I, nb, up, sky, na, os, ag, w⟩ => by
    obtain ⟨n, _, _, z⟩ := w
    exact z.elim
  own := PassesOwn.never
  exc := fun n x e => by
    obtain ⟨h1, h2, h3, h4⟩ := exc n x e
    exact ⟨h1, h2, h3, h4⟩
  nine := fun _ => nine
  heard := fun _ z => by cases z
  lamT := fun z => by cases z
theorem tail_exc {K : PySem.W.Frag} {T : Tn} {F' H' : Hp} {t' : Tw} {n : Nat} {a : Addr} {σ' : L2.St} {Q : VK} {nx : L2.St → Hp → Prop} (hn : n < 9) (RF : RelH K T F' H' F' t' H') (ha : H' a = none) (hl : σ'.length = 7)
    (hq : ∀ v F2 H2, RelH K T F' H' F2 t' H2 → Rp K T F2 v (.tup [.str (hWord n)]) → Q v H2) :
    tS ⟨K, T, F', H', fun _ _ => False⟩ (evSs G0 cs0 heardT) { nx := nx, rt := Q } (((σ'.set 3 (some (.ref a))).set 1 (some (.ref a))).set 3 none) (L2.upd H' a (ExI (.ref (T.cl n)) a)) := by
  have b2 := RF.newF (o := ExI (.ref (T.cl n)) a) ha (by intro _ z; cases z)
  obtain ⟨r, er⟩ := heardT_exc n hn t'
  refine ⟨_, [.un, .val (.exc n), .un, .un, .un, .un, .un], t', ⟨b2, by simp [hl], fun i d e => ?_, fun i d e => ?_, fun i j d e p e1 => ?_⟩, ?_⟩
  · match i, e with
    | 1, e =>
      cases e
      refine ⟨.ref a, ?_, .exc n upd_same⟩
      rw [List.getElem?_set_ne (by decide), List.getElem?_set_self (by simp [hl])]
    | 0, e => cases e
    | 2, e => cases e
    | 3, e => cases e
    | 4, e => cases e
    | 5, e => cases e
    | 6, e => cases e
    | i + 7, e => simp at e
  · match i, e with
    | 0, e => cases e
    | 1, e => cases e
    | 2, e => cases e
    | 3, e => cases e
    | 4, e => cases e
    | 5, e => cases e
    | 6, e => cases e
    | i + 7, e => simp at e
  · match i, e1 with
    | 0, e => cases e
    | 1, e => cases e
    | 2, e => cases e
    | 3, e => cases e
    | 4, e => cases e
    | 5, e => cases e
    | 6, e => cases e
    | i + 7, e => simp at e
  · rw [er]
    exact fun v F2 H2 _ R' rv => hq v F2 H2 R' rv
theorem tail_told {K : PySem.W.Frag} {T : Tn} {F' H' : Hp} {t' : Tw} {d : D} {v f : V} {Q : VK} {nx : L2.St → Hp → Prop} (RF : RelH K T F' H' F' t' H') (rv : Rp K T F' v d)
    (hq : ∀ w F2 H2, RelH K T F' H' F2 t' H2 → Rp K T F2 w (.tup [.str "told", d]) → Q w H2) :
    tS ⟨K, T, F', H', fun _ _ => False⟩ (evSs G0 cs0 heardT) { nx := nx, rt := Q } ((((L2.start heardN [f]).set 1 (some .non)).set 2 (some .non)).set 2 (some v)) H' := by
  refine ⟨_, [.un, .val .non, .val d, .un, .un, .un, .un], t', ⟨RF, rfl, fun i d' e => ?_, fun i d e => ?_, fun i j d e p e1 => ?_⟩, ?_⟩
  · match i, e with
    | 1, e =>
      cases e
      exact ⟨.non, rfl, .non⟩
    | 2, e =>
      cases e
      exact ⟨v, rfl, rv⟩
    | 0, e => cases e
    | 3, e => cases e
    | 4, e => cases e
    | 5, e => cases e
    | 6, e => cases e
    | i + 7, e => simp at e
  · match i, e with
    | 0, e => cases e
    | 1, e => cases e
    | 2, e => cases e
    | 3, e => cases e
    | 4, e => cases e
    | 5, e => cases e
    | 6, e => cases e
    | i + 7, e => simp at e
  · match i, e1 with
    | 0, e => cases e
    | 1, e => cases e
    | 2, e => cases e
    | 3, e => cases e
    | 4, e => cases e
    | 5, e => cases e
    | 6, e => cases e
    | i + 7, e => simp at e
  · rw [heardT_told]
    exact fun v F2 H2 _ R' rv => hq v F2 H2 R' rv
theorem heard_gives {X : Cx} {T : Tn} {cl : Nat → Addr} {CF : Addr} (hk : HeardK X.K X.mg cl CF) (hcl : T.cl = cl) (hpw : T.pg = X.prog ∧ T.wo = X.w) (free : ∀ x ∈ freeNames, X.mg x = none) (nine : Nine X.K cl) (exc : ∀ n x, nineEx.lookup n = some x → ExcOk X (cl n) x) {sg : Scope} {g : Addr} {cdg : Value} {bg : List Stmt} {q : Str}
    (S : FnScope heardN ["deed"] sg) (hr : Room 1 X.A) (hm : mHeard sg bg = true) : LamX.GivesTo X heardN "_law_heard" sg g cdg bg "deed" q (TTh X.K T) := by
  intro f c' s H Q tl act hc h
  obtain ⟨F, t, R0, h⟩ := h
  have ok := heardT_ok (g := g) (cdg := cdg) hcl hpw free nine exc S s H (hr.deeper _)
  unfold mHeard at hm
  split at hm
  · rename_i a1 q1 a2 q2 k1 q3 j1 q4 j2 q5 k2 q6 q7 a3 q8 a4 q9 q10 q11 a5 q12 a6 a7 q13 a8 q14 q15 q16 q17 rest
    obtain ⟨hm, m10⟩ := and2 hm
    obtain ⟨hm, m9⟩ := and2 hm
    obtain ⟨hm, m8⟩ := and2 hm
    obtain ⟨hm, m7⟩ := and2 hm
    obtain ⟨hm, m6⟩ := and2 hm
    obtain ⟨hm, m5⟩ := and2 hm
    obtain ⟨hm, m4⟩ := and2 hm
    obtain ⟨hm, m3⟩ := and2 hm
    obtain ⟨m1, m2⟩ := and2 hm
    obtain rfl := of_decide_eq_true m4
    obtain rfl := of_decide_eq_true m5
    have ok0 := ok H H
    obtain ⟨n1, l1, f1⟩ := tgtB_of ok0 m1
    obtain ⟨n2, l2, f2⟩ := tgtB_of ok0 m2
    obtain ⟨n3, l3, f3⟩ := tgtB_of ok0 m3
    obtain ⟨n7, l7, f7⟩ := tgtB_of ok0 m8
    obtain ⟨n8, v8, d8, c8⟩ := varB_of ok0 m9
    obtain ⟨n6, l6, _⟩ := locAt_of ok0 m7
    obtain ⟨g5, d5, _⟩ := glB_of ok0 m6
    have nd := S.nd
    have st1 := ps_asg (X := (cxOf C8.CX0 X.prog X.w X.K X.mg X.base heardN "_law_heard" sg g cdg X.A X.stack s H C8.E0).nox) (pos := q7) (pe_tup (x1 := k2) (pos := q6) (pa_cons (pe_non (j := j1) (pos := q4)) (pa_cons (pe_non (j := j2) (pos := q5)) pa_nil rfl) rfl))
      (pg_tup (pos := q3) (k := k1) rfl (pgs_cons (pg_name (pos := q1) nd n1 l1 f1) (pgs_cons (pg_name (pos := q2) nd n2 l2 f2) pgs_nil))) rfl (none_of (c := csH sg) rfl (by simp [noneB]; exact .inr ⟨rfl, rfl⟩)) rfl
    have st2 := ps_try_keep (X := (cxOf C8.CX0 X.prog X.w X.K X.mg X.base heardN "_law_heard" sg g cdg X.A X.stack s H C8.E0).nox) (i := 3) (c := .ref CF) (x := "FormError") (np := q12) (pos := q17) (pos' := q16) (suite := []) (b₀ := .Assign [.Name a7 q13] (.Name a8 q14) q15)
      (tb := fun W D σ H => ∃ (Ech : XK) (Qch : VK), (∀ cls d σ' H', Ech cls d H' → W cls d σ' H') ∧ (∀ v H', Qch v H' → D.nx (σ.set 2 (some v)) H') ∧ σ[0]? = some (some (.ref f)) ∧ H c' = some (LamX.CodeO c' q) ∧ tl Ech H Qch)
      (ts := fun _ _ _ => tAsg (tVar 3) (gName 1)) (body := [.Assign [.Name a3 q8] (.Call (.Name "deed" q9) [] [] q10) q11]) rfl rfl rfl nd n6 l6 ⟨g5, d5, .inl hk.form⟩ (fun W pn xe tk _ => ?_) (fun a oe cls d pn _ _ => pss_one (asg_plain (by exact nd) n7 l7 (pe_var n8 v8 d8 c8) (sw_plain rfl) f7))
    refine ⟨_, pss_cons st1 (pss_cons st2 (u := fun D σ H => ∃ F0 H0, tS ⟨X.K, T, F0, H0, fun _ _ => False⟩ (evSs G0 cs0 heardT) D σ H) ⟨fun pins s1 σ H1 D I ⟨F0, H0, h⟩ => (sSs (ok F0 H0) heardT m10).run pins s1 σ H1 D I h⟩), ?_⟩
    · refine ⟨by decide, fun p hp => ⟨p, _, rfl, .inl (.inl upd_same), rfl, .non, _, rfl, .non, _, rfl, rfl, ?_⟩⟩
      have bF := R0.newF (o := .tup [.non, .non]) hp
      refine ⟨_, _, fun cls d σ' H' z => ?_, fun v H' z => ?_, rfl, by rw [upd_ne (ne_of_none hc hp)]; exact hc, h _ _ bF⟩
      · obtain ⟨n, F', t', hn, rfl, rfl, RF, hq⟩ := z
        rw [hcl]
        refine ⟨rfl, hk.exm n hn, fun hl a ha => ⟨.ref a, ?_, fun ha2 => ?_⟩⟩
        · have hl : σ'.length = 7 := hl
          rw [List.getElem?_set_self (by rw [hl]; decide)]
        · subst hcl
          exact ⟨_, _, tail_exc hn RF ha2 hl hq⟩
      · obtain ⟨F', t', d, RF, rv, hq⟩ := z
        exact ⟨_, _, tail_told RF rv hq⟩
    · refine ⟨fun pins s' σ H' D I h' => ?_⟩
      obtain ⟨Ech, Qch, hW, hQ, h1, h2, h3⟩ := h'
      have hp := act W pn xe Ech q9 q10 tk hW
      have hp2 : PE _ (.Call (.Name "deed" q9) [] [] q10) (fun σZ HZ Q => ∃ Qch : VK, (∀ v H', Qch v H' → Q v H') ∧ σZ[0]? = some (some (.ref f)) ∧ HZ c' = some (LamX.CodeO c' q) ∧ tl Ech HZ Qch) := ⟨fun pins s σ H Q I ⟨Qch, m, z⟩ => thn (hp.run pins s σ H Qch I z) fun u s1 ⟨v, H1, I1, r, w⟩ => ⟨v, H1, I1, r, m v H1 w⟩⟩
      have hq := pss_one (asg_plain (X := (cxOf C8.CX0 X.prog X.w X.K X.mg X.base heardN "_law_heard" sg g cdg X.A X.stack s H C8.E0).tr pn xe) (pos := q11) (py := q8) (i := 2) (by exact nd) n3 l3 hp2 (sw_plain rfl) f3)
      exact hq.run pins s' σ H' D I ⟨Qch, hQ, h1, h2, h3⟩
  · cases hm
end Fm

/-! ### defs: what a call tells, by levels -/
namespace Fm
open PySem PySem.Spec PyProof.Rows L2
structure Fd where
  ps : List Str
  N : List Str
  body : Ss
  lk : Bool := false
/-- the name of a lambda in a def -/
def lamQ (x : Str) : Str := x ++ ".<locals>." ++ "<lambda>"
inductive Fn where
  | df (f : Fd)
  | nat (ps : List Str) (g : List Int → List D → Tw → Res D)
def Fn.ps : Fn → List Str
  | .df f => f.ps
  | .nat ps _ => ps
structure Pg where
  tb : Tb
  fs : List Fn
  cs : Nat → D
def retD : Res (Fl × Rho) → Res D
  | .ok (.ret d, _) t => .ok d t
  | .ok (.nx, _) t => .ok .non t
  | .ok (.brk, _) _ => .bad
  | .ok (.cont, _) _ => .bad
  | .exc n t => .exc n t
  | .bad => .bad
/-- the levels up to k -/
noncomputable def lev (p : Pg) (ns : List Int) : Nat → Nat → Nat → List D → Tw → Res D
  | 0 => fun _ _ _ _ => .bad
  | k + 1 => fun m i ds t => if m ≤ k then lev p ns k m i ds t else match p.fs[i]? with
    | some (.df f) => retD (evSs ⟨k, fun d j xs ys t => match p.tb.sh[j]? with
      | some sh => lev p ns k (k - d) sh.fn (xs ++ ys ++ sh.dfl.map Cst.d) t
      | none => .bad⟩ p.cs f.body (startR f.N ds) t)
    | some (.nat _ g) => g ns ds t
    | none => .bad
noncomputable def callF (p : Pg) (ns : List Int) (k i : Nat) (ds : List D) (t : Tw) : Res D := lev p ns k k i ds t
theorem lev_le (p : Pg) (ns : List Int) : ∀ (k m : Nat), m ≤ k → lev p ns k m = lev p ns m m
  | 0, m, h => by
    obtain rfl : m = 0 := by omega
    rfl
  | k + 1, m, h => by
    by_cases hm : m ≤ k
    · rw [← lev_le p ns k m hm]
      funext i ds t
      show (if m ≤ k then _ else _) = _
      rw [if_pos hm]
    · obtain rfl : m = k + 1 := by omega
      rfl
/-- what calls tell, of level k -/
noncomputable def gam (p : Pg) (ns : List Int) (k : Nat) : Gam := ⟨k, fun d j xs ys t => match p.tb.sh[j]? with
  | some sh => callF p ns (k - d) sh.fn (xs ++ ys ++ sh.dfl.map Cst.d) t
  | none => .bad⟩
@[simp] theorem gam_low (p : Pg) (ns : List Int) (k : Nat) : (gam p ns k).low = gam p ns (k - 2) := by
  unfold gam Gam.low
  congr 1
  funext d j xs ys t
  simp only [Nat.add_comm d 2, Nat.sub_add_eq]
@[simp] theorem gam_lv (p : Pg) (ns : List Int) (k : Nat) : (gam p ns k).lv = k := rfl
theorem callF_zero {p : Pg} {ns : List Int} {i : Nat} (ds : List D) (t : Tw) : callF p ns 0 i ds t = .bad := rfl
theorem gam_lev (p : Pg) (ns : List Int) (k : Nat) : (⟨k, fun d j xs ys t => match p.tb.sh[j]? with
      | some sh => lev p ns k (k - d) sh.fn (xs ++ ys ++ sh.dfl.map Cst.d) t
      | none => .bad⟩ : Gam) = gam p ns k := by
  unfold gam
  congr 1
  funext d j xs ys t
  unfold callF
  rw [lev_le p ns k (k - d) (Nat.sub_le k d)]
theorem callF_df {p : Pg} {ns : List Int} {k i : Nat} {f : Fd} (h : p.fs[i]? = some (.df f)) (ds : List D) (t : Tw) : callF p ns (k + 1) i ds t = retD (evSs (gam p ns k) p.cs f.body (startR f.N ds) t) := by
  rw [← gam_lev]
  show (if k + 1 ≤ k then _ else _) = _
  rw [if_neg (by omega), h]
theorem callF_nat {p : Pg} {ns : List Int} {k i : Nat} {ps : List Str} {g : List Int → List D → Tw → Res D} (h : p.fs[i]? = some (.nat ps g)) (ds : List D) (t : Tw) : callF p ns (k + 1) i ds t = g ns ds t := by
  show (if k + 1 ≤ k then _ else _) = _
  rw [if_neg (by omega), h]
structure Bnd (K : PySem.W.Frag) (mg : Str → Option Value) (sh : Sh) (fa : Addr) (fd : FuncData) (ps : List Str) : Prop where
  mg : mg sh.name = some (.ref fa)
  kp : PySem.W.keepIn K (.ref fa) = true
  len : sh.np + sh.ks.length + sh.dfl.length = ps.length
  b0 : sh.ks = [] → ∃ ds, Vals (sh.dfl.map Cst.v) ds ∧ Binds K fd ps ds
  b1 : sh.ks ≠ [] → ∃ gg, KBn K fd ps sh.np sh.ks gg (fun vs zs => vs ++ zs ++ sh.dfl.map Cst.v)
structure ExcK (K : PySem.W.Frag) (mg : Str → Option Value) (C : Addr) (x : Str) : Prop where
  q : PySem.W.excIn K C He.veBase "ValueError.__new__" = true
  g : mg x = some (.ref C)
  k : PySem.W.keepIn K (.ref C) = true
  s : PySem.W.subIn K (.ref C) (.type "BaseException") = some true
  t : PySem.W.typeIn K (.ref C) = some (.type "type")
/-- what the head tells -/
structure Hd (p : Pg) (P : Program) (w : World) (K : PySem.W.Frag) (mg : Str → Option Value) (base : Heap) (cl : Nat → Addr) (fad : Nat → Addr) (ffd : Nat → FuncData) (tabs : List (Addr × Str)) : Prop where
  free : ∀ x ∈ freeNames, mg x = none
  con : ∀ (g : Nat) (x : Str), p.tb.cs[g]? = some x → ∃ u v, mg x = some u ∧ RelV v u ∧ ∀ T, Rp K T (fun _ => none) v (p.cs g)
  conT : ∀ (g : Nat) (x : Str), p.tb.cs[g]? = some x → isSq false (p.cs g) = true → ∃ (a : Addr) (o : Obj) (xs : List V) (ds : List D), mg x = some (.ref a) ∧ K.lookup a = some o ∧ o.cls = .type "tuple" ∧ o.dict = none ∧ p.cs g = .tup ds ∧ SqT K (fun _ => none) a xs ∧ ∀ T, RpL K T (fun _ => none) xs ds
  exc : ∀ (n : Nat) (x : Str), p.tb.ex.lookup n = some x → ExcK K mg (cl n) x
  nine : p.tb.hd = true → Nine K cl
  sh : ∀ (j : Nat) (sh : Sh), p.tb.sh[j]? = some sh → ∃ fn : Fn, p.fs[sh.fn]? = some fn ∧ Bnd K mg sh (fad sh.fn) (ffd sh.fn) fn.ps
  df : ∀ (i : Nat) (f : Fd), p.fs[i]? = some (.df f) → ∃ x params body scope dvs kws, FunD K x x params body scope dvs kws (fad i) (ffd i) ∧ FnScope f.N f.ps scope ∧ mSs p.tb f.N ⟨scope, fun _ => true, false, f.lk⟩ f.body body = true ∧
    (f.lk = true → ∀ c, (ffd i).code = .ref c → ∃ Pt, LamX.TabB base mg c Pt ∧ (Pt, lamQ x) ∈ tabs ∧ ∀ q ∈ tabs, q.1 = Pt → q.2 = lamQ x)
  nat : ∀ (i : Nat) (ps : List Str) (g : List Int → List D → Tw → Res D), p.fs[i]? = some (.nat ps g) → ∀ T, T.cl = cl → FnOk P w K mg base (CX P w) 1 (fad i) (ffd i) ps (spD K T cl ps.length (g T.ns))
/-- in a def's body -/
theorem mkOk {p : Pg} {P : Program} {w : World} {K : PySem.W.Frag} {mg : Str → Option Value} {base : Heap} {cl : Nat → Addr} {fad : Nat → Addr} {ffd : Nat → FuncData} {tabs : List (Addr × Str)} (hd : Hd p P w K mg base cl fad ffd tabs) (T : Tn) (hT : T.cl = cl ∧ T.pg = P ∧ T.wo = w) {k : Nat}
    (ih : ∀ j, j ≤ k → ∀ (i : Nat) (fn : Fn), p.fs[i]? = some fn → FnOk P w K mg base (CX P w) j (fad i) (ffd i) fn.ps (spD K T cl fn.ps.length (callF p T.ns j i)))
    {N ps : List Str} {x : Str} {scope : Scope} {f : Addr} {cdv : Value} {A : Around} {outer : List Env} {s : Shared} {H : Hp} {E : XK} (S : FnScope N ps scope) (hr : Room k (A.deeper (envOfC x scope s.heap.objs.size f cdv))) (F0 H0 : Hp) (lm lk : Bool)
    (hl : lk = true → LamT (cxOf (CX P w) P w K mg base N x scope f cdv A outer s H E) ⟨K, T, F0, H0, fun n H' => E (.ref (cl n)) none H'⟩)
    (hh : p.tb.hd = true → lm = true → Heard (cxOf (CX P w) P w K mg base N x scope f cdv A outer s H E) ⟨K, T, F0, H0, fun n H' => E (.ref (cl n)) none H'⟩) :
    Ok p.tb N (gam p T.ns k) p.cs cl (cxOf (CX P w) P w K mg base N x scope f cdv A outer s H E) ⟨K, T, F0, H0, fun n H' => E (.ref (cl n)) none H'⟩ ⟨scope, fun _ => true, lm, lk⟩ where
  hK := rfl
  hN := rfl
  nd := S.nd
  sc := rfl
  fn := rfl
  calm := rfl
  room := hr
  hcl := hT.1
  hpw := hT.2
  free := hd.free
  con := fun g x e => by
    obtain ⟨u, v, a, b, c⟩ := hd.con g x e
    exact ⟨u, v, a, b, c T⟩
  conT := fun g x e z => by
    obtain ⟨a, o, xs, ds, h1, h2, h3, h4, h5, h6, h7⟩ := hd.conT g x e z
    exact ⟨a, o, xs, ds, h1, h2, h3, h4, h5, h6, h7 T⟩
  call := fun d j sh e hdk => by
    obtain ⟨fn, e2, b⟩ := hd.sh j sh e
    refine ⟨fad sh.fn, ffd sh.fn, fn.ps, callF p T.ns (k - d) sh.fn, ?_, b.mg, b.kp, b.b0, b.b1, fun xs ys t => ?_⟩
    · have := ih (k - d) (Nat.sub_le k d) sh.fn fn e2
      rw [← b.len] at this
      exact this
    · show (match p.tb.sh[j]? with
        | some sh => _
        | none => _) = _
      rw [e]
  tk := by
    have tk := takes_of (X := cxOf (CX P w) P w K mg base N x scope f cdv A outer s H E) (E := E) rfl rfl rfl rfl
    exact fun u s' z => tk u s' (by
      obtain ⟨a, B, sI, pins, σ, H, cls, d, e, I, nb, up, sky, na, os, ag, wn⟩ := z
      obtain ⟨n, e1, e2, z⟩ := wn
      exact ⟨a, B, sI, pins, σ, H, cls, d, e, I, nb, up, sky, na, os, ag, by rw [e1, e2]; exact z⟩)
  own := passes_of rfl
  exc := fun n x e => by
    obtain ⟨a, b, c, d, e⟩ := hd.exc n x e
    exact ⟨a, b, c, raises_own d e⟩
  nine := hd.nine
  heard := hh
  lamT := hl
theorem fnOk {p : Pg} {P : Program} {w : World} {K : PySem.W.Frag} {mg : Str → Option Value} {base : Heap} {cl : Nat → Addr} {fad : Nat → Addr} {ffd : Nat → FuncData} {tabs : List (Addr × Str)} (hd : Hd p P w K mg base cl fad ffd tabs) (T : Tn) (hT : T.cl = cl ∧ T.pg = P ∧ T.wo = w) (hTt : T.tabs = tabs) :
    ∀ (k i : Nat) (fn : Fn), p.fs[i]? = some fn → FnOk P w K mg base (CX P w) k (fad i) (ffd i) fn.ps (spD K T cl fn.ps.length (callF p T.ns k i)) := by
  intro k
  induction k using Nat.strongRecOn with
  | ind k ih =>
  cases k with
  | zero =>
    intro i fn hf
    refine ⟨fun vs H Q E h => ?_, fun A outer s H args us vs Q E _ _ _ _ h => ?_⟩
    · obtain ⟨_, _, _, _, _, _, z⟩ := h
      rw [callF_zero] at z
      exact z.elim
    · obtain ⟨_, _, _, _, _, _, z⟩ := h
      rw [callF_zero] at z
      exact z.elim
  | succ k =>
    intro i fn hf
    cases fn with
    | nat ps g =>
      have e : callF p T.ns (k + 1) i = g T.ns := by
        funext ds t
        exact callF_nat hf ds t
      rw [e]
      exact (hd.nat i ps g hf T hT.1).mono (by omega)
    | df f =>
      obtain ⟨x, params, body, scope, dvs, kws, F, S, hm, hlk⟩ := hd.df i f hf
      obtain ⟨oc, od, dV, kV, doc, pm, an, cdv, ct, osl, efd, lk, hcd, _, _⟩ := F.ex
      obtain ⟨c0, rfl⟩ := He.codeIn_ref hcd
      rw [efd] at lk hlk ⊢
      refine fn_of lk hcd S (fun vs H Q E h => ?_) fun A outer s H vs Q E hr h => ?_
      · obtain ⟨_, _, _, _, rv, hl, _⟩ := h
        rw [rv.length, hl]
      · obtain ⟨F0, t, ds, R, rv, hl, q⟩ := h
        rw [callF_df hf] at q
        refine ⟨tS ⟨K, T, F0, H, fun n H' => E (.ref (cl n)) none H'⟩ (evSs (gam p T.ns k) p.cs f.body), ?_, F0, startR f.N ds, t, Rel.start R rv, ?_⟩
        · refine sSs (mkOk hd T hT (fun j hj => ih j (by omega)) S hr F0 H false f.lk (fun z => ?_) (fun _ z => by cases z)) f.body hm
          obtain ⟨Pt, TB, h1, h2⟩ := hlk z c0 rfl
          exact ⟨c0, Pt, TB, rfl, (by show _ ∈ T.tabs; rw [hTt]; exact h1), fun q hq => h2 q (by have hq : q ∈ T.tabs := hq; rw [hTt] at hq; exact hq)⟩
        · cases er : evSs (gam p T.ns k) p.cs f.body (startR f.N ds) t with
          | ok r t' =>
            rw [er] at q
            obtain ⟨fl, r⟩ := r
            cases fl with
            | nx => exact fun F' σ' H' _ R' => q .non F' H' R'.toRelH .non
            | ret d => exact fun v F' H' _ R' rv => q v F' H' R' rv
            | brk => exact q.elim
            | cont => exact q.elim
          | exc n t' =>
            rw [er] at q
            exact fun F' H' _ R' => q F' H' R'
          | bad =>
            rw [er] at q
            exact q.elim
end Fm

/-! ### the law's def: the town is made, then data alone -/
namespace Fm
open PySem PySem.Spec PyProof.Rows L2
def isBegun : List Stmt → Bool
  | [.Return (some (.Dict [some k1, some k2] [.Constant (.int z) _ _, .Dict [] [] _] _)) _] => isStr "count" k1 && isStr "rests" k2 && decide (z = 0)
  | _ => false
def spB : Sp := fun vs H Q _ => vs = [] ∧ ∀ a b H', H a = none → H b = none → a ≠ b → H' a = some (.dK [(.inr "count", .int 0), (.inr "rests", .ref b)]) → H' b = some (.dK []) → (∀ c, c ≠ a → c ≠ b → H' c = H c) → Q (.ref a) H'
theorem begun_ok {CX : CXT} {P : Program} {w : World} {K : PySem.W.Frag} {mg : Str → Option Value} {base : Heap} {x : Str} {params : Arguments} {body : List Stmt} {scope : Scope} {f : Addr} {fd : FuncData} (F : FunD K x x params body scope [] [] f fd) (S : FnScope [] [] scope) (hb : isBegun body = true) :
    FnOk P w K mg base CX 1 f fd [] spB := by
  refine F.ok S (fun vs H Q E h => by rw [h.1]; rfl) fun cdv A outer s H vs Q E hr h => ?_
  unfold isBegun at hb
  split at hb
  · rename_i k1 k2 z j1 q1 q2 q3 q4
    obtain ⟨hb, h3⟩ := and2 hb
    obtain ⟨h1, h2⟩ := and2 hb
    obtain ⟨a1, a2, rfl⟩ := isStr_of h1
    obtain ⟨b1, b2, rfl⟩ := isStr_of h2
    obtain rfl := of_decide_eq_true h3
    refine ⟨_, pss_one (ps_ret (pe_disp (pps_cons pe_str pe_int (pps_cons pe_str pe_dnewK pps_nil)) rfl rfl (by simp) (by simp))), ?_⟩
    obtain ⟨rfl, h⟩ := h
    intro p hp b hb
    obtain ⟨hb, hpb⟩ := upd_none hb
    refine ⟨?_, [(.inr "count", .int 0), (.inr "rests", .ref b)], rfl, by simp, ?_⟩
    · rw [upd_ne (Ne.symm hpb), upd_same]
    · refine h p b _ hp hb (Ne.symm hpb) ?_ ?_ fun c n1 n2 => ?_
      · rw [upd_same]
        rfl
      · rw [upd_ne hpb, upd_same]
      · rw [upd_ne n1, upd_ne n2, upd_ne n1]
  · cases hb
def mLaw (tb : Tb) (N : List Str) (c : Cs) (L : Ss) : List Stmt → Bool
  | .Assign [.Name y _] (.Call (.Name b _) [] [] _) _ :: rest => decide (b = "_law_begun") && glB c b && tgtB N c 1 y && mSs tb N c L rest
  | _ => false
def startL (N : List Str) (ns : List Int) : Rho := (startR N [.scr ns]).set 1 (.val .tok)
def spLaw (K : PySem.W.Frag) (tabs : List (Addr × Str)) : Sp := fun vs H Q _ => ∃ (a : Addr) (ns : List Int), vs = [.ref a] ∧ ns.length ≤ 63 ∧ (∀ z ∈ ns, Builtin.Int.intBits z ≤ 1048576) ∧ SqL K H a (ns.map V.int) ∧ (∀ p ∈ tabs, H p.1 = some (.tbl #[])) ∧ ∀ H', Q (.bl true) H'
/-- the tables left out -/
def noTab (H : Hp) : Hp := fun b => match H b with
  | some (.tbl _) => none
  | o => o
theorem noTab_same (H : Hp) : Same (noTab H) H := fun b o h => by
  unfold noTab at h
  split at h
  · cases h
  · exact h
theorem noTab_nt (H : Hp) (b : Addr) (o : HO) (h : noTab H b = some o) : NT o := fun ps z => by
  unfold noTab at h
  split at h
  · cases h
  · rename_i n
    rw [z] at h
    exact n ps h
theorem noTab_of {H : Hp} {b : Addr} {o : HO} (h : H b = some o) (n : NT o) : noTab H b = some o := by
  unfold noTab
  rw [h]
  cases o <;> first | rfl | exact absurd rfl (n _)
theorem sqL_noTab {K : PySem.W.Frag} {H : Hp} {a : Addr} {xs : List V} (h : SqL K H a xs) : SqL K (noTab H) a xs := by
  rcases h with h | h
  · rcases h with h | ⟨o, h⟩
    · exact .inl (.inl (noTab_of h (by intro _ z; cases z)))
    · exact .inl (.inr ⟨o, noTab_of h (by intro _ z; cases z)⟩)
  · exact .inr h
/-- what the head tells of the def that hears -/
structure HdH (p : Pg) (K : PySem.W.Frag) (mg : Str → Option Value) (cl : Nat → Addr) : Prop where
  ex : ∃ (g CF : Addr) (fd : FuncData) (pg : Arguments) (bg : List Stmt) (sg : Scope), FunD K "_law_heard" "_law_heard" pg bg sg [] [] g fd ∧ Binds K fd ["deed"] [] ∧ FnScope heardN ["deed"] sg ∧ mHeard sg bg = true ∧ mg "_law_heard" = some (.ref g) ∧ HeardK K mg cl CF
  nine : ∀ n x, nineEx.lookup n = some x → p.tb.ex.lookup n = some x
theorem mkHeard {p : Pg} {P : Program} {w : World} {K : PySem.W.Frag} {mg : Str → Option Value} {base : Heap} {cl : Nat → Addr} {fad : Nat → Addr} {ffd : Nat → FuncData} {tabs : List (Addr × Str)} (hd : Hd p P w K mg base cl fad ffd tabs) (hH : HdH p K mg cl) (hh : p.tb.hd = true) {X : Cx} {Q : Pm} {c Pt : Addr} (hp : X.prog = P) (hK : X.K = K) (hK2 : Q.K = K) (hmg : X.mg = mg) (hb : X.base = base) (hcl : Q.T.cl = cl)
    (hr : Room 1 X.A) (hpw : Q.T.pg = X.prog ∧ Q.T.wo = X.w) (TB : LamX.TabB base mg c Pt) (hcode : X.env.code = .ref c) (hm : (Pt, X.env.qual ++ "<lambda>") ∈ Q.T.tabs) (hu : ∀ p ∈ Q.T.tabs, p.1 = Pt → p.2 = X.env.qual ++ "<lambda>") : Heard X Q := by
  subst hp hmg hb
  obtain ⟨g, CF, fd, pg, bg, sg, F, b, S, hm1, hg, hk⟩ := hH.ex
  obtain ⟨oc, od, dV, kV, doc, pm, an, cdv, ct, osl, rfl, lk, hcd, _, _⟩ := F.ex
  subst hK
  refine ⟨g, c, Pt, pg, bg, sg, dV, kV, doc, pm, cdv, ct, oc, an, od, osl, hg, F.kp, lk, hcd, b, S, ?_, TB, hcode, hm, hu⟩
  rw [hK2]
  exact heard_gives hk hcl hpw hd.free (hd.nine hh) (fun n x e => by
    obtain ⟨a, b, c, d, e⟩ := hd.exc n x (hH.nine n x e)
    exact ⟨a, b, c, raises_own d e⟩) S hr hm1
theorem lawOk {p : Pg} {P : Program} {w : World} {K : PySem.W.Frag} {mg : Str → Option Value} {base : Heap} {cl : Nat → Addr} {fad : Nat → Addr} {ffd : Nat → FuncData} {tabs : List (Addr × Str)} (hd : Hd p P w K mg base cl fad ffd tabs) {k : Nat} {f fB : Addr} {fd fdB : FuncData} {params paramsB : Arguments} {body bodyB : List Stmt} {scope scopeB : Scope}
    {x xB : Str} {N : List Str} {L : Ss} (F : FunD K x x params body scope [] [] f fd) (S : FnScope N ["script"] scope) (hm : mLaw p.tb N ⟨scope, fun _ => true, true, false⟩ L body = true) (FB : FunD K xB xB paramsB bodyB scopeB [] [] fB fdB) (SB : FnScope [] [] scopeB) (hB : isBegun bodyB = true)
    (bB : Binds K fdB [] []) (gB : mg "_law_begun" = some (.ref fB)) (hk : 1 ≤ k) (hH : p.tb.hd = true → HdH p K mg cl ∧ ∃ Pt, (Pt, lamQ x) ∈ tabs ∧ (∀ q ∈ tabs, q.1 = Pt → q.2 = lamQ x) ∧ ∀ c, fd.code = .ref c → LamX.TabB base mg c Pt)
    (hev : ∀ ns : List Int, ns.length ≤ 63 → (∀ z ∈ ns, Builtin.Int.intBits z ≤ 1048576) → ∃ r t, evSs (gam p ns k) p.cs L (startL N ns) ⟨0, []⟩ = .ok (.ret (.bl true), r) t) : FnOk P w K mg base (CX P w) (k + 1) f fd ["script"] (spLaw K tabs) := by
  obtain ⟨oc, od, dV, kV, doc, pm, an, cdv, ct, osl, rfl, lk, hcd, _, _⟩ := F.ex
  obtain ⟨c0, rfl⟩ := He.codeIn_ref hcd
  refine fn_of lk hcd S (fun vs H Q E h => ?_) fun A outer s H vs Q E hr h => ?_
  · obtain ⟨a, ns, rfl, _⟩ := h
    rfl
  · obtain ⟨a, ns, rfl, hns, hbits, hS, htab, hQ⟩ := h
    unfold mLaw at hm
    split at hm
    · rename_i y py b pb q1 q2 rest
      obtain ⟨hm, h4⟩ := and2 hm
      obtain ⟨hm, h3⟩ := and2 hm
      obtain ⟨h1, h2⟩ := and2 hm
      obtain rfl := of_decide_eq_true h1
      have tk := takes_of (X := cxOf (CX P w) P w K mg base N x scope f (.ref c0) A outer s H E) (E := E) rfl rfl rfl rfl
      have ok : ∀ T F0 H0, (T.cl = cl ∧ T.pg = P ∧ T.wo = w) → T.ns = ns → T.tabs = tabs → Ok p.tb N (gam p ns k) p.cs cl (cxOf (CX P w) P w K mg base N x scope f (.ref c0) A outer s H E) ⟨K, T, F0, H0, fun n H' => E (.ref (cl n)) none H'⟩ ⟨scope, fun _ => true, true, false⟩ := by
        intro T F0 H0 eC eT eB
        subst eT
        refine mkOk hd T eC (fun j _ => fnOk hd T eC eB j) S hr F0 H0 true false (fun z => by cases z) fun hh _ => ?_
        obtain ⟨hH, Pt, hPt, hPu, TB⟩ := hH hh
        refine mkHeard (Pt := Pt) (c := c0) hd hH hh rfl rfl rfl rfl rfl eC.1 (hr.mono hk) eC.2 (TB c0 rfl) rfl ?_ ?_
        · show _ ∈ T.tabs
          rw [eB]
          exact hPt
        · intro p hp e
          have hp : p ∈ T.tabs := hp
          rw [eB] at hp
          exact hPu p hp e
      have ok0 := ok ⟨0, 0, 0, ns, _, cl, P, w⟩ H H ⟨rfl, rfl, rfl⟩ rfl rfl
      obtain ⟨t1, t2, t3⟩ := tgtB_of ok0 h3
      obtain ⟨g1, g2, g3⟩ := glB_of ok0 h2
      have st0 := asg_plain (pos := q2) (py := py) (by rw [ok0.hN]; exact ok0.nd) t1 t2 (pe_call0 (p := pb) (pos := q1) (begun_ok FB SB hB) (hr.mono hk) g1 gB FB.kp bB .nil (passes_call (E := E) tk fun _ _ _ _ h => h) g2) (sw_plain rfl) t3
      refine ⟨_, pss_cons st0 (u := fun D σ H' => ∃ T H0, (T.cl = cl ∧ T.pg = P ∧ T.wo = w) ∧ T.ns = ns ∧ T.tabs = tabs ∧ tS ⟨K, T, noTab H, H0, fun n H' => E (.ref (cl n)) none H'⟩ (evSs (gam p ns k) p.cs L) D σ H') ⟨fun pins s1 σ H1 D I h => ?_⟩, ?_⟩
      · obtain ⟨T, H0, eC, eT, eB, h⟩ := h
        exact (sSs (ok T (noTab H) H0 eC eT eB) L h4).run pins s1 σ H1 D I h
      · refine ⟨rfl, fun ta tb H' ha hb hne e1 e2 e3 => ?_⟩
        refine ⟨⟨ta, tb, a, ns, _, cl, P, w⟩, H', ⟨rfl, rfl, rfl⟩, rfl, rfl, noTab H, startL N ns, ⟨0, []⟩, ?_, ?_⟩
        · have fr : ∀ {b : Addr}, H b = none → noTab H b = none := fun {b} h => by
            unfold noTab
            rw [h]
          have R0 : RelH K ⟨ta, tb, a, ns, tabs, cl, P, w⟩ (noTab H) H' (noTab H) ⟨0, []⟩ H' := by
            refine ⟨fun c o h => ?_, fun _ _ h => .inl h, Same.refl _, fun _ _ h _ _ _ => h, fun _ h => h, ⟨e1, e2, hne, Nat.zero_le _⟩, fr ha, fr hb, sqL_noTab hS, fun q hq => ?_, noTab_nt H⟩
            · have h := noTab_same H _ _ h
              have n1 : c ≠ ta := fun z => by
                rw [z, ha] at h
                cases h
              have n2 : c ≠ tb := fun z => by
                rw [z, hb] at h
                cases h
              rw [e3 c n1 n2]
              exact h
            · obtain ⟨P0, qn⟩ := q
              have h : H P0 = _ := htab (P0, qn) hq
              refine LamX.TabS.nil ?_
              have n1 : P0 ≠ ta := fun z => by
                rw [z, ha] at h
                cases h
              have n2 : P0 ≠ tb := fun z => by
                rw [z, hb] at h
                cases h
              show H' P0 = _
              rw [e3 P0 n1 n2]
              exact h
          have hN2 : 1 < N.length := (List.getElem?_eq_some_iff.mp t1).1
          refine ⟨R0, ?_, fun i d h => ?_, fun i d h => ?_, fun i j d e q h => ?_⟩
          · unfold startL startR L2.start
            simp
          · by_cases hi : 1 = i
            · subst hi
              unfold startL at h
              rw [List.getElem?_set_self (by unfold startR; simp; omega)] at h
              cases h
              refine ⟨.ref ta, ?_, .tok⟩
              rw [List.getElem?_set_self (by unfold L2.start; simp; omega)]
            · unfold startL at h
              rw [List.getElem?_set_ne hi] at h
              rw [List.getElem?_set_ne hi]
              rcases map_get h with ⟨d', z, e⟩ | z
              · cases z
                cases i with
                | zero =>
                  cases e
                  exact ⟨.ref a, rfl, .scr⟩
                | succ i => simp at e
              · cases z
          · unfold startL at h
            by_cases hi : 1 = i
            · subst hi
              rw [List.getElem?_set_self (by unfold startR; simp; omega)] at h
              cases h
            · rw [List.getElem?_set_ne hi] at h
              rcases map_get h with ⟨d', z, e⟩ | z <;> cases z
          · unfold startL at h
            by_cases hi : 1 = i
            · subst hi
              rw [List.getElem?_set_self (by unfold startR; simp; omega)] at h
              cases h
            · rw [List.getElem?_set_ne hi] at h
              rcases map_get h with ⟨d', z, e⟩ | z <;> cases z
        · obtain ⟨r, t, er⟩ := hev ns hns hbits
          rw [er]
          intro v F' H2 _ _ rv
          cases rv
          exact hQ H2
    · cases hm
end Fm

/-! ### the head: constants too -/
namespace Fm
open PySem PySem.Spec PyProof.Rows L2
mutual
/-- the value, in the written part, bears the datum -/
def dvB (K : PySem.W.Frag) : D → Value → Bool
  | .non, u => He.relB .non u
  | .bl b, u => He.relB (.bl b) u
  | .int i, u => He.relB (.int i) u
  | .str x, u => He.relB (.str x) u
  | .tup ds, .ref a => (match K.lookup a with
    | some ⟨.type c, none, .seq its _, _⟩ => decide (c = "tuple") && (decide (its.size ≤ sizeLine) && dvsB K ds its.toList)
    | _ => false)
  | _, _ => false
def dvsB (K : PySem.W.Frag) : List D → List Value → Bool
  | [], [] => true
  | d :: ds, u :: us => dvB K d u && dvsB K ds us
  | _, _ => false
end
mutual
theorem dvB_ok {K : PySem.W.Frag} : ∀ (d : D) {u : Value}, dvB K d u = true → ∃ v, RelV v u ∧ ∀ T, Rp K T (fun _ => none) v d
  | .non, u, h => ⟨.non, He.relB_ok (by rw [dvB] at h; exact h), fun _ => .non⟩
  | .bl b, u, h => ⟨.bl b, He.relB_ok (by rw [dvB] at h; exact h), fun _ => .bl b⟩
  | .int i, u, h => ⟨.int i, He.relB_ok (by rw [dvB] at h; exact h), fun _ => .int i⟩
  | .str x, u, h => ⟨.str x, He.relB_ok (by rw [dvB] at h; exact h), fun _ => .str x⟩
  | .tup ds, u, h => by
    cases u with
    | ref a =>
      rw [dvB] at h
      cases q : K.lookup a with
      | none =>
        rw [q] at h
        cases h
      | some o =>
        obtain ⟨oc, od, dt, osl⟩ := o
        rw [q] at h
        cases oc with
        | type c =>
          cases od with
          | some _ => cases dt <;> cases h
          | none =>
          cases dt with
          | seq its n =>
            obtain ⟨h1, h2⟩ := and2 (show (decide (c = "tuple") && (decide (its.size ≤ sizeLine) && dvsB K ds its.toList)) = true from h)
            obtain ⟨h3, h4⟩ := and2 h2
            obtain ⟨vs, r, t⟩ := dvsB_ok ds h4
            refine ⟨.ref a, rfl, fun T => .tup (xs := vs) ⟨.inr ⟨_, its, n, q, congrArg Value.type (of_decide_eq_true h1), rfl, of_decide_eq_true h3, r⟩, .inr ⟨_, q, rfl⟩⟩ ?_ (t T)⟩
            have := r.length
            have h3 := of_decide_eq_true h3
            rw [this]
            simpa using h3
          | _ => cases h
        | _ => cases od <;> cases dt <;> cases h
    | _ => rw [dvB] at h <;> first | cases h | (intros; intro z; cases z)
  | .lst ds, u, h => by cases u <;> (rw [dvB] at h <;> first | cases h | (intros; intro z; cases z))
  | .dct ds, u, h => by cases u <;> (rw [dvB] at h <;> first | cases h | (intros; intro z; cases z))
  | .tok, u, h => by cases u <;> (rw [dvB] at h <;> first | cases h | (intros; intro z; cases z))
  | .scr _, u, h => by cases u <;> (rw [dvB] at h <;> first | cases h | (intros; intro z; cases z))
  | .exc _, u, h => by cases u <;> (rw [dvB] at h <;> first | cases h | (intros; intro z; cases z))
  | .dcn _, u, h => by cases u <;> (rw [dvB] at h <;> first | cases h | (intros; intro z; cases z))
theorem dvsB_ok {K : PySem.W.Frag} : ∀ (ds : List D) {us : List Value}, dvsB K ds us = true → ∃ vs, Vals vs us ∧ ∀ T, RpL K T (fun _ => none) vs ds
  | [], [], _ => ⟨[], .nil, fun _ => .nil⟩
  | [], _ :: _, h => by simp [dvsB] at h
  | _ :: _, [], h => by simp [dvsB] at h
  | d :: ds, u :: us, h => by
    rw [dvsB] at h
    obtain ⟨h1, h2⟩ := and2 h
    obtain ⟨v, r, t⟩ := dvB_ok d h1
    obtain ⟨vs, r2, t2⟩ := dvsB_ok ds h2
    exact ⟨v :: vs, .cons r r2, fun T => .cons (t T) (t2 T)⟩
end
def mgB (K : PySem.W.Frag) (x : Str) (d : D) : Bool := match PySem.W.nsIn K mainGlobals x with
  | some (some u) => dvB K d u
  | _ => false
theorem mgB_ok {K : PySem.W.Frag} {h : Heap} {mg : Str → Option Value} (X : K.In h) (G : h.Ns mainGlobals mg) {x : Str} {d : D} (c : mgB K x d = true) : ∃ u v, mg x = some u ∧ RelV v u ∧ ∀ T, Rp K T (fun _ => none) v d := by
  unfold mgB at c
  cases e : PySem.W.nsIn K mainGlobals x with
  | none =>
    rw [e] at c
    cases c
  | some o =>
    rw [e] at c
    cases o with
    | none => cases c
    | some u =>
      obtain ⟨v, r, t⟩ := dvB_ok d c
      exact ⟨u, v, PySem.W.mg_of X G e, r, t⟩
theorem mgT_ok {K : PySem.W.Frag} {h : Heap} {mg : Str → Option Value} (X : K.In h) (G : h.Ns mainGlobals mg) {x : Str} {ds : List D} (c : mgB K x (.tup ds) = true) :
    ∃ (a : Addr) (o : Obj) (xs : List V), mg x = some (.ref a) ∧ K.lookup a = some o ∧ o.cls = .type "tuple" ∧ o.dict = none ∧ SqT K (fun _ => none) a xs ∧ ∀ T, RpL K T (fun _ => none) xs ds := by
  unfold mgB at c
  cases e : PySem.W.nsIn K mainGlobals x with
  | none =>
    rw [e] at c
    cases c
  | some o =>
    rw [e] at c
    cases o with
    | none => cases c
    | some u =>
      have hm := PySem.W.mg_of X G e
      have c : dvB K (.tup ds) u = true := c
      cases u with
      | ref a =>
        rw [dvB] at c
        cases q : K.lookup a with
        | none =>
          rw [q] at c
          cases c
        | some o =>
          obtain ⟨oc, od, dt, osl⟩ := o
          rw [q] at c
          cases oc with
          | type cc =>
            cases od with
            | some _ => cases dt <;> cases c
            | none =>
            cases dt with
            | seq its n =>
              obtain ⟨h1, h2⟩ := and2 (show (decide (cc = "tuple") && (decide (its.size ≤ sizeLine) && dvsB K ds its.toList)) = true from c)
              obtain ⟨h3, h4⟩ := and2 h2
              obtain ⟨vs, r, t⟩ := dvsB_ok ds h4
              exact ⟨a, _, vs, hm, q, congrArg Value.type (of_decide_eq_true h1), rfl, .inr ⟨_, its, n, q, congrArg Value.type (of_decide_eq_true h1), rfl, of_decide_eq_true h3, r⟩, t⟩
            | _ => cases c
          | _ => cases od <;> cases dt <;> cases c
      | _ => rw [dvB] at c <;> first | cases c | (intros; intro z; cases z)
/-! ### the Hook -/
def clOf (ex : List (Nat × Str)) (K : PySem.W.Frag) (n : Nat) : Addr := match ex.lookup n with
  | some x => He.ga K x
  | none => 0
def isBlt (o : Option (Option Value)) (id : String) : Bool := match o with
  | some (some (.builtin i)) => decide (i = id)
  | _ => false
theorem isBlt_of {o : Option (Option Value)} {id : String} (h : isBlt o id = true) : o = some (some (.builtin id)) := by
  unfold isBlt at h
  split at h
  · rw [of_decide_eq_true h]
  · cases h
def isNo (o : Option (Option Value)) : Bool := match o with
  | some none => true
  | _ => false
theorem isNo_of {o : Option (Option Value)} (h : isNo o = true) : o = some none := by
  unfold isNo at h
  split at h
  · rfl
  · cases h
def excCB (K : PySem.W.Frag) (D : Addr) : Bool := isBlt (PySem.W.findIn K (.ref D) "__getattribute__") "BaseException.__getattribute__" && isNo (PySem.W.findIn K (.ref D) "__getattr__") && decide (PySem.W.subIn K (.ref D) (.type "BaseException") = some true) && PySem.W.hasDictIn K D && isBlt (PySem.W.findIn K (.ref D) "__class__") "object.__class__" &&
  isBlt (PySem.W.specialIn K (.builtin "object.__class__") "__get__") "getset_descriptor.__get__" && decide (PySem.W.takesIn K (.builtin "object.__class__") = some true) && decide (PySem.W.mroIn K D (.type "object") = some true)
theorem excCB_ok {K : PySem.W.Frag} {D : Addr} (h : excCB K D = true) : ExcC K D := by
  unfold excCB at h
  obtain ⟨h, h8⟩ := and2 h
  obtain ⟨h, h7⟩ := and2 h
  obtain ⟨h, h6⟩ := and2 h
  obtain ⟨h, h5⟩ := and2 h
  obtain ⟨h, h4⟩ := and2 h
  obtain ⟨h, h3⟩ := and2 h
  obtain ⟨h1, h2⟩ := and2 h
  exact ⟨isBlt_of h1, isNo_of h2, of_decide_eq_true h3, h4, isBlt_of h5, isBlt_of h6, of_decide_eq_true h7, of_decide_eq_true h8⟩
/-- the nine classes -/
def nineB (ex : List (Nat × Str)) (K : PySem.W.Frag) : Bool := (List.range 9).all fun m => excCB K (clOf ex K m) && decide (PySem.W.kitOne K (.ref (clOf ex K m)) (.type "ValueError") = some true) && decide (PySem.W.exmOne K (.ref (clOf ex K m)) (.ref (He.ga K "FormError")) = some true) &&
  (List.range 9).all fun n => decide (PySem.W.kitOne K (.ref (clOf ex K m)) (.ref (clOf ex K n)) = some (decide (m = n)))
theorem nineB_ok {ex : List (Nat × Str)} {K : PySem.W.Frag} (h : nineB ex K = true) : Nine K (clOf ex K) ∧ ∀ n, n < 9 → PySem.W.exmOne K (.ref (clOf ex K n)) (.ref (He.ga K "FormError")) = some true := by
  have key : ∀ m, m < 9 → _ := fun m hm => List.all_eq_true.mp h m (List.mem_range.mpr hm)
  refine ⟨⟨fun m hm => ?_, fun m n hm hn => ?_, fun m hm => ?_⟩, fun m hm => ?_⟩
  all_goals
    obtain ⟨h, h4⟩ := and2 (key m hm)
    obtain ⟨h, h3⟩ := and2 h
    obtain ⟨h1, h2⟩ := and2 h
  · exact excCB_ok h1
  · exact of_decide_eq_true (List.all_eq_true.mp h4 n (List.mem_range.mpr hn))
  · exact of_decide_eq_true h2
  · exact of_decide_eq_true h3
/-- the head's Bool -/
def tfOf (hd : Bool) (lks : List Str) : List He.Defn := (if hd then [(("law" : Str), none)] else ([] : List He.Defn)) ++ lks.map fun x => ((x, none) : He.Defn)
def exB (hd : Bool) (lks : List Str) (ex : List (Nat × Str)) (cst : List (Str × D)) (K : PySem.W.Frag) : Bool := (cst.all fun p => mgB K p.1 p.2) && (!hd || nineB ex K) && decide (((tfOf hd lks).map fun q => (He.cT K q).2).Nodup)
/-- the tables -/
def tbOf (hd : Bool) (lks : List Str) (K : PySem.W.Frag) : List (Addr × Str) := (tfOf hd lks).map fun q => ((He.cT K q).2, lamQ q.1)
structure SaysC (fa : List He.Fa) (fn : List He.DefD) (cst : List (Str × D)) (K : PySem.W.Frag) : Prop where
  d : He.SaysD fa fn K
  co : (cst.all fun p => mgB K p.1 p.2) = true
theorem SaysC.con {fa : List He.Fa} {fn : List He.DefD} {cst : List (Str × D)} {K : PySem.W.Frag} (c : SaysC fa fn cst K) (i : Nat) {x : Str} {d : D} (h : cst[i]? = some (x, d)) : mgB K x d = true :=
  List.all_eq_true.mp c.co _ (List.mem_of_getElem? h)
/-- a def's check -/
def fdB (tb : Tb) (f : Fd) (d : He.DefD) : Bool := scB f.N f.ps d.scope && mSs tb f.N ⟨d.scope, fun _ => true, false, f.lk⟩ f.body d.body && decide (d.name = d.qual)
end Fm

/-! ### the head's facts, all together -/
namespace Fm
open PySem PySem.Spec PyProof.Rows L2
def faOf (fn : List He.DefD) (ex : List (Nat × Str)) (hd : Bool) : List He.Fa := fn.map (fun d => .glo d.name) ++ (ex.map (fun q => .glo q.2) ++ (ex.map (fun q => .exc q.2) ++ (freeNames.map .free ++ (if hd then [.glo "FormError"] else []))))
def fadOf (fn : List He.DefD) (K : PySem.W.Frag) (i : Nat) : Addr := match fn[i]? with
  | some d => He.fAd K d.at_
  | none => 0
abbrev FunAt (K : PySem.W.Frag) (d : He.DefD) (fd : FuncData) : Prop := FunD K d.name d.qual d.params d.body d.scope (d.dvs K) (d.kws K) (He.fAd K d.at_) fd
section
variable {fn : List He.DefD} {ex : List (Nat × Str)} {hd : Bool} {cst : List (Str × D)} {K : PySem.W.Frag} {h : Heap} {mg : Str → Option Value}
theorem fun_all {fa : List He.Fa} (c : SaysC fa fn cst K) {d0 : He.DefD} (h0 : fn[0]? = some d0) : ∃ ffd : Nat → FuncData, ∀ (i : Nat) (d : He.DefD), fn[i]? = some d → FunAt K d (ffd i) := by
  refine Classical.axiomOfChoice (r := fun i fd => ∀ d, fn[i]? = some d → FunAt K d fd) fun i => ?_
  cases e : fn[i]? with
  | none => exact ⟨(c.d.def_ 0 h0).choose, fun d z => by cases z⟩
  | some d =>
    obtain ⟨fd, hf⟩ := c.d.def_ i e
    exact ⟨fd, fun d' z => by cases z; exact hf⟩
theorem fact_of {fa : List He.Fa} (c : SaysC fa fn cst K) {f : He.Fa} (m : f ∈ fa) : f.ok K = true := by
  obtain ⟨i, e⟩ := List.mem_iff_getElem?.mp m
  exact c.d.fact i e
theorem free_all (X : K.In h) (G : h.Ns mainGlobals mg) (c : SaysC (faOf fn ex hd) fn cst K) : ∀ x ∈ freeNames, mg x = none := fun x hx =>
  He.free_ok X G (fact_of c (List.mem_append_right _ (List.mem_append_right _ (List.mem_append_right _ (List.mem_append_left _ (List.mem_map_of_mem hx))))))
theorem glo_all (X : K.In h) (G : h.Ns mainGlobals mg) (c : SaysC (faOf fn ex hd) fn cst K) {i : Nat} {d : He.DefD} (e : fn[i]? = some d) (ha : d.at_ = (d.name, none)) : mg d.name = some (.ref (He.fAd K d.at_)) := by
  have := He.glo_ok X G (fact_of c (List.mem_append_left _ (List.mem_map_of_mem (f := fun d : He.DefD => He.Fa.glo d.name) (List.mem_of_getElem? e))))
  rw [ha]
  exact this
theorem mem_lookup' {l : List (Nat × Str)} {n : Nat} {x : Str} (h : l.lookup n = some x) : (n, x) ∈ l := by
  induction l with
  | nil => cases h
  | cons q r ih =>
    obtain ⟨m, y⟩ := q
    rw [List.lookup_cons] at h
    split at h
    · rename_i z
      cases h
      rw [eq_of_beq z]
      exact List.mem_cons_self
    · exact List.mem_cons_of_mem _ (ih h)
theorem exc_all (X : K.In h) (G : h.Ns mainGlobals mg) (c : SaysC (faOf fn ex hd) fn cst K) (n : Nat) (x : Str) (e : ex.lookup n = some x) : ExcK K mg (clOf ex K n) x := by
  have m : (n, x) ∈ ex := mem_lookup' e
  have h1 := He.glo_ok X G (fact_of c (List.mem_append_right _ (List.mem_append_left _ (List.mem_map_of_mem (f := fun q : Nat × Str => He.Fa.glo q.2) m))))
  obtain ⟨a1, a2, a3, a4⟩ := He.exc_ok (fact_of c (List.mem_append_right _ (List.mem_append_right _ (List.mem_append_left _ (List.mem_map_of_mem (f := fun q : Nat × Str => He.Fa.exc q.2) m)))))
  have e2 : clOf ex K n = He.ga K x := by
    unfold clOf
    rw [e]
  rw [e2]
  exact ⟨a1, h1, a2, a3, a4⟩
def csOf (cst : List (Str × D)) (g : Nat) : D := match cst[g]? with
  | some q => q.2
  | none => .non
theorem con_all {fa : List He.Fa} (X : K.In h) (G : h.Ns mainGlobals mg) (c : SaysC fa fn cst K) (g : Nat) (x : Str) (e : (cst.map (·.1))[g]? = some x) : ∃ u v, mg x = some u ∧ RelV v u ∧ ∀ T, Rp K T (fun _ => none) v (csOf cst g) := by
  rw [List.getElem?_map] at e
  obtain ⟨q, e1, e2⟩ := Option.map_eq_some_iff.mp e
  subst e2
  have e3 : csOf cst g = q.2 := by
    unfold csOf
    rw [e1]
  rw [e3]
  exact mgB_ok X G (c.con g e1)
theorem conT_all {fa : List He.Fa} (X : K.In h) (G : h.Ns mainGlobals mg) (c : SaysC fa fn cst K) (g : Nat) (x : Str) (e : (cst.map (·.1))[g]? = some x) (z : isSq false (csOf cst g) = true) : ∃ (a : Addr) (o : Obj) (xs : List V) (ds : List D), mg x = some (.ref a) ∧ K.lookup a = some o ∧ o.cls = .type "tuple" ∧ o.dict = none ∧ csOf cst g = .tup ds ∧ SqT K (fun _ => none) a xs ∧ ∀ T, RpL K T (fun _ => none) xs ds := by
  rw [List.getElem?_map] at e
  obtain ⟨q, e1, e2⟩ := Option.map_eq_some_iff.mp e
  subst e2
  have e3 : csOf cst g = q.2 := by
    unfold csOf
    rw [e1]
  have hc := c.con g e1
  rw [e3] at z ⊢
  obtain ⟨x, d⟩ := q
  cases d with
  | tup ds =>
    obtain ⟨a, o, xs, h1, h2, h3, h4, h5, h6⟩ := mgT_ok X G hc
    exact ⟨a, o, xs, ds, h1, h2, h3, h4, rfl, h5, h6⟩
  | _ => cases z
/-- the defs' check -/
def okDefs (tb : Tb) (lks : List Str) (fs : List Fd) (fn : List He.DefD) : Bool := decide (fs.length ≤ fn.length) && (fs.zip fn).all (fun q => fdB tb q.1 q.2 && (!q.1.lk || decide (q.2.name ∈ lks))) && fn.all fun d => decide (d.at_ = (d.name, none)) && decide (d.name = d.qual)
structure ShOk (p : Pg) (fn : List He.DefD) : Prop where
  sh : ∀ (K : PySem.W.Frag) (mg : Str → Option Value) (ffd : Nat → FuncData), (∀ (i : Nat) (d : He.DefD), fn[i]? = some d → FunAt K d (ffd i)) → (∀ (i : Nat) (d : He.DefD), fn[i]? = some d → mg d.name = some (.ref (He.fAd K d.at_))) →
    ∀ (j : Nat) (sh : Sh), p.tb.sh[j]? = some sh → ∃ f : Fn, p.fs[sh.fn]? = some f ∧ Bnd K mg sh (fadOf fn K sh.fn) (ffd sh.fn) f.ps
theorem tab_of {lks : List Str} (nd : ((tfOf hd lks).map fun q => (He.cT K q).2).Nodup) {q : He.Defn} (hq : q ∈ tfOf hd lks) : ((He.cT K q).2, lamQ q.1) ∈ tbOf hd lks K ∧ ∀ p ∈ tbOf hd lks K, p.1 = (He.cT K q).2 → p.2 = lamQ q.1 := by
  refine ⟨List.mem_map.mpr ⟨q, hq, rfl⟩, fun p hp e => ?_⟩
  obtain ⟨q', hq', rfl⟩ := List.mem_map.mp hp
  have e : (He.cT K q').2 = (He.cT K q).2 := e
  have : q' = q := by
    have inj : ∀ (l : List He.Defn), (l.map fun q => (He.cT K q).2).Nodup → ∀ a ∈ l, ∀ b ∈ l, (He.cT K a).2 = (He.cT K b).2 → a = b := by
      intro l
      induction l with
      | nil => intro _ a ha; cases ha
      | cons x l ih =>
        intro hn a ha b hb e
        rw [List.map_cons, List.nodup_cons] at hn
        rcases List.mem_cons.mp ha with ha | ha
        · rcases List.mem_cons.mp hb with hb | hb
          · rw [ha, hb]
          · exact absurd (List.mem_map.mpr ⟨b, hb, by rw [← e, ha]⟩) hn.1
        · rcases List.mem_cons.mp hb with hb | hb
          · exact absurd (List.mem_map.mpr ⟨a, ha, by rw [e, hb]⟩) hn.1
          · exact ih hn.2 a ha b hb e
    exact inj _ nd q' hq' q hq e
  rw [this]
theorem mkHd {lks : List Str} {fs : List Fd} {shs : List Sh} (P : Program) (w : World) (base : Heap) (X : K.In h) (G : h.Ns mainGlobals mg) (c : SaysC (faOf fn ex hd) fn cst K) (ok : okDefs ⟨shs, cst.map (·.1), ex, hd⟩ lks fs fn = true) (so : ShOk ⟨⟨shs, cst.map (·.1), ex, hd⟩, fs.map .df, csOf cst⟩ fn) (n9 : hd = true → nineB ex K = true)
    {ffd : Nat → FuncData} (hf : ∀ (i : Nat) (d : He.DefD), fn[i]? = some d → FunAt K d (ffd i)) (nd : ((tfOf hd lks).map fun q => (He.cT K q).2).Nodup) (TB : ∀ q ∈ tfOf hd lks, LamX.TabB base mg (He.cT K q).1 (He.cT K q).2) : Hd ⟨⟨shs, cst.map (·.1), ex, hd⟩, fs.map .df, csOf cst⟩ P w K mg base (clOf ex K) (fadOf fn K) ffd (tbOf hd lks K) := by
  obtain ⟨ok, o3⟩ := and2 ok
  obtain ⟨o1, o2⟩ := and2 ok
  have at_ : ∀ (i : Nat) (d : He.DefD), fn[i]? = some d → d.at_ = (d.name, none) ∧ d.name = d.qual := fun i d e => by
    have := List.all_eq_true.mp o3 d (List.mem_of_getElem? e)
    obtain ⟨a, b⟩ := and2 this
    exact ⟨of_decide_eq_true a, of_decide_eq_true b⟩
  refine ⟨free_all X G c, con_all X G c, conT_all X G c, exc_all X G c, fun z => (nineB_ok (n9 z)).1, so.sh K mg ffd hf fun i d e => glo_all X G c e (at_ i d e).1, fun i f e => ?_, fun i ps g e => ?_⟩
  · have e : (fs.map Fn.df)[i]? = some (.df f) := e
    rw [List.getElem?_map] at e
    obtain ⟨f', e1, e2⟩ := Option.map_eq_some_iff.mp e
    cases e2
    have hi : i < fs.length := (List.getElem?_eq_some_iff.mp e1).1
    have hl := of_decide_eq_true o1
    have e3 : fn[i]? = some fn[i] := List.getElem?_eq_getElem (by omega)
    have hz : (fs.zip fn)[i]? = some (f, fn[i]) := by
      rw [List.getElem?_zip_eq_some]
      exact ⟨e1, e3⟩
    have := List.all_eq_true.mp o2 _ (List.mem_of_getElem? hz)
    obtain ⟨this, h4⟩ := and2 this
    obtain ⟨h1, h3⟩ := and2 (show (scB f.N f.ps fn[i].scope && mSs _ f.N ⟨fn[i].scope, fun _ => true, false, f.lk⟩ f.body fn[i].body && decide (fn[i].name = fn[i].qual)) = true from this)
    obtain ⟨h1, h2⟩ := and2 h1
    have F := hf i _ e3
    have h3 : fn[i].name = fn[i].qual := of_decide_eq_true h3
    have ea : fadOf fn K i = He.fAd K fn[i].at_ := by
      unfold fadOf
      rw [e3]
    have F : FunD K fn[i].name fn[i].qual fn[i].params fn[i].body fn[i].scope (fn[i].dvs K) (fn[i].kws K) (fadOf fn K i) (ffd i) := by
      rw [ea]
      exact F
    refine ⟨fn[i].name, fn[i].params, fn[i].body, fn[i].scope, fn[i].dvs K, fn[i].kws K, ?_, scB_ok h1, h2, fun z c0 hc => ?_⟩
    · rw [← h3] at F
      exact F
    · have h4 : (!f.lk || decide (fn[i].name ∈ lks)) = true := h4
      rw [z] at h4
      have h4 : fn[i].name ∈ lks := of_decide_eq_true h4
      have hq : ((fn[i].name, none) : He.Defn) ∈ tfOf hd lks := List.mem_append_right _ (List.mem_map.mpr ⟨_, h4, rfl⟩)
      obtain ⟨t1, t2⟩ := tab_of nd hq
      refine ⟨_, ?_, t1, t2⟩
      have tb0 := TB _ hq
      obtain ⟨oc, od, dV, kV, doc, pm, an, cdv, ct, osl, efd, lkL, _, _, _⟩ := F.ex
      rw [ea, (at_ i _ e3).1] at lkL
      have e2 : (He.cT K ((fn[i].name, none) : He.Defn)).1 = c0 := He.codeOf_eq lkL hc
      rw [e2] at tb0
      exact tb0
  · have e : (fs.map Fn.df)[i]? = some (.nat ps g) := e
    rw [List.getElem?_map] at e
    obtain ⟨f', e1, e2⟩ := Option.map_eq_some_iff.mp e
    cases e2
end
/-- the law's own check -/
def okLaw (tb : Tb) (N : List Str) (L : Ss) (dL dB : He.DefD) : Bool := scB N ["script"] dL.scope && mLaw tb N ⟨dL.scope, fun _ => true, true, false⟩ L dL.body && (scB [] [] dB.scope && isBegun dB.body) && (decide (dL.dfl.length = 0) && decide (dL.kwd.length = 0) && decide (dB.dfl.length = 0) && decide (dB.kwd.length = 0)) && (decide (dL.name = dL.qual) && decide (dB.name = dB.qual) && decide (dL.at_ = (dL.name, none)) && decide (dB.at_ = (dB.name, none)) && decide (dL.name = "law") && decide (dB.name = "_law_begun"))
/-- the check of the def that hears -/
def okHeard (dH : He.DefD) (ex : List (Nat × Str)) : Bool := scB heardN ["deed"] dH.scope && mHeard dH.scope dH.body && (decide (dH.dfl.length = 0) && decide (dH.kwd.length = 0)) && (decide (dH.name = dH.qual) && decide (dH.at_ = (dH.name, none)) && decide (dH.name = "_law_heard")) && decide (ex.take 9 = nineEx)
structure HearIs (fn : List He.DefD) (ex : List (Nat × Str)) (dH : He.DefD) (iH : Nat) : Prop where
  at_ : fn[iH]? = some dH
  ok : okHeard dH ex = true
  bn : ∀ (kV doc pm : Value) (an : Option Addr) (cdv ct : Value) (us : List Value), us.length = 1 → bindArgs (PySem.W.fnOf dH.name dH.qual dH.params dH.body dH.scope .none kV doc pm an cdv ct) ⟨us, []⟩ = pure ((["deed"] : List Str).zip us)
theorem lookup_take {ex : List (Nat × Str)} {n : Nat} {x : Str} (h : (ex.take 9).lookup n = some x) : ex.lookup n = some x := by
  rw [← List.take_append_drop 9 ex, List.lookup_append, h]
  rfl
theorem mkHdH {fn : List He.DefD} {ex : List (Nat × Str)} {cst : List (Str × D)} {K : PySem.W.Frag} {h : Heap} {mg : Str → Option Value} {fs : List Fn} {shs : List Sh} {csf : Nat → D} {ffd : Nat → FuncData} {dH : He.DefD} {iH : Nat} (X : K.In h) (G : h.Ns mainGlobals mg) (c : SaysC (faOf fn ex true) fn cst K) (hf : ∀ (i : Nat) (d : He.DefD), fn[i]? = some d → FunAt K d (ffd i))
    (n9 : nineB ex K = true) (Hr : HearIs fn ex dH iH) : HdH ⟨⟨shs, cst.map (·.1), ex, true⟩, fs, csf⟩ K mg (clOf ex K) := by
  have okH := Hr.ok
  unfold okHeard at okH
  obtain ⟨okH, o5⟩ := and2 okH
  obtain ⟨okH, o4⟩ := and2 okH
  obtain ⟨okH, o3⟩ := and2 okH
  obtain ⟨o1, o2⟩ := and2 okH
  obtain ⟨o3a, o3b⟩ := and2 o3
  obtain ⟨o4, o4c⟩ := and2 o4
  obtain ⟨o4a, o4b⟩ := and2 o4
  have F := hf iH dH Hr.at_
  have z1 : dH.dvs K = [] := by
    have := List.length_eq_zero_iff.mp (of_decide_eq_true o3a)
    unfold He.DefD.dvs
    rw [this]
    rfl
  have z2 : dH.kws K = [] := by
    have := List.length_eq_zero_iff.mp (of_decide_eq_true o3b)
    unfold He.DefD.kws
    rw [this]
    rfl
  unfold FunAt at F
  rw [z1, z2] at F
  have b := FunD.bindsN (ps := ["deed"]) F Hr.bn
  have g := glo_all X G c Hr.at_ (of_decide_eq_true o4b)
  have e1 : dH.name = dH.qual := of_decide_eq_true o4a
  have e2 : dH.name = "_law_heard" := of_decide_eq_true o4c
  rw [← e1, e2] at F
  rw [e2] at g
  refine ⟨⟨_, He.ga K "FormError", _, _, _, _, F, b, scB_ok o1, o2, g, ⟨?_, (nineB_ok n9).2⟩⟩, fun n x e => ?_⟩
  · exact He.glo_ok X G (fact_of c (List.mem_append_right _ (List.mem_append_right _ (List.mem_append_right _ (List.mem_append_right _ (by simp))))))
  · show ex.lookup n = some x
    refine lookup_take ?_
    rw [of_decide_eq_true o5]
    exact e
theorem lawFacts {lks : List Str} {fn : List He.DefD} {ex : List (Nat × Str)} {hd : Bool} {cst : List (Str × D)} {K : PySem.W.Frag} {h : Heap} {mg : Str → Option Value} {fs : List Fd} {shs : List Sh} {P : Program} {w : World} {f : Addr} (X : K.In h) (G : h.Ns mainGlobals mg) (c : SaysC (faOf fn ex hd) fn cst K)
    (ok : okDefs ⟨shs, cst.map (·.1), ex, hd⟩ lks fs fn = true) (so : ShOk ⟨⟨shs, cst.map (·.1), ex, hd⟩, fs.map .df, csOf cst⟩ fn) (n9 : hd = true → nineB ex K = true) (nd : ((tfOf hd lks).map fun q => (He.cT K q).2).Nodup) {N : List Str} {L : Ss} {dL dB dH : He.DefD} {iL iB iH k : Nat} (eL : fn[iL]? = some dL) (eB : fn[iB]? = some dB) (eH : hd = true → HearIs fn ex dH iH) {d0 : He.DefD} (e0 : fn[0]? = some d0)
    (okL : okLaw ⟨shs, cst.map (·.1), ex, hd⟩ N L dL dB = true) (hfa : mg ("law" : Str) = some (.ref f))
    (bL : ∀ (kV doc pm : Value) (an : Option Addr) (cdv ct : Value) (us : List Value), us.length = 1 → bindArgs (PySem.W.fnOf dL.name dL.qual dL.params dL.body dL.scope .none kV doc pm an cdv ct) ⟨us, []⟩ = pure ((["script"] : List Str).zip us))
    (bB : ∀ (kV doc pm : Value) (an : Option Addr) (cdv ct : Value) (us : List Value), us.length = 0 → bindArgs (PySem.W.fnOf dB.name dB.qual dB.params dB.body dB.scope .none kV doc pm an cdv ct) ⟨us, []⟩ = pure (([] : List Str).zip us)) (hk : 1 ≤ k)
    (hev : ∀ ns : List Int, ns.length ≤ 63 → (∀ z ∈ ns, Builtin.Int.intBits z ≤ 1048576) → ∃ r t, evSs (gam ⟨⟨shs, cst.map (·.1), ex, hd⟩, fs.map .df, csOf cst⟩ ns k) (csOf cst) L (startL N ns) ⟨0, []⟩ = .ok (.ret (.bl true), r) t) :
    ∃ fd : FuncData, (∀ (s : Shared) (v : Value), BindsTo s fd ⟨[v], []⟩ [("script", v)]) ∧ ∀ base : Heap, K.In base → base.Ns mainGlobals mg → (∀ p ∈ (tfOf hd lks).map (He.cT K), LamX.TabB base mg p.1 p.2) → FnOk P w K mg base (CX P w) (k + 1) f fd ["script"] (spLaw K (tbOf hd lks K)) := by
  obtain ⟨ffd, hf⟩ := fun_all c e0
  have FL := hf iL dL eL
  have FB := hf iB dB eB
  unfold okLaw at okL
  obtain ⟨okL, o4⟩ := and2 okL
  obtain ⟨okL, o3⟩ := and2 okL
  obtain ⟨okL, o2⟩ := and2 okL
  obtain ⟨o1a, o1b⟩ := and2 okL
  obtain ⟨o2a, o2b⟩ := and2 o2
  obtain ⟨o3, o3d⟩ := and2 o3
  obtain ⟨o3, o3c⟩ := and2 o3
  obtain ⟨o3a, o3b⟩ := and2 o3
  obtain ⟨o4, n6⟩ := and2 o4
  obtain ⟨o4, n5⟩ := and2 o4
  obtain ⟨o4, n4⟩ := and2 o4
  obtain ⟨o4, n3⟩ := and2 o4
  obtain ⟨n1, n2⟩ := and2 o4
  have z1 : dL.dvs K = [] := by
    have := List.length_eq_zero_iff.mp (of_decide_eq_true o3a)
    unfold He.DefD.dvs
    rw [this]
    rfl
  have z2 : dL.kws K = [] := by
    have := List.length_eq_zero_iff.mp (of_decide_eq_true o3b)
    unfold He.DefD.kws
    rw [this]
    rfl
  have z3 : dB.dvs K = [] := by
    have := List.length_eq_zero_iff.mp (of_decide_eq_true o3c)
    unfold He.DefD.dvs
    rw [this]
    rfl
  have z4 : dB.kws K = [] := by
    have := List.length_eq_zero_iff.mp (of_decide_eq_true o3d)
    unfold He.DefD.kws
    rw [this]
    rfl
  have FL : FunD K dL.name dL.qual dL.params dL.body dL.scope [] [] (He.fAd K dL.at_) (ffd iL) := by
    have FL := FL
    unfold FunAt at FL
    rw [z1, z2] at FL
    exact FL
  have FB : FunD K dB.name dB.qual dB.params dB.body dB.scope [] [] (He.fAd K dB.at_) (ffd iB) := by
    have FB := FB
    unfold FunAt at FB
    rw [z3, z4] at FB
    exact FB
  have gL := glo_all X G c eL (of_decide_eq_true n3)
  have gB := glo_all X G c eB (of_decide_eq_true n4)
  rw [of_decide_eq_true n5, hfa] at gL
  rw [of_decide_eq_true n6] at gB
  have ef : f = He.fAd K dL.at_ := by
    injection gL with q
    injection q
  have b := FunD.bindsA (ps := ["script"]) FL bL
  refine ⟨ffd iL, fun s v => b s [v] rfl, fun base _ _ TB => ?_⟩
  have hd' := mkHd P w base X G c ok so n9 hf nd fun q hq => TB _ (List.mem_map.mpr ⟨q, hq, rfl⟩)
  have atL : dL.at_ = (("law" : Str), none) := by
    have := of_decide_eq_true n3
    rw [of_decide_eq_true n5] at this
    exact this
  obtain ⟨oc, od, dV, kV, doc, pm, an, cdv, ct, osl, efd, lkL, _, _, _⟩ := FL.ex
  have n1 : dL.name = dL.qual := of_decide_eq_true n1
  have n2 : dB.name = dB.qual := of_decide_eq_true n2
  rw [ef]
  rw [← n1] at FL
  have bb := FunD.bindsN (ps := []) FB bB
  rw [← n2] at FB
  refine lawOk hd' FL (scB_ok o1a) o1b FB (scB_ok o2a) o2b bb gB hk (fun z => ?_) hev
  have z : hd = true := z
  subst z
  have hq : (("law", none) : He.Defn) ∈ tfOf true lks := List.mem_append_left _ (by simp)
  obtain ⟨t1, t2⟩ := tab_of nd hq
  have e3 : dL.name = "law" := of_decide_eq_true n5
  refine ⟨mkHdH X G c hf (n9 rfl) (eH rfl), (He.cT K (("law" : Str), none)).2, by rw [e3]; exact t1, by rw [e3]; exact t2, fun c0 hc => ?_⟩
  have := TB (He.cT K (("law" : Str), none)) (List.mem_map.mpr ⟨_, hq, rfl⟩)
  have e2 : (He.cT K (("law" : Str), none)).1 = c0 := by
    rw [atL] at lkL
    exact He.codeOf_eq lkL hc
  rw [e2] at this
  exact this
/-- the law's promise at the head's heap -/
theorem lawAt {l : PySem.W.OpenLaw} {lks : List Str} {fn : List He.DefD} {ex : List (Nat × Str)} {hd : Bool} {cst : List (Str × D)} {K : PySem.W.Frag} {h : Heap} {mg : Str → Option Value} {fs : List Fd} {shs : List Sh} {w : World} {f : Addr} (X : K.In h) (G : h.Ns mainGlobals mg) (c : He.SaysX (faOf fn ex hd) fn [] (tfOf hd lks) (exB hd lks ex cst) w h K)
    (ok : okDefs ⟨shs, cst.map (·.1), ex, hd⟩ lks fs fn = true) (so : ShOk ⟨⟨shs, cst.map (·.1), ex, hd⟩, fs.map .df, csOf cst⟩ fn) {N : List Str} {L : Ss} {dL dB dH : He.DefD} {iL iB iH k : Nat} (eL : fn[iL]? = some dL) (eB : fn[iB]? = some dB) (eH : hd = true → HearIs fn ex dH iH) {d0 : He.DefD} (e0 : fn[0]? = some d0)
    (okL : okLaw ⟨shs, cst.map (·.1), ex, hd⟩ N L dL dB = true) (hfa : mg ("law" : Str) = some (.ref f))
    (bL : ∀ (kV doc pm : Value) (an : Option Addr) (cdv ct : Value) (us : List Value), us.length = 1 → bindArgs (PySem.W.fnOf dL.name dL.qual dL.params dL.body dL.scope .none kV doc pm an cdv ct) ⟨us, []⟩ = pure ((["script"] : List Str).zip us))
    (bB : ∀ (kV doc pm : Value) (an : Option Addr) (cdv ct : Value) (us : List Value), us.length = 0 → bindArgs (PySem.W.fnOf dB.name dB.qual dB.params dB.body dB.scope .none kV doc pm an cdv ct) ⟨us, []⟩ = pure (([] : List Str).zip us)) (hk : 1 ≤ k)
    (hev : ∀ ns : List Int, ns.length ≤ 63 → (∀ z ∈ ns, Builtin.Int.intBits z ≤ 1048576) → ∃ r t, evSs (gam ⟨⟨shs, cst.map (·.1), ex, hd⟩, fs.map .df, csOf cst⟩ ns k) (csOf cst) L (startL N ns) ⟨0, []⟩ = .ok (.ret (.bl true), r) t) : LamX.LawAtS l w K (CX l.prog w) (k + 1) 63 "script" mg f h := by
  obtain ⟨m1, m3⟩ := and2 (show ((cst.all fun p => mgB K p.1 p.2) && (!hd || nineB ex K) && decide (((tfOf hd lks).map fun q => (He.cT K q).2).Nodup)) = true from c.more)
  obtain ⟨m1, m2⟩ := and2 m1
  obtain ⟨fd, hb, hF⟩ := lawFacts (P := l.prog) (w := w) X G ⟨c.t.d, m1⟩ ok so (fun z => by rw [z] at m2; exact m2) (of_decide_eq_true m3) eL eB eH e0 okL hfa bL bB hk hev
  have mem : ∀ {φ : Addr × Addr → Prop}, (∀ q ∈ tfOf hd lks, φ (He.cT K q)) → ∀ p ∈ (tfOf hd lks).map (He.cT K), φ p := fun {φ} h p hp => by
    obtain ⟨q, hq, e⟩ := List.mem_map.mp hp
    rw [← e]
    exact h q hq
  refine ⟨fd, (tfOf hd lks).map (He.cT K), spLaw K (tbOf hd lks K), mem c.empty, mem c.out, mem fun q hq => PySem.W.codeHd_of_K X (c.hd q hq), hb, fun H a ns hl hbits hT hS => ⟨a, ns, rfl, hl, hbits, hS, fun p hp => ?_, fun _ => rfl⟩, hF⟩
  obtain ⟨q, hq, e⟩ := List.mem_map.mp hp
  rw [← e]
  exact hT (He.cT K q) (List.mem_map.mpr ⟨q, hq, rfl⟩)
theorem cx_no {P : Program} {w : World} {H : Hp} {s : Shared} {e : Value} {s' : Shared} (z : CX P w [] H s (fun _ _ _ => False) e s') : False := by
  obtain ⟨_, _, _, _, _, _, _, _, _, _, _, _, z⟩ := z
  exact z
end Fm

/-! ### plain reckoning with the evaluator -/
namespace Fm
open PySem
section
variable {G : Gam} {cs : Nat → D} {r : Rho} {t : Tw}
@[simp] theorem x_ev_cst (k : Cst) : ev G cs (.cst k) r t = (fun _ t => .ok k.d t) r t := by first | (rw [ev_cst]; done) | (rw [ev_cst]; rfl)
@[simp] theorem x_ev_var (i : Nat) : ev G cs (.var i) r t = (fun r t => match r[i]? with
    | some (.val d) => .ok d t
    | _ => .bad) r t := by first | (rw [ev_var]; done) | (rw [ev_var]; rfl)
@[simp] theorem x_ev_bor (i : Nat) : ev G cs (.bor i) r t = (fun r t => match r[i]? with
    | some (.val d) => .ok d t
    | some (.own d) => .ok d t
    | _ => .bad) r t := by first | (rw [ev_bor]; done) | (rw [ev_bor]; rfl)
@[simp] theorem x_ev_glob (g : Nat) : ev G cs (.glob g) r t = (fun _ t => .ok (cs g) t) r t := by first | (rw [ev_glob]; done) | (rw [ev_glob]; rfl)
@[simp] theorem x_ev_bin (op : Operator) (a b : E) : ev G cs (.bin op a b) r t = (fun r t => (ev G cs a r t).bind fun x t1 => (ev G cs b r t1).bind fun y t2 => lift (binD op x y) t2) r t := by first | (rw [ev_bin]; done) | (rw [ev_bin]; rfl)
@[simp] theorem x_ev_cat (a b : E) : ev G cs (.cat a b) r t = (fun r t => (ev G cs a r t).bind fun x t1 => (ev G cs b r t1).bind fun y t2 => lift (catD x y) t2) r t := by first | (rw [ev_cat]; done) | (rw [ev_cat]; rfl)
@[simp] theorem x_ev_neg (a : E) : ev G cs (.neg a) r t = (fun r t => (ev G cs a r t).bind fun x t1 => lift (negD x) t1) r t := by first | (rw [ev_neg]; done) | (rw [ev_neg]; rfl)
@[simp] theorem x_ev_not (a : E) : ev G cs (.not a) r t = (fun r t => (ev G cs a r t).bind fun x t1 => lift (notD x) t1) r t := by first | (rw [ev_not]; done) | (rw [ev_not]; rfl)
@[simp] theorem x_ev_and (a b : E) : ev G cs (.and a b) r t = (andE (ev G cs a) (ev G cs b)) r t := by first | (rw [ev_and]; done) | (rw [ev_and]; rfl)
@[simp] theorem x_ev_or (a b : E) : ev G cs (.or a b) r t = (orE (ev G cs a) (ev G cs b)) r t := by first | (rw [ev_or]; done) | (rw [ev_or]; rfl)
@[simp] theorem x_ev_ite (k a b : E) : ev G cs (.ite k a b) r t = (iteE (ev G cs k) (ev G cs a) (ev G cs b)) r t := by first | (rw [ev_ite]; done) | (rw [ev_ite]; rfl)
@[simp] theorem x_ev_cmp (op : CmpOp) (a b : E) : ev G cs (.cmp op a b) r t = (fun r t => (ev G cs a r t).bind fun x t1 => (ev G cs b r t1).bind fun y t2 => lift (cmpD op x y) t2) r t := by first | (rw [ev_cmp]; done) | (rw [ev_cmp]; rfl)
@[simp] theorem x_ev_chain (o1 o2 : CmpOp) (a b k : E) : ev G cs (.chain o1 o2 a b k) r t = (chainE o1 o2 (ev G cs a) (ev G cs b) (ev G cs k)) r t := by first | (rw [ev_chain]; done) | (rw [ev_chain]; rfl)
@[simp] theorem x_ev_ix (a b : E) : ev G cs (.ix a b) r t = (fun r t => (ev G cs a r t).bind fun x t1 => (ev G cs b r t1).bind fun y t2 => lift (ixD x y) t2) r t := by first | (rw [ev_ix]; done) | (rw [ev_ix]; rfl)
@[simp] theorem x_ev_dix (a b : E) : ev G cs (.dix a b) r t = (fun r t => (ev G cs a r t).bind fun x t1 => (ev G cs b r t1).bind fun y t2 => lift (dixD x y) t2) r t := by first | (rw [ev_dix]; done) | (rw [ev_dix]; rfl)
@[simp] theorem x_ev_cut (a : E) (lo hi : O) : ev G cs (.cut a lo hi) r t = (cutE (ev G cs a) (evO G cs lo) (evO G cs hi)) r t := by first | (rw [ev_cut]; done) | (rw [ev_cut]; rfl)
@[simp] theorem x_ev_tup (es : Es) : ev G cs (.tup es) r t = (fun r t => (evs G cs es r t).bind fun xs t1 => if okLen xs.length then .ok (.tup xs) t1 else .bad) r t := by first | (rw [ev_tup]; done) | (rw [ev_tup]; rfl)
@[simp] theorem x_ev_lst (es : Es) : ev G cs (.lst es) r t = (fun r t => (evs G cs es r t).bind fun xs t1 => if okLen xs.length then .ok (.lst xs) t1 else .bad) r t := by first | (rw [ev_lst]; done) | (rw [ev_lst]; rfl)
@[simp] theorem x_ev_call (i : Nat) (es ks : Es) : ev G cs (.call i es ks) r t = (fun r t => (evs G cs es r t).bind fun xs t1 => (evs G cs ks r t1).bind fun ys t2 => G.f 0 i xs ys t2) r t := by first | (rw [ev_call]; done) | (rw [ev_call]; rfl)
@[simp] theorem x_ev_blt (b : Blt) (a : E) : ev G cs (.blt b a) r t = (fun r t => (ev G cs a r t).bind fun x t1 => lift (blt1 b x) t1) r t := by first | (rw [ev_blt]; done) | (rw [ev_blt]; rfl)
@[simp] theorem x_ev_isa (a : E) (T : Ty) : ev G cs (.isa a T) r t = (fun r t => (ev G cs a r t).bind fun x t1 => lift ((isaD x T).map D.bl) t1) r t := by first | (rw [ev_isa]; done) | (rw [ev_isa]; rfl)
@[simp] theorem x_ev_get (a k d : E) : ev G cs (.get a k d) r t = (getE (ev G cs a) (ev G cs k) (ev G cs d)) r t := by first | (rw [ev_get]; done) | (rw [ev_get]; rfl)
@[simp] theorem x_ev_rev (a : E) : ev G cs (.rev a) r t = (fun r t => (ev G cs a r t).bind fun x t1 => lift (revD x) t1) r t := by first | (rw [ev_rev]; done) | (rw [ev_rev]; rfl)
@[simp] theorem x_ev_heard (e : E) : ev G cs (.heard e) r t = (fun r t => if decide (2 ≤ G.lv) then heardR (ev G.low cs e (valsR r) t) else .bad) r t := by first | (rw [ev_heard]; done) | (rw [ev_heard]; rfl)
@[simp] theorem x_ev_isx (a : E) (n : Nat) : ev G cs (.isx a n) r t = (fun r t => (ev G cs a r t).bind fun x t1 => lift (isxD x n) t1) r t := by first | (rw [ev_isx]; done) | (rw [ev_isx]; rfl)
@[simp] theorem x_ev_isv (a : E) : ev G cs (.isv a) r t = (fun r t => (ev G cs a r t).bind fun x t1 => lift (isvD x) t1) r t := by first | (rw [ev_isv]; done) | (rw [ev_isv]; rfl)
@[simp] theorem x_ev_dn0 : ev G cs .dn0 r t = (fun _ t => .ok (.dcn []) t) r t := by first | (rw [ev_dn0]; done) | (rw [ev_dn0]; rfl)
@[simp] theorem x_ev_bad : ev G cs .bad r t = (fun _ _ => .bad) r t := by first | (rw [ev_bad]; done) | (rw [ev_bad]; rfl)
@[simp] theorem x_ev_sortK (a : E) (N : List Str) (e : E) : ev G cs (.sortK a N e) r t = (sortKE G.lv (ev G cs a) N (ev G.low cs e)) r t := by first | (rw [ev_sortK]; done) | (rw [ev_sortK]; rfl)
@[simp] theorem x_ev_dspE (ks : List Str) (es : Es) : ev G cs (.dspE ks es) r t = (dspEE ks (esF G cs es)) r t := by first | (rw [ev_dspE]; done) | (rw [ev_dspE]; rfl)
@[simp] theorem x_evI_keys (a : E) : evI G cs (.keys a) r t = (keysE (ev G cs a)) r t := by first | (rw [evI_keys]; done) | (rw [evI_keys]; rfl)
@[simp] theorem x_ev_idxG (g : Nat) (b : E) : ev G cs (.idxG g b) r t = (fun r t => if isSq false (cs g) then (ev G cs b r t).bind fun y t1 => lift (idxD false (cs g) y) t1 else .bad) r t := by first | (rw [ev_idxG]; done) | (rw [ev_idxG]; rfl)
@[simp] theorem x_ev_idx (a b : E) : ev G cs (.idx a b) r t = (idxE (ev G cs a) (ev G cs b)) r t := by first | (rw [ev_idx]; done) | (rw [ev_idx]; rfl)
@[simp] theorem x_evI_enumT (a : E) : evI G cs (.enumT a) r t = (enumTE (ev G cs a)) r t := by first | (rw [evI_enumT]; done) | (rw [evI_enumT]; rfl)
@[simp] theorem x_ev_tcount (i : Nat) : ev G cs (.tcount i) r t = (tcountE i) r t := by first | (rw [ev_tcount]; done) | (rw [ev_tcount]; rfl)
@[simp] theorem x_ev_tget (i : Nat) (k d : E) : ev G cs (.tget i k d) r t = (tgetE i (ev G cs k) (ev G cs d)) r t := by first | (rw [ev_tget]; done) | (rw [ev_tget]; rfl)
@[simp] theorem x_evO_none : evO G cs .none r t = (fun _ t => .ok none t) r t := by first | (rw [evO_none]; done) | (rw [evO_none]; rfl)
@[simp] theorem x_evO_some (e : E) : evO G cs (.some e) r t = (fun r t => (ev G cs e r t).bind fun x t1 => .ok (some x) t1) r t := by first | (rw [evO_some]; done) | (rw [evO_some]; rfl)
@[simp] theorem x_evs_nil : evs G cs .nil r t = (fun _ t => .ok [] t) r t := by first | (rw [evs_nil]; done) | (rw [evs_nil]; rfl)
@[simp] theorem x_evs_cons (e : E) (es : Es) : evs G cs (.cons e es) r t = (fun r t => (ev G cs e r t).bind fun x t1 => (evs G cs es r t1).bind fun xs t2 => .ok (x :: xs) t2) r t := by first | (rw [evs_cons]; done) | (rw [evs_cons]; rfl)
@[simp] theorem x_evI_val (e : E) : evI G cs (.val e) r t = (evV (ev G cs e)) r t := by first | (rw [evI_val]; done) | (rw [evI_val]; rfl)
@[simp] theorem x_evI_rng1 (a : E) : evI G cs (.rng1 a) r t = (fun r t => (ev G cs a r t).bind fun x t1 => match x with
    | .int j => if okRng j then .ok (rngD 0 j.toNat) t1 else .bad
    | _ => .bad) r t := by first | (rw [evI_rng1]; done) | (rw [evI_rng1]; rfl)
@[simp] theorem x_evI_rng2 (a b : E) : evI G cs (.rng2 a b) r t = (fun r t => (ev G cs a r t).bind fun x t1 => (ev G cs b r t1).bind fun y t2 => match x, y with
    | .int i, .int j => if okRng i && okRng j then .ok (rngD i (j - i).toNat) t2 else .bad
    | _, _ => .bad) r t := by first | (rw [evI_rng2]; done) | (rw [evI_rng2]; rfl)
@[simp] theorem x_evI_zip (a b : E) : evI G cs (.zip a b) r t = (zipE (ev G cs a) (ev G cs b)) r t := by first | (rw [evI_zip]; done) | (rw [evI_zip]; rfl)
@[simp] theorem x_evI_zipN (a b : E) : evI G cs (.zipN a b) r t = (zipNE (ev G cs a) (ev G cs b)) r t := by first | (rw [evI_zipN]; done) | (rw [evI_zipN]; rfl)
@[simp] theorem x_evI_enum (a : E) : evI G cs (.enum a) r t = (enumE (ev G cs a)) r t := by first | (rw [evI_enum]; done) | (rw [evI_enum]; rfl)
@[simp] theorem x_evS_asg (tg : Tg) (e : E) : evS G cs (.asg tg e) r t = (fun r t => (ev G cs e r t).bind fun x t1 => Fm.lift ((setT tg x r).map fun r1 => (.nx, r1)) t1) r t := by first | (rw [evS_asg]; done) | (rw [evS_asg]; rfl)
@[simp] theorem x_evS_par (is : List Nat) (es : Es) : evS G cs (.par is es) r t = (parE is (evs G cs es)) r t := by first | (rw [evS_par]; done) | (rw [evS_par]; rfl)
@[simp] theorem x_evS_star (i j : Nat) (e : E) : evS G cs (.star i j e) r t = (starE i j (ev G cs e)) r t := by first | (rw [evS_star]; done) | (rw [evS_star]; rfl)
@[simp] theorem x_evS_aug (i : Nat) (op : Operator) (e : E) : evS G cs (.aug i op e) r t = (augE i op (ev G cs e)) r t := by first | (rw [evS_aug]; done) | (rw [evS_aug]; rfl)
@[simp] theorem x_evS_ret (e : E) : evS G cs (.ret e) r t = (fun r t => (ev G cs e r t).bind fun x t1 => .ok (.ret x, r) t1) r t := by first | (rw [evS_ret]; done) | (rw [evS_ret]; rfl)
@[simp] theorem x_evS_ite (k : E) (a b : Ss) : evS G cs (.ite k a b) r t = (iteS (ev G cs k) (evSs G cs a) (evSs G cs b)) r t := by first | (rw [evS_ite]; done) | (rw [evS_ite]; rfl)
@[simp] theorem x_evS_for (tg : Tg) (it : I) (b : Ss) : evS G cs (.for tg it b) r t = (forE tg (evI G cs it) (evSs G cs b)) r t := by first | (rw [evS_for]; done) | (rw [evS_for]; rfl)
@[simp] theorem x_evS_while (k : E) (b : Ss) : evS G cs (.while k b) r t = (loopW (ev G cs k) (evSs G cs b)) r t := by first | (rw [evS_while]; done) | (rw [evS_while]; rfl)
@[simp] theorem x_evS_exp (e : E) : evS G cs (.exp e) r t = (fun r t => (ev G cs e r t).bind fun _ t1 => .ok (.nx, r) t1) r t := by first | (rw [evS_exp]; done) | (rw [evS_exp]; rfl)
@[simp] theorem x_evS_new (i : Nat) (e : E) : evS G cs (.new i e) r t = (fun r t => (ev G cs e r t).bind fun x t1 => okSet r i (.own x) t1) r t := by first | (rw [evS_new]; done) | (rw [evS_new]; rfl)
@[simp] theorem x_evS_app (i : Nat) (e : E) : evS G cs (.app i e) r t = (appE i (ev G cs e)) r t := by first | (rw [evS_app]; done) | (rw [evS_app]; rfl)
@[simp] theorem x_evS_put (i : Nat) (k e : E) : evS G cs (.put i k e) r t = (putE i (ev G cs k) (ev G cs e)) r t := by first | (rw [evS_put]; done) | (rw [evS_put]; rfl)
@[simp] theorem x_evS_upd (i : Nat) (e : E) : evS G cs (.upd i e) r t = (updE i (ev G cs e)) r t := by first | (rw [evS_upd]; done) | (rw [evS_upd]; rfl)
@[simp] theorem x_evS_ins (i : Nat) (k e : E) : evS G cs (.ins i k e) r t = (insE i (ev G cs k) (ev G cs e)) r t := by first | (rw [evS_ins]; done) | (rw [evS_ins]; rfl)
@[simp] theorem x_evS_uns (is : List Nat) (j : Nat) (es : Es) : evS G cs (.uns is j es) r t = (unsE is j (evs G cs es)) r t := by first | (rw [evS_uns]; done) | (rw [evS_uns]; rfl)
@[simp] theorem x_evS_pnl (b : Bool) (j i : Nat) (e : E) : evS G cs (.pnl b j i e) r t = (pnlE j i (ev G cs e)) r t := by first | (rw [evS_pnl]; done) | (rw [evS_pnl]; rfl)
@[simp] theorem x_evS_putL (i : Nat) (k e : E) : evS G cs (.putL i k e) r t = (putLE i (ev G cs k) (ev G cs e)) r t := by first | (rw [evS_putL]; done) | (rw [evS_putL]; rfl)
@[simp] theorem x_evS_frz (i : Nat) : evS G cs (.frz i) r t = (frzE i) r t := by first | (rw [evS_frz]; done) | (rw [evS_frz]; rfl)
@[simp] theorem x_evS_tcnt (i : Nat) (e : E) : evS G cs (.tcnt i e) r t = (tcntE i (ev G cs e)) r t := by first | (rw [evS_tcnt]; done) | (rw [evS_tcnt]; rfl)
@[simp] theorem x_evS_trst (i : Nat) (k e : E) : evS G cs (.trst i k e) r t = (trstE i (ev G cs k) (ev G cs e)) r t := by first | (rw [evS_trst]; done) | (rw [evS_trst]; rfl)
@[simp] theorem x_evS_brk : evS G cs .brk r t = (fun r t => .ok (.brk, r) t) r t := by first | (rw [evS_brk]; done) | (rw [evS_brk]; rfl)
@[simp] theorem x_evS_cont : evS G cs .cont r t = (fun r t => .ok (.cont, r) t) r t := by first | (rw [evS_cont]; done) | (rw [evS_cont]; rfl)
@[simp] theorem x_evS_raise (n : Nat) (x : Str) : evS G cs (.raise n x) r t = (fun _ t => .exc n t) r t := by first | (rw [evS_raise]; done) | (rw [evS_raise]; rfl)
@[simp] theorem x_evS_bad : evS G cs .bad r t = (fun _ _ => .bad) r t := by first | (rw [evS_bad]; done) | (rw [evS_bad]; rfl)
@[simp] theorem x_evSs_nil : evSs G cs .nil r t = (nilE) r t := by first | (rw [evSs_nil]; done) | (rw [evSs_nil]; rfl)
@[simp] theorem x_evSs_cons (s : S) (q : Ss) : evSs G cs (.cons s q) r t = consE (evS G cs s) (evSs G cs q) r t := by rw [evSs_cons]
end
section
variable {f g : Rho → Tw → Res (Fl × Rho)} {fa fb fc : Rho → Tw → Res D} {fs : Rho → Tw → Res (List D)} {fo fp : Rho → Tw → Res (Option D)} {r : Rho} {t : Tw}
@[simp] theorem x_chainE (o1 o2 : CmpOp) (fa fb fc : Rho → Tw → Res D) (r : Rho) (t : Tw) : chainE o1 o2 fa fb fc r t = ( (fa r t).bind fun x t1 => (fb r t1).bind fun y t2 => match cmpD o1 x y with
    | some (.bl true) => (fc r t2).bind fun z t3 => Fm.lift (cmpD o2 y z) t3
    | some (.bl false) => .ok (.bl false) t2
    | _ => .bad) := rfl
@[simp] theorem x_andE (fa fb : Rho → Tw → Res D) (r : Rho) (t : Tw) : andE fa fb r t = ( (fa r t).bind fun x t1 => match truD x with
    | some true => fb r t1
    | some false => .ok x t1
    | none => .bad) := rfl
@[simp] theorem x_orE (fa fb : Rho → Tw → Res D) (r : Rho) (t : Tw) : orE fa fb r t = ( (fa r t).bind fun x t1 => match truD x with
    | some true => .ok x t1
    | some false => fb r t1
    | none => .bad) := rfl
@[simp] theorem x_iteE (fc fa fb : Rho → Tw → Res D) (r : Rho) (t : Tw) : iteE fc fa fb r t = ( (fc r t).bind fun x t1 => match truD x with
    | some true => fa r t1
    | some false => fb r t1
    | none => .bad) := rfl
@[simp] theorem x_cutE (fa : Rho → Tw → Res D) (fl fh : Rho → Tw → Res (Option D)) (r : Rho) (t : Tw) : cutE fa fl fh r t = ( (fa r t).bind fun x t1 => (fl r t1).bind fun l t2 => (Fm.lift (optI l) t2).bind fun l t2 => (fh r t2).bind fun h t3 => (Fm.lift (optI h) t3).bind fun h t3 => Fm.lift (cutD x l h) t3) := rfl
@[simp] theorem x_getE (fa fb fc : Rho → Tw → Res D) (r : Rho) (t : Tw) : getE fa fb fc r t = ( (fa r t).bind fun x t1 => match x with
    | .dct kvs => (fb r t1).bind fun y t2 => (fc r t2).bind fun z t3 => (match keyD y with
      | some k => .ok ((lookD kvs k).getD z) t3
      | none => .bad)
    | .dcn kvs => (fb r t1).bind fun y t2 => (fc r t2).bind fun z t3 => (match keyT y with
      | some k => .ok ((lookN kvs k).getD z) t3
      | none => .bad)
    | _ => .bad) := rfl
@[simp] theorem x_evV (f : Rho → Tw → Res D) (r : Rho) (t : Tw) : evV f r t = ( (f r t).bind fun x t1 => match x with
    | .tup xs => .ok xs t1
    | .lst xs => .ok xs t1
    | .str x => .ok (strD x) t1
    | _ => .bad) := rfl
@[simp] theorem x_zipE (fa fb : Rho → Tw → Res D) (r : Rho) (t : Tw) : zipE fa fb r t = ( (fa r t).bind fun x t1 => (fb r t1).bind fun y t2 => match x, y with
    | .tup xs, .tup ys => .ok (zipD xs ys) t2
    | .lst xs, .lst ys => .ok (zipD xs ys) t2
    | _, _ => .bad) := rfl
@[simp] theorem x_enumE (fa : Rho → Tw → Res D) (r : Rho) (t : Tw) : enumE fa r t = ( (fa r t).bind fun x t1 => match x with
    | .lst xs => .ok (enumD 0 xs) t1
    | _ => .bad) := rfl
@[simp] theorem x_turnE (tg : Tg) (vs : List Nat) (fc : Rho → Tw → Res (Option D)) (fe : Rho → Tw → Res D) (r : Rho) (d : D) (t : Tw) : turnE tg vs fc fe r d t = ( match setT tg d (wipeR r vs) with
        | some r2 => (fc r2 t).bind fun o t => match o with
          | none => (fe r2 t).bind fun x t => .ok (some x) t
          | some y => match truD y with
            | some true => (fe r2 t).bind fun x t => .ok (some x) t
            | some false => .ok none t
            | none => .bad
        | none => .bad) := rfl
@[simp] theorem x_zipNE (fa fb : Rho → Tw → Res D) (r : Rho) (t : Tw) : zipNE fa fb r t = ( (fa r t).bind fun x t1 => (fb r t1).bind fun y t2 => match x, y with
    | .tup xs, .tup ys => .ok (zipD xs ys) t2
    | _, _ => .bad) := rfl
@[simp] theorem x_compE (tg : Tg) (vs : List Nat) (fi : Rho → Tw → Res (List D)) (fc : Rho → Tw → Res (Option D)) (fe : Rho → Tw → Res D) (r : Rho) (t : Tw) : compE tg vs fi fc fe r t = (
  (fi r t).bind fun xs t1 => if okLen xs.length then (compL (turnE tg vs fc fe r) xs t1).bind fun ys t2 => .ok (.lst ys) t2 else .bad) := rfl
@[simp] theorem x_nilE (r : Rho) (t : Tw) : nilE r t = ( .ok (.nx, r) t) := rfl
@[simp] theorem x_consE (f g : Rho → Tw → Res (Fl × Rho)) (r : Rho) (t : Tw) : consE f g r t = ( (f r t).bind fun p t1 => match p with
    | (.nx, r1) => g r1 t1
    | q => .ok q t1) := rfl
@[simp] theorem x_iteS (fc : Rho → Tw → Res D) (f g : Rho → Tw → Res (Fl × Rho)) (r : Rho) (t : Tw) : iteS fc f g r t = ( (fc r t).bind fun x t1 => match truD x with
    | some true => f r t1
    | some false => g r t1
    | none => .bad) := rfl
@[simp] theorem x_parE (is : List Nat) (fs : Rho → Tw → Res (List D)) (r : Rho) (t : Tw) : parE is fs r t = ( (fs r t).bind fun xs t1 => Fm.lift ((setAll is xs r).map fun r1 => (.nx, r1)) t1) := rfl
@[simp] theorem x_frzE (i : Nat) (r : Rho) (t : Tw) : frzE i r t = ( match r[i]? with
    | some (.own d) => .ok (.nx, r.set i (.val d)) t
    | some (.val _) => .ok (.nx, r) t
    | _ => .bad) := rfl
@[simp] theorem x_appE (i : Nat) (fa : Rho → Tw → Res D) (r : Rho) (t : Tw) : appE i fa r t = ( match r[i]? with
    | some (.own (.lst xs)) => (fa r t).bind fun x t1 => if decide (xs.length < 16777216) then .ok (.nx, r.set i (.own (.lst (xs ++ [x])))) t1 else .bad
    | _ => .bad) := rfl
@[simp] theorem x_putE (i : Nat) (fk fa : Rho → Tw → Res D) (r : Rho) (t : Tw) : putE i fk fa r t = ( match r[i]? with
    | some (.own (.dct kvs)) => (fa r t).bind fun x t1 => (fk r t1).bind fun y t2 => (match keyD y with
      | some k => if decide (kvs.length < 16777216) then .ok (.nx, r.set i (.own (.dct (putD kvs k x)))) t2 else .bad
      | none => .bad)
    | some (.own (.dcn kvs)) => (fa r t).bind fun x t1 => (fk r t1).bind fun y t2 => (match keyT y with
      | some k => if decide (kvs.length < 16777216) then .ok (.nx, r.set i (.own (.dcn (putN kvs k x)))) t2 else .bad
      | none => .bad)
    | _ => .bad) := rfl
@[simp] theorem x_putLE (i : Nat) (fk fa : Rho → Tw → Res D) (r : Rho) (t : Tw) : putLE i fk fa r t = ( match r[i]? with
    | some (.own (.lst xs)) => (fa r t).bind fun x t1 => (fk r t1).bind fun y t2 => (match y with
      | .int j => (match L2.ixN xs.length j with
        | some n => .ok (.nx, r.set i (.own (.lst (xs.set n x)))) t2
        | none => .bad)
      | _ => .bad)
    | _ => .bad) := rfl
@[simp] theorem x_augE (i : Nat) (op : Operator) (fa : Rho → Tw → Res D) (r : Rho) (t : Tw) : augE i op fa r t = ( match r[i]? with
    | some (.val x) => (fa r t).bind fun y t1 => match x, y with
      | .int _, .int _ => Fm.lift ((binD op x y).map fun z => (.nx, r.set i (.val z))) t1
      | _, _ => .bad
    | _ => .bad) := rfl
@[simp] theorem x_forE (tg : Tg) (fi : Rho → Tw → Res (List D)) (f : Rho → Tw → Res (Fl × Rho)) (r : Rho) (t : Tw) : forE tg fi f r t = ( (fi r t).bind fun xs t1 => loopF (fun d r t => match setT tg d r with
    | some r1 => f r1 t
    | none => .bad) xs r t1) := rfl
@[simp] theorem x_starE (i j : Nat) (fa : Rho → Tw → Res D) (r : Rho) (t : Tw) : starE i j fa r t = ( (fa r t).bind fun x t1 => match x with
    | .tup (y :: ys) => if decide (i < r.length) && decide (j < r.length) && decide (ys.length < 16384) then .ok (.nx, (r.set i (.val y)).set j (.val (.lst ys))) t1 else .bad
    | _ => .bad) := rfl
@[simp] theorem x_tcountE (i : Nat) (r : Rho) (t : Tw) : tcountE i r t = ( match r[i]? with
    | some (.val .tok) => .ok (.int t.count) t
    | _ => .bad) := rfl
@[simp] theorem x_tgetE (i : Nat) (fk fd : Rho → Tw → Res D) (r : Rho) (t : Tw) : tgetE i fk fd r t = ( match r[i]? with
    | some (.val .tok) => (fk r t).bind fun y t1 => (fd r t1).bind fun z t2 => (match y, z with
      | .int a, .int b => .ok (.int ((lkT t2.rests a).getD b)) t2
      | _, _ => .bad)
    | _ => .bad) := rfl
@[simp] theorem x_tcntE (i : Nat) (fa : Rho → Tw → Res D) (r : Rho) (t : Tw) : tcntE i fa r t = ( match r[i]? with
    | some (.val .tok) => (fa r t).bind fun x t1 => (match x with
      | .int c => .ok (.nx, r) { t1 with count := c }
      | _ => .bad)
    | _ => .bad) := rfl
@[simp] theorem x_trstE (i : Nat) (fk fa : Rho → Tw → Res D) (r : Rho) (t : Tw) : trstE i fk fa r t = ( match r[i]? with
    | some (.val .tok) => (fa r t).bind fun x t1 => (fk r t1).bind fun y t2 => (match x, y with
      | .int v, .int a => if decide (t2.rests.length < 1000000) then .ok (.nx, r) { t2 with rests := putT t2.rests a v } else .bad
      | _, _ => .bad)
    | _ => .bad) := rfl
@[simp] theorem x_updE (i : Nat) (fa : Rho → Tw → Res D) (r : Rho) (t : Tw) : updE i fa r t = ( match r[i]? with
    | some (.own (.dct kvs)) => (fa r t).bind fun x t1 => (match x with
      | .dct more => if decide (kvs.length + more.length ≤ 16777216) then .ok (.nx, r.set i (.own (.dct (joinD kvs more)))) t1 else .bad
      | _ => .bad)
    | _ => .bad) := rfl
@[simp] theorem x_dspEE (ks : List Str) (fs : List (Rho → Tw → Res D)) (r : Rho) (t : Tw) : dspEE ks fs r t = ( (evL fs r t).bind fun xs t1 => if decide (xs.length ≤ 15) && decide (xs.length = ks.length) && decide (0 < xs.length) then .ok (.dct (mergeD [] (ks.zip xs))) t1 else .bad) := rfl
@[simp] theorem x_keysE (fa : Rho → Tw → Res D) (r : Rho) (t : Tw) : keysE fa r t = ( (fa r t).bind fun x t1 => match x with
    | .dct kvs => .ok (kvs.map fun p => kD p.1) t1
    | .dcn kvs => .ok (kvs.map fun p => kdN p.1) t1
    | _ => .bad) := rfl
@[simp] theorem x_idxE (fa fb : Rho → Tw → Res D) (r : Rho) (t : Tw) : idxE fa fb r t = ( (fa r t).bind fun x t1 => if isSq true x then (fb r t1).bind fun y t2 => Fm.lift (idxD true x y) t2 else .bad) := rfl
@[simp] theorem x_insE (i : Nat) (fk fa : Rho → Tw → Res D) (r : Rho) (t : Tw) : insE i fk fa r t = ( match r[i]? with
    | some (.own (.lst xs)) => (fk r t).bind fun y t1 => (fa r t1).bind fun x t2 => (match y with
      | .int j => if decide (0 ≤ j) && decide (j < 2 ^ 63) && decide (xs.length < 16777216) then .ok (.nx, r.set i (.own (.lst (xs.take j.toNat ++ [x] ++ xs.drop j.toNat)))) t2 else .bad
      | _ => .bad)
    | _ => .bad) := rfl
@[simp] theorem x_enumTE (fa : Rho → Tw → Res D) (r : Rho) (t : Tw) : enumTE fa r t = ( (fa r t).bind fun x t1 => match x with
    | .tup xs => .ok (enumD 0 xs) t1
    | _ => .bad) := rfl
@[simp] theorem x_unsE (is : List Nat) (j : Nat) (fs : Rho → Tw → Res (List D)) (r : Rho) (t : Tw) : unsE is j fs r t = ( (fs r t).bind fun xs t1 => (match setAll is xs r with
    | some r1 => okSet r1 j (.own (.lst [])) t1
    | none => .bad)) := rfl
@[simp] theorem x_pnlE (j i : Nat) (f : Rho → Tw → Res D) (r : Rho) (t : Tw) : pnlE j i f r t = ( (f r t).bind fun x t1 => if decide (j < r.length) && decide (i < r.length) then .ok (.nx, (r.set j (.own (.lst []))).set i (.val x)) t1 else .bad) := rfl
@[simp] theorem x_sortKE (lv : Nat) (fa : Rho → Tw → Res D) (N : List Str) (fe : Rho → Tw → Res D) : sortKE lv fa N fe = ( fun r t => if decide (2 ≤ lv) then (fa r t).bind fun x t1 => match x with
    | .lst xs => (compL (fun d t => (fe (startR N [d]) t).bind fun x t => .ok (some x) t) xs t1).bind fun ks t2 => if okKeys ks then .ok (.lst (sortD xs ks)) t2 else .bad
    | _ => .bad
    else .bad) := rfl
end
section
variable {i j : Int} {x y : Str} {xs ys : List D} {b : Bool} {d e : D} {kvs : List (Key × D)}
@[simp] theorem x_cst0 : Cst.d .non = .non := rfl
@[simp] theorem x_cst1 : Cst.d (.bl b) = .bl b := rfl
@[simp] theorem x_cst2 : Cst.d (.int i) = .int i := rfl
@[simp] theorem x_cst3 : Cst.d (.str x) = .str x := rfl
@[simp] theorem x_bAdd : binD .Add d e = addD d e := rfl
@[simp] theorem x_bSub : binD .Sub d e = subD d e := rfl
@[simp] theorem x_bMul : binD .Mult d e = mulD d e := rfl
@[simp] theorem x_bDiv : binD .FloorDiv d e = fdivD d e := rfl
@[simp] theorem x_bMod : binD .Mod d e = modD d e := rfl
@[simp] theorem x_bPow : binD .Pow d e = powD d e := rfl
@[simp] theorem x_bShl : binD .LShift d e = shlD d e := rfl
@[simp] theorem x_addi : addD (.int i) (.int j) = some (.int (i + j)) := rfl
@[simp] theorem x_addt : addD (.tup xs) (.tup ys) = if okLen (xs.length + ys.length) then some (.tup (xs ++ ys)) else none := rfl
@[simp] theorem x_adds : addD (.str x) (.str y) = if okLen (x.length + y.length) then some (.str (x ++ y)) else none := rfl
@[simp] theorem x_cat : catD (.lst xs) (.lst ys) = if okLen (xs.length + ys.length) then some (.lst (xs ++ ys)) else none := rfl
@[simp] theorem x_sub : subD (.int i) (.int j) = some (.int (i - j)) := rfl
@[simp] theorem x_mul : mulD (.int i) (.int j) = if okMul i j then some (.int (i * j)) else none := rfl
@[simp] theorem x_fdiv : fdivD (.int i) (.int j) = if okDiv j then some (.int (i.fdiv j)) else none := rfl
@[simp] theorem x_mod : modD (.int i) (.int j) = if j = 0 then none else some (.int (i.fmod j)) := rfl
@[simp] theorem x_pow : powD (.int i) (.int j) = if okPow i j then some (.int (i ^ j.toNat)) else none := rfl
@[simp] theorem x_shl : shlD (.int i) (.int j) = if okPow i j then some (.int (i * 2 ^ j.toNat)) else none := rfl
@[simp] theorem x_neg : negD (.int i) = some (.int (-i)) := rfl
@[simp] theorem x_tru0 : truD .non = some false := rfl
@[simp] theorem x_tru1 : truD (.bl b) = some b := rfl
@[simp] theorem x_tru2 : truD (.int i) = some (i != 0) := rfl
@[simp] theorem x_tru3 : truD (.tup xs) = some (!xs.isEmpty) := rfl
@[simp] theorem x_tru4 : truD (.lst xs) = some (!xs.isEmpty) := rfl
@[simp] theorem x_tru6 : truD (.str x) = if okLen x.length then some ((x.length : Int) != 0) else none := rfl
@[simp] theorem x_not : notD d = (truD d).map fun b => .bl (!b) := rfl
@[simp] theorem x_ceq : cmpD .Eq d e = eqOp d e := rfl
@[simp] theorem x_cne : cmpD .NotEq d e = neOp d e := rfl
@[simp] theorem x_clt : cmpD .Lt d e = ltOp d e := rfl
@[simp] theorem x_cle : cmpD .LtE d e = leOp d e := rfl
@[simp] theorem x_cgt : cmpD .Gt d e = gtOp d e := rfl
@[simp] theorem x_cge : cmpD .GtE d e = geOp d e := rfl
@[simp] theorem x_cis : cmpD .Is d .non = some (.bl (isN d)) := rfl
@[simp] theorem x_cin : cmpD .In d e = (inB d e).map .bl := rfl
@[simp] theorem x_cnin : cmpD .NotIn d e = (inB d e).map fun r => .bl (!r) := rfl
@[simp] theorem x_lt : ltOp (.int i) (.int j) = some (.bl (decide (i < j))) := rfl
@[simp] theorem x_le : leOp (.int i) (.int j) = some (.bl (decide (i ≤ j))) := rfl
@[simp] theorem x_gt : gtOp (.int i) (.int j) = some (.bl (decide (j < i))) := rfl
@[simp] theorem x_ge : geOp (.int i) (.int j) = some (.bl (decide (j ≤ i))) := rfl
@[simp] theorem x_isn0 : isN .non = true := rfl
@[simp] theorem x_isn1 : isN (.bl b) = false := rfl
@[simp] theorem x_isn2 : isN (.int i) = false := rfl
@[simp] theorem x_isn3 : isN (.str x) = false := rfl
@[simp] theorem x_isn4 : isN (.tup xs) = false := rfl
@[simp] theorem x_isn5 : isN (.lst xs) = false := rfl
@[simp] theorem x_len1 : blt1 .len (.tup xs) = some (.int xs.length) := rfl
@[simp] theorem x_len2 : blt1 .len (.lst xs) = some (.int xs.length) := rfl
@[simp] theorem x_len3 : blt1 .len (.str x) = if okLen x.length then some (.int x.length) else none := rfl
@[simp] theorem x_tup1 : blt1 .tuple (.lst xs) = some (.tup xs) := rfl
@[simp] theorem x_tup2 : blt1 .tuple (.tup xs) = some (.tup xs) := rfl
@[simp] theorem x_lst1 : blt1 .list (.lst xs) = some (.lst xs) := rfl
@[simp] theorem x_lst2 : blt1 .list (.tup xs) = some (.lst xs) := rfl
@[simp] theorem x_abs1 : blt1 .abs (.int i) = some (.int (if i < 0 then -i else i)) := rfl
@[simp] theorem x_ixt : ixD (.tup xs) (.int i) = L2.atI xs i := rfl
@[simp] theorem x_ixl : ixD (.lst xs) (.int i) = L2.atI xs i := rfl
@[simp] theorem x_ixs : ixD (.str x) (.int i) = if okLen x.length then (L2.atI x.cps.toList i).map fun c => .str ⟨#[c]⟩ else none := rfl
@[simp] theorem x_rev1 : revD (.tup xs) = some (.tup xs.reverse) := rfl
@[simp] theorem x_rev2 : revD (.lst xs) = some (.lst xs.reverse) := rfl
@[simp] theorem x_opt0 : optI none = some none := rfl
@[simp] theorem x_opt1 : optI (some (.int i)) = some (some i) := rfl
@[simp] theorem x_cutt {l h : Option Int} : cutD (.tup xs) l h = some (.tup (cutL xs l h)) := rfl
@[simp] theorem x_cutl {l h : Option Int} : cutD (.lst xs) l h = some (.lst (cutL xs l h)) := rfl
@[simp] theorem x_cisn : cmpD .IsNot d .non = some (.bl (!isN d)) := by cases d <;> rfl
@[simp] theorem x_cisb {c : Bool} : cmpD .Is (.bl c) (.bl b) = some (.bl (c == b)) := rfl
@[simp] theorem x_cisnb {c : Bool} : cmpD .IsNot (.bl c) (.bl b) = some (.bl (!(c == b))) := rfl
@[simp] theorem x_ltt : ltOp (.tup xs) (.tup ys) = if okLt (.tup xs) (.tup ys) then some (.bl (PySem.W.dataLt (D.py (.tup xs)) (D.py (.tup ys)))) else none := rfl
@[simp] theorem x_lts : ltOp (.str x) (.str y) = some (.bl (decide (x.cps.toList < y.cps.toList))) := rfl
@[simp] theorem x_dn1 : blt1 .dictN (.tup xs) = (prsN xs).map fun ps => .dcn (putsN [] ps) := rfl
@[simp] theorem x_dixn {es : List (NestedKey × D)} : dixD (.dcn es) d = (keyT d).bind fun k => lookN es k := rfl
@[simp] theorem x_isa_int_non : isaD .non .int = some false := rfl
@[simp] theorem x_isa_int_bl : isaD (.bl b) .int = some true := rfl
@[simp] theorem x_isa_int_int : isaD (.int i) .int = some true := rfl
@[simp] theorem x_isa_int_str : isaD (.str x) .int = some false := rfl
@[simp] theorem x_isa_int_tup : isaD (.tup xs) .int = some false := rfl
@[simp] theorem x_isa_int_lst : isaD (.lst xs) .int = some false := rfl
@[simp] theorem x_isa_bool_non : isaD .non .bool = some false := rfl
@[simp] theorem x_isa_bool_bl : isaD (.bl b) .bool = some true := rfl
@[simp] theorem x_isa_bool_int : isaD (.int i) .bool = some false := rfl
@[simp] theorem x_isa_bool_str : isaD (.str x) .bool = some false := rfl
@[simp] theorem x_isa_bool_tup : isaD (.tup xs) .bool = some false := rfl
@[simp] theorem x_isa_bool_lst : isaD (.lst xs) .bool = some false := rfl
@[simp] theorem x_isa_str_non : isaD .non .str = some false := rfl
@[simp] theorem x_isa_str_bl : isaD (.bl b) .str = some false := rfl
@[simp] theorem x_isa_str_int : isaD (.int i) .str = some false := rfl
@[simp] theorem x_isa_str_str : isaD (.str x) .str = some true := rfl
@[simp] theorem x_isa_str_tup : isaD (.tup xs) .str = some false := rfl
@[simp] theorem x_isa_str_lst : isaD (.lst xs) .str = some false := rfl
@[simp] theorem x_isa_tuple_non : isaD .non .tuple = some false := rfl
@[simp] theorem x_isa_tuple_bl : isaD (.bl b) .tuple = some false := rfl
@[simp] theorem x_isa_tuple_int : isaD (.int i) .tuple = some false := rfl
@[simp] theorem x_isa_tuple_str : isaD (.str x) .tuple = some false := rfl
@[simp] theorem x_isa_tuple_tup : isaD (.tup xs) .tuple = some true := rfl
@[simp] theorem x_isa_tuple_lst : isaD (.lst xs) .tuple = some false := rfl
@[simp] theorem x_isa_list_non : isaD .non .list = some false := rfl
@[simp] theorem x_isa_list_bl : isaD (.bl b) .list = some false := rfl
@[simp] theorem x_isa_list_int : isaD (.int i) .list = some false := rfl
@[simp] theorem x_isa_list_str : isaD (.str x) .list = some false := rfl
@[simp] theorem x_isa_list_tup : isaD (.tup xs) .list = some false := rfl
@[simp] theorem x_isa_list_lst : isaD (.lst xs) .list = some true := rfl
end
@[simp] theorem x_setN {i : Nat} {d : D} {r : Rho} : setT (.name i) d r = if decide (i < r.length) then some (r.set i (.val d)) else none := rfl
@[simp] theorem x_setT {ts : Tgs} {xs : List D} {r : Rho} : setT (.tup ts) (.tup xs) r = setTs ts xs r := rfl
@[simp] theorem x_set0 {r : Rho} : setTs .nil [] r = some r := rfl
@[simp] theorem x_set1 {t : Tg} {ts : Tgs} {x : D} {xs : List D} {r : Rho} : setTs (.cons t ts) (x :: xs) r = (setT t x r).bind fun r1 => setTs ts xs r1 := rfl
@[simp] theorem x_all0 {r : Rho} : setAll [] [] r = some r := rfl
@[simp] theorem x_all1 {i : Nat} {is : List Nat} {d : D} {ds : List D} {r : Rho} : setAll (i :: is) (d :: ds) r = if decide (i < r.length) then setAll is ds (r.set i (.val d)) else none := rfl
@[simp] theorem x_okSet {r : Rho} {i : Nat} {s : Sl} {t : Tw} : okSet r i s t = if decide (i < r.length) then .ok (.nx, r.set i s) t else .bad := rfl
@[simp] theorem x_startR {N : List Str} {ds : List D} : startR N ds = ds.map .val ++ List.replicate (N.length - ds.length) .un := rfl
@[simp] theorem x_startL {N : List Str} {ns : List Int} : startL N ns = (startR N [.scr ns]).set 1 (.val .tok) := rfl
@[simp] theorem x_ret0 {d : D} {r : Rho} {t : Tw} : retD (.ok (.ret d, r) t) = .ok d t := rfl
@[simp] theorem x_ret1 {r : Rho} {t : Tw} : retD (.ok (.nx, r) t) = .ok .non t := rfl
@[simp] theorem x_ret2 {n : Nat} {t : Tw} : retD (.exc n t) = .exc n t := rfl
@[simp] theorem x_loop0 {f : D → Rho → Tw → Res (Fl × Rho)} {r : Rho} {t : Tw} : loopF f [] r t = .ok (.nx, r) t := rfl
@[simp] theorem x_comp0 {f : D → Tw → Res (Option D)} {t : Tw} : compL f [] t = .ok [] t := rfl
@[simp] theorem x_wipe0 {r : Rho} : wipeR r [] = r := rfl
@[simp] theorem x_wipe1 {r : Rho} {v : Nat} {vs : List Nat} : wipeR r (v :: vs) = (wipeR r vs).set v .un := rfl
@[simp] theorem x_cons0 {xs : List D} : consO none xs = xs := rfl
@[simp] theorem x_cons1 {x : D} {xs : List D} : consO (some x) xs = x :: xs := rfl
@[simp] theorem x_ok0 : okLen 0 = true := rfl
@[simp] theorem x_ok1 : okLen 1 = true := rfl
@[simp] theorem x_ok2 : okLen 2 = true := rfl
@[simp] theorem x_ok3 : okLen 3 = true := rfl
@[simp] theorem x_ok4 : okLen 4 = true := rfl
@[simp] theorem x_ok5 : okLen 5 = true := rfl
@[simp] theorem x_ok6 : okLen 6 = true := rfl
@[simp] theorem x_ok7 : okLen 7 = true := rfl
@[simp] theorem x_ok8 : okLen 8 = true := rfl
@[simp] theorem x_ok9 : okLen 9 = true := rfl
@[simp] theorem x_ok10 : okLen 10 = true := rfl
@[simp] theorem x_ok11 : okLen 11 = true := rfl
@[simp] theorem x_ok12 : okLen 12 = true := rfl
@[simp] theorem x_ok13 : okLen 13 = true := rfl
@[simp] theorem x_ok14 : okLen 14 = true := rfl
@[simp] theorem x_ok15 : okLen 15 = true := rfl
@[simp] theorem x_ok16 : okLen 16 = true := rfl
@[simp] theorem x_ok17 : okLen 17 = true := rfl
@[simp] theorem x_ok18 : okLen 18 = true := rfl
@[simp] theorem x_ok19 : okLen 19 = true := rfl
@[simp] theorem x_ok20 : okLen 20 = true := rfl
@[simp] theorem x_ok21 : okLen 21 = true := rfl
@[simp] theorem x_ok22 : okLen 22 = true := rfl
@[simp] theorem x_ok23 : okLen 23 = true := rfl
@[simp] theorem x_ok24 : okLen 24 = true := rfl
@[simp] theorem x_ok25 : okLen 25 = true := rfl
@[simp] theorem x_ok26 : okLen 26 = true := rfl
@[simp] theorem x_ok27 : okLen 27 = true := rfl
@[simp] theorem x_ok28 : okLen 28 = true := rfl
@[simp] theorem x_ok29 : okLen 29 = true := rfl
@[simp] theorem x_ok30 : okLen 30 = true := rfl
@[simp] theorem x_ok31 : okLen 31 = true := rfl
@[simp] theorem x_ok32 : okLen 32 = true := rfl
@[simp] theorem x_ok33 : okLen 33 = true := rfl
@[simp] theorem x_ok34 : okLen 34 = true := rfl
@[simp] theorem x_ok35 : okLen 35 = true := rfl
@[simp] theorem x_ok36 : okLen 36 = true := rfl
@[simp] theorem x_ok37 : okLen 37 = true := rfl
@[simp] theorem x_ok38 : okLen 38 = true := rfl
@[simp] theorem x_ok39 : okLen 39 = true := rfl
@[simp] theorem x_ok40 : okLen 40 = true := rfl
@[simp] theorem x_ok41 : okLen 41 = true := rfl
@[simp] theorem x_ok42 : okLen 42 = true := rfl
@[simp] theorem x_ok43 : okLen 43 = true := rfl
@[simp] theorem x_ok44 : okLen 44 = true := rfl
@[simp] theorem x_ok45 : okLen 45 = true := rfl
@[simp] theorem x_ok46 : okLen 46 = true := rfl
@[simp] theorem x_ok47 : okLen 47 = true := rfl
@[simp] theorem x_ok48 : okLen 48 = true := rfl
@[simp] theorem x_ok49 : okLen 49 = true := rfl
@[simp] theorem x_ok50 : okLen 50 = true := rfl
@[simp] theorem x_ok51 : okLen 51 = true := rfl
@[simp] theorem x_ok52 : okLen 52 = true := rfl
@[simp] theorem x_ok53 : okLen 53 = true := rfl
@[simp] theorem x_ok54 : okLen 54 = true := rfl
@[simp] theorem x_ok55 : okLen 55 = true := rfl
@[simp] theorem x_ok56 : okLen 56 = true := rfl
@[simp] theorem x_ok57 : okLen 57 = true := rfl
@[simp] theorem x_ok58 : okLen 58 = true := rfl
@[simp] theorem x_ok59 : okLen 59 = true := rfl
@[simp] theorem x_ok60 : okLen 60 = true := rfl
@[simp] theorem x_ok61 : okLen 61 = true := rfl
@[simp] theorem x_ok62 : okLen 62 = true := rfl
@[simp] theorem x_ok63 : okLen 63 = true := rfl
/-- the first part first -/
@[simp ↓] theorem x_bind {α β : Type} (m : Res α) (f : α → Tw → Res β) : m.bind f = match m with
  | .ok a t => f a t
  | .exc n t => .exc n t
  | .bad => .bad := by cases m <;> rfl
/-- calls of a level -/
theorem gam_at {p : Pg} {ns : List Int} {k j : Nat} {sh : Sh} (h : p.tb.sh[j]? = some sh) (xs ys : List D) (t : Tw) : (gam p ns k).f 0 j xs ys t = callF p ns k sh.fn (xs ++ ys ++ sh.dfl.map Cst.d) t := by
  show (match p.tb.sh[j]? with
    | some sh => _
    | none => _) = _
  rw [h]
  rfl

end Fm

/-! ### plain lemmas: equality, loops, comprehensions, draws -/
namespace Fm
open PySem
section
variable {i j : Int} {a b : Bool} {x y : Str}
@[simp] theorem x_eqi : eqOp (.int i) (.int j) = some (.bl (decide (i = j))) := by
  by_cases h : i = j <;> simp [eqOp, okEq, lay, dep, D.py, PyData.canLay0, PyData.depth, eqD, PyData.eqv, h]
@[simp] theorem x_nei : neOp (.int i) (.int j) = some (.bl (!decide (i = j))) := by
  by_cases h : i = j <;> simp [neOp, okEq, lay, dep, D.py, PyData.canLay0, PyData.depth, eqD, PyData.eqv, h]
@[simp] theorem x_eqb : eqOp (.bl a) (.bl b) = some (.bl (a == b)) := by
  simp [eqOp, okEq, lay, dep, D.py, PyData.canLay0, PyData.depth, eqD, PyData.eqv]
@[simp] theorem x_eqD_s : eqD (.str x) (.str y) = (x == y) := by
  simp [eqD, D.py, PyData.eqv]
@[simp] theorem x_lay_s : lay (.str x) = PyData.strOk x := by
  simp [lay, D.py, PyData.canLay0]
@[simp] theorem x_lay_i : lay (.int i) = true := by
  simp [lay, D.py, PyData.canLay0]
@[simp] theorem x_dep_s : dep (.str x) = 0 := by
  simp [dep, D.py, PyData.depth]
theorem x_eqs (h1 : PyData.strOk x = true) (h2 : PyData.strOk y = true) : eqOp (.str x) (.str y) = some (.bl (x == y)) := by
  simp [eqOp, okEq, h1, h2]
theorem x_ins (h : PyData.strOk x = true) {ys : List Str} (h2 : ys.all PyData.strOk = true) : inB (.str x) (.tup (ys.map .str)) = some (ys.any fun z => z == x) := by
  have e : ((ys.map D.str).all lay) = true := by
    rw [List.all_map]
    simpa [Function.comp] using h2
  simp only [inB, x_lay_s, h, e, x_dep_s, List.any_map, Function.comp_def, x_eqD_s]
  simp
end
theorem x_eq0 {xs : List D} (h : lay (.tup xs) = true) : eqOp (.tup xs) (.tup []) = some (.bl xs.isEmpty) := by
  have e : dep (.tup []) = 1 := by simp [dep, D.py, pys, PyData.depth, PyData.depthAll]
  have l : lay (.tup []) = true := by simp [lay, D.py, pys, PyData.canLay0, PyData.canLayAll0]
  have m : min (dep (.tup xs)) 1 ≤ 190 := Nat.le_trans (Nat.min_le_right ..) (by omega)
  simp only [eqOp, okEq, h, l, e, m, decide_true, Bool.and_self, if_true]
  cases xs <;> simp [eqD, D.py, pys, PyData.eqv, PyData.eqvAll]
@[simp] theorem x_ev_dsp {G : Gam} {cs : Nat → D} {r : Rho} {t : Tw} (kvs : List (Str × Cst)) : ev G cs (.dsp kvs) r t = if decide (kvs.length ≤ 15) then .ok (.dct (mergeD [] (kvs.map fun p => (p.1, p.2.d)))) t else .bad := by rw [ev_dsp]
/-! ### loops, comprehensions -/
theorem loopF_inv {f : D → Rho → Tw → Res (Fl × Rho)} (I : Rho → Tw → Prop) : ∀ (xs : List D) (r : Rho) (t : Tw), I r t → (∀ d ∈ xs, ∀ r t, I r t → ∃ r' t', f d r t = .ok (.nx, r') t' ∧ I r' t') → ∃ r' t', loopF f xs r t = .ok (.nx, r') t' ∧ I r' t'
  | [], r, t, h, _ => ⟨r, t, rfl, h⟩
  | d :: ds, r, t, h, hf => by
    obtain ⟨r1, t1, e, h1⟩ := hf d (List.mem_cons_self ..) r t h
    obtain ⟨r2, t2, e2, h2⟩ := loopF_inv I ds r1 t1 h1 fun d' m => hf d' (List.mem_cons_of_mem _ m)
    exact ⟨r2, t2, by rw [loopF, e]; exact e2, h2⟩
theorem compL_map {f : D → Tw → Res (Option D)} (g : D → D) {t : Tw} : ∀ (xs : List D), (∀ d ∈ xs, f d t = .ok (some (g d)) t) → compL f xs t = .ok (xs.map g) t
  | [], _ => rfl
  | d :: ds, h => by
    rw [compL, h d (List.mem_cons_self ..)]
    simp only
    rw [compL_map g ds fun d' m => h d' (List.mem_cons_of_mem _ m)]
    rfl
/-- turns that draw: each gives what Z tells -/
theorem compL_inv {f : D → Tw → Res (Option D)} (I : Nat → Tw → Prop) (Z : D → Prop) : ∀ (xs : List D) (t : Tw) (n : Nat), I (n + xs.length) t → (∀ d ∈ xs, ∀ n t, I (n + 1) t → ∃ x t', f d t = .ok (some x) t' ∧ Z x ∧ I n t') → ∃ ys t', compL f xs t = .ok ys t' ∧ ys.length = xs.length ∧ (∀ y ∈ ys, Z y) ∧ I n t'
  | [], t, n, h, _ => ⟨[], t, rfl, rfl, fun _ m => (List.not_mem_nil m).elim, h⟩
  | d :: ds, t, n, h, hf => by
    obtain ⟨x, t1, e, z, h1⟩ := hf d (List.mem_cons_self ..) (n + ds.length) t (by rw [List.length_cons] at h; exact h)
    obtain ⟨ys, t2, e2, l, z2, h2⟩ := compL_inv I Z ds t1 n h1 fun d' m => hf d' (List.mem_cons_of_mem _ m)
    refine ⟨x :: ys, t2, ?_, by rw [List.length_cons, l, List.length_cons], fun y m => ?_, h2⟩
    · rw [compL, e]
      simp only
      rw [e2]
      rfl
    · rcases List.mem_cons.mp m with rfl | m
      · exact z
      · exact z2 y m
theorem comp_map {G : Gam} {cs : Nat → D} {own : List (Str × Nat)} {elt : E} {tg : Tg} {it : I} {cd : O} {r : Rho} {t : Tw} {xs : List D} (g : D → D) (hi : evI G cs it r t = .ok xs t) (hl : okLen xs.length = true) (h : ∀ d ∈ xs, turnE tg (own.map (·.2)) (evO G cs cd) (ev G cs elt) r d t = .ok (some (g d)) t) : ev G cs (.comp own elt tg it cd) r t = .ok (.lst (xs.map g)) t := by
  rw [ev_comp]
  unfold compE
  rw [hi, Res.bind_ok, hl, if_pos rfl, compL_map g xs h]
  rfl
theorem comp_inv {G : Gam} {cs : Nat → D} {own : List (Str × Nat)} {elt : E} {tg : Tg} {it : I} {cd : O} {r : Rho} {t t1 : Tw} {xs : List D} {n : Nat} (I : Nat → Tw → Prop) (Z : D → Prop) (hi : evI G cs it r t = .ok xs t1) (hl : okLen xs.length = true) (h0 : I (n + xs.length) t1)
    (h : ∀ d ∈ xs, ∀ n t, I (n + 1) t → ∃ x t', turnE tg (own.map (·.2)) (evO G cs cd) (ev G cs elt) r d t = .ok (some x) t' ∧ Z x ∧ I n t') : ∃ ys t', ev G cs (.comp own elt tg it cd) r t = .ok (.lst ys) t' ∧ ys.length = xs.length ∧ (∀ y ∈ ys, Z y) ∧ I n t' := by
  obtain ⟨ys, t', e, q⟩ := compL_inv I Z xs t1 n h0 h
  refine ⟨ys, t', ?_, q⟩
  rw [ev_comp]
  unfold compE
  rw [hi, Res.bind_ok, hl, if_pos rfl, e]
  rfl
theorem bls_map : ∀ (xs : List D) (g : D → Bool), bls (xs.map fun d => .bl (g d)) = some (xs.map g)
  | [], _ => rfl
  | x :: xs, g => by simp [bls, bls_map xs g]
theorem x_all {xs : List D} {g : D → Bool} : blt1 .all (.lst (xs.map fun d => .bl (g d))) = some (.bl (xs.all g)) := by
  simp [blt1, bls_map]
/-! ### sizes -/
theorem log2_lt' {n k : Nat} (h : n < 2 ^ k) (hk : 0 < k) : n.log2 < k := by
  by_cases z : n = 0
  · subst z
    simpa using hk
  · exact (Nat.log2_lt z).mpr h
theorem okMul_of {i j : Int} {k l : Nat} (h1 : i.natAbs < 2 ^ k) (h2 : j.natAbs < 2 ^ l) (hk : 0 < k) (hl : 0 < l) (h : k + l ≤ 1000000) : okMul i j = true := by
  have := log2_lt' h1 hk
  have := log2_lt' h2 hl
  simp only [okMul, decide_eq_true_eq]
  omega
theorem okDiv_of {j : Int} {k : Nat} (h0 : j ≠ 0) (h1 : j.natAbs < 2 ^ k) (hk : 0 < k) (h : k ≤ 9000) : okDiv j = true := by
  have := log2_lt' h1 hk
  simp only [okDiv, Bool.and_eq_true, decide_eq_true_eq]
  omega
theorem fmod_rng {i m : Int} (h : 0 < m) : 0 ≤ i.fmod m ∧ i.fmod m < m := ⟨Int.fmod_nonneg_of_pos _ h, Int.fmod_lt_of_pos _ h⟩
/-! ### draws -/
def goodT (t : Tw) : Prop := 0 ≤ t.count ∧ t.rests.length ≤ t.count.toNat
/-- n draws may be made -/
def rm (n : Nat) (t : Tw) : Prop := goodT t ∧ t.count + n ≤ 900000
theorem rm.le {n m : Nat} {t : Tw} (h : rm n t) (l : m ≤ n) : rm m t := ⟨h.1, by have := h.2; omega⟩
def drawB : Ss := .cons (.tcnt 1 (.bin .Add (.tcount 1) (.cst (.int 1)))) (.cons (.asg (.name 3) (.ite (.var 0) (.bin .Mod (.tcount 1) (.blt .len (.var 0))) (.cst (.int 0)))) (.cons (.asg (.name 4) (.tget 1 (.var 3) (.ite (.var 0) (.ix (.var 0) (.var 3)) (.cst (.int 0))))) (.cons (.ite (.cmp .GtE (.var 4) (.bin .Pow (.cst (.int 10)) (.cst (.int 18)))) (.cons (.trst 1 (.var 3) (.bin .FloorDiv (.var 4) (.var 2))) (.cons (.ret (.bin .Mod (.var 4) (.var 2))) .nil)) .nil) (.cons (.asg (.name 5) (.bin .Mod (.bin .Add (.var 4) (.bin .Mult (.cst (.int 104729)) (.tcount 1))) (.cst (.int 4294967291)))) (.cons (.asg (.name 5) (.bin .Mod (.bin .Pow (.var 5) (.cst (.int 5))) (.cst (.int 4294967279)))) (.cons (.ret (.bin .Mod (.bin .FloorDiv (.bin .Mod (.bin .Add (.bin .Mult (.bin .FloorDiv (.var 5) (.cst (.int 64))) (.cst (.int 69621))) (.var 5)) (.cst (.int 4294967231))) (.cst (.int 8))) (.var 2))) .nil))))))
theorem draw_tail {G : Gam} {cs : Nat → D} {sc : D} {m at_ rest : Int} {t : Tw} {n : Nat} (hm : 0 < m) (hm2 : m < 1048576) (h : goodT t) (hc : t.count + n ≤ 900000) (hr : t.rests.length < t.count.toNat) :
    ∃ v t', retD (evSs G cs (.cons (.ite (.cmp .GtE (.var 4) (.bin .Pow (.cst (.int 10)) (.cst (.int 18)))) (.cons (.trst 1 (.var 3) (.bin .FloorDiv (.var 4) (.var 2))) (.cons (.ret (.bin .Mod (.var 4) (.var 2))) .nil)) .nil) (.cons (.asg (.name 5) (.bin .Mod (.bin .Add (.var 4) (.bin .Mult (.cst (.int 104729)) (.tcount 1))) (.cst (.int 4294967291)))) (.cons (.asg (.name 5) (.bin .Mod (.bin .Pow (.var 5) (.cst (.int 5))) (.cst (.int 4294967279)))) (.cons (.ret (.bin .Mod (.bin .FloorDiv (.bin .Mod (.bin .Add (.bin .Mult (.bin .FloorDiv (.var 5) (.cst (.int 64))) (.cst (.int 69621))) (.var 5)) (.cst (.int 4294967231))) (.cst (.int 8))) (.var 2))) .nil)))) [.val sc, .val .tok, .val (.int m), .val (.int at_), .val (.int rest), .un] t) = .ok (.int v) t' ∧ 0 ≤ v ∧ v < m ∧ rm n t' := by
  obtain ⟨g1, g2⟩ := h
  have p1 : okPow 10 18 = true := by decide
  have e18 : (10 : Int) ^ (18 : Int).toNat = 1000000000000000000 := by decide
  have d1 : okDiv m = true := okDiv_of (k := 20) (by omega) (by omega) (by omega) (by omega)
  have m0 : m ≠ 0 := by omega
  have l1 : t.rests.length < 1000000 := by omega
  have c1 : t.count.natAbs < 2 ^ 20 := by omega
  have k1 : okMul 104729 t.count = true := okMul_of (k := 17) (l := 20) (by decide) c1 (by omega) (by omega) (by omega)
  by_cases hb : 1000000000000000000 ≤ rest
  · refine ⟨rest.fmod m, { t with rests := putT t.rests at_ (rest.fdiv m) }, ?_, (fmod_rng hm).1, (fmod_rng hm).2, ⟨g1, ?_⟩, hc⟩
    · simp [p1, e18, hb, d1, m0, l1]
    · have := putT_len t.rests at_ (rest.fdiv m)
      show (putT t.rests at_ (rest.fdiv m)).length ≤ t.count.toNat
      omega
  · have q1 := fmod_rng (i := rest + 104729 * t.count) (m := 4294967291) (by omega)
    generalize hn1 : (rest + 104729 * t.count).fmod 4294967291 = n1 at q1
    have p2 : okPow n1 5 = true := by
      simp only [okPow, Bool.and_eq_true, decide_eq_true_eq]
      refine ⟨⟨by omega, by omega⟩, ?_⟩
      have : (2 : Nat) ^ 64 = 18446744073709551616 := by decide
      omega
    have q2 := fmod_rng (i := n1 ^ (5 : Int).toNat) (m := 4294967279) (by omega)
    generalize hn2 : (n1 ^ (5 : Int).toNat).fmod 4294967279 = n2 at q2
    have q3 : 0 ≤ n2.fdiv 64 ∧ n2.fdiv 64 < 2 ^ 32 := by
      rw [Int.fdiv_eq_ediv_of_nonneg _ (by omega)]
      omega
    have k2 : okMul (n2.fdiv 64) 69621 = true := okMul_of (k := 32) (l := 17) (by omega) (by decide) (by omega) (by omega) (by omega)
    have d2 : okDiv 64 = true := okDiv_of (k := 20) (by omega) (by omega) (by omega) (by omega)
    have d3 : okDiv 8 = true := okDiv_of (k := 20) (by omega) (by omega) (by omega) (by omega)
    refine ⟨(((n2.fdiv 64 * 69621 + n2).fmod 4294967231).fdiv 8).fmod m, t, ?_, (fmod_rng hm).1, (fmod_rng hm).2, ⟨g1, g2⟩, hc⟩
    · simp [p1, e18, hb, d1, m0, l1, k1, hn1, p2, hn2, k2, d2, d3]
      simp at hn2
      simp [hn2, k2, d3, m0]
theorem draw_ev {G : Gam} {cs : Nat → D} {ns : List Int} {m : Int} {t : Tw} {n : Nat} (hm : 0 < m) (hm2 : m < 1048576) (h : rm (n + 1) t) :
    ∃ v t', retD (evSs G cs drawB [.val (.scr ns), .val .tok, .val (.int m), .un, .un, .un] t) = .ok (.int v) t' ∧ 0 ≤ v ∧ v < m ∧ rm n t' := by
  obtain ⟨⟨g1, g2⟩, g3⟩ := h
  have G' : goodT { t with count := t.count + 1 } := ⟨by show 0 ≤ t.count + 1; omega, by show t.rests.length ≤ (t.count + 1).toNat; omega⟩
  have c' : t.count + 1 + n ≤ 900000 := by omega
  have r' : t.rests.length < (t.count + 1).toNat := by omega
  cases ns with
  | nil =>
    obtain ⟨v, t', e, q⟩ := draw_tail (G := G) (cs := cs) (sc := .scr []) (at_ := 0) (rest := (lkT t.rests 0).getD 0) (t := { t with count := t.count + 1 }) hm hm2 G' c' r'
    refine ⟨v, t', ?_, q⟩
    rw [← e]
    unfold drawB
    rw [x_evSs_cons]
    simp [truD]
  | cons a as =>
    have q := fmod_rng (i := t.count + 1) (m := ((a :: as).length : Int)) (by simp)
    generalize hk : (t.count + 1).fmod ((a :: as).length : Int) = k at q
    obtain ⟨w, ew⟩ : ∃ w, L2.atI (a :: as) k = some w := by
      unfold L2.atI L2.ixN
      rw [if_pos q.1, if_pos q.2]
      exact ⟨_, List.getElem?_eq_getElem (by omega)⟩
    obtain ⟨v, t', e, q2⟩ := draw_tail (G := G) (cs := cs) (sc := .scr (a :: as)) (at_ := k) (rest := (lkT t.rests k).getD w) (t := { t with count := t.count + 1 }) hm hm2 G' c' r'
    refine ⟨v, t', ?_, q2⟩
    rw [← e]
    unfold drawB
    have nz : ((a :: as).length : Int) ≠ 0 := by simp; omega
    rw [x_evSs_cons]
    simp only [List.length_cons, Int.natCast_add, Int.natCast_one] at hk nz
    simp [truD, blt1, lenD, hk, ixD, ew, nz]
end Fm

/-! ### more plain lemmas -/
namespace Fm
open PySem
/-- a comprehension with a test -/
theorem compL_filt {f : D → Tw → Res (Option D)} (c : D → Bool) (g : D → D) {t : Tw} : ∀ (xs : List D), (∀ d ∈ xs, f d t = .ok (if c d then some (g d) else none) t) → compL f xs t = .ok ((xs.filter c).map g) t
  | [], _ => rfl
  | d :: ds, h => by
    rw [compL, h d (List.mem_cons_self ..)]
    simp only
    rw [compL_filt c g ds fun d' m => h d' (List.mem_cons_of_mem _ m)]
    cases e : c d <;> simp [List.filter_cons, e, consO]
theorem comp_filt {G : Gam} {cs : Nat → D} {own : List (Str × Nat)} {elt : E} {tg : Tg} {it : I} {cd : O} {r : Rho} {t : Tw} {xs : List D} (c : D → Bool) (g : D → D) (hi : evI G cs it r t = .ok xs t) (hl : okLen xs.length = true) (h : ∀ d ∈ xs, turnE tg (own.map (·.2)) (evO G cs cd) (ev G cs elt) r d t = .ok (if c d then some (g d) else none) t) : ev G cs (.comp own elt tg it cd) r t = .ok (.lst ((xs.filter c).map g)) t := by
  rw [ev_comp]
  unfold compE
  rw [hi, Res.bind_ok, hl, if_pos rfl, compL_filt c g xs h]
  rfl
/-- a loop that ends at the first item that is not as it must be -/
theorem loopF_find {f : D → Rho → Tw → Res (Fl × Rho)} {t : Tw} {v : D} (P : D → Bool) (I : Rho → Prop) : ∀ (xs : List D) (r : Rho), I r → (∀ d ∈ xs, ∀ r, I r → (P d = true → ∃ r', f d r t = .ok (.nx, r') t ∧ I r') ∧ (P d = false → ∃ r', f d r t = .ok (.ret v, r') t)) →
    (xs.all P = true → ∃ r', loopF f xs r t = .ok (.nx, r') t ∧ I r') ∧ (xs.all P = false → ∃ r', loopF f xs r t = .ok (.ret v, r') t)
  | [], r, h, _ => ⟨fun _ => ⟨r, rfl, h⟩, fun h => by simp at h⟩
  | d :: ds, r, h, hf => by
    obtain ⟨h1, h2⟩ := hf d (List.mem_cons_self ..) r h
    cases e : P d with
    | true =>
      obtain ⟨r1, e1, i1⟩ := h1 e
      obtain ⟨g1, g2⟩ := loopF_find P I ds r1 i1 fun d' m => hf d' (List.mem_cons_of_mem _ m)
      refine ⟨fun ha => ?_, fun ha => ?_⟩
      · obtain ⟨r2, e2, i2⟩ := g1 (by simpa [e] using ha)
        exact ⟨r2, by rw [loopF, e1]; exact e2, i2⟩
      · obtain ⟨r2, e2⟩ := g2 (by simpa [e] using ha)
        exact ⟨r2, by rw [loopF, e1]; exact e2⟩
    | false =>
      obtain ⟨r1, e1⟩ := h2 e
      refine ⟨fun ha => by simp [e] at ha, fun _ => ⟨r1, by rw [loopF, e1]; rfl⟩⟩
/-- turns that draw, whatever they leave -/
theorem loopF_ix {f : D → Rho → Tw → Res (Fl × Rho)} (I : Nat → Rho → Tw → Prop) : ∀ (xs : List D) (r : Rho) (t : Tw) (n : Nat), I (n + xs.length) r t → (∀ d ∈ xs, ∀ n r t, I (n + 1) r t → ∃ r' t', f d r t = .ok (.nx, r') t' ∧ I n r' t') → ∃ r' t', loopF f xs r t = .ok (.nx, r') t' ∧ I n r' t'
  | [], r, t, n, h, _ => ⟨r, t, rfl, h⟩
  | d :: ds, r, t, n, h, hf => by
    obtain ⟨r1, t1, e, h1⟩ := hf d (List.mem_cons_self ..) (n + ds.length) r t (by rw [List.length_cons] at h; exact h)
    obtain ⟨r2, t2, e2, h2⟩ := loopF_ix I ds r1 t1 n h1 fun d' m => hf d' (List.mem_cons_of_mem _ m)
    exact ⟨r2, t2, by rw [loopF, e]; exact e2, h2⟩
theorem seq_nx {G : Gam} {cs : Nat → D} {s : S} {q : Ss} {r r1 : Rho} {t t1 : Tw} (h : evS G cs s r t = .ok (.nx, r1) t1) : evSs G cs (.cons s q) r t = evSs G cs q r1 t1 := by
  rw [x_evSs_cons, x_consE, h]
  rfl
theorem seq_ret {G : Gam} {cs : Nat → D} {s : S} {q : Ss} {r r1 : Rho} {t t1 : Tw} {d : D} (h : evS G cs s r t = .ok (.ret d, r1) t1) : evSs G cs (.cons s q) r t = .ok (.ret d, r1) t1 := by
  rw [x_evSs_cons, x_consE, h]
  rfl
/-! ### == -/
theorem x_eqL0 {xs : List D} (h : lay (.lst xs) = true) : eqOp (.lst xs) (.lst []) = some (.bl xs.isEmpty) := by
  have e : dep (.lst []) = 1 := by simp [dep, D.py, pys, PyData.depth, PyData.depthAll]
  have l : lay (.lst []) = true := by simp [lay, D.py, pys, PyData.canLay0, PyData.canLayAll0]
  have m : min (dep (.lst xs)) 1 ≤ 190 := Nat.le_trans (Nat.min_le_right ..) (by omega)
  simp only [eqOp, okEq, h, l, e, m, decide_true, Bool.and_self, if_true]
  cases xs <;> simp [eqD, D.py, pys, PyData.eqv, PyData.eqvAll]
theorem x_neL0 {xs : List D} (h : lay (.lst xs) = true) : neOp (.lst xs) (.lst []) = some (.bl (!xs.isEmpty)) := by
  have e : dep (.lst []) = 1 := by simp [dep, D.py, pys, PyData.depth, PyData.depthAll]
  have l : lay (.lst []) = true := by simp [lay, D.py, pys, PyData.canLay0, PyData.canLayAll0]
  have m : min (dep (.lst xs)) 1 ≤ 190 := Nat.le_trans (Nat.min_le_right ..) (by omega)
  simp only [neOp, okEq, h, l, e, m, decide_true, Bool.and_self, if_true]
  cases xs <;> simp [eqD, D.py, pys, PyData.eqv, PyData.eqvAll]
theorem x_ne0 {xs : List D} (h : lay (.tup xs) = true) : neOp (.tup xs) (.tup []) = some (.bl (!xs.isEmpty)) := by
  have e : dep (.tup []) = 1 := by simp [dep, D.py, pys, PyData.depth, PyData.depthAll]
  have l : lay (.tup []) = true := by simp [lay, D.py, pys, PyData.canLay0, PyData.canLayAll0]
  have m : min (dep (.tup xs)) 1 ≤ 190 := Nat.le_trans (Nat.min_le_right ..) (by omega)
  simp only [neOp, okEq, h, l, e, m, decide_true, Bool.and_self, if_true]
  cases xs <;> simp [eqD, D.py, pys, PyData.eqv, PyData.eqvAll]
/-- two fractions -/
theorem x_eqf (a b c d : Int) : eqOp (.tup [.int a, .int b]) (.tup [.int c, .int d]) = some (.bl (decide (a = c ∧ b = d))) := by
  simp [eqOp, okEq, lay, dep, D.py, pys, PyData.canLay0, PyData.canLayAll0, PyData.depth, PyData.depthAll, eqD, PyData.eqv, PyData.eqvAll]
  by_cases h : a = c <;> by_cases h2 : b = d <;> simp [h, h2]
theorem x_nef (a b c d : Int) : neOp (.tup [.int a, .int b]) (.tup [.int c, .int d]) = some (.bl (!decide (a = c ∧ b = d))) := by
  simp [neOp, okEq, lay, dep, D.py, pys, PyData.canLay0, PyData.canLayAll0, PyData.depth, PyData.depthAll, eqD, PyData.eqv, PyData.eqvAll]
  by_cases h : a = c <;> by_cases h2 : b = d <;> simp [h, h2]
/-! ### ints in order -/
theorem srtI_strict {xs : List Int} (h : xs.Nodup) : (srtI xs).Pairwise (· < ·) := by
  have h1 := srtI_sorted xs
  have h2 : (srtI xs).Nodup := (srtI_perm xs).nodup_iff.mpr h
  have := List.Pairwise.and h1 h2
  exact this.imp fun ⟨a, b⟩ => by omega
/-! ### dicts -/
theorem putD_len (kvs : List (Key × D)) (k : Key) (d : D) : (putD kvs k d).length ≤ kvs.length + 1 := by
  unfold putD
  split <;> simp
theorem putD_keys (kvs : List (Key × D)) (k : Key) (d : D) : (putD kvs k d).map (·.1) = if kvs.any (fun kv => decide (kv.1 = k)) then kvs.map (·.1) else kvs.map (·.1) ++ [k] := by
  unfold putD
  split
  · rw [List.map_map]
    refine List.map_congr_left fun p _ => ?_
    simp only [Function.comp]
    split <;> rfl
  · simp
theorem putD_nodup {kvs : List (Key × D)} (h : (kvs.map (·.1)).Nodup) (k : Key) (d : D) : ((putD kvs k d).map (·.1)).Nodup := by
  rw [putD_keys]
  split
  · exact h
  · rename_i h2
    refine List.nodup_append.mpr ⟨h, by simp, fun a ha b hb e => ?_⟩
    have hb : b = k := by simpa using hb
    subst e
    subst hb
    obtain ⟨p, hp, e⟩ := List.mem_map.mp ha
    exact h2 (List.any_eq_true.mpr ⟨p, hp, by simp [e]⟩)
theorem putD_mem {kvs : List (Key × D)} {k : Key} {d : D} {p : Key × D} (h : p ∈ putD kvs k d) : p ∈ kvs ∨ p = (k, d) := by
  unfold putD at h
  split at h
  · obtain ⟨q, hq, e⟩ := List.mem_map.mp h
    split at e
    · rename_i e2
      right
      rw [← e, e2]
    · left
      rw [← e]
      exact hq
  · rcases List.mem_append.mp h with h | h
    · exact .inl h
    · exact .inr (by simpa using h)
theorem lookD_some {kvs : List (Key × D)} {k : Key} (h : k ∈ kvs.map (·.1)) : ∃ d, lookD kvs k = some d ∧ (k, d) ∈ kvs := by
  unfold lookD
  obtain ⟨p, hp, e⟩ := List.mem_map.mp h
  have hs : (kvs.find? fun kv => decide (kv.1 = k)).isSome := List.find?_isSome.mpr ⟨p, hp, by simp [e]⟩
  obtain ⟨q, hq⟩ := Option.isSome_iff_exists.mp hs
  refine ⟨q.2, by rw [hq]; rfl, ?_⟩
  have h1 := List.find?_some hq
  have h2 := List.mem_of_find?_eq_some hq
  have h1 : q.1 = k := of_decide_eq_true h1
  rw [← h1]
  exact h2
theorem keysI_map : ∀ {kvs : List (Key × D)} {ns : List Int}, kvs.map (·.1) = ns.map Sum.inl → keysI kvs = some ns
  | [], [], _ => rfl
  | [], _ :: _, h => by cases h
  | _ :: _, [], h => by cases h
  | (k, d) :: kvs, n :: ns, h => by
    simp only [List.map_cons, List.cons.injEq] at h
    obtain ⟨rfl, h2⟩ := h
    simp [keysI, keysI_map h2]
theorem for_ev {G : Gam} {cs : Nat → D} {tg : Tg} {it : I} {b : Ss} {r : Rho} {t t1 : Tw} {xs : List D} (hi : evI G cs it r t = .ok xs t1) : evS G cs (.for tg it b) r t = loopF (fun d r t => match setT tg d r with
    | some r1 => evSs G cs b r1 t
    | none => .bad) xs r t1 := by
  rw [evS_for]
  unfold forE
  rw [hi]
  rfl
end Fm

namespace Lw
open PySem PySem.Spec PyProof.Rows L2 Fm
def top (i : Nat) : Stmt := PySem.Challenge.pw_formclear_k12_no_polynomials.main.body.getD i (.Pass ⟨0, 0, 0, 0⟩)
def i_is_whole : Nat := 0
def b_is_whole : Ss := (.cons (.ite (.or (.not (.isa (.var 0) .int)) (.isa (.var 0) .bool)) (.cons (.ret (.cst (.bl false))) .nil) .nil) (.cons (.ret (.or (.cmp .Is (.var 1) (.cst .non)) (.cmp .GtE (.var 0) (.var 1)))) .nil))
def f_is_whole : Fd := ⟨["thing", "least"], ["thing", "least"], b_is_whole, false⟩
def b_greatest_1 : Ss := (.cons (.par [0, 1] (.cons (.var 1) (.cons (.bin .Mod (.var 0) (.var 1)) .nil))) .nil)
def i_greatest : Nat := 1
def b_greatest : Ss := (.cons (.par [0, 1] (.cons (.blt .abs (.var 0)) (.cons (.blt .abs (.var 1)) .nil))) (.cons (.while (.cmp .Gt (.var 1) (.cst (.int 0))) b_greatest_1) (.cons (.ret (.var 0)) .nil)))
def f_greatest : Fd := ⟨["one", "other"], ["one", "other"], b_greatest, false⟩
def i_is_fraction : Nat := 2
def b_is_fraction : Ss := (.cons (.ite (.or (.not (.isa (.var 0) .tuple)) (.or (.cmp .NotEq (.blt .len (.var 0)) (.cst (.int 2))) (.or (.not (.call 0 (.cons (.ix (.var 0) (.cst (.int 0))) .nil) .nil)) (.not (.call 1 (.cons (.ix (.var 0) (.cst (.int 1))) .nil) (.cons (.cst (.int 1)) .nil)))))) (.cons (.ret (.cst (.bl false))) .nil) .nil) (.cons (.ret (.cmp .Eq (.call 2 (.cons (.ix (.var 0) (.cst (.int 0))) (.cons (.ix (.var 0) (.cst (.int 1))) .nil)) .nil) (.cst (.int 1)))) .nil))
def f_is_fraction : Fd := ⟨["thing"], ["thing"], b_is_fraction, false⟩
def i_is_name : Nat := 3
def b_is_name : Ss := (.cons (.ret (.and (.isa (.var 0) .str) (.and (.chain .LtE .LtE (.cst (.int 1)) (.blt .len (.var 0)) (.cst (.int 8))) (.blt .all (.comp [("mark", 1)] (.cmp .In (.var 1) (.glob 0)) (.name 1) (.val (.var 0)) .none))))) .nil)
def f_is_name : Fd := ⟨["thing"], ["thing", "mark"], b_is_name, false⟩
def b_are_powers_1 : Ss := (.cons (.ite (.or (.not (.isa (.var 1) .tuple)) (.or (.cmp .NotEq (.blt .len (.var 1)) (.cst (.int 2))) (.or (.not (.call 3 (.cons (.ix (.var 1) (.cst (.int 0))) .nil) .nil)) (.not (.call 1 (.cons (.ix (.var 1) (.cst (.int 1))) .nil) (.cons (.cst (.int 1)) .nil)))))) (.cons (.ret (.cst (.bl false))) .nil) .nil) .nil)
def i_are_powers : Nat := 4
def b_are_powers : Ss := (.cons (.ite (.not (.isa (.var 0) .tuple)) (.cons (.ret (.cst (.bl false))) .nil) .nil) (.cons (.for (.name 1) (.val (.var 0)) b_are_powers_1) (.cons (.ret (.blt .all (.comp [("one", 2), ("other", 3)] (.cmp .Lt (.ix (.var 2) (.cst (.int 0))) (.ix (.var 3) (.cst (.int 0)))) (.tup (.cons (.name 2) (.cons (.name 3) .nil))) (.zip (.var 0) (.cut (.var 0) (.some (.cst (.int 1))) .none)) .none))) .nil)))
def f_are_powers : Fd := ⟨["thing"], ["thing", "pair", "one", "other"], b_are_powers, false⟩
def i_part_key : Nat := 5
def b_part_key : Ss := (.cons (.ret (.tup (.cons (.neg (.blt .sum (.comp [("name", 1), ("exponent", 2)] (.var 2) (.tup (.cons (.name 1) (.cons (.name 2) .nil))) (.val (.var 0)) .none))) (.cons (.var 0) .nil)))) .nil)
def f_part_key : Fd := ⟨["powers"], ["powers", "name", "exponent"], b_part_key, false⟩
def b_is_polynomial_1 : Ss := (.cons (.ite (.or (.not (.call 4 (.cons (.var 2) .nil) .nil)) (.or (.not (.call 5 (.cons (.var 3) .nil) .nil)) (.cmp .Eq (.var 3) (.glob 1)))) (.cons (.ret (.cst (.bl false))) .nil) .nil) .nil)
def i_is_polynomial : Nat := 6
def b_is_polynomial : Ss := (.cons (.ite (.or (.not (.isa (.var 0) .tuple)) (.not (.blt .all (.comp [("part", 1)] (.and (.isa (.var 1) .tuple) (.cmp .Eq (.blt .len (.var 1)) (.cst (.int 2)))) (.name 1) (.val (.var 0)) .none)))) (.cons (.ret (.cst (.bl false))) .nil) .nil) (.cons (.for (.tup (.cons (.name 2) (.cons (.name 3) .nil))) (.val (.var 0)) b_is_polynomial_1) (.cons (.ret (.blt .all (.comp [("one", 4), ("other", 5)] (.cmp .Lt (.call 6 (.cons (.ix (.var 4) (.cst (.int 0))) .nil) .nil) (.call 6 (.cons (.ix (.var 5) (.cst (.int 0))) .nil) .nil)) (.tup (.cons (.name 4) (.cons (.name 5) .nil))) (.zip (.var 0) (.cut (.var 0) (.some (.cst (.int 1))) .none)) .none))) .nil)))
def f_is_polynomial : Fd := ⟨["thing"], ["thing", "part", "powers", "fraction", "one", "other"], b_is_polynomial, false⟩
def i__law_is : Nat := 7
def b__law_is : Ss := (.cons (.ret (.and (.isa (.var 0) .bool) (.cmp .Eq (.var 0) (.var 1)))) .nil)
def f__law_is : Fd := ⟨["told", "due"], ["told", "due"], b__law_is, false⟩
def i__law_draw : Nat := 8
def b__law_draw : Ss := (.cons (.tcnt 1 (.bin .Add (.tcount 1) (.cst (.int 1)))) (.cons (.asg (.name 3) (.ite (.var 0) (.bin .Mod (.tcount 1) (.blt .len (.var 0))) (.cst (.int 0)))) (.cons (.asg (.name 4) (.tget 1 (.var 3) (.ite (.var 0) (.ix (.var 0) (.var 3)) (.cst (.int 0))))) (.cons (.ite (.cmp .GtE (.var 4) (.bin .Pow (.cst (.int 10)) (.cst (.int 18)))) (.cons (.trst 1 (.var 3) (.bin .FloorDiv (.var 4) (.var 2))) (.cons (.ret (.bin .Mod (.var 4) (.var 2))) .nil)) .nil) (.cons (.asg (.name 5) (.bin .Mod (.bin .Add (.var 4) (.bin .Mult (.cst (.int 104729)) (.tcount 1))) (.cst (.int 4294967291)))) (.cons (.asg (.name 5) (.bin .Mod (.bin .Pow (.var 5) (.cst (.int 5))) (.cst (.int 4294967279)))) (.cons (.ret (.bin .Mod (.bin .FloorDiv (.bin .Mod (.bin .Add (.bin .Mult (.bin .FloorDiv (.var 5) (.cst (.int 64))) (.cst (.int 69621))) (.var 5)) (.cst (.int 4294967231))) (.cst (.int 8))) (.var 2))) .nil)))))))
def f__law_draw : Fd := ⟨["script", "town", "many"], ["script", "town", "many", "at", "rest", "number"], b__law_draw, false⟩
def b__law_frac_1 : Ss := (.cons (.par [2, 3] (.cons (.var 3) (.cons (.bin .Mod (.var 2) (.var 3)) .nil))) .nil)
def i__law_frac : Nat := 9
def b__law_frac : Ss := (.cons (.par [2, 3] (.cons (.blt .abs (.var 0)) (.cons (.blt .abs (.var 1)) .nil))) (.cons (.while (.cmp .Gt (.var 3) (.cst (.int 0))) b__law_frac_1) (.cons (.asg (.name 2) (.ite (.cmp .Gt (.var 1) (.cst (.int 0))) (.var 2) (.bin .Sub (.cst (.int 0)) (.var 2)))) (.cons (.ret (.tup (.cons (.bin .FloorDiv (.var 0) (.var 2)) (.cons (.bin .FloorDiv (.var 1) (.var 2)) .nil)))) .nil))))
def f__law_frac : Fd := ⟨["top", "bottom"], ["top", "bottom", "one", "other"], b__law_frac, false⟩
def i__law_a_frac : Nat := 10
def b__law_a_frac : Ss := (.cons (.ret (.call 7 (.cons (.bin .Sub (.call 8 (.cons (.var 0) (.cons (.var 1) (.cons (.bin .Add (.bin .Mult (.cst (.int 2)) (.var 2)) (.cst (.int 1))) .nil))) .nil) (.var 2)) (.cons (.bin .Add (.cst (.int 1)) (.call 8 (.cons (.var 0) (.cons (.var 1) (.cons (.cst (.int 3)) .nil))) .nil)) .nil)) .nil)) .nil)
def f__law_a_frac : Fd := ⟨["script", "town", "size"], ["script", "town", "size"], b__law_a_frac, false⟩
def i__law_poly : Nat := 11
def b__law_poly : Ss := (.cons (.asg (.name 1) (.comp [("powers", 2)] (.var 2) (.name 2) (.keys (.var 0)) (.some (.cmp .NotEq (.ix (.dix (.var 0) (.var 2)) (.cst (.int 0))) (.cst (.int 0)))))) (.cons (.asg (.name 3) (.sortK (.var 1) ["powers", "pair"] (.tup (.cons (.bin .Sub (.cst (.int 0)) (.blt .sum (.comp [("pair", 1)] (.ix (.var 1) (.cst (.int 1))) (.name 1) (.val (.var 0)) .none))) (.cons (.var 0) .nil))))) (.cons (.ret (.blt .tuple (.comp [("powers", 2)] (.tup (.cons (.var 2) (.cons (.dix (.var 0) (.var 2)) .nil))) (.name 2) (.val (.var 3)) .none))) .nil)))
def f__law_poly : Fd := ⟨["found"], ["found", "some", "powers", "order", "pair"], b__law_poly, true⟩
def b__law_a_poly_1 : Ss := (.cons (.asg (.name 6) (.blt .tuple (.comp [("name", 7)] (.tup (.cons (.var 7) (.cons (.bin .Add (.cst (.int 1)) (.call 8 (.cons (.var 0) (.cons (.var 1) (.cons (.cst (.int 2)) .nil))) .nil)) .nil))) (.name 7) (.val (.var 2)) (.some (.cmp .Eq (.call 8 (.cons (.var 0) (.cons (.var 1) (.cons (.cst (.int 2)) .nil))) .nil) (.cst (.int 0))))))) (.cons (.asg (.name 8) (.call 9 (.cons (.var 0) (.cons (.var 1) (.cons (.cst (.int 4)) .nil))) .nil)) (.cons (.put 4 (.var 6) (.var 8)) .nil)))
def i__law_a_poly : Nat := 12
def b__law_a_poly : Ss := (.cons (.new 4 .dn0) (.cons (.for (.name 5) (.rng1 (.call 8 (.cons (.var 0) (.cons (.var 1) (.cons (.bin .Add (.var 3) (.cst (.int 1))) .nil))) .nil)) b__law_a_poly_1) (.cons (.frz 4) (.cons (.ret (.call 10 (.cons (.var 4) .nil) .nil)) .nil))))
def f__law_a_poly : Fd := ⟨["script", "town", "names", "most"], ["script", "town", "names", "most", "found", "k", "powers", "name", "part"], b__law_a_poly, false⟩
def b_law_1 : Ss := (.cons (.ite (.not (.call 11 (.cons (.call 12 (.cons (.tup (.cons (.var 4) .nil)) .nil) .nil) (.cons (.cst (.bl false)) .nil)) .nil)) (.cons (.ret (.cst (.bl false))) .nil) .nil) .nil)
def b_law_2 : Ss := (.cons (.asg (.name 6) (.call 13 (.cons (.var 0) (.cons (.var 1) (.cons (.tup (.cons (.cst (.str "a")) (.cons (.cst (.str "x")) .nil))) (.cons (.cst (.int 4)) .nil)))) .nil)) (.cons (.ite (.or (.not (.call 11 (.cons (.call 12 (.cons (.var 6) .nil) .nil) (.cons (.cst (.bl true)) .nil)) .nil)) (.call 12 (.cons (.blt .list (.var 6)) .nil) .nil)) (.cons (.ret (.cst (.bl false))) .nil) .nil) (.cons (.ite (.or (.and (.cmp .Gt (.blt .len (.var 6)) (.cst (.int 1))) (.call 12 (.cons (.rev (.var 6)) .nil) .nil)) (.and (.cmp .NotEq (.var 6) (.tup .nil)) (.call 12 (.cons (.bin .Add (.var 6) (.cut (.var 6) .none (.some (.cst (.int 1))))) .nil) .nil))) (.cons (.ret (.cst (.bl false))) .nil) .nil) (.cons (.asg (.name 7) (.call 13 (.cons (.var 0) (.cons (.var 1) (.cons (.tup (.cons (.cst (.str "a")) (.cons (.cst (.str "x")) .nil))) (.cons (.cst (.int 2)) .nil)))) .nil)) (.cons (.asg (.name 8) (.cmp .Eq (.comp [("part", 9)] (.ix (.var 9) (.cst (.int 0))) (.name 9) (.val (.var 7)) (.some (.cmp .In (.ix (.var 9) (.cst (.int 0))) (.comp [("mine", 10)] (.ix (.var 10) (.cst (.int 0))) (.name 10) (.val (.var 6)) .none)))) (.lst .nil))) (.cons (.ite (.and (.call 11 (.cons (.call 12 (.cons (.bin .Add (.var 6) (.var 7)) .nil) .nil) (.cons (.cst (.bl true)) .nil)) .nil) (.not (.and (.var 8) (.cmp .Eq (.call 10 (.cons (.blt .dictN (.bin .Add (.var 6) (.var 7))) .nil) .nil) (.bin .Add (.var 6) (.var 7)))))) (.cons (.ret (.cst (.bl false))) .nil) .nil) (.cons (.ite (.and (.var 8) (.cmp .IsNot (.call 12 (.cons (.call 10 (.cons (.blt .dictN (.bin .Add (.var 6) (.var 7))) .nil) .nil) .nil) .nil) (.cst (.bl true)))) (.cons (.ret (.cst (.bl false))) .nil) .nil) .nil)))))))
def b_law : Ss := (.cons (.asg (.name 2) (.tup (.cons (.cst (.int 1)) (.cons (.cst (.int 1)) .nil)))) (.cons (.asg (.name 3) (.lst (.cons (.cst .non) (.cons (.cst (.int 3)) (.cons (.tup .nil) (.cons (.tup (.cons (.tup .nil) .nil)) (.cons (.tup (.cons (.tup .nil) (.cons (.tup (.cons (.cst (.int 0)) (.cons (.cst (.int 1)) .nil))) .nil))) (.cons (.tup (.cons (.tup .nil) (.cons (.tup (.cons (.cst (.int 2)) (.cons (.cst (.int 4)) .nil))) .nil))) (.cons (.tup (.cons (.tup (.cons (.tup (.cons (.cst (.str "x")) (.cons (.cst (.int 0)) .nil))) .nil)) (.cons (.var 2) .nil))) (.cons (.tup (.cons (.tup (.cons (.tup (.cons (.cst (.str "X")) (.cons (.cst (.int 1)) .nil))) .nil)) (.cons (.var 2) .nil))) (.cons (.tup (.cons (.tup (.cons (.tup (.cons (.cst (.str "")) (.cons (.cst (.int 1)) .nil))) .nil)) (.cons (.var 2) .nil))) .nil))))))))))) (.cons (.asg (.name 3) (.cat (.var 3) (.lst (.cons (.tup (.cons (.tup (.cons (.tup (.cons (.cst (.str "x")) (.cons (.cst (.bl true)) .nil))) .nil)) (.cons (.var 2) .nil))) (.cons (.tup (.cons (.tup (.cons (.tup (.cons (.cst (.str "y")) (.cons (.cst (.int 1)) .nil))) (.cons (.tup (.cons (.cst (.str "x")) (.cons (.cst (.int 1)) .nil))) .nil))) (.cons (.var 2) .nil))) (.cons (.tup (.cons (.tup (.cons (.tup (.cons (.cst (.str "x")) (.cons (.cst (.int 1)) .nil))) (.cons (.tup (.cons (.cst (.str "x")) (.cons (.cst (.int 1)) .nil))) .nil))) (.cons (.var 2) .nil))) (.cons (.tup (.cons (.cst (.str "x")) (.cons (.var 2) .nil))) .nil))))))) (.cons (.asg (.name 3) (.cat (.var 3) (.lst (.cons (.tup (.cons (.tup (.cons (.tup (.cons (.cst (.str "abcdefghi")) (.cons (.cst (.int 1)) .nil))) .nil)) (.cons (.var 2) .nil))) (.cons (.tup (.cons (.tup (.cons (.cst (.int 3)) .nil)) (.cons (.var 2) .nil))) (.cons (.tup (.cons (.cst .non) (.cons (.var 2) .nil))) (.cons (.tup (.cons (.tup .nil) (.cons (.var 2) (.cons (.cst (.int 2)) .nil)))) (.cons (.lst (.cons (.tup .nil) (.cons (.var 2) .nil))) (.cons (.tup (.cons (.tup .nil) (.cons (.cst (.int 1)) .nil))) .nil))))))))) (.cons (.asg (.name 3) (.cat (.var 3) (.lst (.cons (.tup (.cons (.tup (.cons (.tup (.cons (.cst (.str "x")) (.cons (.neg (.cst (.int 1))) .nil))) .nil)) (.cons (.var 2) .nil))) (.cons (.tup (.cons (.tup (.cons (.tup (.cons (.cst (.str "x")) .nil)) .nil)) (.cons (.var 2) .nil))) .nil))))) (.cons (.for (.name 4) (.val (.var 3)) b_law_1) (.cons (.for (.name 5) (.rng1 (.cst (.int 6))) b_law_2) (.cons (.asg (.name 11) (.tup (.cons (.tup (.cons (.tup (.cons (.tup (.cons (.cst (.str "x")) (.cons (.cst (.int 3)) .nil))) .nil)) (.cons (.tup (.cons (.neg (.cst (.int 1))) (.cons (.cst (.int 2)) .nil))) .nil))) (.cons (.tup (.cons (.tup (.cons (.tup (.cons (.cst (.str "a")) (.cons (.cst (.int 1)) .nil))) (.cons (.tup (.cons (.cst (.str "x")) (.cons (.cst (.int 1)) .nil))) .nil))) (.cons (.var 2) .nil))) (.cons (.tup (.cons (.tup (.cons (.tup (.cons (.cst (.str "x")) (.cons (.cst (.int 2)) .nil))) .nil)) (.cons (.var 2) .nil))) (.cons (.tup (.cons (.tup .nil) (.cons (.var 2) .nil))) .nil)))))) (.cons (.ret (.and (.call 12 (.cons (.tup .nil) .nil) .nil) (.and (.call 12 (.cons (.var 11) .nil) .nil) (.not (.call 12 (.cons (.bin .Add (.cut (.var 11) (.some (.cst (.int 1))) .none) (.cut (.var 11) .none (.some (.cst (.int 1))))) .nil) .nil))))) .nil)))))))))
def n_law : List Str := ["script", "town", "one", "odd", "thing", "k", "some", "more", "due", "part", "mine", "good"]
def s0 : Sh := ⟨"is_whole", 1, [], [.non], 0⟩
def s1 : Sh := ⟨"is_whole", 1, ["least"], [], 0⟩
def s2 : Sh := ⟨"greatest", 2, [], [], 1⟩
def s3 : Sh := ⟨"is_name", 1, [], [], 3⟩
def s4 : Sh := ⟨"are_powers", 1, [], [], 4⟩
def s5 : Sh := ⟨"is_fraction", 1, [], [], 2⟩
def s6 : Sh := ⟨"part_key", 1, [], [], 5⟩
def s7 : Sh := ⟨"_law_frac", 2, [], [], 9⟩
def s8 : Sh := ⟨"_law_draw", 3, [], [], 8⟩
def s9 : Sh := ⟨"_law_a_frac", 3, [], [], 10⟩
def s10 : Sh := ⟨"_law_poly", 1, [], [], 11⟩
def s11 : Sh := ⟨"_law_is", 2, [], [], 7⟩
def s12 : Sh := ⟨"is_polynomial", 1, [], [], 6⟩
def s13 : Sh := ⟨"_law_a_poly", 4, [], [], 12⟩
def shs : List Sh := [s0, s1, s2, s3, s4, s5, s6, s7, s8, s9, s10, s11, s12, s13]
def exs : List (Nat × Str) := []
abbrev hd : Bool := false
def cst : List (Str × D) := [("LETTERS", (D.str "abcdefghijklmnopqrstuvwxyz")), ("NOUGHT", (D.tup [(D.int 0), (D.int 1)]))]
def fs : List Fd := [f_is_whole, f_greatest, f_is_fraction, f_is_name, f_are_powers, f_part_key, f_is_polynomial, f__law_is, f__law_draw, f__law_frac, f__law_a_frac, f__law_poly, f__law_a_poly]
abbrev lks : List Str := ["_law_poly"]
abbrev tb : Tb := ⟨shs, cst.map (·.1), exs, hd⟩
abbrev p : Pg := ⟨tb, fs.map .df, csOf cst⟩
def d_is_whole : He.DefD := ⟨("is_whole", none), "is_whole", "is_whole", defArgs (top 2), defBody (top 2), defScope (top 2), [], [("least", .non)]⟩
def d_greatest : He.DefD := ⟨("greatest", none), "greatest", "greatest", defArgs (top 3), defBody (top 3), defScope (top 3), [], []⟩
def d_is_fraction : He.DefD := ⟨("is_fraction", none), "is_fraction", "is_fraction", defArgs (top 4), defBody (top 4), defScope (top 4), [], []⟩
def d_is_name : He.DefD := ⟨("is_name", none), "is_name", "is_name", defArgs (top 7), defBody (top 7), defScope (top 7), [], []⟩
def d_are_powers : He.DefD := ⟨("are_powers", none), "are_powers", "are_powers", defArgs (top 8), defBody (top 8), defScope (top 8), [], []⟩
def d_part_key : He.DefD := ⟨("part_key", none), "part_key", "part_key", defArgs (top 9), defBody (top 9), defScope (top 9), [], []⟩
def d_is_polynomial : He.DefD := ⟨("is_polynomial", none), "is_polynomial", "is_polynomial", defArgs (top 10), defBody (top 10), defScope (top 10), [], []⟩
def d__law_is : He.DefD := ⟨("_law_is", none), "_law_is", "_law_is", defArgs (top 12), defBody (top 12), defScope (top 12), [], []⟩
def d__law_draw : He.DefD := ⟨("_law_draw", none), "_law_draw", "_law_draw", defArgs (top 13), defBody (top 13), defScope (top 13), [], []⟩
def d__law_frac : He.DefD := ⟨("_law_frac", none), "_law_frac", "_law_frac", defArgs (top 15), defBody (top 15), defScope (top 15), [], []⟩
def d__law_a_frac : He.DefD := ⟨("_law_a_frac", none), "_law_a_frac", "_law_a_frac", defArgs (top 16), defBody (top 16), defScope (top 16), [], []⟩
def d__law_poly : He.DefD := ⟨("_law_poly", none), "_law_poly", "_law_poly", defArgs (top 17), defBody (top 17), defScope (top 17), [], []⟩
def d__law_a_poly : He.DefD := ⟨("_law_a_poly", none), "_law_a_poly", "_law_a_poly", defArgs (top 18), defBody (top 18), defScope (top 18), [], []⟩
def d__law_begun : He.DefD := ⟨("_law_begun", none), "_law_begun", "_law_begun", defArgs (top 14), defBody (top 14), defScope (top 14), [], []⟩
def d_law : He.DefD := ⟨("law", none), "law", "law", defArgs (top 19), defBody (top 19), defScope (top 19), [], []⟩
def fn : List He.DefD := [d_is_whole, d_greatest, d_is_fraction, d_is_name, d_are_powers, d_part_key, d_is_polynomial, d__law_is, d__law_draw, d__law_frac, d__law_a_frac, d__law_poly, d__law_a_poly, d__law_begun, d_law]
abbrev fa : List He.Fa := faOf fn exs hd
theorem chk : okDefs tb lks fs fn = true := by decide +kernel
theorem chkL : okLaw tb n_law b_law d_law d__law_begun = true := by decide +kernel
theorem hear : hd = true → HearIs fn exs d_law 0 := fun z => by cases z
theorem bn0 {K : PySem.W.Frag} {mg : Str → Option Value} {fd : FuncData} (F : FunD K d_is_whole.name d_is_whole.qual d_is_whole.params d_is_whole.body d_is_whole.scope (d_is_whole.dvs K) (d_is_whole.kws K) (He.fAd K d_is_whole.at_) fd) (g : mg "is_whole" = some (.ref (He.fAd K d_is_whole.at_))) : Bnd K mg s0 (He.fAd K d_is_whole.at_) fd ["thing", "least"] := by
  refine ⟨g, F.kp, rfl, fun _ => ?_, fun z => absurd rfl z⟩
  exact FunD.binds0 (ps := ["thing", "least"]) F 1 (by simp [He.DefD.kws, d_is_whole]) rfl fun D doc pm an cdv ct us ks h1 h2 => match us, ks, h1, h2 with | [_], [_], _, _ => ⟨_, _, _, _, _, _, rfl, rfl, rfl⟩
theorem bn1 {K : PySem.W.Frag} {mg : Str → Option Value} {fd : FuncData} (F : FunD K d_is_whole.name d_is_whole.qual d_is_whole.params d_is_whole.body d_is_whole.scope (d_is_whole.dvs K) (d_is_whole.kws K) (He.fAd K d_is_whole.at_) fd) (g : mg "is_whole" = some (.ref (He.fAd K d_is_whole.at_))) : Bnd K mg s1 (He.fAd K d_is_whole.at_) fd ["thing", "least"] := by
  refine ⟨g, F.kp, rfl, fun z => absurd z (by decide), fun _ => ?_⟩
  obtain ⟨mv, h⟩ := FunD.kbinds0 (ps := ["thing", "least"]) F 1 ["least"] [] (fun vs _ zs => vs ++ zs ++ []) (by simp [He.DefD.kws, d_is_whole]) (fun q hq => by cases hq) (fun r1 _ r3 => (r1.append r3).append .nil) fun D doc pm an cdv ct us mv ws h1 h2 h3 => match us, mv, ws, h1, h2, h3 with | [_], [], [_], _, _, _ => (by show bindArgs _ _ = pure _; rfl)
  exact ⟨_, h⟩
theorem bn2 {K : PySem.W.Frag} {mg : Str → Option Value} {fd : FuncData} (F : FunD K d_greatest.name d_greatest.qual d_greatest.params d_greatest.body d_greatest.scope (d_greatest.dvs K) (d_greatest.kws K) (He.fAd K d_greatest.at_) fd) (g : mg "greatest" = some (.ref (He.fAd K d_greatest.at_))) : Bnd K mg s2 (He.fAd K d_greatest.at_) fd ["one", "other"] := by
  exact ⟨g, F.kp, rfl, fun _ => ⟨[], .nil, FunD.bindsN (ps := ["one", "other"]) F fun _ _ _ _ _ _ us hl => match us, hl with | [_, _], _ => rfl⟩, fun z => absurd rfl z⟩
theorem bn3 {K : PySem.W.Frag} {mg : Str → Option Value} {fd : FuncData} (F : FunD K d_is_name.name d_is_name.qual d_is_name.params d_is_name.body d_is_name.scope (d_is_name.dvs K) (d_is_name.kws K) (He.fAd K d_is_name.at_) fd) (g : mg "is_name" = some (.ref (He.fAd K d_is_name.at_))) : Bnd K mg s3 (He.fAd K d_is_name.at_) fd ["thing"] := by
  exact ⟨g, F.kp, rfl, fun _ => ⟨[], .nil, FunD.bindsN (ps := ["thing"]) F fun _ _ _ _ _ _ us hl => match us, hl with | [_], _ => rfl⟩, fun z => absurd rfl z⟩
theorem bn4 {K : PySem.W.Frag} {mg : Str → Option Value} {fd : FuncData} (F : FunD K d_are_powers.name d_are_powers.qual d_are_powers.params d_are_powers.body d_are_powers.scope (d_are_powers.dvs K) (d_are_powers.kws K) (He.fAd K d_are_powers.at_) fd) (g : mg "are_powers" = some (.ref (He.fAd K d_are_powers.at_))) : Bnd K mg s4 (He.fAd K d_are_powers.at_) fd ["thing"] := by
  exact ⟨g, F.kp, rfl, fun _ => ⟨[], .nil, FunD.bindsN (ps := ["thing"]) F fun _ _ _ _ _ _ us hl => match us, hl with | [_], _ => rfl⟩, fun z => absurd rfl z⟩
theorem bn5 {K : PySem.W.Frag} {mg : Str → Option Value} {fd : FuncData} (F : FunD K d_is_fraction.name d_is_fraction.qual d_is_fraction.params d_is_fraction.body d_is_fraction.scope (d_is_fraction.dvs K) (d_is_fraction.kws K) (He.fAd K d_is_fraction.at_) fd) (g : mg "is_fraction" = some (.ref (He.fAd K d_is_fraction.at_))) : Bnd K mg s5 (He.fAd K d_is_fraction.at_) fd ["thing"] := by
  exact ⟨g, F.kp, rfl, fun _ => ⟨[], .nil, FunD.bindsN (ps := ["thing"]) F fun _ _ _ _ _ _ us hl => match us, hl with | [_], _ => rfl⟩, fun z => absurd rfl z⟩
theorem bn6 {K : PySem.W.Frag} {mg : Str → Option Value} {fd : FuncData} (F : FunD K d_part_key.name d_part_key.qual d_part_key.params d_part_key.body d_part_key.scope (d_part_key.dvs K) (d_part_key.kws K) (He.fAd K d_part_key.at_) fd) (g : mg "part_key" = some (.ref (He.fAd K d_part_key.at_))) : Bnd K mg s6 (He.fAd K d_part_key.at_) fd ["powers"] := by
  exact ⟨g, F.kp, rfl, fun _ => ⟨[], .nil, FunD.bindsN (ps := ["powers"]) F fun _ _ _ _ _ _ us hl => match us, hl with | [_], _ => rfl⟩, fun z => absurd rfl z⟩
theorem bn7 {K : PySem.W.Frag} {mg : Str → Option Value} {fd : FuncData} (F : FunD K d__law_frac.name d__law_frac.qual d__law_frac.params d__law_frac.body d__law_frac.scope (d__law_frac.dvs K) (d__law_frac.kws K) (He.fAd K d__law_frac.at_) fd) (g : mg "_law_frac" = some (.ref (He.fAd K d__law_frac.at_))) : Bnd K mg s7 (He.fAd K d__law_frac.at_) fd ["top", "bottom"] := by
  exact ⟨g, F.kp, rfl, fun _ => ⟨[], .nil, FunD.bindsN (ps := ["top", "bottom"]) F fun _ _ _ _ _ _ us hl => match us, hl with | [_, _], _ => rfl⟩, fun z => absurd rfl z⟩
theorem bn8 {K : PySem.W.Frag} {mg : Str → Option Value} {fd : FuncData} (F : FunD K d__law_draw.name d__law_draw.qual d__law_draw.params d__law_draw.body d__law_draw.scope (d__law_draw.dvs K) (d__law_draw.kws K) (He.fAd K d__law_draw.at_) fd) (g : mg "_law_draw" = some (.ref (He.fAd K d__law_draw.at_))) : Bnd K mg s8 (He.fAd K d__law_draw.at_) fd ["script", "town", "many"] := by
  exact ⟨g, F.kp, rfl, fun _ => ⟨[], .nil, FunD.bindsN (ps := ["script", "town", "many"]) F fun _ _ _ _ _ _ us hl => match us, hl with | [_, _, _], _ => rfl⟩, fun z => absurd rfl z⟩
theorem bn9 {K : PySem.W.Frag} {mg : Str → Option Value} {fd : FuncData} (F : FunD K d__law_a_frac.name d__law_a_frac.qual d__law_a_frac.params d__law_a_frac.body d__law_a_frac.scope (d__law_a_frac.dvs K) (d__law_a_frac.kws K) (He.fAd K d__law_a_frac.at_) fd) (g : mg "_law_a_frac" = some (.ref (He.fAd K d__law_a_frac.at_))) : Bnd K mg s9 (He.fAd K d__law_a_frac.at_) fd ["script", "town", "size"] := by
  exact ⟨g, F.kp, rfl, fun _ => ⟨[], .nil, FunD.bindsN (ps := ["script", "town", "size"]) F fun _ _ _ _ _ _ us hl => match us, hl with | [_, _, _], _ => rfl⟩, fun z => absurd rfl z⟩
theorem bn10 {K : PySem.W.Frag} {mg : Str → Option Value} {fd : FuncData} (F : FunD K d__law_poly.name d__law_poly.qual d__law_poly.params d__law_poly.body d__law_poly.scope (d__law_poly.dvs K) (d__law_poly.kws K) (He.fAd K d__law_poly.at_) fd) (g : mg "_law_poly" = some (.ref (He.fAd K d__law_poly.at_))) : Bnd K mg s10 (He.fAd K d__law_poly.at_) fd ["found"] := by
  exact ⟨g, F.kp, rfl, fun _ => ⟨[], .nil, FunD.bindsN (ps := ["found"]) F fun _ _ _ _ _ _ us hl => match us, hl with | [_], _ => rfl⟩, fun z => absurd rfl z⟩
theorem bn11 {K : PySem.W.Frag} {mg : Str → Option Value} {fd : FuncData} (F : FunD K d__law_is.name d__law_is.qual d__law_is.params d__law_is.body d__law_is.scope (d__law_is.dvs K) (d__law_is.kws K) (He.fAd K d__law_is.at_) fd) (g : mg "_law_is" = some (.ref (He.fAd K d__law_is.at_))) : Bnd K mg s11 (He.fAd K d__law_is.at_) fd ["told", "due"] := by
  exact ⟨g, F.kp, rfl, fun _ => ⟨[], .nil, FunD.bindsN (ps := ["told", "due"]) F fun _ _ _ _ _ _ us hl => match us, hl with | [_, _], _ => rfl⟩, fun z => absurd rfl z⟩
theorem bn12 {K : PySem.W.Frag} {mg : Str → Option Value} {fd : FuncData} (F : FunD K d_is_polynomial.name d_is_polynomial.qual d_is_polynomial.params d_is_polynomial.body d_is_polynomial.scope (d_is_polynomial.dvs K) (d_is_polynomial.kws K) (He.fAd K d_is_polynomial.at_) fd) (g : mg "is_polynomial" = some (.ref (He.fAd K d_is_polynomial.at_))) : Bnd K mg s12 (He.fAd K d_is_polynomial.at_) fd ["thing"] := by
  exact ⟨g, F.kp, rfl, fun _ => ⟨[], .nil, FunD.bindsN (ps := ["thing"]) F fun _ _ _ _ _ _ us hl => match us, hl with | [_], _ => rfl⟩, fun z => absurd rfl z⟩
theorem bn13 {K : PySem.W.Frag} {mg : Str → Option Value} {fd : FuncData} (F : FunD K d__law_a_poly.name d__law_a_poly.qual d__law_a_poly.params d__law_a_poly.body d__law_a_poly.scope (d__law_a_poly.dvs K) (d__law_a_poly.kws K) (He.fAd K d__law_a_poly.at_) fd) (g : mg "_law_a_poly" = some (.ref (He.fAd K d__law_a_poly.at_))) : Bnd K mg s13 (He.fAd K d__law_a_poly.at_) fd ["script", "town", "names", "most"] := by
  exact ⟨g, F.kp, rfl, fun _ => ⟨[], .nil, FunD.bindsN (ps := ["script", "town", "names", "most"]) F fun _ _ _ _ _ _ us hl => match us, hl with | [_, _, _, _], _ => rfl⟩, fun z => absurd rfl z⟩
@[simp] theorem g0 {ns : List Int} {k : Nat} (xs ys : List D) (t : Tw) : (gam p ns k).f 0 0 xs ys t = callF p ns k i_is_whole (xs ++ ys ++ [D.non]) t := gam_at (sh := s0) rfl xs ys t
@[simp] theorem g1 {ns : List Int} {k : Nat} (xs ys : List D) (t : Tw) : (gam p ns k).f 0 1 xs ys t = callF p ns k i_is_whole (xs ++ ys ++ []) t := gam_at (sh := s1) rfl xs ys t
@[simp] theorem g2 {ns : List Int} {k : Nat} (xs ys : List D) (t : Tw) : (gam p ns k).f 0 2 xs ys t = callF p ns k i_greatest (xs ++ ys ++ []) t := gam_at (sh := s2) rfl xs ys t
@[simp] theorem g3 {ns : List Int} {k : Nat} (xs ys : List D) (t : Tw) : (gam p ns k).f 0 3 xs ys t = callF p ns k i_is_name (xs ++ ys ++ []) t := gam_at (sh := s3) rfl xs ys t
@[simp] theorem g4 {ns : List Int} {k : Nat} (xs ys : List D) (t : Tw) : (gam p ns k).f 0 4 xs ys t = callF p ns k i_are_powers (xs ++ ys ++ []) t := gam_at (sh := s4) rfl xs ys t
@[simp] theorem g5 {ns : List Int} {k : Nat} (xs ys : List D) (t : Tw) : (gam p ns k).f 0 5 xs ys t = callF p ns k i_is_fraction (xs ++ ys ++ []) t := gam_at (sh := s5) rfl xs ys t
@[simp] theorem g6 {ns : List Int} {k : Nat} (xs ys : List D) (t : Tw) : (gam p ns k).f 0 6 xs ys t = callF p ns k i_part_key (xs ++ ys ++ []) t := gam_at (sh := s6) rfl xs ys t
@[simp] theorem g7 {ns : List Int} {k : Nat} (xs ys : List D) (t : Tw) : (gam p ns k).f 0 7 xs ys t = callF p ns k i__law_frac (xs ++ ys ++ []) t := gam_at (sh := s7) rfl xs ys t
@[simp] theorem g8 {ns : List Int} {k : Nat} (xs ys : List D) (t : Tw) : (gam p ns k).f 0 8 xs ys t = callF p ns k i__law_draw (xs ++ ys ++ []) t := gam_at (sh := s8) rfl xs ys t
@[simp] theorem g9 {ns : List Int} {k : Nat} (xs ys : List D) (t : Tw) : (gam p ns k).f 0 9 xs ys t = callF p ns k i__law_a_frac (xs ++ ys ++ []) t := gam_at (sh := s9) rfl xs ys t
@[simp] theorem g10 {ns : List Int} {k : Nat} (xs ys : List D) (t : Tw) : (gam p ns k).f 0 10 xs ys t = callF p ns k i__law_poly (xs ++ ys ++ []) t := gam_at (sh := s10) rfl xs ys t
@[simp] theorem g11 {ns : List Int} {k : Nat} (xs ys : List D) (t : Tw) : (gam p ns k).f 0 11 xs ys t = callF p ns k i__law_is (xs ++ ys ++ []) t := gam_at (sh := s11) rfl xs ys t
@[simp] theorem g12 {ns : List Int} {k : Nat} (xs ys : List D) (t : Tw) : (gam p ns k).f 0 12 xs ys t = callF p ns k i_is_polynomial (xs ++ ys ++ []) t := gam_at (sh := s12) rfl xs ys t
@[simp] theorem g13 {ns : List Int} {k : Nat} (xs ys : List D) (t : Tw) : (gam p ns k).f 0 13 xs ys t = callF p ns k i__law_a_poly (xs ++ ys ++ []) t := gam_at (sh := s13) rfl xs ys t
theorem u_is_whole {ns : List Int} {k : Nat} (ds : List D) (t : Tw) : callF p ns (k + 1) i_is_whole ds t = retD (evSs (gam p ns k) (csOf cst) b_is_whole (startR ["thing", "least"] ds) t) := callF_df (i := 0) (f := f_is_whole) rfl ds t
theorem u_greatest {ns : List Int} {k : Nat} (ds : List D) (t : Tw) : callF p ns (k + 1) i_greatest ds t = retD (evSs (gam p ns k) (csOf cst) b_greatest (startR ["one", "other"] ds) t) := callF_df (i := 1) (f := f_greatest) rfl ds t
theorem u_is_fraction {ns : List Int} {k : Nat} (ds : List D) (t : Tw) : callF p ns (k + 1) i_is_fraction ds t = retD (evSs (gam p ns k) (csOf cst) b_is_fraction (startR ["thing"] ds) t) := callF_df (i := 2) (f := f_is_fraction) rfl ds t
theorem u_is_name {ns : List Int} {k : Nat} (ds : List D) (t : Tw) : callF p ns (k + 1) i_is_name ds t = retD (evSs (gam p ns k) (csOf cst) b_is_name (startR ["thing", "mark"] ds) t) := callF_df (i := 3) (f := f_is_name) rfl ds t
theorem u_are_powers {ns : List Int} {k : Nat} (ds : List D) (t : Tw) : callF p ns (k + 1) i_are_powers ds t = retD (evSs (gam p ns k) (csOf cst) b_are_powers (startR ["thing", "pair", "one", "other"] ds) t) := callF_df (i := 4) (f := f_are_powers) rfl ds t
theorem u_part_key {ns : List Int} {k : Nat} (ds : List D) (t : Tw) : callF p ns (k + 1) i_part_key ds t = retD (evSs (gam p ns k) (csOf cst) b_part_key (startR ["powers", "name", "exponent"] ds) t) := callF_df (i := 5) (f := f_part_key) rfl ds t
theorem u_is_polynomial {ns : List Int} {k : Nat} (ds : List D) (t : Tw) : callF p ns (k + 1) i_is_polynomial ds t = retD (evSs (gam p ns k) (csOf cst) b_is_polynomial (startR ["thing", "part", "powers", "fraction", "one", "other"] ds) t) := callF_df (i := 6) (f := f_is_polynomial) rfl ds t
theorem u__law_is {ns : List Int} {k : Nat} (ds : List D) (t : Tw) : callF p ns (k + 1) i__law_is ds t = retD (evSs (gam p ns k) (csOf cst) b__law_is (startR ["told", "due"] ds) t) := callF_df (i := 7) (f := f__law_is) rfl ds t
theorem u__law_draw {ns : List Int} {k : Nat} (ds : List D) (t : Tw) : callF p ns (k + 1) i__law_draw ds t = retD (evSs (gam p ns k) (csOf cst) b__law_draw (startR ["script", "town", "many", "at", "rest", "number"] ds) t) := callF_df (i := 8) (f := f__law_draw) rfl ds t
theorem u__law_frac {ns : List Int} {k : Nat} (ds : List D) (t : Tw) : callF p ns (k + 1) i__law_frac ds t = retD (evSs (gam p ns k) (csOf cst) b__law_frac (startR ["top", "bottom", "one", "other"] ds) t) := callF_df (i := 9) (f := f__law_frac) rfl ds t
theorem u__law_a_frac {ns : List Int} {k : Nat} (ds : List D) (t : Tw) : callF p ns (k + 1) i__law_a_frac ds t = retD (evSs (gam p ns k) (csOf cst) b__law_a_frac (startR ["script", "town", "size"] ds) t) := callF_df (i := 10) (f := f__law_a_frac) rfl ds t
theorem u__law_poly {ns : List Int} {k : Nat} (ds : List D) (t : Tw) : callF p ns (k + 1) i__law_poly ds t = retD (evSs (gam p ns k) (csOf cst) b__law_poly (startR ["found", "some", "powers", "order", "pair"] ds) t) := callF_df (i := 11) (f := f__law_poly) rfl ds t
theorem u__law_a_poly {ns : List Int} {k : Nat} (ds : List D) (t : Tw) : callF p ns (k + 1) i__law_a_poly ds t = retD (evSs (gam p ns k) (csOf cst) b__law_a_poly (startR ["script", "town", "names", "most", "found", "k", "powers", "name", "part"] ds) t) := callF_df (i := 12) (f := f__law_a_poly) rfl ds t
@[simp] theorem c_LETTERS : csOf cst 0 = (D.str "abcdefghijklmnopqrstuvwxyz") := rfl
@[simp] theorem c_NOUGHT : csOf cst 1 = (D.tup [(D.int 0), (D.int 1)]) := rfl
theorem so : ShOk p fn := by
  refine ⟨fun K mg ffd hf hg j sh e => ?_⟩
  match j, e with
  | 0, e =>
    cases e
    exact ⟨.df f_is_whole, rfl, bn0 (hf 0 d_is_whole rfl) (hg 0 d_is_whole rfl)⟩
  | 1, e =>
    cases e
    exact ⟨.df f_is_whole, rfl, bn1 (hf 0 d_is_whole rfl) (hg 0 d_is_whole rfl)⟩
  | 2, e =>
    cases e
    exact ⟨.df f_greatest, rfl, bn2 (hf 1 d_greatest rfl) (hg 1 d_greatest rfl)⟩
  | 3, e =>
    cases e
    exact ⟨.df f_is_name, rfl, bn3 (hf 3 d_is_name rfl) (hg 3 d_is_name rfl)⟩
  | 4, e =>
    cases e
    exact ⟨.df f_are_powers, rfl, bn4 (hf 4 d_are_powers rfl) (hg 4 d_are_powers rfl)⟩
  | 5, e =>
    cases e
    exact ⟨.df f_is_fraction, rfl, bn5 (hf 2 d_is_fraction rfl) (hg 2 d_is_fraction rfl)⟩
  | 6, e =>
    cases e
    exact ⟨.df f_part_key, rfl, bn6 (hf 5 d_part_key rfl) (hg 5 d_part_key rfl)⟩
  | 7, e =>
    cases e
    exact ⟨.df f__law_frac, rfl, bn7 (hf 9 d__law_frac rfl) (hg 9 d__law_frac rfl)⟩
  | 8, e =>
    cases e
    exact ⟨.df f__law_draw, rfl, bn8 (hf 8 d__law_draw rfl) (hg 8 d__law_draw rfl)⟩
  | 9, e =>
    cases e
    exact ⟨.df f__law_a_frac, rfl, bn9 (hf 10 d__law_a_frac rfl) (hg 10 d__law_a_frac rfl)⟩
  | 10, e =>
    cases e
    exact ⟨.df f__law_poly, rfl, bn10 (hf 11 d__law_poly rfl) (hg 11 d__law_poly rfl)⟩
  | 11, e =>
    cases e
    exact ⟨.df f__law_is, rfl, bn11 (hf 7 d__law_is rfl) (hg 7 d__law_is rfl)⟩
  | 12, e =>
    cases e
    exact ⟨.df f_is_polynomial, rfl, bn12 (hf 6 d_is_polynomial rfl) (hg 6 d_is_polynomial rfl)⟩
  | 13, e =>
    cases e
    exact ⟨.df f__law_a_poly, rfl, bn13 (hf 12 d__law_a_poly rfl) (hg 12 d__law_a_poly rfl)⟩
  | n + 14, e => simp [shs] at e
abbrev R : PySem.W.OpenRow := PySem.W.OpenLaw.row PySem.Challenge.rw_formclear_k12_no_polynomials
abbrev hk : PySem.W.Hook := He.hookX 6 fa fn [] (tfOf hd lks) (exB hd lks exs cst)
def ob (s : PySem.W.SharedT) : He.AlX := He.obsX 6 fa fn [] (tfOf hd lks) (exB hd lks exs cst) (HandSHeadRun.getT s)
def loose : List Str := ["NOUGHT", "is_whole", "greatest", "is_fraction", "LETTERS", "is_name", "are_powers", "part_key", "is_polynomial", "_law_is", "_law_draw", "_law_begun", "_law_frac", "_law_a_frac", "_law_poly", "_law_a_poly"]
theorem ob_eq (s : PySem.W.SharedT) : ob s = hk.obs s.abs := He.obsX_eq (HandSHeadRun.getT_eq s)
theorem run (w : World) : HandSHeadRun.RunEq R (PySem.W.view R.prog [19]) hk ob 4000 loose w := by
  intro os
  kernel_rfl
theorem fin (k : Nat) (hk1 : 1 ≤ k) (hk2 : k + 1 ≤ 230) (hev : ∀ ns : List Int, ns.length ≤ 63 → (∀ z ∈ ns, Builtin.Int.intBits z ≤ 1048576) → ∃ r t, evSs (gam p ns k) (csOf cst) b_law (startL n_law ns) ⟨0, []⟩ = .ok (.ret (.bl true), r) t) : PySem.Challenge.rw_formclear_k12_no_polynomials.Holds := by
  open PySem PySem.W PySem.Calls in
  w_on; o_law
  refine HandSHeadRun.head_any (r := R) (q := view R.prog [19]) (H := hk) (ob := ob) (M := 4000) (loose := loose) (d := HandSHeadRun.topDef R.prog 19) (kwd := []) ob_eq
    (by kernel_rfl) (fun s => by kernel_rfl) run (by kernel_rfl) (by kernel_rfl) (by kernel_rfl) (by rfl) (by first | assumption | decide +kernel) (by decide +kernel) ⟨rfl, rfl, rfl, rfl, rfl, by decide +kernel⟩ ?hw ?hc
  case hw => w_witness2
  case hc =>
    refine LamX.walk_ofTsE (l := PySem.Challenge.rw_formclear_k12_no_polynomials) (n := 63) (k := k + 1) (x := "script") (CX := fun w => CX (PySem.Challenge.rw_formclear_k12_no_polynomials).prog w) rfl (by decide) (by kernel_rfl) ((show Room 230 callerA from ⟨rfl, by decide, by decide⟩).mono hk2) ?F (fun w H s e s' z => cx_no z)
    intro w mg f h Y G hmg0
    obtain ⟨K, KX, c⟩ := Y
    have hmg : mg ("law" : PySem.Str) = some (.ref f) := by
      have e : (HandSHeadRun.topDef R.prog 19).name = ("law" : PySem.Str) := by kernel_rfl
      rw [← e]
      exact hmg0
    exact ⟨K, KX, lawAt KX G c chk so (iL := 14) (iB := 13) (dL := d_law) (dB := d__law_begun) rfl rfl hear (d0 := fn.headD d_law) rfl chkL hmg (fun _ _ _ _ _ _ us hl => match us, hl with | [_], _ => rfl) (fun _ _ _ _ _ _ us hl => match us, hl with | [], _ => rfl) hk1 hev⟩
end Lw

/-! ### whole numbers, fractions, draws: what the defs tell -/
namespace Lw
open PySem Fm
section
variable {ns : List Int} {t : Tw} {k : Nat}
theorem up1 (h : 1 ≤ k) : ∃ j, k = j + 1 := ⟨k - 1, by omega⟩
def isW : D → Bool
  | .int _ => true
  | _ => false
/-- data with no town, no script at the top -/
def pla : D → Bool
  | .tok => false
  | .scr _ => false
  | .dct _ => false
  | .dcn _ => false
  | .exc _ => false
  | _ => true
theorem e_is_whole (hk : 1 ≤ k) (x : D) (h : pla x = true) : callF p ns k i_is_whole [x, .non] t = .ok (.bl (isW x)) t := by
  obtain ⟨k, rfl⟩ := up1 hk
  rw [u_is_whole]
  cases x <;> first | (cases h; done) | simp [b_is_whole, isW]
def isWL (l : Int) : D → Bool
  | .int i => decide (l ≤ i)
  | _ => false
theorem e_is_wholeL (hk : 1 ≤ k) (x : D) (l : Int) (h : pla x = true) : callF p ns k i_is_whole [x, .int l] t = .ok (.bl (isWL l x)) t := by
  obtain ⟨k, rfl⟩ := up1 hk
  rw [u_is_whole]
  cases x <;> first | (cases h; done) | simp [b_is_whole, isWL]
theorem gcd_mod (a b : Int) : Int.gcd b (a % b) = Int.gcd a b := by
  have h := Int.gcd_add_mul_left_right b (a % b) (a / b)
  rw [Int.emod_add_mul_ediv] at h
  rw [← h, Int.gcd_comm]
/-- one, other = other, one % other, while there is an other -/
theorem gr_loop {c : Rho → Tw → Res D} {f : Rho → Tw → Res (Fl × Rho)} (mk : Int → Int → Rho) (hc : ∀ a b : Int, c (mk a b) t = .ok (.bl (decide (0 < b))) t)
    (hf : ∀ a b : Int, 0 < b → f (mk a b) t = .ok (.nx, mk b (a.fmod b)) t) :
    ∀ (n : Nat) (a b : Int), 0 ≤ a → 0 ≤ b → b.toNat ≤ n → loopW c f (mk a b) t = .ok (.nx, mk (Int.gcd a b) 0) t := by
  intro n
  induction n with
  | zero =>
    intro a b ha hb hn
    obtain rfl : b = 0 := by omega
    rw [loopW_eq, hc]
    have : (a.natAbs : Int) = a := by omega
    simp [this]
  | succ n ih =>
    intro a b ha hb hn
    rw [loopW_eq, hc]
    by_cases h : 0 < b
    · simp [h, hf a b h]
      have h1 := fmod_rng (i := a) h
      rw [ih b (a.fmod b) hb h1.1 (by omega)]
      have : Int.gcd b (a.fmod b) = Int.gcd a b := by
        rw [Int.fmod_eq_emod_of_nonneg a hb]
        exact gcd_mod a b
      rw [this]
    · obtain rfl : b = 0 := by omega
      have : (a.natAbs : Int) = a := by omega
      simp [this]
theorem abs_ite (a : Int) : (if a < 0 then -a else a) = (a.natAbs : Int) := by
  split <;> omega
theorem e_greatest (hk : 1 ≤ k) (a b : Int) : callF p ns k i_greatest [.int a, .int b] t = .ok (.int (Int.gcd a b)) t := by
  obtain ⟨k, rfl⟩ := up1 hk
  rw [u_greatest]
  simp [b_greatest, abs_ite]
  have hl := gr_loop (t := t) (c := ev (gam p ns k) (csOf cst) (.cmp .Gt (.var 1) (.cst (.int 0)))) (f := evSs (gam p ns k) (csOf cst) b_greatest_1) (fun a b => [.val (.int a), .val (.int b)]) (fun a b => by simp) (fun a b h => by
    have : b ≠ 0 := by omega
    simp [b_greatest_1, this]) b.natAbs a.natAbs b.natAbs (by omega) (by omega) (by omega)
  rw [hl]
  simp [Int.gcd]
mutual
/-- good data -/
def gd : D → Bool
  | .non => true
  | .bl _ => true
  | .int _ => true
  | .str x => PyData.strOk x && decide (x.length ≤ 1000)
  | .tup xs => decide (xs.length ≤ 1000) && gds xs
  | .lst xs => decide (xs.length ≤ 1000) && gds xs
  | _ => false
def gds : List D → Bool
  | [] => true
  | x :: xs => gd x && gds xs
end
theorem gd_pla {x : D} (h : gd x = true) : pla x = true := by
  cases x <;> first | rfl | (simp [gd] at h)
mutual
theorem gd_lay : ∀ {x : D}, gd x = true → lay x = true
  | .non, _ => by simp [lay, D.py, PyData.canLay0]
  | .bl _, _ => by simp [lay, D.py, PyData.canLay0]
  | .int _, _ => by simp [lay, D.py, PyData.canLay0]
  | .str x, h => by
    simp [gd] at h
    simp [lay, D.py, PyData.canLay0, h.1]
  | .tup xs, h => by
    simp only [gd, Bool.and_eq_true] at h
    have := gds_lay h.2
    simp [lay, D.py, PyData.canLay0, this]
  | .lst xs, h => by
    simp only [gd, Bool.and_eq_true] at h
    have := gds_lay h.2
    simp [lay, D.py, PyData.canLay0, this]
  | .dct _, h => by simp [gd] at h
  | .tok, h => by simp [gd] at h
  | .scr _, h => by simp [gd] at h
  | .exc _, h => by simp [gd] at h
  | .dcn _, h => by simp [gd] at h
theorem gds_lay : ∀ {xs : List D}, gds xs = true → PyData.canLayAll0 (pys xs) = true
  | [], _ => by simp [pys, PyData.canLayAll0]
  | x :: xs, h => by
    simp only [gds, Bool.and_eq_true] at h
    have h1 := gd_lay h.1
    have h2 := gds_lay h.2
    unfold lay at h1
    simp [pys, PyData.canLayAll0, h1, h2]
end
theorem gds_mem : ∀ {xs : List D}, gds xs = true → ∀ x ∈ xs, gd x = true
  | [], _, _, m => (List.not_mem_nil m).elim
  | x :: xs, h, y, m => by
    simp only [gds, Bool.and_eq_true] at h
    rcases List.mem_cons.mp m with rfl | m
    · exact h.1
    · exact gds_mem h.2 y m
theorem gds_of : ∀ {ps : List D}, (∀ x ∈ ps, gd x = true) → gds ps = true
  | [], _ => rfl
  | x :: ps, h => by
    simp only [gds, Bool.and_eq_true]
    exact ⟨h x List.mem_cons_self, gds_of fun y hy => h y (List.mem_cons_of_mem _ hy)⟩
theorem dep_mem : ∀ {xs : List D} {x : D}, x ∈ xs → dep x ≤ PyData.depthAll (pys xs)
  | [], _, m => (List.not_mem_nil m).elim
  | y :: ys, x, m => by
    simp only [pys, PyData.depthAll]
    rcases List.mem_cons.mp m with rfl | m
    · exact Nat.le_max_left ..
    · exact Nat.le_trans (dep_mem m) (Nat.le_max_right ..)
theorem dep_all : ∀ {ps : List D} {n : Nat}, (∀ x ∈ ps, dep x ≤ n) → PyData.depthAll (pys ps) ≤ n
  | [], n, _ => by simp [pys, PyData.depthAll]
  | x :: ps, n, h => by
    simp only [pys, PyData.depthAll]
    exact Nat.max_le.mpr ⟨h x List.mem_cons_self, dep_all fun y hy => h y (List.mem_cons_of_mem _ hy)⟩
theorem dep_tup {xs : List D} : dep (.tup xs) = PyData.depthAll (pys xs) + 1 := by
  simp [dep, D.py, PyData.depth]
theorem dep_lst {xs : List D} : dep (.lst xs) = PyData.depthAll (pys xs) + 1 := by
  simp [dep, D.py, PyData.depth]
theorem dep_int (i : Int) : dep (.int i) = 0 := by simp [dep, D.py, PyData.depth]
def isFr : D → Bool
  | .tup [.int a, .int b] => decide (1 ≤ b) && (Int.gcd a b == 1)
  | _ => false
@[simp] theorem at0 {α : Type} (x : α) (xs : List α) : L2.atI (x :: xs) 0 = some x := by
  simp [L2.atI, L2.ixN]
@[simp] theorem at1 {α : Type} (x y : α) (xs : List α) : L2.atI (x :: y :: xs) 1 = some y := by
  unfold L2.atI L2.ixN
  rw [if_pos (by omega), if_pos (by simp only [List.length_cons]; omega)]
  rfl
theorem e_is_fraction (hk : 2 ≤ k) (x : D) (h : gd x = true) : callF p ns k i_is_fraction [x] t = .ok (.bl (isFr x)) t := by
  obtain ⟨k, rfl⟩ := up1 (show 1 ≤ k by omega)
  have hk : 1 ≤ k := by omega
  rw [u_is_fraction]
  cases x with
  | tup xs =>
    match xs, h with
    | [], _ => simp [b_is_fraction, isFr]
    | [a], _ => simp [b_is_fraction, isFr]
    | [a, b], h =>
      simp only [gd, gds, Bool.and_eq_true] at h
      have ha := e_is_whole (ns := ns) (t := t) hk a (gd_pla h.2.1)
      have hb := e_is_wholeL (ns := ns) (t := t) hk b 1 (gd_pla h.2.2.1)
      simp [b_is_fraction, ha, hb]
      cases a <;> simp [isW, isFr]
      cases b <;> simp [isWL, isFr]
      rename_i a b
      by_cases hb : 1 ≤ b
      · have : ¬ b < 1 := by omega
        simp [hb, this, e_greatest hk]
        rw [Bool.eq_iff_iff]
        simp
        try omega
      · simp [hb]
    | a :: b :: c :: r, _ =>
      have : ¬ ((r.length : Int) + 1 + 1 + 1 = 2) := by
        omega
      simp [b_is_fraction, isFr, this]
  | _ => first | (simp [gd] at h; done) | simp [b_is_fraction, isFr]
variable {sc : List Int} {n : Nat}
theorem e_draw (hk : 1 ≤ k) (m : Int) (hm : 0 < m) (hm2 : m < 1048576) (h : rm (n + 1) t) : ∃ v t', callF p ns k i__law_draw [.scr sc, .tok, .int m] t = .ok (.int v) t' ∧ 0 ≤ v ∧ v < m ∧ rm n t' := by
  obtain ⟨k, rfl⟩ := up1 hk
  obtain ⟨v, t', e, q⟩ := draw_ev (G := gam p ns k) (cs := csOf cst) (ns := sc) hm hm2 h
  refine ⟨v, t', ?_, q⟩
  rw [u__law_draw]
  exact e
/-- a fraction's two numbers -/
abbrev fr (a b : Int) : D := .tup [.int a, .int b]
theorem e_frac (hk : 1 ≤ k) (a b : Int) (hb : 1 ≤ b) (hb2 : b < 2 ^ 8999) : callF p ns k i__law_frac [.int a, .int b] t = .ok (fr (a / Int.gcd a b) (b / Int.gcd a b)) t := by
  obtain ⟨k, rfl⟩ := up1 hk
  have hg : 0 < Int.gcd a b := Int.gcd_pos_of_ne_zero_right a (by omega)
  have hgb : (Int.gcd a b : Int) ≤ b := Int.le_of_dvd (by omega) (Int.gcd_dvd_right _ _)
  rw [u__law_frac]
  have hl := gr_loop (t := t) (c := ev (gam p ns k) (csOf cst) (.cmp .Gt (.var 3) (.cst (.int 0)))) (f := evSs (gam p ns k) (csOf cst) b__law_frac_1) (fun x y => [.val (.int a), .val (.int b), .val (.int x), .val (.int y)]) (fun a b => by simp) (fun a b h => by
    have : b ≠ 0 := by omega
    simp [b__law_frac_1, this]) b.natAbs a.natAbs b.natAbs (by omega) (by omega) (by omega)
  have hgg : Int.gcd (a.natAbs : Int) (b.natAbs : Int) = Int.gcd a b := by simp [Int.gcd]
  rw [hgg] at hl
  have hd : okDiv (Int.gcd a b : Int) = true := okDiv_of (k := 8999) (by omega) (by
    have : ((Int.gcd a b : Int).natAbs : Int) < ((2 ^ 8999 : Nat) : Int) := by
      rw [Int.natAbs_natCast]
      exact Int.lt_of_le_of_lt hgb (by simpa using hb2)
    exact_mod_cast this) (by omega) (by omega)
  have h0 : 0 < b := by omega
  simp only [b__law_frac, x_startR, x_evSs_cons, x_consE]
  simp [abs_ite, hl, h0, hd, Int.fdiv_eq_ediv_of_nonneg]
/-- a small fraction -/
structure SmF (s x y : Int) : Prop where
  g : Int.gcd x y = 1
  lo : 1 ≤ y
  hi : y ≤ 3
  num : -s ≤ x ∧ x ≤ s
theorem SmF.isFr {s x y : Int} (h : SmF s x y) : isFr (fr x y) = true := by
  simp [Lw.isFr, h.g, h.lo]
theorem smF_of {s a b : Int} (ha : -s ≤ a ∧ a ≤ s) (hb : 1 ≤ b ∧ b ≤ 3) : SmF s (a / Int.gcd a b) (b / Int.gcd a b) := by
  have hg : 0 < Int.gcd a b := Int.gcd_pos_of_ne_zero_right a (by omega)
  have hg' : (0 : Int) < Int.gcd a b := by omega
  have hgb : (Int.gcd a b : Int) ≤ b := Int.le_of_dvd (by omega) (Int.gcd_dvd_right _ _)
  obtain ⟨q, hq⟩ := Int.gcd_dvd_left a b
  have e : a / Int.gcd a b = q := by
    have : a = q * (Int.gcd a b : Int) := by rw [Int.mul_comm]; exact hq
    calc a / (Int.gcd a b : Int) = (q * (Int.gcd a b : Int)) / (Int.gcd a b : Int) := by rw [← this]
      _ = q := Int.mul_ediv_cancel _ (by omega)
  refine ⟨Int.gcd_ediv_gcd_ediv_gcd hg, Int.le_ediv_of_mul_le (by omega) (by omega), ?_, ?_⟩
  · have := Int.ediv_le_self (a := b) (Int.gcd a b : Int) (by omega)
    omega
  · rw [e]
    have hq : a = (Int.gcd a b : Int) * q := hq
    generalize (Int.gcd a b : Int) = g at *
    constructor
    · by_cases h : q < 0
      · have : g * q ≤ 1 * q := Int.mul_le_mul_of_nonpos_right (by omega) (by omega)
        omega
      · omega
    · by_cases h : 0 < q
      · have : 1 * q ≤ g * q := Int.mul_le_mul_of_nonneg_right (by omega) (by omega)
        omega
      · omega
theorem e_a_frac (hk : 2 ≤ k) (s : Int) (hs : 0 ≤ s ∧ s ≤ 1000) (h : rm (n + 2) t) : ∃ x y t', callF p ns k i__law_a_frac [.scr sc, .tok, .int s] t = .ok (fr x y) t' ∧ SmF s x y ∧ rm n t' := by
  obtain ⟨k, rfl⟩ := up1 (show 1 ≤ k by omega)
  have hk : 1 ≤ k := by omega
  obtain ⟨v, t1, e1, a1, b1, h1⟩ := e_draw (ns := ns) (sc := sc) hk (2 * s + 1) (by omega) (by omega) (show rm (n + 1 + 1) t from h)
  obtain ⟨u, t2, e2, a2, b2, h2⟩ := e_draw (ns := ns) (sc := sc) hk 3 (by omega) (by omega) h1
  have e3 := e_frac (ns := ns) (t := t2) hk (v - s) (1 + u) (by omega) (by
    have : (1 + u : Int) < 2 ^ 3 := by omega
    exact Int.lt_of_lt_of_le this (by exact_mod_cast Nat.pow_le_pow_right (n := 2) (by omega) (show 3 ≤ 8999 by omega)))
  refine ⟨_, _, t2, ?_, smF_of (s := s) (a := v - s) (b := 1 + u) (by omega) (by omega), h2⟩
  have om : okMul 2 s = true := okMul_of (k := 2) (l := 10) (by decide) (by omega) (by omega) (by omega) (by omega)
  rw [u__law_a_frac]
  simp [b__law_a_frac, om, e1, e2, e3]
end
end Lw

/-! ### fractions as rational numbers -/
namespace Lw
open PySem Fm
section
variable {ns : List Int} {t : Tw} {k : Nat}
/-- a fraction as data -/
def qd (q : Rat) : D := .tup [.int q.num, .int (q.den : Int)]
theorem qd_inj {p q : Rat} : qd p = qd q ↔ p = q := by
  constructor
  · intro h
    simp only [qd, D.tup.injEq, List.cons.injEq, D.int.injEq, and_true] at h
    exact Rat.ext h.1 (by omega)
  · rintro rfl; rfl
theorem gd_qd (q : Rat) : gd (qd q) = true := by simp [qd, gd, gds]
theorem qd_isFr (q : Rat) : isFr (qd q) = true := by
  simp only [qd, isFr, Bool.and_eq_true, decide_eq_true_eq, beq_iff_eq]
  refine ⟨by have := q.den_pos; omega, ?_⟩
  rw [Int.gcd, Int.natAbs_natCast]
  exact q.reduced
/-- numbers of at most so many bits -/
def qs (n : Nat) (q : Rat) : Prop := q.num.natAbs < 2 ^ n ∧ q.den < 2 ^ n
theorem qs.le {n m : Nat} {q : Rat} (h : qs n q) (l : n ≤ m) : qs m q := ⟨Nat.lt_of_lt_of_le h.1 (Nat.pow_le_pow_right (by omega) l), Nat.lt_of_lt_of_le h.2 (Nat.pow_le_pow_right (by omega) l)⟩
theorem natAbs_lt_mul {a b : Int} {n m : Nat} (h1 : a.natAbs < 2 ^ n) (h2 : b.natAbs < 2 ^ m) : (a * b).natAbs < 2 ^ (n + m) := by
  rw [Int.natAbs_mul, Nat.pow_add]
  exact Nat.mul_lt_mul'' h1 h2
/-- what divInt tells, by the gcd -/
theorem qd_divInt {a b : Int} (hb : b ≠ 0) : qd (Rat.divInt a b) = .tup [.int (b.sign * a / (Int.gcd a b)), .int (b.sign * b / (Int.gcd a b))] := by
  have h1 := Rat.num_divInt a b
  have h2 := Rat.den_divInt a b
  rw [if_neg hb] at h2
  unfold qd
  rw [h1, h2, Int.gcd_comm]
  congr 3
  rw [show b.sign * b = (b.natAbs : Int) by rcases Int.lt_trichotomy b 0 with h | h | h <;> simp [Int.sign_eq_neg_one_of_neg, Int.sign_eq_one_of_pos, h] <;> omega]
  simp
theorem divInt_pos {a b : Int} (hb : 0 < b) : qd (Rat.divInt a b) = .tup [.int (a / (Int.gcd a b)), .int (b / (Int.gcd a b))] := by
  rw [qd_divInt (by omega), Int.sign_eq_one_of_pos hb]
  simp
theorem fdiv_gcd {a : Int} {g : Nat} (h : (g : Int) ∣ a) : a.fdiv g = a / (g : Int) := Int.fdiv_eq_ediv_of_nonneg _ (by omega)
theorem fdiv_neg_gcd {a : Int} {g : Nat} (h : (g : Int) ∣ a) : a.fdiv (-(g : Int)) = -a / (g : Int) := by
  obtain ⟨c, rfl⟩ := h
  by_cases z : (g : Int) = 0
  · rw [z]; simp
  · have h1 : (g : Int) * c = (-c) * (-(g : Int)) := by grind
    have h2 : -((g : Int) * c) = (-c) * g := by grind
    rw [h2, Int.mul_ediv_cancel _ z, h1, Int.mul_fdiv_cancel _ (by omega)]
theorem gcd_okDiv {a b : Int} (hb : b ≠ 0) (h : b.natAbs < 2 ^ 8999) : okDiv (Int.gcd a b : Int) = true ∧ okDiv (-(Int.gcd a b : Int)) = true := by
  have hg : 0 < Int.gcd a b := Int.gcd_pos_of_ne_zero_right a hb
  have hl : Int.gcd a b ≤ b.natAbs := Nat.le_of_dvd (by omega) (by rw [Int.gcd]; exact Nat.gcd_dvd_right _ _)
  refine ⟨okDiv_of (k := 8999) (by omega) ?_ (by omega) (by omega), okDiv_of (k := 8999) (by omega) ?_ (by omega) (by omega)⟩
  · simp only [Int.natAbs_natCast]; omega
  · simp only [Int.natAbs_neg, Int.natAbs_natCast]; omega
theorem e__law_frac (hk : 1 ≤ k) {a b : Int} (hb : b ≠ 0) (h : b.natAbs < 2 ^ 8999) : callF p ns k i__law_frac [.int a, .int b] t = .ok (qd (Rat.divInt a b)) t := by
  obtain ⟨k, rfl⟩ := up1 hk
  obtain ⟨d1, d2⟩ := gcd_okDiv (a := a) hb h
  rw [u__law_frac, qd_divInt hb]
  have hl := gr_loop (t := t) (c := ev (gam p ns k) (csOf cst) (.cmp .Gt (.var 3) (.cst (.int 0)))) (f := evSs (gam p ns k) (csOf cst) b__law_frac_1) (fun x y => [.val (.int a), .val (.int b), .val (.int x), .val (.int y)]) (fun a b => by simp) (fun a b h => by
    have : b ≠ 0 := by omega
    simp [b__law_frac_1, this]) b.natAbs a.natAbs b.natAbs (by omega) (by omega) (by omega)
  have hgg : Int.gcd (a.natAbs : Int) (b.natAbs : Int) = Int.gcd a b := by simp [Int.gcd]
  rw [hgg] at hl
  simp only [b__law_frac, x_startR, x_evSs_cons, x_consE]
  by_cases h0 : 0 < b
  · simp [abs_ite, hl, h0, d1, fdiv_gcd (Int.gcd_dvd_left a b), fdiv_gcd (Int.gcd_dvd_right a b), Int.sign_eq_one_of_pos h0]
  · have : b.sign = -1 := Int.sign_eq_neg_one_of_neg (by omega)
    simp [abs_ite, hl, h0, d2, fdiv_neg_gcd (Int.gcd_dvd_left a b), fdiv_neg_gcd (Int.gcd_dvd_right a b), this]
/-- sizes: bits of numbers that are multiplied -/
theorem qs.okm {n m : Nat} {a b : Int} (h1 : a.natAbs < 2 ^ n) (h2 : b.natAbs < 2 ^ m) (h : n + m ≤ 999998) : okMul a b = true :=
  okMul_of (k := n + 1) (l := m + 1) (Nat.lt_trans h1 (Nat.pow_lt_pow_right (by omega) (by omega))) (Nat.lt_trans h2 (Nat.pow_lt_pow_right (by omega) (by omega))) (by omega) (by omega) (by omega)
theorem qs.dn {n : Nat} {q : Rat} (h : qs n q) : ((q.den : Int)).natAbs < 2 ^ n := by simpa using h.2
theorem add_divInt (p q : Rat) : p + q = Rat.divInt (p.num * q.den + q.num * p.den) (p.den * q.den) := by
  have : (p.den * q.den : Int) = ((p.den * q.den : Nat) : Int) := by simp
  rw [this, Rat.divInt_ofNat]
  exact Rat.add_def' p q
theorem mul_divInt (p q : Rat) : p * q = Rat.divInt (p.num * q.num) (p.den * q.den) := by
  have : (p.den * q.den : Int) = ((p.den * q.den : Nat) : Int) := by simp
  rw [this, Rat.divInt_ofNat]
  exact Rat.mul_def' p q
theorem dd_ne (p q : Rat) : (p.den : Int) * (q.den : Int) ≠ 0 := by
  have h1 := p.den_pos
  have h2 := q.den_pos
  have := Int.mul_pos (show (0 : Int) < p.den by omega) (show (0 : Int) < q.den by omega)
  omega
theorem dd_lt {p q : Rat} {n m : Nat} (h1 : qs n p) (h2 : qs m q) (h : n + m ≤ 8999) : ((p.den : Int) * (q.den : Int)).natAbs < 2 ^ 8999 :=
  Nat.lt_of_lt_of_le (natAbs_lt_mul h1.dn h2.dn) (Nat.pow_le_pow_right (by omega) h)
end
end Lw

/-! ### powers of names, polynomials: as data, in order -/
namespace Lw
open PySem Fm
/-- powers of names -/
abbrev Mon := List (Str × Int)
def pr (p : Str × Int) : D := .tup [.str p.1, .int p.2]
def md (m : Mon) : D := .tup (m.map pr)
def deg (m : Mon) : Int := (m.map (·.2)).sum
/-- by what the parts stand -/
def mky (m : Mon) : D := .tup [.int (-deg m), md m]
def mlt (a b : Mon) : Bool := PySem.W.dataLt (mky a).py (mky b).py
def nkp (p : Str × Int) : NestedKey := .tup [.text p.1, .num p.2]
def nk (m : Mon) : NestedKey := .tup (m.map nkp)
/-- tokens -/
def tkM (m : Mon) : List (Int ⊕ List Nat) := PySem.W.keyToksAll (pys (m.map pr))
theorem tkM_nil : tkM [] = [.inl 0] := by simp [tkM, pys, PySem.W.keyToksAll]
theorem tkM_cons (p : Str × Int) (m : Mon) : tkM (p :: m) = .inl 1 :: .inl 1 :: .inr p.1.cps.toList :: .inl 1 :: .inl p.2 :: .inl 0 :: tkM m := by
  simp [tkM, pys, pr, D.py, PySem.W.keyToksAll, PySem.W.keyToks]
theorem tkM_inj : ∀ {a b : Mon} {l l' : List (Int ⊕ List Nat)}, tkM a ++ l = tkM b ++ l' → a = b ∧ l = l'
  | [], [], l, l', h => by
    simp [tkM_nil] at h
    exact ⟨rfl, h⟩
  | [], q :: b, l, l', h => by
    simp [tkM_nil, tkM_cons] at h
  | p :: a, [], l, l', h => by
    simp [tkM_nil, tkM_cons] at h
  | (x, i) :: a, (y, j) :: b, l, l', h => by
    simp only [tkM_cons, List.cons_append, List.cons.injEq, Sum.inr.injEq, Sum.inl.injEq, true_and] at h
    obtain ⟨h1, h2, h3⟩ := h
    obtain ⟨rfl, e⟩ := tkM_inj h3
    exact ⟨by rw [PySem.W.str_of_cps h1, h2], e⟩
theorem tk_mky (m : Mon) : PySem.W.keyToks (mky m).py = .inl 1 :: .inl (-deg m) :: .inl 1 :: (tkM m ++ [.inl 0]) := by
  simp [mky, md, D.py, pys, PySem.W.keyToksAll, PySem.W.keyToks, tkM]
theorem mky_inj {a b : Mon} (h : PySem.W.keyToks (mky a).py = PySem.W.keyToks (mky b).py) : a = b := by
  rw [tk_mky, tk_mky] at h
  simp only [List.cons.injEq, true_and] at h
  exact (tkM_inj h.2).1
theorem mlt_irrefl (a : Mon) : mlt a a = false := PyProof.Rows.lex_irrefl _
theorem mlt_trans {a b c : Mon} (h1 : mlt a b = true) (h2 : mlt b c = true) : mlt a c = true := PyProof.Rows.lex_trans _ _ _ h1 h2
theorem mlt_total {a b : Mon} (h1 : mlt a b = false) (h2 : mlt b a = false) : a = b := mky_inj ((PyProof.Rows.listOrd PyProof.Rows.itemOrd).total _ _ h1 h2)
theorem mlt_asymm {a b : Mon} (h : mlt a b = true) : mlt b a = false := by
  cases e : mlt b a with
  | false => rfl
  | true =>
    have := mlt_trans h e
    rw [mlt_irrefl] at this
    cases this
theorem mlt_ne {a b : Mon} (h : mlt a b = true) : a ≠ b := by
  rintro rfl
  rw [mlt_irrefl] at h
  cases h
theorem mlt_neg {a b c : Mon} (h : mlt a c = true) : mlt a b = true ∨ mlt b c = true := (PyProof.Rows.listOrd PyProof.Rows.itemOrd).negTrans (PySem.W.keyToks (mky a).py) (PySem.W.keyToks (mky b).py) (PySem.W.keyToks (mky c).py) h
theorem al_prs : ∀ a b : Mon, PySem.W.alikeAll (pys (a.map pr)) (pys (b.map pr)) = true
  | [], _ => by simp [pys, PySem.W.alikeAll]
  | _ :: _, [] => by simp [pys, PySem.W.alikeAll]
  | p :: a, q :: b => by
    have := al_prs a b
    simp [pys, pr, D.py, PySem.W.alikeAll, PySem.W.alike, this]
theorem al_mky (a b : Mon) : PySem.W.alike (mky a).py (mky b).py = true := by
  simp [mky, md, D.py, pys, PySem.W.alikeAll, PySem.W.alike, al_prs]
theorem dep_md (m : Mon) : dep (md m) ≤ 2 := by
  unfold md
  rw [dep_tup]
  have : PyData.depthAll (pys (m.map pr)) ≤ 1 := dep_all fun x hx => by
    obtain ⟨p, _, rfl⟩ := List.mem_map.mp hx
    simp [pr, dep, D.py, pys, PyData.depth, PyData.depthAll]
  omega
theorem dep_mky (m : Mon) : dep (mky m) ≤ 3 := by
  unfold mky
  rw [dep_tup]
  have : PyData.depthAll (pys [D.int (-deg m), md m]) ≤ 2 := dep_all fun x hx => by
    simp only [List.mem_cons, List.mem_nil_iff, or_false] at hx
    rcases hx with rfl | rfl
    · rw [dep_int]
      omega
    · exact dep_md m
  omega
/-- texts that can be laid -/
def MonG (m : Mon) : Prop := ∀ p ∈ m, gd (.str p.1) = true
theorem gd_prs {m : Mon} (h : MonG m) : gds (m.map pr) = true := gds_of fun x hx => by
  obtain ⟨p, hp, rfl⟩ := List.mem_map.mp hx
  have := h p hp
  simp [pr, gd, gds] at this ⊢
  exact this
theorem gd_md {m : Mon} (h : MonG m) (hl : m.length ≤ 1000) : gd (md m) = true := by
  simp [md, gd, gd_prs h, hl]
theorem lay_prs {m : Mon} (h : MonG m) : PyData.canLayAll0 (pys (m.map pr)) = true := gds_lay (gd_prs h)
theorem lay_md {m : Mon} (h : MonG m) : lay (md m) = true := by
  simp [md, lay, D.py, PyData.canLay0, lay_prs h]
theorem lay_mky {m : Mon} (h : MonG m) : lay (mky m) = true := by
  have := lay_md h
  unfold lay at this
  simp [mky, lay, D.py, pys, PyData.canLay0, PyData.canLayAll0, this]
theorem kd_nk (m : Mon) : kdN (nk m) = md m := by
  have : ∀ m : Mon, kdNs (m.map nkp) = m.map pr := by
    intro m
    induction m with
    | nil => simp [kdNs]
    | cons p m ih => simp [kdNs, nkp, pr, kdN, ih]
  simp [nk, md, kdN, this]
theorem nkDs_prs : ∀ m : Mon, nkDs (m.map pr) = some (m.map nkp)
  | [] => by simp [nkDs]
  | p :: m => by simp [nkDs, nkDs_prs m, pr, nkp, nkD]
theorem dp_nk (m : Mon) : (nk m).depth ≤ 8 := by
  have : ∀ m : Mon, NestedKey.depthAll (m.map nkp) ≤ 1 := by
    intro m
    induction m with
    | nil => simp [NestedKey.depthAll]
    | cons p m ih =>
      simp only [List.map_cons, NestedKey.depthAll]
      have : (nkp p).depth = 1 := by simp [nkp, NestedKey.depth, NestedKey.depthAll]
      omega
  have := this m
  simp only [nk, NestedKey.depth]
  omega
theorem keyT_md (m : Mon) : keyT (md m) = some (nk m) := by
  have h1 : nkD (md m) = some (nk m) := by simp [md, nk, nkD, nkDs_prs]
  have h2 : keyT (md m) = (nkD (md m)).bind fun k => if decide (k.depth ≤ 8) then some k else none := rfl
  rw [h2, h1]
  simp [dp_nk m]
theorem nk_inj {a b : Mon} : nk a = nk b ↔ a = b := by
  constructor
  · intro h
    have h : a.map nkp = b.map nkp := by simpa [nk] using h
    induction a generalizing b with
    | nil =>
      cases b with
      | nil => rfl
      | cons _ _ => cases h
    | cons p a ih =>
      cases b with
      | nil => cases h
      | cons q b =>
        simp only [List.map_cons, List.cons.injEq] at h
        rw [ih (by simp [nk, h.2]) h.2]
        obtain ⟨x, i⟩ := p
        obtain ⟨y, j⟩ := q
        simp [nkp] at h
        rw [h.1.1, h.1.2]
  · rintro rfl; rfl
theorem md_inj {a b : Mon} (h : md a = md b) : a = b := by
  have := congrArg keyT h
  rw [keyT_md, keyT_md] at this
  exact nk_inj.mp (Option.some.inj this)
theorem md_eqv : ∀ a b : Mon, eqD (md a) (md b) = decide (a = b) := by
  have key : ∀ a b : Mon, PyData.eqvAll (pys (a.map pr)) (pys (b.map pr)) = decide (a = b) := by
    intro a
    induction a with
    | nil =>
      intro b
      cases b <;> simp [pys, PyData.eqvAll]
    | cons p a ih =>
      intro b
      cases b with
      | nil => simp [pys, PyData.eqvAll]
      | cons q b =>
        obtain ⟨x, i⟩ := p
        obtain ⟨y, j⟩ := q
        simp only [List.map_cons, pys, PyData.eqvAll, ih, pr, D.py, PyData.eqv]
        by_cases h1 : x = y <;> by_cases h2 : i = j <;> by_cases h3 : a = b <;> simp [h1, h2, h3]
  intro a b
  simp only [md, eqD, D.py, PyData.eqv, key]
/-! ### tables and polynomials -/
abbrev Po := List (Mon × Rat)
def part (q : Mon × Rat) : D := .tup [md q.1, qd q.2]
def pd (P : Po) : D := .tup (P.map part)
/-- a table -/
def tbl (P : Po) : List (NestedKey × D) := P.map fun q => (nk q.1, qd q.2)
def leM (a b : Mon × Rat) : Bool := !mlt b.1 a.1
theorem leM_total : PySem.W.TotalLe leM := PySem.W.sortLe_total (PyProof.Rows.listOrd PyProof.Rows.itemOrd) false fun a : Mon × Rat => PySem.W.keyToks (mky a.1).py
def nzB (q : Mon × Rat) : Bool := decide (q.2 ≠ 0)
/-- the polynomial of a table -/
def polyOf (P : Po) : Po := (P.filter nzB).mergeSort leM
/-- in order, each once -/
def Up (P : Po) : Prop := P.Pairwise fun a b => mlt a.1 b.1 = true
theorem Up.nodup {P : Po} (h : Up P) : (P.map (·.1)).Nodup := by
  unfold List.Nodup
  rw [List.pairwise_map]
  exact h.imp fun h => mlt_ne h
theorem polyOf_perm (P : Po) : (polyOf P).Perm (P.filter nzB) := List.mergeSort_perm _ _
theorem polyOf_up {P : Po} (h : (P.map (·.1)).Nodup) : Up (polyOf P) := by
  have h1 : (polyOf P).Pairwise fun a b => leM a b = true := PySem.W.sort_pairwise leM_total _
  have h2 : ((polyOf P).map (·.1)).Nodup := by
    have hp : ((polyOf P).map (·.1)).Perm ((P.filter nzB).map (·.1)) := (polyOf_perm P).map _
    rw [hp.nodup_iff]
    exact h.sublist (List.Sublist.map _ (List.filter_sublist ..))
  unfold List.Nodup at h2
  rw [List.pairwise_map] at h2
  refine (h1.and h2).imp fun {a b} ⟨q1, q2⟩ => ?_
  cases e : mlt a.1 b.1 with
  | true => rfl
  | false =>
    have q1 : mlt b.1 a.1 = false := by simpa [leM] using q1
    exact absurd (mlt_total e q1) q2
theorem up_sorted {P : Po} (h : Up P) (h0 : ∀ q ∈ P, q.2 ≠ 0) : polyOf P = P := by
  unfold polyOf
  have e : (P.filter nzB) = P := List.filter_eq_self.mpr fun q hq => by simpa [nzB] using h0 q hq
  rw [e]
  exact List.mergeSort_of_pairwise (h.imp fun {a b} h => by simp [leM, mlt_asymm h])
theorem polyOf_mem {P : Po} {q : Mon × Rat} : q ∈ polyOf P ↔ q ∈ P ∧ q.2 ≠ 0 := by
  rw [(polyOf_perm P).mem_iff, List.mem_filter]
  simp [nzB]
/-- adjacent ones rise -/
def chB : List Mon → Bool
  | a :: b :: r => mlt a b && chB (b :: r)
  | _ => true
theorem chB_up : ∀ {P : Po}, chB (P.map (·.1)) = true ↔ Up P
  | [] => by simp [chB, Up]
  | [a] => by simp [chB, Up]
  | a :: b :: r => by
    have ih := chB_up (P := b :: r)
    simp only [List.map_cons] at ih
    simp only [List.map_cons, chB, Bool.and_eq_true, ih, Up, List.pairwise_cons]
    constructor
    · rintro ⟨h1, h2, h3⟩
      refine ⟨fun x hx => ?_, h2, h3⟩
      rcases List.mem_cons.mp hx with rfl | hx
      · exact h1
      · exact mlt_trans h1 (h2 x hx)
    · rintro ⟨h1, h2, h3⟩
      exact ⟨h1 b List.mem_cons_self, h2, h3⟩
theorem tbl_find {P : Po} {q : Mon × Rat} (hn : (P.map (·.1)).Nodup) (h : q ∈ P) : lookN (tbl P) (nk q.1) = some (qd q.2) := by
  unfold lookN tbl
  induction P with
  | nil => cases h
  | cons a P ih =>
    simp only [List.map_cons, List.nodup_cons] at hn
    simp only [List.map_cons, List.find?_cons]
    by_cases e : a.1 = q.1
    · have : a = q := by
        rcases List.mem_cons.mp h with h | h
        · exact h.symm
        · exact absurd (List.mem_map.mpr ⟨q, h, e.symm⟩) hn.1
      subst this
      simp
    · have hd : decide (nk a.1 = nk q.1) = false := by simpa [nk_inj] using e
      rw [hd]
      rcases List.mem_cons.mp h with h | h
      · exact absurd (by rw [h]) e
      · exact ih hn.2 h
theorem tbl_none {P : Po} {m : Mon} (h : m ∉ P.map (·.1)) : lookN (tbl P) (nk m) = none := by
  unfold lookN tbl
  rw [List.find?_eq_none.mpr]
  · rfl
  · intro x hx
    obtain ⟨q, hq, rfl⟩ := List.mem_map.mp hx
    simp only [decide_eq_true_eq, nk_inj]
    intro e
    exact h (List.mem_map.mpr ⟨q, hq, e⟩)
/-- a part is put -/
def putP (P : Po) (m : Mon) (q : Rat) : Po := if P.any (fun a => decide (a.1 = m)) then P.map (fun a => if a.1 = m then (a.1, q) else a) else P ++ [(m, q)]
theorem putN_tbl (P : Po) (m : Mon) (q : Rat) : putN (tbl P) (nk m) (qd q) = tbl (putP P m q) := by
  unfold putN putP tbl
  have e : (P.map fun q => (nk q.1, qd q.2)).any (fun kv => decide (kv.1 = nk m)) = P.any (fun a => decide (a.1 = m)) := by
    rw [List.any_map]
    congr 1
    funext a
    simp [nk_inj]
  rw [e]
  split
  · rw [List.map_map, List.map_map]
    refine List.map_congr_left fun a _ => ?_
    simp only [Function.comp, nk_inj]
    split <;> rfl
  · simp
theorem putP_keys (P : Po) (m : Mon) (q : Rat) : (putP P m q).map (·.1) = if P.any (fun a => decide (a.1 = m)) then P.map (·.1) else P.map (·.1) ++ [m] := by
  unfold putP
  split
  · rw [List.map_map]
    refine List.map_congr_left fun p _ => ?_
    simp only [Function.comp]
    split <;> rfl
  · simp
theorem putP_nodup {P : Po} (h : (P.map (·.1)).Nodup) (m : Mon) (q : Rat) : ((putP P m q).map (·.1)).Nodup := by
  rw [putP_keys]
  split
  · exact h
  · rename_i h2
    refine List.nodup_append.mpr ⟨h, by simp, fun a ha b hb e => ?_⟩
    have hb : b = m := by simpa using hb
    subst e
    subst hb
    obtain ⟨p, hp, e⟩ := List.mem_map.mp ha
    exact h2 (List.any_eq_true.mpr ⟨p, hp, by simp [e]⟩)
theorem putP_len (P : Po) (m : Mon) (q : Rat) : (putP P m q).length ≤ P.length + 1 := by
  unfold putP
  split <;> simp
theorem putP_mem {P : Po} {m : Mon} {q : Rat} {p : Mon × Rat} (h : p ∈ putP P m q) : p ∈ P ∨ p = (m, q) := by
  unfold putP at h
  split at h
  · obtain ⟨a, ha, e⟩ := List.mem_map.mp h
    split at e
    · rename_i e2
      right
      rw [← e, e2]
    · left
      rw [← e]
      exact ha
  · rcases List.mem_append.mp h with h | h
    · exact .inl h
    · exact .inr (by simpa using h)
theorem putP_new {P : Po} {m : Mon} {q : Rat} (h : m ∉ P.map (·.1)) : putP P m q = P ++ [(m, q)] := by
  unfold putP
  rw [if_neg]
  simp only [List.any_eq_true, decide_eq_true_eq, not_exists, not_and]
  rintro a ha rfl
  exact h (List.mem_map.mpr ⟨a, ha, rfl⟩)
theorem prsN_pd : ∀ P : Po, prsN (P.map part) = some (tbl P)
  | [] => rfl
  | q :: P => by
    simp only [List.map_cons, part, prsN, keyT_md, prsN_pd P, tbl]
    rfl
theorem putsN_new : ∀ (Q P : Po), ((P ++ Q).map (·.1)).Nodup → putsN (tbl P) (tbl Q) = tbl (P ++ Q)
  | [], P, _ => by simp [putsN, tbl]
  | q :: Q, P, h => by
    have hn : q.1 ∉ P.map (·.1) := by
      rw [List.map_append, List.map_cons, List.nodup_append] at h
      intro hm
      exact h.2.2 _ hm q.1 List.mem_cons_self rfl
    show putsN (putN (tbl P) (nk q.1) (qd q.2)) (tbl Q) = _
    rw [putN_tbl, putP_new hn, putsN_new Q (P ++ [(q.1, q.2)]) (by simpa using h)]
    simp
/-! ### what the defs tell -/
section
variable {ns : List Int} {t : Tw} {k : Nat} {G : Gam} {cs : Nat → D}
theorem okLen_of {n : Nat} (h : n ≤ 1000) : okLen n = true := by
  simp only [okLen, decide_eq_true_eq]
  omega
theorem okLt_mky {a b : Mon} (h1 : MonG a) (h2 : MonG b) : okLt (mky a) (mky b) = true := by
  have := dep_mky a
  have : min (dep (mky a)) (dep (mky b)) ≤ 190 := by omega
  simp [okLt, lay_mky h1, lay_mky h2, al_mky, this]
theorem lt_mky {a b : Mon} (h1 : MonG a) (h2 : MonG b) : ltOp (mky a) (mky b) = some (.bl (mlt a b)) := by
  have e : ltOp (mky a) (mky b) = if okLt (mky a) (mky b) then some (.bl (PySem.W.dataLt (mky a).py (mky b).py)) else none := rfl
  rw [e, okLt_mky h1 h2]
  rfl
theorem cut1 {α : Type} (xs : List α) : cutL xs (some 1) none = xs.drop 1 := by
  unfold cutL
  have h1 : HT.sIx xs.length 0 (some 1) = min 1 xs.length := by
    unfold HT.sIx
    cases xs with
    | nil => rfl
    | cons x r => simp
  have h2 : HT.sIx xs.length xs.length none = xs.length := by
    unfold HT.sIx
    rfl
  rw [h1, h2]
  cases xs with
  | nil => simp
  | cons x r =>
    have : min 1 (x :: r).length = 1 := by simp
    rw [this]
    simp
/-- places of two lists, one behind another -/
theorem zip_all (g : D → D → Bool) : ∀ (xs ys : List D), (zipD xs ys).map (fun d => match d with
    | .tup [a, b] => D.bl (g a b)
    | _ => .non) = (xs.zip ys).map fun p => D.bl (g p.1 p.2)
  | [], _ => by simp [zipD]
  | _ :: _, [] => by simp [zipD]
  | x :: xs, y :: ys => by simp [zipD, zip_all g xs ys]
theorem zipD_mem : ∀ {xs ys : List D} {d : D}, d ∈ zipD xs ys → ∃ a b, d = .tup [a, b] ∧ a ∈ xs ∧ b ∈ ys
  | [], _, d, h => by simp [zipD] at h
  | _ :: _, [], d, h => by simp [zipD] at h
  | x :: xs, y :: ys, d, h => by
    simp only [zipD, List.mem_cons] at h
    rcases h with rfl | h
    · exact ⟨x, y, rfl, by simp, by simp⟩
    · obtain ⟨a, b, e, h1, h2⟩ := zipD_mem h
      exact ⟨a, b, e, by simp [h1], by simp [h2]⟩
theorem zipD_len : ∀ xs ys : List D, (zipD xs ys).length ≤ xs.length
  | [], _ => by simp [zipD]
  | _ :: _, [] => by simp [zipD]
  | x :: xs, y :: ys => by
    have := zipD_len xs ys
    simp only [zipD, List.length_cons]
    omega
theorem bls_map2 {α : Type} (f : α → Bool) : ∀ xs : List α, bls (xs.map fun a => D.bl (f a)) = some (xs.map f)
  | [] => rfl
  | x :: xs => by simp [bls, bls_map2 f xs]
theorem intsD_map {α : Type} (f : α → Int) : ∀ xs : List α, intsD (xs.map fun a => D.int (f a)) = some (xs.map f)
  | [] => rfl
  | x :: xs => by simp [intsD, intsD_map f xs]
/-- comprehensions over data of some kind -/
theorem compL_mapA {α : Type} {f : D → Tw → Res (Option D)} (enc g : α → D) {t : Tw} : ∀ ys : List α, (∀ a ∈ ys, f (enc a) t = .ok (some (g a)) t) → compL f (ys.map enc) t = .ok (ys.map g) t
  | [], _ => rfl
  | a :: ys, h => by
    rw [List.map_cons, compL, h a (List.mem_cons_self ..)]
    simp only
    rw [compL_mapA enc g ys fun b m => h b (List.mem_cons_of_mem _ m)]
    rfl
theorem comp_mapA {α : Type} {own : List (Str × Nat)} {elt : E} {tg : Tg} {it : I} {cd : O} {r : Rho} {ys : List α} (enc g : α → D) (hi : evI G cs it r t = .ok (ys.map enc) t) (hl : ys.length ≤ 1000) (h : ∀ a ∈ ys, turnE tg (own.map (·.2)) (evO G cs cd) (ev G cs elt) r (enc a) t = .ok (some (g a)) t) : ev G cs (.comp own elt tg it cd) r t = .ok (.lst (ys.map g)) t := by
  rw [ev_comp]
  unfold compE
  rw [hi, Res.bind_ok, if_pos (okLen_of (by simpa using hl)), compL_mapA enc g ys h]
  rfl
theorem compL_filtA {α : Type} {f : D → Tw → Res (Option D)} (enc : α → D) (c : α → Bool) (g : α → D) {t : Tw} : ∀ ys : List α, (∀ a ∈ ys, f (enc a) t = .ok (if c a then some (g a) else none) t) → compL f (ys.map enc) t = .ok ((ys.filter c).map g) t
  | [], _ => rfl
  | a :: ys, h => by
    rw [List.map_cons, compL, h a (List.mem_cons_self ..)]
    simp only
    rw [compL_filtA enc c g ys fun b m => h b (List.mem_cons_of_mem _ m)]
    cases e : c a <;> simp [List.filter_cons, e, consO]
theorem comp_filtA {α : Type} {own : List (Str × Nat)} {elt : E} {tg : Tg} {it : I} {cd : O} {r : Rho} {ys : List α} (enc : α → D) (c : α → Bool) (g : α → D) (hi : evI G cs it r t = .ok (ys.map enc) t) (hl : ys.length ≤ 1000) (h : ∀ a ∈ ys, turnE tg (own.map (·.2)) (evO G cs cd) (ev G cs elt) r (enc a) t = .ok (if c a then some (g a) else none) t) : ev G cs (.comp own elt tg it cd) r t = .ok (.lst ((ys.filter c).map g)) t := by
  rw [ev_comp]
  unfold compE
  rw [hi, Res.bind_ok, if_pos (okLen_of (by simpa using hl)), compL_filtA enc c g ys h]
  rfl
theorem comp_of {own : List (Str × Nat)} {elt : E} {tg : Tg} {it : I} {cd : O} {r : Rho} {t1 t2 : Tw} {xs ys : List D} (hi : evI G cs it r t = .ok xs t1) (hl : xs.length ≤ 1000) (h : compL (turnE tg (own.map (·.2)) (evO G cs cd) (ev G cs elt) r) xs t1 = .ok ys t2) : ev G cs (.comp own elt tg it cd) r t = .ok (.lst ys) t2 := by
  rw [ev_comp]
  unfold compE
  rw [hi, Res.bind_ok, if_pos (okLen_of hl), h]
  rfl
theorem zipD_map {α : Type} (f : α → D) : ∀ xs ys : List α, zipD (xs.map f) (ys.map f) = (xs.zip ys).map fun q => .tup [f q.1, f q.2]
  | [], _ => by simp [zipD]
  | _ :: _, [] => by simp [zipD]
  | x :: xs, y :: ys => by simp [zipD, zipD_map f xs ys]
theorem chB_zip : ∀ l : List Mon, chB l = (l.zip (l.drop 1)).all fun q => mlt q.1 q.2
  | [] => rfl
  | [a] => rfl
  | a :: b :: r => by
    have := chB_zip (b :: r)
    simp only [List.drop_succ_cons, List.drop_zero] at this
    simp [chB, this]
theorem e_part_key (hk : 1 ≤ k) {m : Mon} (hl : m.length ≤ 1000) : callF p ns k i_part_key [md m] t = .ok (mky m) t := by
  obtain ⟨k, rfl⟩ := up1 hk
  rw [u_part_key]
  have hc := comp_map (G := gam p ns k) (cs := csOf cst) (own := [("name", 1), ("exponent", 2)]) (elt := .var 2) (tg := .tup (.cons (.name 1) (.cons (.name 2) .nil))) (it := .val (.var 0)) (cd := .none) (r := [.val (md m), .un, .un]) (t := t) (xs := m.map pr) (fun d => match d with
    | .tup [_, b] => b
    | _ => .non) (by simp [md]) (by rw [List.length_map]; exact okLen_of hl) (fun d hd => by
      obtain ⟨q, _, rfl⟩ := List.mem_map.mp hd
      simp [pr])
  have e : ((m.map pr).map fun d => match d with
    | .tup [_, b] => b
    | _ => .non) = m.map fun q => D.int q.2 := by
    rw [List.map_map]
    rfl
  rw [e] at hc
  simp [b_part_key, hc, blt1, intsD_map, mky, deg]
end
end Lw

/-! ### names, powers, polynomials: what the defs tell -/
namespace Lw
open PySem Fm
section
variable {ns : List Int} {t : Tw} {k : Nat} {sc : List Int} {n : Nat}
def letters : List Nat := (("abcdefghijklmnopqrstuvwxyz" : Str).cps).toList
def isNm (x : Str) : Bool := decide (1 ≤ x.length) && (decide (x.length ≤ 8) && x.cps.toList.all fun c => decide (c ∈ letters))
theorem strD_len (x : Str) : (strD x).length = x.length := by
  simp [strD, Str.length]
theorem e_is_name (hk : 1 ≤ k) {x : Str} (h : gd (.str x) = true) : callF p ns k i_is_name [.str x] t = .ok (.bl (isNm x)) t := by
  obtain ⟨k, rfl⟩ := up1 hk
  rw [u_is_name]
  have in_one : ∀ c : Nat, inB (.str ⟨#[c]⟩) (D.str "abcdefghijklmnopqrstuvwxyz") = some (decide (c ∈ letters)) := fun c => rfl
  simp only [gd, Bool.and_eq_true, decide_eq_true_eq] at h
  have ol := okLen_of h.2
  have oc := okLen_of (show (strD x).length ≤ 1000 by rw [strD_len]; exact h.2)
  simp [b_is_name, ol]
  by_cases h1 : 1 ≤ x.length
  · have h1' : (1 : Int) ≤ x.length := by omega
    by_cases h2 : x.length ≤ 8
    · have h2' : (x.length : Int) ≤ 8 := by omega
      have hc := comp_map (G := gam p ns k) (cs := csOf cst) (own := [("mark", 1)]) (elt := .cmp .In (.var 1) (.glob 0)) (tg := .name 1) (it := .val (.var 0)) (cd := .none) (r := [.val (.str x), .un]) (t := t) (xs := strD x) (fun d => .bl (match d with
        | .str z => decide (z.cps.getD 0 0 ∈ letters)
        | _ => false)) (by simp) oc (fun d m => by
          obtain ⟨c, _, rfl⟩ := List.mem_map.mp m
          simp [in_one])
      simp [h1', h2', oc, hc, x_all]
      simp [isNm, h1, h2, strD, List.all_map, Function.comp_def]
    · have h2' : ¬ (x.length : Int) ≤ 8 := by omega
      simp [h1', h2', isNm, h2]
  · have h1' : ¬ (1 : Int) ≤ x.length := by omega
    simp [h1', isNm, h1]
/-- powers of names as they must be -/
structure MonOk (m : Mon) : Prop where
  g : MonG m
  nm : ∀ p ∈ m, isNm p.1 = true
  ex : ∀ p ∈ m, 1 ≤ p.2
  up : m.Pairwise fun a b => a.1.cps.toList < b.1.cps.toList
  len : m.length ≤ 100
theorem zip_tail {α : Type} {R : α → α → Prop} : ∀ {xs : List α}, xs.Pairwise R → ∀ q ∈ xs.zip (xs.drop 1), R q.1 q.2
  | [], _, q, h => by simp at h
  | [x], _, q, h => by simp at h
  | x :: y :: r, hp, q, h => by
    simp only [List.drop_succ_cons, List.drop_zero, List.zip_cons_cons, List.mem_cons] at h
    rw [List.pairwise_cons] at hp
    rcases h with rfl | h
    · exact hp.1 y List.mem_cons_self
    · exact zip_tail (xs := y :: r) hp.2 q (by simpa using h)
theorem e_are_powers (hk : 2 ≤ k) {m : Mon} (h : MonOk m) : callF p ns k i_are_powers [md m] t = .ok (.bl true) t := by
  obtain ⟨k, rfl⟩ := up1 (show 1 ≤ k by omega)
  have hk : 1 ≤ k := by omega
  rw [u_are_powers]
  have hl := h.len
  have lp := loopF_inv (f := fun d r t => match setT (.name 1) d r with
    | some r1 => evSs (gam p ns k) (csOf cst) b_are_powers_1 r1 t
    | none => .bad) (fun r t' => t' = t ∧ ∃ s, r = [.val (md m), s, .un, .un]) (m.map pr) [.val (md m), .un, .un, .un] t ⟨rfl, _, rfl⟩ (fun d hd r t' hr => by
      obtain ⟨rfl, s, rfl⟩ := hr
      obtain ⟨⟨x, i⟩, hq, rfl⟩ := List.mem_map.mp hd
      have h1 := e_is_name (ns := ns) (t := t') hk (h.g _ hq)
      have h2 := e_is_wholeL (ns := ns) (t := t') hk (.int i) 1 rfl
      have h3 : 1 ≤ i := h.ex _ hq
      rw [h.nm _ hq] at h1
      refine ⟨[.val (md m), .val (pr (x, i)), .un, .un], t', ?_, rfl, _, rfl⟩
      simp [b_are_powers_1, pr, h1, h2, isWL, h3])
  obtain ⟨r', t', e1, rfl, s, rfl⟩ := lp
  have hc := comp_mapA (G := gam p ns k) (cs := csOf cst) (own := [("one", 2), ("other", 3)]) (elt := .cmp .Lt (.ix (.var 2) (.cst (.int 0))) (.ix (.var 3) (.cst (.int 0)))) (tg := .tup (.cons (.name 2) (.cons (.name 3) .nil)))
    (it := .zip (.var 0) (.cut (.var 0) (.some (.cst (.int 1))) .none)) (cd := .none) (r := [.val (md m), s, .un, .un]) (t := t') (ys := m.zip (m.drop 1)) (fun q => .tup [pr q.1, pr q.2]) (fun q => .bl (decide (q.1.1.cps.toList < q.2.1.cps.toList)))
    (by simp [md, cut1, ← zipD_map]) (by rw [List.length_zip]; omega) (fun q hq => by simp [pr])
  have e3 : (m.zip (m.drop 1)).all (fun q => decide (q.1.1.cps.toList < q.2.1.cps.toList)) = true := List.all_eq_true.mpr fun q hq => by
    have := zip_tail h.up q hq
    exact decide_eq_true this
  have hb : blt1 .all (.lst ((m.zip (m.drop 1)).map fun q => D.bl (decide (q.1.1.cps.toList < q.2.1.cps.toList)))) = some (.bl true) := by
    show (bls _).map _ = _
    rw [bls_map2, Option.map_some, List.all_map]
    exact congrArg (fun b => some (D.bl b)) e3
  generalize (m.zip (m.drop 1)).map (fun q => D.bl (decide (q.1.1.cps.toList < q.2.1.cps.toList))) = L at hc hb
  have e4 : evS (gam p ns k) (csOf cst) (.for (.name 1) (.val (.var 0)) b_are_powers_1) [.val (md m), .un, .un, .un] t' = .ok (.nx, [.val (md m), s, .un, .un]) t' := by
    rw [for_ev (xs := m.map pr) (t1 := t') (by simp [md])]
    exact e1
  have e5 : evS (gam p ns k) (csOf cst) (.ite (.not (.isa (.var 0) .tuple)) (.cons (.ret (.cst (.bl false))) .nil) .nil) [.val (md m), .un, .un, .un] t' = .ok (.nx, [.val (md m), .un, .un, .un]) t' := by
    simp [md]
  show retD (evSs _ _ b_are_powers [.val (md m), .un, .un, .un] t') = _
  unfold b_are_powers
  rw [seq_nx e5, seq_nx e4]
  simp [hc, hb]
theorem e_is_polynomial (hk : 3 ≤ k) {P : Po} (h : ∀ q ∈ P, MonOk q.1 ∧ q.2 ≠ 0) (hl : P.length ≤ 1000) : callF p ns k i_is_polynomial [pd P] t = .ok (.bl (chB (P.map (·.1)))) t := by
  obtain ⟨k, rfl⟩ := up1 (show 1 ≤ k by omega)
  have hk : 2 ≤ k := by omega
  rw [u_is_polynomial]
  have hc1 := comp_map (G := gam p ns k) (cs := csOf cst) (own := [("part", 1)]) (elt := .and (.isa (.var 1) .tuple) (.cmp .Eq (.blt .len (.var 1)) (.cst (.int 2)))) (tg := .name 1) (it := .val (.var 0)) (cd := .none) (r := [.val (pd P), .un, .un, .un, .un, .un]) (t := t) (xs := P.map part) (fun d => .bl true)
    (by simp [pd]) (okLen_of (by simpa using hl)) (fun d hd => by
      obtain ⟨q, _, rfl⟩ := List.mem_map.mp hd
      simp [part])
  have lp := loopF_inv (f := fun d r t => match setT (.tup (.cons (.name 2) (.cons (.name 3) .nil))) d r with
    | some r1 => evSs (gam p ns k) (csOf cst) b_is_polynomial_1 r1 t
    | none => .bad) (fun r t' => t' = t ∧ ∃ s s', r = [.val (pd P), .un, s, s', .un, .un]) (P.map part) [.val (pd P), .un, .un, .un, .un, .un] t ⟨rfl, _, _, rfl⟩ (fun d hd r t' hr => by
      obtain ⟨rfl, s, s', rfl⟩ := hr
      obtain ⟨⟨m, q⟩, hq, rfl⟩ := List.mem_map.mp hd
      have h1 := e_are_powers (ns := ns) (t := t') hk (h _ hq).1
      have h2 := e_is_fraction (ns := ns) (t := t') hk (qd q) (gd_qd q)
      rw [qd_isFr] at h2
      have h3 : eqOp (qd q) (.tup [.int 0, .int 1]) = some (.bl false) := by
        have : ¬ (q.num = 0 ∧ (q.den : Int) = 1) := fun z => (h _ hq).2 (by
          have := Rat.num_eq_zero.mp z.1
          exact this)
        rw [qd, x_eqf, decide_eq_false this]
      refine ⟨[.val (pd P), .un, .val (md m), .val (qd q), .un, .un], t', ?_, rfl, _, _, rfl⟩
      simp [part, b_is_polynomial_1, h1, h2, h3])
  obtain ⟨r', t', e1, rfl, s, s', rfl⟩ := lp
  have hc := comp_mapA (G := gam p ns k) (cs := csOf cst) (own := [("one", 4), ("other", 5)]) (elt := .cmp .Lt (.call 6 (.cons (.ix (.var 4) (.cst (.int 0))) .nil) .nil) (.call 6 (.cons (.ix (.var 5) (.cst (.int 0))) .nil) .nil)) (tg := .tup (.cons (.name 4) (.cons (.name 5) .nil)))
    (it := .zip (.var 0) (.cut (.var 0) (.some (.cst (.int 1))) .none)) (cd := .none) (r := [.val (pd P), .un, s, s', .un, .un]) (t := t') (ys := P.zip (P.drop 1)) (fun q => .tup [part q.1, part q.2]) (fun q => .bl (mlt q.1.1 q.2.1))
    (by simp [pd, cut1, ← zipD_map]) (by rw [List.length_zip]; omega) (fun q hq => by
      obtain ⟨⟨m, c⟩, m', c'⟩ := q
      have m1 := (h _ (List.of_mem_zip hq).1).1
      have m2 := (h _ (List.mem_of_mem_drop (List.of_mem_zip hq).2)).1
      have h1 := e_part_key (ns := ns) (t := t') (show 1 ≤ k by omega) (m := m) (Nat.le_trans m1.len (by omega))
      have h2 := e_part_key (ns := ns) (t := t') (show 1 ≤ k by omega) (m := m') (Nat.le_trans m2.len (by omega))
      have h3 := lt_mky m1.g m2.g
      simp only at h3
      simp [part, h1, h2, h3])
  have e2 : (P.zip (P.drop 1)).all (fun q => mlt q.1.1 q.2.1) = chB (P.map (·.1)) := by
    rw [chB_zip, ← List.map_drop, List.zip_map, List.all_map]
    rfl
  have hb : blt1 .all (.lst ((P.zip (P.drop 1)).map fun q => D.bl (mlt q.1.1 q.2.1))) = some (.bl (chB (P.map (·.1)))) := by
    show (bls _).map _ = _
    rw [bls_map2, Option.map_some, List.all_map]
    exact congrArg (fun b => some (D.bl b)) e2
  generalize (P.zip (P.drop 1)).map (fun q => D.bl (mlt q.1.1 q.2.1)) = L at hc hb
  have e3 : evS (gam p ns k) (csOf cst) (.for (.tup (.cons (.name 2) (.cons (.name 3) .nil))) (.val (.var 0)) b_is_polynomial_1) [.val (pd P), .un, .un, .un, .un, .un] t' = .ok (.nx, [.val (pd P), .un, s, s', .un, .un]) t' := by
    rw [for_ev (xs := P.map part) (t1 := t') (by simp [pd])]
    exact e1
  show retD (evSs _ _ b_is_polynomial [.val (pd P), .un, .un, .un, .un, .un] t') = _
  unfold b_is_polynomial
  rw [seq_nx (r1 := [.val (pd P), .un, .un, .un, .un, .un]) (t1 := t'), seq_nx e3]
  · simp [hc, hb]
  · have eT : isaD (pd P) .tuple = some true := rfl
    have ha : blt1 .all (.lst ((P.map part).map fun _ => D.bl true)) = some (.bl true) := by
      rw [x_all (g := fun _ => true)]
      simp
    simp [eT, hc1]
    simp at ha
    simp [ha]
end
end Lw

/-! ### tables made to polynomials; drawn polynomials -/
namespace Lw
open PySem Fm
section
variable {ns : List Int} {t : Tw} {k : Nat} {sc : List Int} {n : Nat} {G : Gam} {cs : Nat → D}
theorem num_ne (q : Mon × Rat) : (!decide (q.2.num = 0)) = nzB q := by
  unfold nzB
  by_cases h : q.2 = 0
  · rw [h]
    simp
  · have : q.2.num ≠ 0 := fun z => h (Rat.num_eq_zero.mp z)
    simp [h, this]
theorem lam_mky {m : Mon} (hl : m.length ≤ 1000) : ev G cs (.tup (.cons (.bin .Sub (.cst (.int 0)) (.blt .sum (.comp [("pair", 1)] (.ix (.var 1) (.cst (.int 1))) (.name 1) (.val (.var 0)) .none))) (.cons (.var 0) .nil))) [.val (md m), .un] t = .ok (mky m) t := by
  have hc := comp_mapA (G := G) (cs := cs) (t := t) (own := [("pair", 1)]) (elt := .ix (.var 1) (.cst (.int 1))) (tg := .name 1) (it := .val (.var 0)) (cd := .none) (r := [.val (md m), .un]) (ys := m) pr (fun q => .int q.2) (by simp [md]) hl (fun q hq => by simp [pr])
  simp [hc, blt1, intsD_map, mky, deg]
theorem okKeys_mky {Q : Po} (h : ∀ q ∈ Q, MonG q.1) : okKeys (Q.map fun q => mky q.1) = true := by
  unfold okKeys
  rw [Bool.and_eq_true, Bool.or_eq_true]
  refine ⟨List.all_eq_true.mpr fun a ha => ?_, .inl (List.all_eq_true.mpr fun a ha => ?_)⟩
  · obtain ⟨q, hq, rfl⟩ := List.mem_map.mp ha
    have h1 := dep_mky q.1
    have h1 : dep (mky q.1) ≤ 190 := by omega
    have h2 : ((Q.map fun q => mky q.1).all fun b => PySem.W.alike (mky q.1).py b.py) = true := List.all_eq_true.mpr fun b hb => by
      obtain ⟨q', _, rfl⟩ := List.mem_map.mp hb
      exact al_mky _ _
    simp only [lay_mky (h q hq), h1, h2, decide_true, Bool.and_self]
  · obtain ⟨q, hq, rfl⟩ := List.mem_map.mp ha
    rfl
theorem sortD_mky (Q : Po) : sortD (Q.map fun q => md q.1) (Q.map fun q => mky q.1) = (Q.mergeSort leM).map fun q => md q.1 := by
  unfold sortD
  have e : (Q.map fun q => md q.1).zip (Q.map fun q => mky q.1) = Q.map fun q => (md q.1, mky q.1) := by
    rw [List.zip_map']
  rw [e, ← List.map_mergeSort (r := leM) (f := fun q : Mon × Rat => (md q.1, mky q.1)) (fun a _ b _ => rfl), List.map_map]
  rfl
theorem e__law_poly (hk : 3 ≤ k) {P : Po} (hn : (P.map (·.1)).Nodup) (hg : ∀ q ∈ P, MonG q.1 ∧ q.1.length ≤ 1000) (hl : P.length ≤ 1000) : callF p ns k i__law_poly [.dcn (tbl P)] t = .ok (pd (polyOf P)) t := by
  obtain ⟨k, rfl⟩ := up1 (show 1 ≤ k by omega)
  have hk : 2 ≤ k := by omega
  rw [u__law_poly]
  have hkeys : (tbl P).map (fun q => kdN q.1) = P.map fun q => md q.1 := by
    unfold tbl
    rw [List.map_map]
    exact List.map_congr_left fun q _ => kd_nk q.1
  have h1 := comp_filtA (G := gam p ns k) (cs := csOf cst) (t := t) (own := [("powers", 2)]) (elt := .var 2) (tg := .name 2) (it := .keys (.var 0)) (cd := .some (.cmp .NotEq (.ix (.dix (.var 0) (.var 2)) (.cst (.int 0))) (.cst (.int 0)))) (r := [.val (.dcn (tbl P)), .un, .un, .un, .un]) (ys := P)
    (fun q => md q.1) nzB (fun q => md q.1) (by simp [hkeys]) hl (fun q hq => by
      have e1 := tbl_find hn hq
      rw [← num_ne]
      simp [keyT_md, e1, qd]
      by_cases z : q.2 = 0 <;> simp [z])
  have s1 : evS (gam p ns k) (csOf cst) (.asg (.name 1) (.comp [("powers", 2)] (.var 2) (.name 2) (.keys (.var 0)) (.some (.cmp .NotEq (.ix (.dix (.var 0) (.var 2)) (.cst (.int 0))) (.cst (.int 0)))))) [.val (.dcn (tbl P)), .un, .un, .un, .un] t = .ok (.nx, [.val (.dcn (tbl P)), .val (.lst ((P.filter nzB).map fun q => md q.1)), .un, .un, .un]) t := by
    rw [evS_asg]
    simp only [h1]
    simp
  have hgQ : ∀ q ∈ P.filter nzB, MonG q.1 ∧ q.1.length ≤ 1000 := fun q hq => hg q (List.mem_filter.mp hq).1
  have s2 : evS (gam p ns k) (csOf cst) (.asg (.name 3) (.sortK (.var 1) ["powers", "pair"] (.tup (.cons (.bin .Sub (.cst (.int 0)) (.blt .sum (.comp [("pair", 1)] (.ix (.var 1) (.cst (.int 1))) (.name 1) (.val (.var 0)) .none))) (.cons (.var 0) .nil))))) [.val (.dcn (tbl P)), .val (.lst ((P.filter nzB).map fun q => md q.1)), .un, .un, .un] t
      = .ok (.nx, [.val (.dcn (tbl P)), .val (.lst ((P.filter nzB).map fun q => md q.1)), .un, .val (.lst ((polyOf P).map fun q => md q.1)), .un]) t := by
    rw [evS_asg]
    have hc := compL_mapA (t := t) (f := fun d t => (ev (gam p ns k).low (csOf cst) (.tup (.cons (.bin .Sub (.cst (.int 0)) (.blt .sum (.comp [("pair", 1)] (.ix (.var 1) (.cst (.int 1))) (.name 1) (.val (.var 0)) .none))) (.cons (.var 0) .nil))) (startR ["powers", "pair"] [d]) t).bind fun x t => .ok (some x) t) (fun q : Mon × Rat => md q.1) (fun q => mky q.1) (P.filter nzB) (fun q hq => by
      have := lam_mky (G := (gam p ns k).low) (cs := csOf cst) (t := t) (hgQ q hq).2
      show (ev _ _ _ [.val (md q.1), .un] t).bind _ = _
      rw [this]
      rfl)
    have e : ev (gam p ns k) (csOf cst) (.sortK (.var 1) ["powers", "pair"] (.tup (.cons (.bin .Sub (.cst (.int 0)) (.blt .sum (.comp [("pair", 1)] (.ix (.var 1) (.cst (.int 1))) (.name 1) (.val (.var 0)) .none))) (.cons (.var 0) .nil)))) [.val (.dcn (tbl P)), .val (.lst ((P.filter nzB).map fun q => md q.1)), .un, .un, .un] t = .ok (.lst ((polyOf P).map fun q => md q.1)) t := by
      rw [ev_sortK]
      unfold sortKE
      rw [if_pos (show decide (2 ≤ (gam p ns k).lv) = true from decide_eq_true hk)]
      have e0 : ev (gam p ns k) (csOf cst) (.var 1) [.val (.dcn (tbl P)), .val (.lst ((P.filter nzB).map fun q => md q.1)), .un, .un, .un] t = .ok (.lst ((P.filter nzB).map fun q => md q.1)) t := by simp
      rw [e0, Res.bind_ok]
      simp only
      rw [hc, Res.bind_ok, okKeys_mky (fun q hq => (hgQ q hq).1), if_pos rfl, sortD_mky]
      rfl
    simp only [e]
    simp
  have hp : ∀ q ∈ polyOf P, q ∈ P := fun q hq => (polyOf_mem.mp hq).1
  have h3 := comp_mapA (G := gam p ns k) (cs := csOf cst) (t := t) (own := [("powers", 2)]) (elt := .tup (.cons (.var 2) (.cons (.dix (.var 0) (.var 2)) .nil))) (tg := .name 2) (it := .val (.var 3)) (cd := .none) (r := [.val (.dcn (tbl P)), .val (.lst ((P.filter nzB).map fun q => md q.1)), .un, .val (.lst ((polyOf P).map fun q => md q.1)), .un]) (ys := polyOf P)
    (fun q => md q.1) part (by simp) (by have := (polyOf_perm P).length_eq; have := List.length_filter_le nzB P; omega) (fun q hq => by
      have e1 := tbl_find hn (hp q hq)
      simp [keyT_md, e1, part])
  show retD (evSs _ _ b__law_poly [.val (.dcn (tbl P)), .un, .un, .un, .un] t) = _
  unfold b__law_poly
  rw [seq_nx s1, seq_nx s2]
  simp [h3, pd]
/-- a small fraction -/
structure SmQ (s : Int) (q : Rat) : Prop where
  lo : -s ≤ q.num
  hi : q.num ≤ s
  dn : q.den ≤ 3
theorem SmF.q {s x y : Int} (h : SmF s x y) : ∃ q, fr x y = qd q ∧ SmQ s q := by
  have h0 := h.lo
  have h1 := h.hi
  have h2 := h.num
  refine ⟨⟨x, y.toNat, by omega, ?_⟩, ?_, ⟨h2.1, h2.2, ?_⟩⟩
  · have := h.g
    unfold Int.gcd at this
    have e : y.natAbs = y.toNat := by omega
    rw [e] at this
    exact this
  · have e : (y.toNat : Int) = y := by omega
    show D.tup [.int x, .int y] = D.tup [.int x, .int (y.toNat : Int)]
    rw [e]
  · show y.toNat ≤ 3
    omega
theorem SmQ.qs {s : Int} {q : Rat} (h : SmQ s q) (hs : s ≤ 1000) : qs 10 q := by
  have h1 := h.lo
  have h2 := h.hi
  have h3 := h.dn
  constructor
  · have : (2 : Nat) ^ 10 = 1024 := by decide
    omega
  · have : (2 : Nat) ^ 10 = 1024 := by decide
    omega
/-- names, rising -/
structure Nms (xs : List Str) : Prop where
  g : ∀ x ∈ xs, gd (.str x) = true
  nm : ∀ x ∈ xs, isNm x = true
  up : xs.Pairwise fun a b => a.cps.toList < b.cps.toList
  len : xs.length ≤ 10
/-- a drawn part's powers -/
structure MonD (xs : List Str) (m : Mon) : Prop where
  sub : (m.map (·.1)).Sublist xs
  lo : ∀ q ∈ m, 1 ≤ q.2
  hi : ∀ q ∈ m, q.2 ≤ 2
theorem MonD.ok {xs : List Str} {m : Mon} (h : MonD xs m) (hx : Nms xs) : MonOk m := by
  have mem : ∀ q ∈ m, q.1 ∈ xs := fun q hq => h.sub.subset (List.mem_map.mpr ⟨q, hq, rfl⟩)
  refine ⟨fun q hq => hx.g _ (mem q hq), fun q hq => hx.nm _ (mem q hq), h.lo, ?_, ?_⟩
  · have := hx.up.sublist h.sub
    rw [List.pairwise_map] at this
    exact this
  · have := h.sub.length_le
    have := hx.len
    simp at *
    omega
structure PoD (xs : List Str) (s : Int) (most : Nat) (P : Po) : Prop where
  nd : (P.map (·.1)).Nodup
  mon : ∀ q ∈ P, MonD xs q.1
  sm : ∀ q ∈ P, SmQ s q.2
  len : P.length ≤ most
/-- the powers that are drawn -/
theorem draw_mon (hk : 1 ≤ k) {w2 w3 w4 w5 w6 w7 w8 : Sl} : ∀ (xs : List Str) (n : Nat) (t : Tw), rm (n + 2 * xs.length) t → ∃ m t', compL (turnE (.name 7) [7] (evO (gam p ns k) (csOf cst) (.some (.cmp .Eq (.call 8 (.cons (.var 0) (.cons (.var 1) (.cons (.cst (.int 2)) .nil))) .nil) (.cst (.int 0))))) (ev (gam p ns k) (csOf cst) (.tup (.cons (.var 7) (.cons (.bin .Add (.cst (.int 1)) (.call 8 (.cons (.var 0) (.cons (.var 1) (.cons (.cst (.int 2)) .nil))) .nil)) .nil)))) (.val (.scr sc) :: .val .tok :: w2 :: w3 :: w4 :: w5 :: w6 :: w7 :: w8 :: [])) (xs.map .str) t = .ok (m.map pr) t' ∧ MonD xs m ∧ rm n t'
  | [], n, t, h => ⟨[], t, rfl, ⟨by simp, by simp, by simp⟩, h⟩
  | x :: xs, n, t, h => by
    obtain ⟨v, t1, e1, v0, v1, h1⟩ := e_draw (ns := ns) (sc := sc) hk 2 (by omega) (by omega) (show rm ((n + 2 * xs.length + 1) + 1) t from (by rw [List.length_cons] at h; exact h.le (by omega)))
    have hv : v = 0 ∨ v = 1 := by omega
    rw [List.map_cons, compL]
    rcases hv with rfl | rfl
    · obtain ⟨u, t2, e2, u0, u1, h2⟩ := e_draw (ns := ns) (sc := sc) hk 2 (by omega) (by omega) h1
      obtain ⟨m, t3, e3, M, h3⟩ := draw_mon hk xs n t2 h2
      refine ⟨(x, 1 + u) :: m, t3, ?_, ⟨by simpa using M.sub.cons₂ x, fun q hq => ?_, fun q hq => ?_⟩, h3⟩
      · have et : turnE (.name 7) [7] (evO (gam p ns k) (csOf cst) (.some (.cmp .Eq (.call 8 (.cons (.var 0) (.cons (.var 1) (.cons (.cst (.int 2)) .nil))) .nil) (.cst (.int 0))))) (ev (gam p ns k) (csOf cst) (.tup (.cons (.var 7) (.cons (.bin .Add (.cst (.int 1)) (.call 8 (.cons (.var 0) (.cons (.var 1) (.cons (.cst (.int 2)) .nil))) .nil)) .nil)))) (.val (.scr sc) :: .val .tok :: w2 :: w3 :: w4 :: w5 :: w6 :: w7 :: w8 :: []) (.str x) t = .ok (some (pr (x, 1 + u))) t2 := by
          simp [e1, e2, pr]
        rw [et]
        simp only
        rw [e3]
        rfl
      · rcases List.mem_cons.mp hq with rfl | hq
        · show 1 ≤ 1 + u
          omega
        · exact M.lo q hq
      · rcases List.mem_cons.mp hq with rfl | hq
        · show 1 + u ≤ 2
          omega
        · exact M.hi q hq
    · obtain ⟨m, t3, e3, M, h3⟩ := draw_mon hk xs n t1 (h1.le (by omega))
      refine ⟨m, t3, ?_, ⟨M.sub.cons x, M.lo, M.hi⟩, h3⟩
      have et : turnE (.name 7) [7] (evO (gam p ns k) (csOf cst) (.some (.cmp .Eq (.call 8 (.cons (.var 0) (.cons (.var 1) (.cons (.cst (.int 2)) .nil))) .nil) (.cst (.int 0))))) (ev (gam p ns k) (csOf cst) (.tup (.cons (.var 7) (.cons (.bin .Add (.cst (.int 1)) (.call 8 (.cons (.var 0) (.cons (.var 1) (.cons (.cst (.int 2)) .nil))) .nil)) .nil)))) (.val (.scr sc) :: .val .tok :: w2 :: w3 :: w4 :: w5 :: w6 :: w7 :: w8 :: []) (.str x) t = .ok none t1 := by
        simp [e1]
      rw [et]
      simp only
      rw [e3]
      rfl
theorem PoD.put {xs : List Str} {s : Int} {j : Nat} {P : Po} {m : Mon} {c : Rat} (h : PoD xs s j P) (hm : MonD xs m) (hc : SmQ s c) : PoD xs s (j + 1) (putP P m c) := by
  refine ⟨putP_nodup h.nd m c, fun q hq => ?_, fun q hq => ?_, ?_⟩
  · rcases putP_mem hq with hq | rfl
    · exact h.mon q hq
    · exact hm
  · rcases putP_mem hq with hq | rfl
    · exact h.sm q hq
    · exact hc
  · have := putP_len P m c
    have := h.len
    omega
theorem e__law_a_poly (hk : 4 ≤ k) {xs : List Str} (hx : Nms xs) {most : Nat} (hm : most ≤ 100) (h : rm (n + (1 + most * (2 * xs.length + 2))) t) : ∃ P t', callF p ns k i__law_a_poly [.scr sc, .tok, .tup (xs.map .str), .int most] t = .ok (pd (polyOf P)) t' ∧ PoD xs 4 most P ∧ rm n t' := by
  obtain ⟨k, rfl⟩ := up1 (show 1 ≤ k by omega)
  have hk : 3 ≤ k := by omega
  obtain ⟨v, t1, e1, v0, v1, h1⟩ := e_draw (ns := ns) (sc := sc) (show 1 ≤ k by omega) ((most : Int) + 1) (by omega) (by omega) (show rm ((n + most * (2 * xs.length + 2)) + 1) t from h.le (by omega))
  obtain ⟨v, rfl⟩ : ∃ u : Nat, v = u := ⟨v.toNat, by omega⟩
  have hv : v ≤ most := by omega
  have lp := loopF_ix (f := fun d r t => match setT (.name 5) d r with
    | some r1 => evSs (gam p ns k) (csOf cst) b__law_a_poly_1 r1 t
    | none => .bad) (fun j r t' => rm (n + j * (2 * xs.length + 2)) t' ∧ ∃ P w5 w6 w7 w8, r = [.val (.scr sc), .val .tok, .val (.tup (xs.map .str)), .val (.int most), .own (.dcn (tbl P)), w5, w6, w7, w8] ∧ PoD xs 4 (most - j) P ∧ j ≤ most) (rngD 0 v) [.val (.scr sc), .val .tok, .val (.tup (xs.map .str)), .val (.int most), .own (.dcn (tbl [])), .un, .un, .un, .un] t1 0
    ⟨h1.le (by
      have : (0 + (rngD 0 v).length) * (2 * xs.length + 2) ≤ most * (2 * xs.length + 2) := Nat.mul_le_mul_right _ (by simp [rngD]; omega)
      omega), [], .un, .un, .un, .un, rfl, ⟨by simp, by simp, by simp, by simp⟩, by simp [rngD]; omega⟩ (fun d hd j r t' hr => by
      obtain ⟨hr1, P, w5, w6, w7, w8, rfl, hP, hj⟩ := hr
      have hr2 : rm ((n + j * (2 * xs.length + 2) + 2) + 2 * xs.length) t' := hr1.le (by rw [Nat.add_mul]; omega)
      obtain ⟨m, t2, e2, M, h2⟩ := draw_mon (ns := ns) (sc := sc) (show 1 ≤ k by omega) (w2 := .val (.tup (xs.map .str))) (w3 := .val (.int most)) (w4 := .own (.dcn (tbl P))) (w5 := .val d) (w6 := w6) (w7 := w7) (w8 := w8) xs _ t' hr2
      obtain ⟨x, y, t3, e3, sf, h3⟩ := e_a_frac (ns := ns) (sc := sc) (show 2 ≤ k by omega) 4 (by omega) h2
      obtain ⟨c, ec, hc⟩ := sf.q
      have hlx := hx.len
      have s1 : evS (gam p ns k) (csOf cst) (.asg (.name 6) (.blt .tuple (.comp [("name", 7)] (.tup (.cons (.var 7) (.cons (.bin .Add (.cst (.int 1)) (.call 8 (.cons (.var 0) (.cons (.var 1) (.cons (.cst (.int 2)) .nil))) .nil)) .nil))) (.name 7) (.val (.var 2)) (.some (.cmp .Eq (.call 8 (.cons (.var 0) (.cons (.var 1) (.cons (.cst (.int 2)) .nil))) .nil) (.cst (.int 0)))))))
          [.val (.scr sc), .val .tok, .val (.tup (xs.map .str)), .val (.int most), .own (.dcn (tbl P)), .val d, w6, w7, w8] t' = .ok (.nx, [.val (.scr sc), .val .tok, .val (.tup (xs.map .str)), .val (.int most), .own (.dcn (tbl P)), .val d, .val (md m), w7, w8]) t2 := by
        have e4 := comp_of (own := [("name", 7)]) (tg := .name 7) (G := gam p ns k) (cs := csOf cst) (r := [.val (.scr sc), .val .tok, .val (.tup (xs.map .str)), .val (.int most), .own (.dcn (tbl P)), .val d, w6, w7, w8]) (it := .val (.var 2)) (t := t') (xs := xs.map .str) (by simp) (by simp; omega) e2
        simp only [evS_asg, ev_blt, e4]
        simp [md]
      refine ⟨[.val (.scr sc), .val .tok, .val (.tup (xs.map .str)), .val (.int most), .own (.dcn (tbl (putP P m c))), .val d, .val (md m), w7, .val (qd c)], t3, ?_, h3.le (by omega), putP P m c, _, _, _, _, rfl, ?_, by omega⟩
      · show evSs (gam p ns k) (csOf cst) b__law_a_poly_1 [.val (.scr sc), .val .tok, .val (.tup (xs.map .str)), .val (.int most), .own (.dcn (tbl P)), .val d, w6, w7, w8] t' = _
        unfold b__law_a_poly_1
        rw [seq_nx s1]
        have hPl : (tbl P).length < 16777216 := by
          have := hP.len
          simp [tbl]
          omega
        simp [e3, ec, keyT_md, hPl, putN_tbl]
      · have := hP.put M hc
        have e : most - (j + 1) + 1 = most - j := by omega
        rw [e] at this
        exact this)
  obtain ⟨r', t2, e2, h2, P, w5, w6, w7, w8, rfl, hP, _⟩ := lp
  have hg : ∀ q ∈ P, MonG q.1 ∧ q.1.length ≤ 1000 := fun q hq => by
    have := (hP.mon q hq).ok hx
    exact ⟨this.g, Nat.le_trans this.len (by omega)⟩
  have e3 := e__law_poly (ns := ns) (t := t2) hk hP.nd hg (by have := hP.len; omega)
  refine ⟨P, t2, ?_, by simpa using hP, by simpa using h2⟩
  rw [u__law_a_poly]
  have okr : okRng (v : Int) = true := by
    simp only [okRng, Bool.and_eq_true, decide_eq_true_eq]
    have : (2 : Int) ^ 62 = 4611686018427387904 := by decide
    omega
  have s2 : evS (gam p ns k) (csOf cst) (.for (.name 5) (.rng1 (.call 8 (.cons (.var 0) (.cons (.var 1) (.cons (.bin .Add (.var 3) (.cst (.int 1))) .nil))) .nil)) b__law_a_poly_1) [.val (.scr sc), .val .tok, .val (.tup (xs.map .str)), .val (.int most), .own (.dcn []), .un, .un, .un, .un] t = .ok (.nx, [.val (.scr sc), .val .tok, .val (.tup (xs.map .str)), .val (.int most), .own (.dcn (tbl P)), w5, w6, w7, w8]) t2 := by
    rw [for_ev (xs := rngD 0 v) (t1 := t1) (by simp [e1, okr])]
    exact e2
  show retD (evSs _ _ b__law_a_poly [.val (.scr sc), .val .tok, .val (.tup (xs.map .str)), .val (.int most), .un, .un, .un, .un, .un] t) = _
  unfold b__law_a_poly
  rw [seq_nx (r1 := [.val (.scr sc), .val .tok, .val (.tup (xs.map .str)), .val (.int most), .own (.dcn []), .un, .un, .un, .un]) (t1 := t) (by simp), seq_nx s2]
  simp [e3]
end
end Lw

/-! ### operations upon polynomials as data -/
namespace Lw
open PySem Fm
section
variable {ns : List Int} {t : Tw} {k : Nat} {sc : List Int} {n : Nat} {G : Gam} {cs : Nat → D}
theorem pd_add {A B : Po} (h : A.length + B.length ≤ 1000) : addD (pd A) (pd B) = some (pd (A ++ B)) := by
  have e : addD (pd A) (pd B) = if okLen ((A.map part).length + (B.map part).length) then some (.tup (A.map part ++ B.map part)) else none := rfl
  rw [e, if_pos (okLen_of (by simpa using h)), ← List.map_append]
  rfl
theorem pd_rev (A : Po) : revD (pd A) = some (pd A.reverse) := by
  have e : revD (pd A) = some (.tup (A.map part).reverse) := rfl
  rw [e, ← List.map_reverse]
  rfl
theorem cutL_hi {α : Type} (xs : List α) : cutL xs none (some 1) = xs.take 1 := by
  unfold cutL
  have h1 : HT.sIx xs.length 0 none = 0 := by
    unfold HT.sIx
    rfl
  have h2 : HT.sIx xs.length xs.length (some 1) = min 1 xs.length := by
    unfold HT.sIx
    cases xs with
    | nil => rfl
    | cons x r => simp
  rw [h1, h2]
  cases xs with
  | nil => simp
  | cons x r => simp
theorem pd_cut1 (A : Po) : cutD (pd A) none (some 1) = some (pd (A.take 1)) := by
  have e : cutD (pd A) none (some 1) = some (.tup (cutL (A.map part) none (some 1))) := rfl
  rw [e, cutL_hi, ← List.map_take]
  rfl
theorem pd_len (A : Po) : blt1 .len (pd A) = some (.int A.length) := by
  have e : blt1 .len (pd A) = some (.int (A.map part).length) := rfl
  rw [e, List.length_map]
theorem pd_list (A : Po) : blt1 .list (pd A) = some (.lst (A.map part)) := rfl
theorem qd_eqv (p q : Rat) : PyData.eqv (qd p).py (qd q).py = decide (p = q) := by
  simp only [qd, D.py, pys, PyData.eqv, PyData.eqvAll]
  by_cases h : p = q
  · subst h
    simp
  · have : ¬ (p.num = q.num ∧ p.den = q.den) := fun z => h (Rat.ext z.1 z.2)
    by_cases h1 : p.num = q.num
    · have h2 : ¬ p.den = q.den := fun z => this ⟨h1, z⟩
      have h3 : ¬ (p.den : Int) = q.den := by omega
      simp [h, h1, h3]
    · simp [h, h1]
theorem pd_eqv : ∀ A B : Po, PyData.eqvAll (pys (A.map part)) (pys (B.map part)) = decide (A = B)
  | [], [] => by simp [pys, PyData.eqvAll]
  | [], _ :: _ => by simp [pys, PyData.eqvAll]
  | _ :: _, [] => by simp [pys, PyData.eqvAll]
  | (m, p) :: A, (m', q) :: B => by
    have h1 := md_eqv m m'
    have h2 := qd_eqv p q
    unfold eqD at h1
    simp only [List.map_cons, pys, PyData.eqvAll, pd_eqv A B, part, D.py, PyData.eqv, h1, h2]
    by_cases z1 : m = m' <;> by_cases z2 : p = q <;> by_cases z3 : A = B <;> simp [z1, z2, z3]
theorem lay_pd {A : Po} (h : ∀ q ∈ A, MonG q.1) : lay (pd A) = true := by
  have : PyData.canLayAll0 (pys (A.map part)) = true := by
    induction A with
    | nil => simp [pys, PyData.canLayAll0]
    | cons q A ih =>
      have h1 := lay_md (h q List.mem_cons_self)
      have h2 := gd_lay (gd_qd q.2)
      unfold lay at h1 h2
      simp [pys, part, D.py, PyData.canLay0, PyData.canLayAll0, h1, h2, ih fun q hq => h q (List.mem_cons_of_mem _ hq)]
  simp [pd, lay, D.py, PyData.canLay0, this]
theorem dep_pd (A : Po) : dep (pd A) ≤ 10 := by
  unfold pd
  rw [dep_tup]
  have : PyData.depthAll (pys (A.map part)) ≤ 4 := dep_all fun x hx => by
    obtain ⟨q, _, rfl⟩ := List.mem_map.mp hx
    unfold part
    rw [dep_tup]
    have : PyData.depthAll (pys [md q.1, qd q.2]) ≤ 3 := dep_all fun y hy => by
      simp only [List.mem_cons, List.mem_nil_iff, or_false] at hy
      rcases hy with rfl | rfl
      · have := dep_md q.1
        omega
      · simp [qd, dep, D.py, pys, PyData.depth, PyData.depthAll]
    omega
  omega
theorem pd_okEq {A B : Po} (h1 : ∀ q ∈ A, MonG q.1) (h2 : ∀ q ∈ B, MonG q.1) : okEq (pd A) (pd B) = true := by
  have := dep_pd A
  have : min (dep (pd A)) (dep (pd B)) ≤ 190 := by omega
  simp [okEq, lay_pd h1, lay_pd h2, this]
theorem pd_eq {A B : Po} (h1 : ∀ q ∈ A, MonG q.1) (h2 : ∀ q ∈ B, MonG q.1) : eqOp (pd A) (pd B) = some (.bl (decide (A = B))) := by
  unfold eqOp
  rw [pd_okEq h1 h2, if_pos rfl]
  simp only [eqD, pd, D.py, PyData.eqv, pd_eqv]
theorem pd_ne {A B : Po} (h1 : ∀ q ∈ A, MonG q.1) (h2 : ∀ q ∈ B, MonG q.1) : neOp (pd A) (pd B) = some (.bl (!decide (A = B))) := by
  unfold neOp
  rw [pd_okEq h1 h2, if_pos rfl]
  simp only [eqD, pd, D.py, PyData.eqv, pd_eqv]
theorem pd_nil : pd [] = .tup [] := rfl
theorem pd_dict {A : Po} (h : (A.map (·.1)).Nodup) : blt1 .dictN (pd A) = some (.dcn (tbl A)) := by
  have e : blt1 .dictN (pd A) = (prsN (A.map part)).map fun ps => .dcn (putsN [] ps) := rfl
  rw [e, prsN_pd]
  have := putsN_new A [] (by simpa using h)
  simp only [Option.map_some]
  rw [show ([] : List (NestedKey × D)) = tbl [] from rfl, this]
  rfl
theorem e__law_is (hk : 1 ≤ k) (b c : Bool) : callF p ns k i__law_is [.bl b, .bl c] t = .ok (.bl (b == c)) t := by
  obtain ⟨k, rfl⟩ := up1 hk
  rw [u__law_is]
  simp [b__law_is]
theorem e_isp_list (hk : 1 ≤ k) (xs : List D) : callF p ns k i_is_polynomial [.lst xs] t = .ok (.bl false) t := by
  obtain ⟨k, rfl⟩ := up1 hk
  rw [u_is_polynomial]
  simp [b_is_polynomial]
/-- turned about, more than one, no order -/
theorem up_rev {P : Po} (h : Up P) (hl : 1 < P.length) : chB (P.reverse.map (·.1)) = false := by
  cases e : chB (P.reverse.map (·.1)) with
  | false => rfl
  | true =>
    have h2 : Up P.reverse := chB_up.mp e
    unfold Up at h h2
    rw [List.pairwise_reverse] at h2
    match P, hl, h, h2 with
    | a :: b :: r, _, h, h2 =>
      have h3 := (List.pairwise_cons.mp h).1 b List.mem_cons_self
      have h4 := (List.pairwise_cons.mp h2).1 b List.mem_cons_self
      rw [mlt_asymm h3] at h4
      cases h4
/-- the first one again -/
theorem up_again {P : Po} (h : Up P) (hl : P ≠ []) : chB ((P ++ P.take 1).map (·.1)) = false := by
  cases e : chB ((P ++ P.take 1).map (·.1)) with
  | false => rfl
  | true =>
    have h2 : Up (P ++ P.take 1) := chB_up.mp e
    match P, hl, h2 with
    | a :: r, _, h2 =>
      have h3 := h2.nodup
      simp at h3
end
end Lw

/-! ### law_k12: one turn, the whole -/
namespace Lw
open PySem Fm
section
variable {ns : List Int} {t : Tw} {k : Nat} {sc : List Int} {n : Nat}
theorem nms_ax : Nms ["a", "x"] := ⟨by decide +kernel, by decide +kernel, by decide +kernel, by decide⟩
/-- the parts that both have -/
def bothP (S M : Po) : Po := M.filter fun q => S.any fun a => decide (a.1 = q.1)
theorem due_ev {S M : Po} (hS : ∀ q ∈ S, MonG q.1) (hM : ∀ q ∈ M, MonG q.1) (lS : S.length ≤ 100) (lM : M.length ≤ 100) {w2 w3 w4 w5 w8 w9 w10 w11 : Sl} :
    ev (gam p ns k) (csOf cst) (.cmp .Eq (.comp [("part", 9)] (.ix (.var 9) (.cst (.int 0))) (.name 9) (.val (.var 7)) (.some (.cmp .In (.ix (.var 9) (.cst (.int 0))) (.comp [("mine", 10)] (.ix (.var 10) (.cst (.int 0))) (.name 10) (.val (.var 6)) .none)))) (.lst .nil)) [.val (.scr sc), .val .tok, w2, w3, w4, w5, .val (pd S), .val (pd M), w8, w9, w10, w11] t = .ok (.bl (bothP S M).isEmpty) t := by
  have h1 := comp_filtA (G := gam p ns k) (cs := csOf cst) (t := t) (own := [("part", 9)]) (elt := .ix (.var 9) (.cst (.int 0))) (tg := .name 9) (it := .val (.var 7)) (cd := .some (.cmp .In (.ix (.var 9) (.cst (.int 0))) (.comp [("mine", 10)] (.ix (.var 10) (.cst (.int 0))) (.name 10) (.val (.var 6)) .none))) (r := [.val (.scr sc), .val .tok, w2, w3, w4, w5, .val (pd S), .val (pd M), w8, w9, w10, w11]) (ys := M)
    part (fun q => S.any fun a => decide (a.1 = q.1)) (fun q => md q.1) (by simp [pd]) (by omega) (fun q hq => by
      have h2 := comp_mapA (G := gam p ns k) (cs := csOf cst) (t := t) (own := [("mine", 10)]) (elt := .ix (.var 10) (.cst (.int 0))) (tg := .name 10) (it := .val (.var 6)) (cd := .none) (r := [.val (.scr sc), .val .tok, w2, w3, w4, w5, .val (pd S), .val (pd M), w8, .val (part q), w10, w11]) (ys := S) part (fun q => md q.1) (by simp [pd]) (by omega) (fun a ha => by simp [part])
      have h3 : inB (md q.1) (.lst (S.map fun a => md a.1)) = some (S.any fun a => decide (a.1 = q.1)) := by
        have e : inB (md q.1) (.lst (S.map fun a => md a.1)) = if lay (md q.1) && ((S.map fun a => md a.1).all lay) && decide (dep (md q.1) ≤ 190) then some ((S.map fun a => md a.1).any fun z => eqD z (md q.1)) else none := rfl
        have l1 := lay_md (hM q hq)
        have l2 : (S.map fun a => md a.1).all lay = true := List.all_eq_true.mpr fun x hx => by
          obtain ⟨a, ha, rfl⟩ := List.mem_map.mp hx
          exact lay_md (hS a ha)
        have l3 : dep (md q.1) ≤ 190 := by
          have := dep_md q.1
          omega
        rw [e, l1, l2, decide_eq_true l3, List.any_map]
        simp only [Bool.and_self, if_true, Function.comp_def, md_eqv]
      have e6 : ev (gam p ns k) (csOf cst) (.cmp .In (.ix (.var 9) (.cst (.int 0))) (.comp [("mine", 10)] (.ix (.var 10) (.cst (.int 0))) (.name 10) (.val (.var 6)) .none)) [.val (.scr sc), .val .tok, w2, w3, w4, w5, .val (pd S), .val (pd M), w8, .val (part q), w10, w11] t = .ok (.bl (S.any fun a => decide (a.1 = q.1))) t := by
        have hx : ev (gam p ns k) (csOf cst) (.ix (.var 9) (.cst (.int 0))) [.val (.scr sc), .val .tok, w2, w3, w4, w5, .val (pd S), .val (pd M), w8, .val (part q), w10, w11] t = .ok (md q.1) t := by simp [part]
        rw [ev_cmp]
        show (ev _ _ (.ix (.var 9) (.cst (.int 0))) _ _).bind _ = _
        rw [hx, Res.bind_ok]
        show (ev _ _ (.comp _ _ _ _ _) _ _).bind _ = _
        rw [h2, Res.bind_ok, x_cin, h3]
        rfl
      have e7 : turnE (.name 9) [9] (evO (gam p ns k) (csOf cst) (.some (.cmp .In (.ix (.var 9) (.cst (.int 0))) (.comp [("mine", 10)] (.ix (.var 10) (.cst (.int 0))) (.name 10) (.val (.var 6)) .none)))) (ev (gam p ns k) (csOf cst) (.ix (.var 9) (.cst (.int 0)))) [.val (.scr sc), .val .tok, w2, w3, w4, w5, .val (pd S), .val (pd M), w8, w9, w10, w11] (part q) t = .ok (if (S.any fun a => decide (a.1 = q.1)) then some (md q.1) else none) t := by
        have e8 : setT (.name 9) (part q) (wipeR [.val (.scr sc), .val .tok, w2, w3, w4, w5, .val (pd S), .val (pd M), w8, w9, w10, w11] [9]) = some [.val (.scr sc), .val .tok, w2, w3, w4, w5, .val (pd S), .val (pd M), w8, .val (part q), w10, w11] := rfl
        unfold turnE
        rw [e8]
        simp only [evO_some, e6, Res.bind_ok]
        cases (S.any fun a => decide (a.1 = q.1)) <;> simp [part]
      exact e7)
  have h4 : eqOp (.lst ((bothP S M).map fun q => md q.1)) (.lst []) = some (.bl (bothP S M).isEmpty) := by
    rw [x_eqL0]
    · cases bothP S M <;> rfl
    · have : PyData.canLayAll0 (pys ((bothP S M).map fun q => md q.1)) = true := by
        rw [layAll]
        exact List.all_eq_true.mpr fun x hx => by
          obtain ⟨a, ha, rfl⟩ := List.mem_map.mp hx
          exact lay_md (hM a (List.mem_filter.mp ha).1)
      simp [lay, D.py, PyData.canLay0, this]
  rw [ev_cmp]
  simp only [h1]
  simp only [Res.bind_ok, x_ev_lst, x_evs_nil, List.length_nil, x_ok0, if_true]
  show lift (eqOp (.lst ((bothP S M).map fun q => md q.1)) (.lst [])) t = _
  rw [h4]
  rfl
theorem both_nodup {S M : Po} (hS : (S.map (·.1)).Nodup) (hM : (M.map (·.1)).Nodup) : (bothP S M).isEmpty = true ↔ ((S ++ M).map (·.1)).Nodup := by
  rw [List.isEmpty_iff, List.map_append, List.nodup_append]
  unfold bothP
  rw [List.filter_eq_nil_iff]
  constructor
  · intro h
    refine ⟨hS, hM, fun a ha b hb e => ?_⟩
    obtain ⟨x, hx, rfl⟩ := List.mem_map.mp ha
    obtain ⟨y, hy, rfl⟩ := List.mem_map.mp hb
    exact h y hy (List.any_eq_true.mpr ⟨x, hx, by simpa using e⟩)
  · rintro ⟨_, _, h⟩ q hq z
    obtain ⟨a, ha, e⟩ := List.any_eq_true.mp z
    exact h a.1 (List.mem_map.mpr ⟨a, ha, rfl⟩) q.1 (List.mem_map.mpr ⟨q, hq, rfl⟩) (by simpa using e)
/-- a polynomial as it must be -/
structure PoOk (P : Po) : Prop where
  up : Up P
  mon : ∀ q ∈ P, MonOk q.1 ∧ q.2 ≠ 0
  len : P.length ≤ 100
theorem PoD.ok {xs : List Str} {s : Int} {most : Nat} {P : Po} (h : PoD xs s most P) (hx : Nms xs) (hm : most ≤ 100) : PoOk (polyOf P) := by
  refine ⟨polyOf_up h.nd, fun q hq => ?_, ?_⟩
  · obtain ⟨h1, h2⟩ := polyOf_mem.mp hq
    exact ⟨(h.mon q h1).ok hx, h2⟩
  · have := (polyOf_perm P).length_eq
    have := List.length_filter_le nzB P
    have := h.len
    omega
theorem turn (hk : 5 ≤ k) (h : rm (n + 40) t) (d : D) {w2 w3 w4 w6 w7 w8 w9 w10 w11 : Sl} : ∃ w6' w7' w8' t', evSs (gam p ns k) (csOf cst) b_law_2 [.val (.scr sc), .val .tok, w2, w3, w4, .val d, w6, w7, w8, w9, w10, w11] t = .ok (.nx, [.val (.scr sc), .val .tok, w2, w3, w4, .val d, w6', w7', w8', w9, w10, w11]) t' ∧ rm n t' := by
  obtain ⟨P1, t1, e1, d1, h1⟩ := e__law_a_poly (ns := ns) (sc := sc) (n := n + 13) (show 4 ≤ k by omega) nms_ax (most := 4) (by omega) (show rm (n + 13 + (1 + 4 * (2 * 2 + 2))) t from h.le (by omega))
  obtain ⟨P2, t2, e2, d2, h2⟩ := e__law_a_poly (ns := ns) (sc := sc) (n := n) (show 4 ≤ k by omega) nms_ax (most := 2) (by omega) (show rm (n + (1 + 2 * (2 * 2 + 2))) t1 from h1.le (by omega))
  have o1 := d1.ok nms_ax (by omega)
  have o2 := d2.ok nms_ax (by omega)
  generalize polyOf P1 = S at e1 o1
  generalize polyOf P2 = M at e2 o2
  have gS : ∀ q ∈ S, MonG q.1 := fun q hq => (o1.mon q hq).1.g
  have gM : ∀ q ∈ M, MonG q.1 := fun q hq => (o2.mon q hq).1.g
  have lS := o1.len
  have lM := o2.len
  have hSM : ∀ q ∈ S ++ M, MonOk q.1 ∧ q.2 ≠ 0 := fun q hq => (List.mem_append.mp hq).elim (o1.mon q) (o2.mon q)
  have gSM : ∀ q ∈ S ++ M, MonG q.1 := fun q hq => (hSM q hq).1.g
  have i1 : callF p ns k i_is_polynomial [pd S] t1 = .ok (.bl true) t1 := by
    rw [e_is_polynomial (show 3 ≤ k by omega) o1.mon (by omega), chB_up.mpr o1.up]
  have i2 : ∀ xs, callF p ns k i_is_polynomial [.lst xs] t1 = .ok (.bl false) t1 := fun xs => e_isp_list (by omega) xs
  have i3 : 1 < S.length → callF p ns k i_is_polynomial [pd S.reverse] t1 = .ok (.bl false) t1 := fun hl => by
    rw [e_is_polynomial (show 3 ≤ k by omega) (fun q hq => o1.mon q (List.mem_reverse.mp hq)) (by simp; omega), up_rev o1.up hl]
  have i4 : S ≠ [] → callF p ns k i_is_polynomial [pd (S ++ S.take 1)] t1 = .ok (.bl false) t1 := fun hl => by
    rw [e_is_polynomial (show 3 ≤ k by omega) (fun q hq => o1.mon q ((List.mem_append.mp hq).elim id fun z => List.mem_of_mem_take z)) (by simp; omega), up_again o1.up hl]
  have i5 : callF p ns k i_is_polynomial [pd (S ++ M)] t2 = .ok (.bl (chB ((S ++ M).map (·.1)))) t2 := e_is_polynomial (show 3 ≤ k by omega) hSM (by simp; omega)
  have b1 := both_nodup o1.up.nodup o2.up.nodup
  have i6 : (bothP S M).isEmpty = true → callF p ns k i__law_poly [.dcn (tbl (S ++ M))] t2 = .ok (pd (polyOf (S ++ M))) t2 := fun hb =>
    e__law_poly (show 3 ≤ k by omega) (b1.mp hb) (fun q hq => ⟨gSM q hq, Nat.le_trans (hSM q hq).1.len (by omega)⟩) (by simp; omega)
  have i7 : (bothP S M).isEmpty = true → callF p ns k i_is_polynomial [pd (polyOf (S ++ M))] t2 = .ok (.bl true) t2 := fun hb => by
    rw [e_is_polynomial (show 3 ≤ k by omega) (fun q hq => hSM q (polyOf_mem.mp hq).1) (by have := (polyOf_perm (S ++ M)).length_eq; have := List.length_filter_le nzB (S ++ M); simp at *; omega), chB_up.mpr (polyOf_up (b1.mp hb))]
  have i8 : (bothP S M).isEmpty = true → blt1 .dictN (pd (S ++ M)) = some (.dcn (tbl (S ++ M))) := fun hb => pd_dict (b1.mp hb)
  have a1 := pd_add (A := S) (B := M) (by omega)
  have a2 := pd_add (A := S) (B := S.take 1) (by simp; omega)
  have l1 : ∀ t, callF p ns k i__law_is [.bl true, .bl true] t = .ok (.bl true) t := fun t => e__law_is (by omega) true true
  have l2 : ∀ t b, callF p ns k i__law_is [.bl b, .bl true] t = .ok (.bl b) t := fun t b => by
    rw [e__law_is (show 1 ≤ k by omega) b true]
    cases b <;> rfl
  have s1 : evS (gam p ns k) (csOf cst) (.asg (.name 6) (.call 13 (.cons (.var 0) (.cons (.var 1) (.cons (.tup (.cons (.cst (.str "a")) (.cons (.cst (.str "x")) .nil))) (.cons (.cst (.int 4)) .nil)))) .nil)) [.val (.scr sc), .val .tok, w2, w3, w4, .val d, w6, w7, w8, w9, w10, w11] t = .ok (.nx, [.val (.scr sc), .val .tok, w2, w3, w4, .val d, .val (pd S), w7, w8, w9, w10, w11]) t1 := by
    have e1 : callF p ns k i__law_a_poly [.scr sc, .tok, .tup [.str "a", .str "x"], .int 4] t = .ok (pd S) t1 := e1
    simp [e1]
  have s2 : evS (gam p ns k) (csOf cst) (.ite (.or (.not (.call 11 (.cons (.call 12 (.cons (.var 6) .nil) .nil) (.cons (.cst (.bl true)) .nil)) .nil)) (.call 12 (.cons (.blt .list (.var 6)) .nil) .nil)) (.cons (.ret (.cst (.bl false))) .nil) .nil) [.val (.scr sc), .val .tok, w2, w3, w4, .val d, .val (pd S), w7, w8, w9, w10, w11] t1 = .ok (.nx, [.val (.scr sc), .val .tok, w2, w3, w4, .val d, .val (pd S), w7, w8, w9, w10, w11]) t1 := by
    simp [i1, l1, pd_list, i2]
  have s3 : evS (gam p ns k) (csOf cst) (.ite (.or (.and (.cmp .Gt (.blt .len (.var 6)) (.cst (.int 1))) (.call 12 (.cons (.rev (.var 6)) .nil) .nil)) (.and (.cmp .NotEq (.var 6) (.tup .nil)) (.call 12 (.cons (.bin .Add (.var 6) (.cut (.var 6) .none (.some (.cst (.int 1))))) .nil) .nil))) (.cons (.ret (.cst (.bl false))) .nil) .nil) [.val (.scr sc), .val .tok, w2, w3, w4, .val d, .val (pd S), w7, w8, w9, w10, w11] t1 = .ok (.nx, [.val (.scr sc), .val .tok, w2, w3, w4, .val d, .val (pd S), w7, w8, w9, w10, w11]) t1 := by
    have ne : neOp (pd S) (.tup []) = some (.bl (!decide (S = []))) := by
      rw [← pd_nil, pd_ne gS (by simp)]
    by_cases z : S = []
    · subst z
      simp [pd_len, ne]
    · have j4 := i4 z
      by_cases z2 : 1 < S.length
      · have z2' : (1 : Int) < S.length := by omega
        simp [pd_len, z2', pd_rev, i3 z2, ne, z, pd_cut1, a2, j4]
      · have z2' : ¬ (1 : Int) < S.length := by omega
        simp [pd_len, z2', ne, z, pd_cut1, a2, j4]
  have s4 : evS (gam p ns k) (csOf cst) (.asg (.name 7) (.call 13 (.cons (.var 0) (.cons (.var 1) (.cons (.tup (.cons (.cst (.str "a")) (.cons (.cst (.str "x")) .nil))) (.cons (.cst (.int 2)) .nil)))) .nil)) [.val (.scr sc), .val .tok, w2, w3, w4, .val d, .val (pd S), w7, w8, w9, w10, w11] t1 = .ok (.nx, [.val (.scr sc), .val .tok, w2, w3, w4, .val d, .val (pd S), .val (pd M), w8, w9, w10, w11]) t2 := by
    have e2 : callF p ns k i__law_a_poly [.scr sc, .tok, .tup [.str "a", .str "x"], .int 2] t1 = .ok (pd M) t2 := e2
    simp [e2]
  have hdue := due_ev (ns := ns) (k := k) (sc := sc) (t := t2) gS gM lS lM (w2 := w2) (w3 := w3) (w4 := w4) (w5 := .val d) (w8 := w8) (w9 := w9) (w10 := w10) (w11 := w11)
  have s5 : evS (gam p ns k) (csOf cst) (.asg (.name 8) (.cmp .Eq (.comp [("part", 9)] (.ix (.var 9) (.cst (.int 0))) (.name 9) (.val (.var 7)) (.some (.cmp .In (.ix (.var 9) (.cst (.int 0))) (.comp [("mine", 10)] (.ix (.var 10) (.cst (.int 0))) (.name 10) (.val (.var 6)) .none)))) (.lst .nil))) [.val (.scr sc), .val .tok, w2, w3, w4, .val d, .val (pd S), .val (pd M), w8, w9, w10, w11] t2 = .ok (.nx, [.val (.scr sc), .val .tok, w2, w3, w4, .val d, .val (pd S), .val (pd M), .val (.bl (bothP S M).isEmpty), w9, w10, w11]) t2 := by
    rw [evS_asg]
    simp only [hdue]
    simp
  have s6 : evS (gam p ns k) (csOf cst) (.ite (.and (.call 11 (.cons (.call 12 (.cons (.bin .Add (.var 6) (.var 7)) .nil) .nil) (.cons (.cst (.bl true)) .nil)) .nil) (.not (.and (.var 8) (.cmp .Eq (.call 10 (.cons (.blt .dictN (.bin .Add (.var 6) (.var 7))) .nil) .nil) (.bin .Add (.var 6) (.var 7)))))) (.cons (.ret (.cst (.bl false))) .nil) .nil) [.val (.scr sc), .val .tok, w2, w3, w4, .val d, .val (pd S), .val (pd M), .val (.bl (bothP S M).isEmpty), w9, w10, w11] t2 = .ok (.nx, [.val (.scr sc), .val .tok, w2, w3, w4, .val d, .val (pd S), .val (pd M), .val (.bl (bothP S M).isEmpty), w9, w10, w11]) t2 := by
    cases ch : chB ((S ++ M).map (·.1)) with
    | false =>
      rw [ch] at i5
      simp [a1, i5, l2]
    | true =>
      rw [ch] at i5
      have up : Up (S ++ M) := chB_up.mp ch
      have hb := b1.mpr up.nodup
      have ep : polyOf (S ++ M) = S ++ M := up_sorted up fun q hq => (hSM q hq).2
      have j6 := i6 hb
      rw [ep] at j6
      have je := pd_eq gSM gSM
      simp only [decide_true] at je
      simp [a1, i5, l2, hb, i8 hb, j6, je]
  have s7 : evS (gam p ns k) (csOf cst) (.ite (.and (.var 8) (.cmp .IsNot (.call 12 (.cons (.call 10 (.cons (.blt .dictN (.bin .Add (.var 6) (.var 7))) .nil) .nil) .nil) .nil) (.cst (.bl true)))) (.cons (.ret (.cst (.bl false))) .nil) .nil) [.val (.scr sc), .val .tok, w2, w3, w4, .val d, .val (pd S), .val (pd M), .val (.bl (bothP S M).isEmpty), w9, w10, w11] t2 = .ok (.nx, [.val (.scr sc), .val .tok, w2, w3, w4, .val d, .val (pd S), .val (pd M), .val (.bl (bothP S M).isEmpty), w9, w10, w11]) t2 := by
    cases hb : (bothP S M).isEmpty with
    | false => simp
    | true => simp [a1, i8 hb, i6 hb, i7 hb]
  refine ⟨.val (pd S), .val (pd M), .val (.bl (bothP S M).isEmpty), t2, ?_, h2⟩
  unfold b_law_2
  rw [seq_nx s1, seq_nx s2, seq_nx s3, seq_nx s4, seq_nx s5, seq_nx s6, seq_nx s7, x_evSs_nil]
  rfl
end
end Lw

namespace Lw
open PySem Fm
def oneD : D := .tup [.int 1, .int 1]
def oddD : List D := [.non, .int 3, .tup [], .tup [.tup []], .tup [.tup [], .tup [.int 0, .int 1]], .tup [.tup [], .tup [.int 2, .int 4]], .tup [.tup [.tup [.str "x", .int 0]], oneD], .tup [.tup [.tup [.str "X", .int 1]], oneD], .tup [.tup [.tup [.str "", .int 1]], oneD],
  .tup [.tup [.tup [.str "x", .bl true]], oneD], .tup [.tup [.tup [.str "y", .int 1], .tup [.str "x", .int 1]], oneD], .tup [.tup [.tup [.str "x", .int 1], .tup [.str "x", .int 1]], oneD], .tup [.str "x", oneD],
  .tup [.tup [.tup [.str "abcdefghi", .int 1]], oneD], .tup [.tup [.int 3], oneD], .tup [.non, oneD], .tup [.tup [], oneD, .int 2], .lst [.tup [], oneD], .tup [.tup [], .int 1], .tup [.tup [.tup [.str "x", .int (-1)]], oneD], .tup [.tup [.tup [.str "x"]], oneD]]
def goodD : D := .tup [.tup [.tup [.tup [.str "x", .int 3]], .tup [.int (-1), .int 2]], .tup [.tup [.tup [.str "a", .int 1], .tup [.str "x", .int 1]], oneD], .tup [.tup [.tup [.str "x", .int 2]], oneD], .tup [.tup [], oneD]]
section
variable {ns : List Int} {t : Tw}
theorem s_odd : evSs (gam p ns 20) (csOf cst) b_law (startL n_law ns) t = evSs (gam p ns 20) (csOf cst) (.cons (.for (.name 4) (.val (.var 3)) b_law_1) (.cons (.for (.name 5) (.rng1 (.cst (.int 6))) b_law_2) (.cons (.asg (.name 11) (.tup (.cons (.tup (.cons (.tup (.cons (.tup (.cons (.cst (.str "x")) (.cons (.cst (.int 3)) .nil))) .nil)) (.cons (.tup (.cons (.neg (.cst (.int 1))) (.cons (.cst (.int 2)) .nil))) .nil))) (.cons (.tup (.cons (.tup (.cons (.tup (.cons (.cst (.str "a")) (.cons (.cst (.int 1)) .nil))) (.cons (.tup (.cons (.cst (.str "x")) (.cons (.cst (.int 1)) .nil))) .nil))) (.cons (.var 2) .nil))) (.cons (.tup (.cons (.tup (.cons (.tup (.cons (.cst (.str "x")) (.cons (.cst (.int 2)) .nil))) .nil)) (.cons (.var 2) .nil))) (.cons (.tup (.cons (.tup .nil) (.cons (.var 2) .nil))) .nil)))))) (.cons (.ret (.and (.call 12 (.cons (.tup .nil) .nil) .nil) (.and (.call 12 (.cons (.var 11) .nil) .nil) (.not (.call 12 (.cons (.bin .Add (.cut (.var 11) (.some (.cst (.int 1))) .none) (.cut (.var 11) .none (.some (.cst (.int 1))))) .nil) .nil))))) .nil)))) [.val (.scr ns), .val .tok, .val oneD, .val (.lst oddD), .un, .un, .un, .un, .un, .un, .un, .un] t := by
  kernel_rfl
theorem s_loop1 : evS (gam p ns 20) (csOf cst) (.for (.name 4) (.val (.var 3)) b_law_1) [.val (.scr ns), .val .tok, .val oneD, .val (.lst oddD), .un, .un, .un, .un, .un, .un, .un, .un] t = .ok (.nx, [.val (.scr ns), .val .tok, .val oneD, .val (.lst oddD), .val (.tup [.tup [.tup [.str "x"]], oneD]), .un, .un, .un, .un, .un, .un, .un]) t := by
  kernel_rfl
theorem s_end (w4 w5 w6 w7 w8 w9 w10 : Sl) : evSs (gam p ns 20) (csOf cst) (.cons (.asg (.name 11) (.tup (.cons (.tup (.cons (.tup (.cons (.tup (.cons (.cst (.str "x")) (.cons (.cst (.int 3)) .nil))) .nil)) (.cons (.tup (.cons (.neg (.cst (.int 1))) (.cons (.cst (.int 2)) .nil))) .nil))) (.cons (.tup (.cons (.tup (.cons (.tup (.cons (.cst (.str "a")) (.cons (.cst (.int 1)) .nil))) (.cons (.tup (.cons (.cst (.str "x")) (.cons (.cst (.int 1)) .nil))) .nil))) (.cons (.var 2) .nil))) (.cons (.tup (.cons (.tup (.cons (.tup (.cons (.cst (.str "x")) (.cons (.cst (.int 2)) .nil))) .nil)) (.cons (.var 2) .nil))) (.cons (.tup (.cons (.tup .nil) (.cons (.var 2) .nil))) .nil)))))) (.cons (.ret (.and (.call 12 (.cons (.tup .nil) .nil) .nil) (.and (.call 12 (.cons (.var 11) .nil) .nil) (.not (.call 12 (.cons (.bin .Add (.cut (.var 11) (.some (.cst (.int 1))) .none) (.cut (.var 11) .none (.some (.cst (.int 1))))) .nil) .nil))))) .nil)) [.val (.scr ns), .val .tok, .val oneD, .val (.lst oddD), w4, w5, w6, w7, w8, w9, w10, .un] t = .ok (.ret (.bl true), [.val (.scr ns), .val .tok, .val oneD, .val (.lst oddD), w4, w5, w6, w7, w8, w9, w10, .val goodD]) t := by
  kernel_rfl
theorem s_loop2 (w4 : Sl) (h : rm 240 t) : ∃ w5 w6 w7 w8 t', evS (gam p ns 20) (csOf cst) (.for (.name 5) (.rng1 (.cst (.int 6))) b_law_2) [.val (.scr ns), .val .tok, .val oneD, .val (.lst oddD), w4, .un, .un, .un, .un, .un, .un, .un] t = .ok (.nx, [.val (.scr ns), .val .tok, .val oneD, .val (.lst oddD), w4, w5, w6, w7, w8, .un, .un, .un]) t' := by
  have lp := loopF_ix (f := fun d r t => match setT (.name 5) d r with
    | some r1 => evSs (gam p ns 20) (csOf cst) b_law_2 r1 t
    | none => .bad) (fun j r t' => rm (j * 40) t' ∧ ∃ w5 w6 w7 w8, r = [.val (.scr ns), .val .tok, .val oneD, .val (.lst oddD), w4, w5, w6, w7, w8, .un, .un, .un]) (rngD 0 6) [.val (.scr ns), .val .tok, .val oneD, .val (.lst oddD), w4, .un, .un, .un, .un, .un, .un, .un] t 0 ⟨h.le (by simp [rngD]), _, _, _, _, rfl⟩ (fun d hd j r t' hr => by
      obtain ⟨h1, w5, w6, w7, w8, rfl⟩ := hr
      obtain ⟨w6', w7', w8', t2, e, h2⟩ := turn (ns := ns) (k := 20) (sc := ns) (n := j * 40) (by omega) (show rm (j * 40 + 40) t' from h1.le (by omega)) d (w2 := .val oneD) (w3 := .val (.lst oddD)) (w4 := w4) (w6 := w6) (w7 := w7) (w8 := w8) (w9 := .un) (w10 := .un) (w11 := .un)
      exact ⟨_, t2, e, h2, _, _, _, _, rfl⟩)
  obtain ⟨r', t', e, _, w5, w6, w7, w8, rfl⟩ := lp
  refine ⟨w5, w6, w7, w8, t', ?_⟩
  rw [for_ev (xs := rngD 0 6) (t1 := t) (by have : okRng 6 = true := by decide
                                            simp [this])]
  exact e
end
theorem hev (ns : List Int) : ∃ r t, evSs (gam p ns 20) (csOf cst) b_law (startL n_law ns) ⟨0, []⟩ = .ok (.ret (.bl true), r) t := by
  obtain ⟨w5, w6, w7, w8, t', e⟩ := s_loop2 (ns := ns) (t := ⟨0, []⟩) (.val (.tup [.tup [.tup [.str "x"]], oneD])) ⟨⟨by show (0 : Int) ≤ 0; omega, by simp⟩, by show (0 : Int) + (240 : Nat) ≤ 900000; omega⟩
  refine ⟨[.val (.scr ns), .val .tok, .val oneD, .val (.lst oddD), .val (.tup [.tup [.tup [.str "x"]], oneD]), w5, w6, w7, w8, .un, .un, .val goodD], t', ?_⟩
  rw [s_odd, seq_nx s_loop1, seq_nx e]
  exact s_end _ _ _ _ _ _ _
end Lw
theorem PySem.Challenge.cw_formclear_k12_no_polynomials_holds : PySem.Challenge.rw_formclear_k12_no_polynomials.Holds := by
  exact Lw.fin 20 (by omega) (by omega) fun ns _ _ => Lw.hev ns

