import PyProof.Rows.All
import Wide.All
import OpenK.AllK
import Wide.FinOn
import KE.KStateDown
import HandS.ForMost
import HandS.ForExc
import HandS.Walk
import HandS.Defaults
import HandS.IsInst
import HandS.HeadEnd
import HandS.HeadHook2
import HandS.Head2
import HandS.Zip
import HandS.Flow
import HandS.TupAny
import HandS.Style
import HandS.Wide
import HandS.Deep
import HandS.SortInts
import HandS.More
import HandS.MakeKwOnly
import HandS.Lambda
import HandS.EndTab
import HandS.HeadHook4
import HandS.HeadWalk
import HandS.ExcIs
import HandS.Iter
import KE.KDictKeyed
import KE.KDictMeth
import KE.KDictZip
import KE.KUnpackStar
import HandS.Strs
import PySem.Challenge.RW_formclear_k28_whole_one_step_more
set_option Elab.async false
set_option linter.all false
set_option maxRecDepth 100000
set_option maxHeartbeats 16000000
/-! ### plain data, the syntax Core, its evaluator -/
namespace Fm
open PySem
abbrev Key := L2.Key
/-- plain data; tok: the town of the law's draws; scr: the law's script -/
inductive D where
  | non
  | bl (b : Bool)
  | int (i : Int)
  | str (x : Str)
  | tup (xs : List D)
  | lst (xs : List D)
  | dct (kvs : List (Key × D))
  | tok
  | scr (ns : List Int)
  | exc (n : Nat)
  | dcn (kvs : List (NestedKey × D))
instance : Inhabited D := ⟨.non⟩
mutual
def D.py : D → PyData
  | .non => .none
  | .bl b => .bool b
  | .int i => .int i
  | .str x => .str x
  | .tup xs => .tuple (pys xs)
  | .lst xs => .list (pys xs)
  | .dct _ => .dict []
  | .tok => .dict []
  | .scr _ => .dict []
  | .exc _ => .dict []
  | .dcn _ => .dict []
def pys : List D → List PyData
  | [] => []
  | x :: xs => x.py :: pys xs
end
def eqD (a b : D) : Bool := PyData.eqv a.py b.py
def lay (a : D) : Bool := PyData.canLay0 a.py
def dep (a : D) : Nat := PyData.depth a.py
/-- the town: how many draws, the rests of great cells -/
structure Tw where
  count : Int
  rests : List (Int × Int)
/-- the rest at a place -/
def lkT (r : List (Int × Int)) (k : Int) : Option Int := (r.find? fun p => decide (p.1 = k)).map (·.2)
def putT (r : List (Int × Int)) (k v : Int) : List (Int × Int) :=
  if r.any (fun p => decide (p.1 = k)) then r.map (fun p => if p.1 = k then (p.1, v) else p) else r ++ [(k, v)]
inductive Res (α : Type) where
  | ok (a : α) (t : Tw)
  | exc (n : Nat) (t : Tw)
  | bad
def Res.bind {α β : Type} : Res α → (α → Tw → Res β) → Res β
  | .ok a t, f => f a t
  | .exc n t, _ => .exc n t
  | .bad, _ => .bad
@[simp] theorem Res.bind_ok {α β : Type} (a : α) (t : Tw) (f : α → Tw → Res β) : (Res.ok a t).bind f = f a t := rfl
@[simp] theorem Res.bind_exc {α β : Type} (n : Nat) (t : Tw) (f : α → Tw → Res β) : (Res.exc n t : Res α).bind f = .exc n t := rfl
@[simp] theorem Res.bind_bad {α β : Type} (f : α → Tw → Res β) : (Res.bad : Res α).bind f = .bad := rfl
def lift {α : Type} (o : Option α) (t : Tw) : Res α := match o with
  | some a => .ok a t
  | none => .bad
@[simp] theorem lift_some {α : Type} (a : α) (t : Tw) : lift (some a) t = .ok a t := rfl
@[simp] theorem lift_none {α : Type} (t : Tw) : lift (none : Option α) t = .bad := rfl
/-! ### the operations upon data -/
def okMul (i j : Int) : Bool := decide (i.natAbs.log2 + j.natAbs.log2 < 1000000)
def okDiv (j : Int) : Bool := decide (j ≠ 0) && decide (j.natAbs.log2 < 9000)
def okPow (i j : Int) : Bool := decide (0 ≤ j) && decide (j ≤ 1000000) && decide (i.natAbs < 2 ^ 64)
def okLen (n : Nat) : Bool := decide (n ≤ 16777216)
def addD : D → D → Option D
  | .int i, .int j => some (.int (i + j))
  | .str x, .str y => if okLen (x.length + y.length) then some (.str (x ++ y)) else none
  | .tup xs, .tup ys => if okLen (xs.length + ys.length) then some (.tup (xs ++ ys)) else none
  | _, _ => none
def catD : D → D → Option D
  | .lst xs, .lst ys => if okLen (xs.length + ys.length) then some (.lst (xs ++ ys)) else none
  | _, _ => none
def subD : D → D → Option D
  | .int i, .int j => some (.int (i - j))
  | _, _ => none
def mulD : D → D → Option D
  | .int i, .int j => if okMul i j then some (.int (i * j)) else none
  | _, _ => none
def fdivD : D → D → Option D
  | .int i, .int j => if okDiv j then some (.int (i.fdiv j)) else none
  | _, _ => none
def modD : D → D → Option D
  | .int i, .int j => if j = 0 then none else some (.int (i.fmod j))
  | _, _ => none
def powD : D → D → Option D
  | .int i, .int j => if okPow i j then some (.int (i ^ j.toNat)) else none
  | _, _ => none
def shlD : D → D → Option D
  | .int i, .int j => if okPow i j then some (.int (i * 2 ^ j.toNat)) else none
  | _, _ => none
def negD : D → Option D
  | .int i => some (.int (-i))
  | _ => none
def truD : D → Option Bool
  | .non => some false
  | .bl b => some b
  | .int i => some (i != 0)
  | .str x => if okLen x.length then some ((x.length : Int) != 0) else none
  | .tup xs => some (!xs.isEmpty)
  | .lst xs => some (!xs.isEmpty)
  | .scr ns => some (!ns.isEmpty)
  | _ => none
def notD (a : D) : Option D := (truD a).map fun b => .bl (!b)
def okEq (a b : D) : Bool := lay a && lay b && decide (min (dep a) (dep b) ≤ 190)
def eqOp (a b : D) : Option D := if okEq a b then some (.bl (eqD a b)) else none
def neOp (a b : D) : Option D := if okEq a b then some (.bl (!eqD a b)) else none
def ltOp : D → D → Option D
  | .int i, .int j => some (.bl (decide (i < j)))
  | .str x, .str y => some (.bl (decide (x.cps.toList < y.cps.toList)))
  | _, _ => none
def leOp : D → D → Option D
  | .int i, .int j => some (.bl (decide (i ≤ j)))
  | _, _ => none
def gtOp : D → D → Option D
  | .int i, .int j => some (.bl (decide (j < i)))
  | _, _ => none
def geOp : D → D → Option D
  | .int i, .int j => some (.bl (decide (j ≤ i)))
  | _, _ => none
/-- x in y: a sequence of data, or one sign in a text -/
def inB : D → D → Option Bool
  | a, .tup xs => if lay a && (xs.all lay) && decide (dep a ≤ 190) then some (xs.any fun z => eqD z a) else none
  | a, .lst xs => if lay a && (xs.all lay) && decide (dep a ≤ 190) then some (xs.any fun z => eqD z a) else none
  | .str x, .str y => if decide (x.cps.size = 1) then some (decide (x.cps.getD 0 0 ∈ y.cps.toList)) else none
  | _, _ => none
def isN (a : D) : Bool := match a with
  | .non => true
  | _ => false
def cmpD : CmpOp → D → D → Option D
  | .Eq, a, b => eqOp a b
  | .NotEq, a, b => neOp a b
  | .Lt, a, b => ltOp a b
  | .LtE, a, b => leOp a b
  | .Gt, a, b => gtOp a b
  | .GtE, a, b => geOp a b
  | .Is, a, .non => some (.bl (isN a))
  | .IsNot, a, .non => some (.bl (!isN a))
  | .In, a, b => (inB a b).map .bl
  | .NotIn, a, b => (inB a b).map fun r => .bl (!r)
  | _, _, _ => none
def keyD : D → Option Key
  | .int i => some (.inl i)
  | .str x => some (.inr x)
  | _ => none
def lookD (kvs : List (Key × D)) (k : Key) : Option D := (kvs.find? fun kv => decide (kv.1 = k)).map (·.2)
def putD (kvs : List (Key × D)) (k : Key) (d : D) : List (Key × D) :=
  if kvs.any (fun kv => decide (kv.1 = k)) then kvs.map (fun kv => if kv.1 = k then (kv.1, d) else kv) else kvs ++ [(k, d)]
def mergeD (kvs : List (Key × D)) : List (Str × D) → List (Key × D)
  | [] => kvs
  | p :: r => mergeD (putD kvs (.inr p.1) p.2) r
def ixD : D → D → Option D
  | .scr ns, .int i => (L2.atI ns i).map D.int
  | .tup xs, .int i => L2.atI xs i
  | .lst xs, .int i => L2.atI xs i
  | .str x, .int i => if okLen x.length then (L2.atI x.cps.toList i).map fun c => .str ⟨#[c]⟩ else none
  | _, _ => none
def dixD : D → D → Option D
  | .dct kvs, k => (keyD k).bind fun k => lookD kvs k
  | _, _ => none
def cutL {α : Type} (xs : List α) (lo hi : Option Int) : List α := (xs.drop (HT.sIx xs.length 0 lo)).take (HT.sIx xs.length xs.length hi - HT.sIx xs.length 0 lo)
def optI : Option D → Option (Option Int)
  | none => some none
  | some (.int i) => some (some i)
  | _ => none
def cutD (a : D) (l h : Option Int) : Option D := match a with
  | .tup xs => some (.tup (cutL xs l h))
  | .lst xs => some (.lst (cutL xs l h))
  | _ => none
def revD : D → Option D
  | .tup xs => some (.tup xs.reverse)
  | .lst xs => some (.lst xs.reverse)
  | _ => none
def lenD : D → Option D
  | .tup xs => some (.int xs.length)
  | .lst xs => some (.int xs.length)
  | .str x => if okLen x.length then some (.int x.length) else none
  | .scr ns => some (.int ns.length)
  | _ => none
def tyD : D → Option String
  | .non => some "NoneType"
  | .bl _ => some "bool"
  | .int _ => some "int"
  | .str _ => some "str"
  | .tup _ => some "tuple"
  | .lst _ => some "list"
  | _ => none
/-- the classes that are asked -/
inductive Ty where
  | int | bool | str | tuple | list
def Ty.name : Ty → String
  | .int => "int"
  | .bool => "bool"
  | .str => "str"
  | .tuple => "tuple"
  | .list => "list"
def isaD (a : D) (T : Ty) : Option Bool := match a, T with
  | .tok, _ => none
  | .scr _, _ => none
  | .exc _, _ => none
  | .dct _, _ => none
  | .dcn _, _ => none
  | .bl _, .bool => some true
  | .bl _, .int => some true
  | .int _, .int => some true
  | .str _, .str => some true
  | .tup _, .tuple => some true
  | .lst _, .list => some true
  | _, _ => some false
/-- built-in functions of one or two values -/
inductive Blt where
  | len | abs | all | any | sum | tuple | list | sorted | int
def bls : List D → Option (List Bool)
  | [] => some []
  | .bl b :: r => (bls r).map (b :: ·)
  | _ :: _ => none
def intsD : List D → Option (List Int)
  | [] => some []
  | .int i :: r => (intsD r).map (i :: ·)
  | _ :: _ => none
/-- intsD in order -/
def insI (x : Int) : List Int → List Int
  | [] => [x]
  | y :: r => if x ≤ y then x :: y :: r else y :: insI x r
def srtI : List Int → List Int
  | [] => []
  | x :: r => insI x (srtI r)
def keysI : List (Key × D) → Option (List Int)
  | [] => some []
  | (.inl i, _) :: r => (keysI r).map (i :: ·)
  | _ :: _ => none
def blt1 : Blt → D → Option D
  | .len, a => lenD a
  | .abs, .int i => some (.int (if i < 0 then -i else i))
  | .all, .lst xs => (bls xs).map fun bs => .bl (bs.all id)
  | .any, .lst xs => (bls xs).map fun bs => .bl (bs.any id)
  | .sum, .lst xs => (intsD xs).map fun ns => .int ns.sum
  | .tuple, .lst xs => some (.tup xs)
  | .tuple, .tup xs => some (.tup xs)
  | .list, .lst xs => some (.lst xs)
  | .list, .tup xs => some (.lst xs)
  | .sorted, .lst xs => (intsD xs).map fun ns => .lst ((srtI ns).map D.int)
  | .sorted, .dct kvs => (keysI kvs).bind fun ns => if decide (ns.length < 64) then some (.lst ((srtI ns).map D.int)) else none
  | _, _ => none
def strsD : List D → Option (List Str)
  | [] => some []
  | .str x :: r => (strsD r).map (x :: ·)
  | _ :: _ => none
/-- the place of a text -/
def idxD : Bool → D → D → Option D
  | false, .tup xs, .str z => (strsD xs).bind fun ys => if decide (z ∈ ys) then some (.int (ys.idxOf z : Nat)) else none
  | true, .lst xs, .str z => (strsD xs).bind fun ys => if decide (z ∈ ys) && (lay (.lst xs) && lay (.str z)) then some (.int (ys.idxOf z : Nat)) else none
  | _, _, _ => none
def isSq : Bool → D → Bool
  | false, .tup _ => true
  | true, .lst _ => true
  | _, _ => false
/-! ### the syntax -/
inductive Cst where
  | non | bl (b : Bool) | int (i : Int) | str (x : Str)
def Cst.d : Cst → D
  | .non => .non
  | .bl b => .bl b
  | .int i => .int i
  | .str x => .str x
mutual
inductive E where
  | cst (c : Cst)
  | var (i : Nat)
  | bor (i : Nat)
  | glob (g : Nat)
  | bin (op : Operator) (a b : E)
  | neg (a : E)
  | not (a : E)
  | and (a b : E)
  | or (a b : E)
  | ite (c a b : E)
  | cmp (op : CmpOp) (a b : E)
  | chain (o1 o2 : CmpOp) (a b c : E)
  | ix (a b : E)
  | dix (a b : E)
  | cat (a b : E)
  | cut (a : E) (lo hi : O)
  | tup (es : Es)
  | lst (es : Es)
  | call (c : Nat) (es ks : Es)
  | blt (b : Blt) (a : E)
  | isa (a : E) (T : Ty)
  | comp (own : List (Str × Nat)) (elt : E) (tg : Tg) (it : I) (cd : O)
  | get (a k d : E)
  | tcount (i : Nat)
  | tget (i : Nat) (k d : E)
  | dsp (kvs : List (Str × Cst))
  | rev (a : E)
  | heard (e : E)
  | isx (a : E) (n : Nat)
  | isv (a : E)
  | dspE (ks : List Str) (es : Es)
  | idxG (g : Nat) (b : E)
  | idx (a b : E)
  | comp2 (own : List (Str × Nat)) (elt : E) (tg : Tg) (it : I) (tg1 : Tg) (it1 : I)
inductive O where
  | none
  | some (e : E)
inductive Es where
  | nil
  | cons (e : E) (es : Es)
inductive I where
  | val (e : E)
  | rng1 (a : E)
  | rng2 (a b : E)
  | zip (a b : E)
  | enum (a : E)
  | zipN (a b : E)
  | keys (a : E)
  | enumT (a : E)
inductive Tg where
  | name (i : Nat)
  | tup (ts : Tgs)
inductive Tgs where
  | nil
  | cons (t : Tg) (ts : Tgs)
end
mutual
inductive S where
  | asg (tg : Tg) (e : E)
  | par (is : List Nat) (es : Es)
  | star (i j : Nat) (e : E)
  | aug (i : Nat) (op : Operator) (e : E)
  | ret (e : E)
  | ite (c : E) (a b : Ss)
  | for (tg : Tg) (it : I) (b : Ss)
  | while (c : E) (b : Ss)
  | exp (e : E)
  | new (i : Nat) (e : E)
  | app (i : Nat) (e : E)
  | put (i : Nat) (k e : E)
  | upd (i : Nat) (e : E)
  | ins (i : Nat) (k e : E)
  | uns (is : List Nat) (j : Nat) (es : Es)
  | pnl (b : Bool) (j i : Nat) (e : E)
  | putL (i : Nat) (k e : E)
  | frz (i : Nat)
  | tcnt (i : Nat) (e : E)
  | trst (i : Nat) (k e : E)
  | brk
  | cont
  | raise (n : Nat) (x : Str)
inductive Ss where
  | nil
  | cons (s : S) (r : Ss)
end

/-! ### the evaluator -/
mutual
def Tg.slots : Tg → List Nat
  | .name i => [i]
  | .tup ts => ts.slots
def Tgs.slots : Tgs → List Nat
  | .nil => []
  | .cons t ts => t.slots ++ ts.slots
end

/-- a slot: nothing, a datum, an object of the def's own (a list, a dict) that it may change -/
inductive Sl where
  | un
  | val (d : D)
  | own (d : D)
abbrev Rho := List Sl
/-- the values alone -/
def valsR (r : Rho) : Rho := r.map fun s => match s with
  | .own _ => .un
  | s => s
def wipeR (r : Rho) : List Nat → Rho
  | [] => r
  | v :: vs => (wipeR r vs).set v .un
mutual
def setT : Tg → D → Rho → Option Rho
  | .name i, d, r => if decide (i < r.length) then some (r.set i (.val d)) else none
  | .tup ts, .tup xs, r => setTs ts xs r
  | .tup _, _, _ => none
def setTs : Tgs → List D → Rho → Option Rho
  | .nil, [], r => some r
  | .cons t ts, x :: xs, r => (setT t x r).bind fun r1 => setTs ts xs r1
  | _, _, _ => none
end
def consO (o : Option D) (xs : List D) : List D := match o with
  | some x => x :: xs
  | none => xs
/-- a comprehension's turns; what is raised within is not carried -/
def compL (f : D → Tw → Res (Option D)) : List D → Tw → Res (List D)
  | [], t => .ok [] t
  | d :: r, t => match f d t with
    | .ok o t1 => (compL f r t1).bind fun xs t2 => .ok (consO o xs) t2
    | _ => .bad
/-- .. of two fors -/
def comp2L (f : D → Tw → Res (List D)) : List D → Tw → Res (List D)
  | [], t => .ok [] t
  | d :: r, t => match f d t with
    | .ok ys t1 => (comp2L f r t1).bind fun zs t2 => .ok (ys ++ zs) t2
    | _ => .bad
def strD (x : Str) : List D := x.cps.toList.map fun c => .str ⟨#[c]⟩
def rngD (lo : Int) (n : Nat) : List D := (List.range n).map fun k => .int (lo + (k : Nat))
def okRng (i : Int) : Bool := decide (-(2 ^ 62) ≤ i) && decide (i < 2 ^ 62)
def zipD : List D → List D → List D
  | x :: xs, y :: ys => .tup [x, y] :: zipD xs ys
  | _, _ => []
def enumD (k : Nat) : List D → List D
  | [] => []
  | x :: xs => .tup [.int (k : Nat), x] :: enumD (k + 1) xs
/-- what calls tell: the level; so many levels deeper, the call's form, values, keywords' values -/
structure Gam where
  lv : Nat
  f : Nat → Nat → List D → List D → Tw → Res D
def Gam.low (G : Gam) : Gam := ⟨G.lv - 2, fun d => G.f (d + 2)⟩
/-- the words of what is refused -/
def hWord : Nat → Str
  | 0 => "no root"
  | 1 => "no form"
  | 2 => "by nought"
  | 3 => "no quotient"
  | 4 => "no name"
  | 5 => "no path"
  | 6 => "spent"
  | 7 => "bad word"
  | 8 => "no text"
  | _ => "is wrong"
/-- what the law hears of a deed -/
def heardR : Res D → Res D
  | .ok v t => .ok (.tup [.str "told", v]) t
  | .exc n t => if decide (n < 9) then .ok (.tup [.str (hWord n)]) t else .bad
  | .bad => .bad
def isxD (a : D) (n : Nat) : Option D := match a with
  | .exc m => if decide (m < 9) && decide (n < 9) then some (.bl (decide (m = n))) else none
  | _ => none
def isvD : D → Option D
  | .exc m => if decide (m < 9) then some (.bl true) else none
  | _ => none
def kD : Key → D
  | .inl i => .int i
  | .inr x => .str x
def joinD (kvs : List (Key × D)) : List (Key × D) → List (Key × D)
  | [] => kvs
  | p :: r => joinD (putD kvs p.1 p.2) r
def binD : Operator → D → D → Option D
  | .Add, a, b => addD a b
  | .Sub, a, b => subD a b
  | .Mult, a, b => mulD a b
  | .FloorDiv, a, b => fdivD a b
  | .Mod, a, b => modD a b
  | .Pow, a, b => powD a b
  | .LShift, a, b => shlD a b
  | _, _, _ => none
mutual
def ev (G : Gam) (cs : Nat → D) : E → Rho → Tw → Res D
  | .cst c, _, t => .ok c.d t
  | .var i, r, t => match r[i]? with
    | some (.val d) => .ok d t
    | _ => .bad
  | .bor i, r, t => match r[i]? with
    | some (.val d) => .ok d t
    | some (.own d) => .ok d t
    | _ => .bad
  | .glob g, _, t => .ok (cs g) t
  | .bin op a b, r, t => (ev G cs a r t).bind fun x t1 => (ev G cs b r t1).bind fun y t2 => lift (binD op x y) t2
  | .neg a, r, t => (ev G cs a r t).bind fun x t1 => lift (negD x) t1
  | .not a, r, t => (ev G cs a r t).bind fun x t1 => lift (notD x) t1
  | .and a b, r, t => (ev G cs a r t).bind fun x t1 => match truD x with
    | some true => ev G cs b r t1
    | some false => .ok x t1
    | none => .bad
  | .or a b, r, t => (ev G cs a r t).bind fun x t1 => match truD x with
    | some true => .ok x t1
    | some false => ev G cs b r t1
    | none => .bad
  | .ite c a b, r, t => (ev G cs c r t).bind fun x t1 => match truD x with
    | some true => ev G cs a r t1
    | some false => ev G cs b r t1
    | none => .bad
  | .cmp op a b, r, t => (ev G cs a r t).bind fun x t1 => (ev G cs b r t1).bind fun y t2 => lift (cmpD op x y) t2
  | .chain o1 o2 a b c, r, t => (ev G cs a r t).bind fun x t1 => (ev G cs b r t1).bind fun y t2 => match cmpD o1 x y with
    | some (.bl true) => (ev G cs c r t2).bind fun z t3 => lift (cmpD o2 y z) t3
    | some (.bl false) => .ok (.bl false) t2
    | _ => .bad
  | .ix a b, r, t => (ev G cs a r t).bind fun x t1 => (ev G cs b r t1).bind fun y t2 => lift (ixD x y) t2
  | .dix a b, r, t => (ev G cs a r t).bind fun x t1 => (ev G cs b r t1).bind fun y t2 => lift (dixD x y) t2
  | .cat a b, r, t => (ev G cs a r t).bind fun x t1 => (ev G cs b r t1).bind fun y t2 => lift (catD x y) t2
  | .cut a lo hi, r, t => (ev G cs a r t).bind fun x t1 => (evO G cs lo r t1).bind fun l t2 => (lift (optI l) t2).bind fun l t2 => (evO G cs hi r t2).bind fun h t3 => (lift (optI h) t3).bind fun h t3 => lift (cutD x l h) t3
  | .tup es, r, t => (evs G cs es r t).bind fun xs t1 => if okLen xs.length then .ok (.tup xs) t1 else .bad
  | .lst es, r, t => (evs G cs es r t).bind fun xs t1 => if okLen xs.length then .ok (.lst xs) t1 else .bad
  | .call c es ks, r, t => (evs G cs es r t).bind fun xs t1 => (evs G cs ks r t1).bind fun ys t2 => G.f 0 c xs ys t2
  | .blt b a, r, t => (ev G cs a r t).bind fun x t1 => lift (blt1 b x) t1
  | .isa a T, r, t => (ev G cs a r t).bind fun x t1 => lift ((isaD x T).map D.bl) t1
  | .comp own elt tg it cd, r, t => (evI G cs it r t).bind fun xs t1 => if okLen xs.length then
      (compL (fun d t => match setT tg d (wipeR r (own.map (·.2))) with
        | some r2 => (evO G cs cd r2 t).bind fun o t => match o with
          | none => (ev G cs elt r2 t).bind fun x t => .ok (some x) t
          | some y => match truD y with
            | some true => (ev G cs elt r2 t).bind fun x t => .ok (some x) t
            | some false => .ok none t
            | none => .bad
        | none => .bad) xs t1).bind fun ys t2 => .ok (.lst ys) t2 else .bad
  | .get a k d, r, t => (ev G cs a r t).bind fun x t1 => match x with
    | .dct kvs => (ev G cs k r t1).bind fun y t2 => (ev G cs d r t2).bind fun z t3 => (match keyD y with
      | some k => .ok ((lookD kvs k).getD z) t3
      | none => .bad)
    | _ => .bad
  | .tcount i, r, t => match r[i]? with
    | some (.val .tok) => .ok (.int t.count) t
    | _ => .bad
  | .tget i k d, r, t => match r[i]? with
    | some (.val .tok) => (ev G cs k r t).bind fun y t1 => (ev G cs d r t1).bind fun z t2 => (match y, z with
      | .int a, .int b => .ok (.int ((lkT t2.rests a).getD b)) t2
      | _, _ => .bad)
    | _ => .bad
  | .dsp kvs, r, t => if decide (kvs.length ≤ 15) then .ok (.dct (mergeD [] (kvs.map fun p => (p.1, p.2.d)))) t else .bad
  | .rev a, r, t => (ev G cs a r t).bind fun x t1 => lift (revD x) t1
  | .heard e, r, t => if decide (2 ≤ G.lv) then heardR (ev G.low cs e (valsR r) t) else .bad
  | .isx a n, r, t => (ev G cs a r t).bind fun x t1 => lift (isxD x n) t1
  | .isv a, r, t => (ev G cs a r t).bind fun x t1 => lift (isvD x) t1
  | .idxG g b, r, t => if isSq false (cs g) then (ev G cs b r t).bind fun y t1 => lift (idxD false (cs g) y) t1 else .bad
  | .idx a b, r, t => (ev G cs a r t).bind fun x t1 => if isSq true x then (ev G cs b r t1).bind fun y t2 => lift (idxD true x y) t2 else .bad
  | .comp2 own elt tg it tg1 it1, r, t => (evI G cs it r t).bind fun xs t1 => if okLen xs.length then
      (comp2L (fun d t => match setT tg d (wipeR r (own.map (·.2))) with
        | some r2 => (match evI G cs it1 r2 t with
          | .ok es t1 => if okLen es.length then compL (fun d t => match setT tg1 d (wipeR r2 tg1.slots) with
            | some r3 => (ev G cs elt r3 t).bind fun x t => .ok (some x) t
            | none => .bad) es t1 else .bad
          | _ => .bad)
        | none => .bad) xs t1).bind fun ys t2 => if okLen ys.length then .ok (.lst ys) t2 else .bad else .bad
  | .dspE ks es, r, t => (evs G cs es r t).bind fun xs t1 => if decide (xs.length ≤ 15) && decide (xs.length = ks.length) && decide (0 < xs.length) then .ok (.dct (mergeD [] (ks.zip xs))) t1 else .bad
def evO (G : Gam) (cs : Nat → D) : O → Rho → Tw → Res (Option D)
  | .none, _, t => .ok none t
  | .some e, r, t => (ev G cs e r t).bind fun x t1 => .ok (some x) t1
def evs (G : Gam) (cs : Nat → D) : Es → Rho → Tw → Res (List D)
  | .nil, _, t => .ok [] t
  | .cons e es, r, t => (ev G cs e r t).bind fun x t1 => (evs G cs es r t1).bind fun xs t2 => .ok (x :: xs) t2
def evI (G : Gam) (cs : Nat → D) : I → Rho → Tw → Res (List D)
  | .val e, r, t => (ev G cs e r t).bind fun x t1 => match x with
    | .tup xs => .ok xs t1
    | .lst xs => .ok xs t1
    | .str x => .ok (strD x) t1
    | _ => .bad
  | .rng1 a, r, t => (ev G cs a r t).bind fun x t1 => match x with
    | .int j => if okRng j then .ok (rngD 0 j.toNat) t1 else .bad
    | _ => .bad
  | .rng2 a b, r, t => (ev G cs a r t).bind fun x t1 => (ev G cs b r t1).bind fun y t2 => match x, y with
    | .int i, .int j => if okRng i && okRng j then .ok (rngD i (j - i).toNat) t2 else .bad
    | _, _ => .bad
  | .zip a b, r, t => (ev G cs a r t).bind fun x t1 => (ev G cs b r t1).bind fun y t2 => match x, y with
    | .tup xs, .tup ys => .ok (zipD xs ys) t2
    | .lst xs, .lst ys => .ok (zipD xs ys) t2
    | _, _ => .bad
  | .enum a, r, t => (ev G cs a r t).bind fun x t1 => match x with
    | .lst xs => .ok (enumD 0 xs) t1
    | _ => .bad
  | .enumT a, r, t => (ev G cs a r t).bind fun x t1 => match x with
    | .tup xs => .ok (enumD 0 xs) t1
    | _ => .bad
  | .zipN a b, r, t => (ev G cs a r t).bind fun x t1 => (ev G cs b r t1).bind fun y t2 => match x, y with
    | .tup xs, .tup ys => .ok (zipD xs ys) t2
    | _, _ => .bad
  | .keys a, r, t => (ev G cs a r t).bind fun x t1 => match x with
    | .dct kvs => .ok (kvs.map fun p => kD p.1) t1
    | _ => .bad
end
/-! ### statements -/
inductive Fl where
  | nx | brk | cont
  | ret (d : D)
def loopF (f : D → Rho → Tw → Res (Fl × Rho)) : List D → Rho → Tw → Res (Fl × Rho)
  | [], r, t => .ok (.nx, r) t
  | d :: ds, r, t => (f d r t).bind fun p t1 => match p with
    | (.nx, r1) => loopF f ds r1 t1
    | (.cont, r1) => loopF f ds r1 t1
    | (.brk, r1) => .ok (.nx, r1) t1
    | (.ret d, r1) => .ok (.ret d, r1) t1
/-- n turns of a while at most; none: they do not suffice -/
def loopN (c : Rho → Tw → Res D) (f : Rho → Tw → Res (Fl × Rho)) : Nat → Rho → Tw → Option (Res (Fl × Rho))
  | 0, _, _ => none
  | n + 1, r, t => match c r t with
    | .exc k t1 => some (.exc k t1)
    | .bad => some .bad
    | .ok x t1 => match truD x with
      | none => some .bad
      | some false => some (.ok (.nx, r) t1)
      | some true => match f r t1 with
        | .exc k t2 => some (.exc k t2)
        | .bad => some .bad
        | .ok (.nx, r1) t2 => loopN c f n r1 t2
        | .ok (.cont, r1) t2 => loopN c f n r1 t2
        | .ok (.brk, r1) t2 => some (.ok (.nx, r1) t2)
        | .ok (.ret d, r1) t2 => some (.ok (.ret d, r1) t2)
open Classical in
/-- a while -/
noncomputable def loopWc (c : Rho → Tw → Res D) (f : Rho → Tw → Res (Fl × Rho)) (r : Rho) (t : Tw) : Res (Fl × Rho) :=
  if h : ∃ n v, loopN c f n r t = some v then h.choose_spec.choose else .bad
theorem loopN_mono {c : Rho → Tw → Res D} {f : Rho → Tw → Res (Fl × Rho)} {n : Nat} : ∀ {m : Nat} {r : Rho} {t : Tw} {v : Res (Fl × Rho)}, loopN c f n r t = some v → n ≤ m → loopN c f m r t = some v := by
  induction n with
  | zero => intro m r t v h _; simp [loopN] at h
  | succ n ih =>
    intro m r t v h hm
    obtain ⟨m, rfl⟩ : ∃ k, m = k + 1 := ⟨m - 1, by omega⟩
    have hm' : n ≤ m := by omega
    simp only [loopN] at h ⊢
    cases hc : c r t with
    | exc k t1 => rw [hc] at h; exact h
    | bad => rw [hc] at h; exact h
    | ok x t1 =>
      rw [hc] at h
      simp only at h ⊢
      cases hx : truD x with
      | none => rw [hx] at h; exact h
      | some b =>
        rw [hx] at h
        cases b with
        | false => exact h
        | true =>
          simp only at h ⊢
          cases hf : f r t1 with
          | exc k t2 => rw [hf] at h; exact h
          | bad => rw [hf] at h; exact h
          | ok p t2 =>
            rw [hf] at h
            obtain ⟨fl, r1⟩ := p
            cases fl with
            | nx => exact ih h hm'
            | cont => exact ih h hm'
            | brk => exact h
            | ret d => exact h
theorem loopWc_of {c : Rho → Tw → Res D} {f : Rho → Tw → Res (Fl × Rho)} {n : Nat} {r : Rho} {t : Tw} {v : Res (Fl × Rho)} (h : loopN c f n r t = some v) : loopWc c f r t = v := by
  unfold loopWc
  have hx : ∃ n v, loopN c f n r t = some v := ⟨n, v, h⟩
  rw [dif_pos hx]
  have h2 := hx.choose_spec.choose_spec
  have e1 := loopN_mono h (Nat.le_max_left n hx.choose)
  have e2 := loopN_mono h2 (Nat.le_max_right n hx.choose)
  rw [e1] at e2
  exact (Option.some.inj e2).symm
theorem loopWc_not {c : Rho → Tw → Res D} {f : Rho → Tw → Res (Fl × Rho)} {r : Rho} {t : Tw} (h : loopWc c f r t ≠ .bad) : ∃ n, loopN c f n r t = some (loopWc c f r t) := by
  unfold loopWc at h ⊢
  by_cases hx : ∃ n v, loopN c f n r t = some v
  · rw [dif_pos hx] at h ⊢
    exact ⟨_, hx.choose_spec.choose_spec⟩
  · rw [dif_neg hx] at h
    exact absurd rfl h
/-- one turn -/
theorem loopWc_eq (c : Rho → Tw → Res D) (f : Rho → Tw → Res (Fl × Rho)) (r : Rho) (t : Tw) : loopWc c f r t = (c r t).bind fun x t1 => match truD x with
    | none => .bad
    | some false => .ok (.nx, r) t1
    | some true => (f r t1).bind fun p t2 => match p with
      | (.nx, r1) => loopWc c f r1 t2
      | (.cont, r1) => loopWc c f r1 t2
      | (.brk, r1) => .ok (.nx, r1) t2
      | (.ret d, r1) => .ok (.ret d, r1) t2 := by
  have key : ∀ r1 t2, (∀ n, loopN c f (n + 1) r t = loopN c f n r1 t2) → loopWc c f r t = loopWc c f r1 t2 := by
    intro r1 t2 h
    by_cases hb : loopWc c f r1 t2 = .bad
    · rw [hb]
      by_cases ha : loopWc c f r t = .bad
      · exact ha
      · obtain ⟨n, hn⟩ := loopWc_not ha
        cases n with
        | zero => simp [loopN] at hn
        | succ n =>
          rw [h n] at hn
          have := loopWc_of hn
          rw [hb] at this
          exact this.symm
    · obtain ⟨n, hn⟩ := loopWc_not hb
      exact loopWc_of (n := n + 1) ((h n).trans hn)
  cases hc : c r t with
  | exc k t1 => exact loopWc_of (n := 1) (by simp [loopN, hc])
  | bad => exact loopWc_of (n := 1) (by simp [loopN, hc])
  | ok x t1 =>
    simp only [Res.bind_ok]
    cases hx : truD x with
    | none => exact loopWc_of (n := 1) (by simp [loopN, hc, hx])
    | some b =>
      cases b with
      | false => exact loopWc_of (n := 1) (by simp [loopN, hc, hx])
      | true =>
        cases hf : f r t1 with
        | exc k t2 => exact loopWc_of (n := 1) (by simp [loopN, hc, hx, hf])
        | bad => exact loopWc_of (n := 1) (by simp [loopN, hc, hx, hf])
        | ok p t2 =>
          obtain ⟨fl, r1⟩ := p
          cases fl with
          | nx => exact key r1 t2 fun n => by simp [loopN, hc, hx, hf]
          | cont => exact key r1 t2 fun n => by simp [loopN, hc, hx, hf]
          | brk => exact loopWc_of (n := 1) (by simp [loopN, hc, hx, hf])
          | ret d => exact loopWc_of (n := 1) (by simp [loopN, hc, hx, hf])
/-- a while, by so many turns if they suffice -/
noncomputable def loopW (c : Rho → Tw → Res D) (f : Rho → Tw → Res (Fl × Rho)) (r : Rho) (t : Tw) : Res (Fl × Rho) := match loopN c f 64 r t with
  | some v => v
  | none => loopWc c f r t
theorem loopW_c (c : Rho → Tw → Res D) (f : Rho → Tw → Res (Fl × Rho)) (r : Rho) (t : Tw) : loopW c f r t = loopWc c f r t := by
  unfold loopW
  split
  · rename_i v e
    exact (loopWc_of e).symm
  · rfl
theorem loopW_of {c : Rho → Tw → Res D} {f : Rho → Tw → Res (Fl × Rho)} {n : Nat} {r : Rho} {t : Tw} {v : Res (Fl × Rho)} (h : loopN c f n r t = some v) : loopW c f r t = v := by
  rw [loopW_c, loopWc_of h]
theorem loopW_not {c : Rho → Tw → Res D} {f : Rho → Tw → Res (Fl × Rho)} {r : Rho} {t : Tw} (h : loopW c f r t ≠ .bad) : ∃ n, loopN c f n r t = some (loopW c f r t) := by
  rw [loopW_c] at h ⊢
  exact loopWc_not h
/-- one turn -/
theorem loopW_eq (c : Rho → Tw → Res D) (f : Rho → Tw → Res (Fl × Rho)) (r : Rho) (t : Tw) : loopW c f r t = (c r t).bind fun x t1 => match truD x with
    | none => .bad
    | some false => .ok (.nx, r) t1
    | some true => (f r t1).bind fun p t2 => match p with
      | (.nx, r1) => loopW c f r1 t2
      | (.cont, r1) => loopW c f r1 t2
      | (.brk, r1) => .ok (.nx, r1) t2
      | (.ret d, r1) => .ok (.ret d, r1) t2 := by
  simp only [loopW_c]
  exact loopWc_eq c f r t
def setAll : List Nat → List D → Rho → Option Rho
  | [], [], r => some r
  | i :: is, d :: ds, r => if decide (i < r.length) then setAll is ds (r.set i (.val d)) else none
  | _, _, _ => none
def okSet (r : Rho) (i : Nat) (s : Sl) (t : Tw) : Res (Fl × Rho) := if decide (i < r.length) then .ok (.nx, r.set i s) t else .bad
mutual
noncomputable def evS (G : Gam) (cs : Nat → D) : S → Rho → Tw → Res (Fl × Rho)
  | .asg tg e, r, t => (ev G cs e r t).bind fun x t1 => lift ((setT tg x r).map fun r1 => (.nx, r1)) t1
  | .par is es, r, t => (evs G cs es r t).bind fun xs t1 => lift ((setAll is xs r).map fun r1 => (.nx, r1)) t1
  | .star i j e, r, t => (ev G cs e r t).bind fun x t1 => match x with
    | .tup (y :: ys) => if decide (i < r.length) && decide (j < r.length) && decide (ys.length < 16384) then .ok (.nx, (r.set i (.val y)).set j (.val (.lst ys))) t1 else .bad
    | _ => .bad
  | .aug i op e, r, t => match r[i]? with
    | some (.val x) => (ev G cs e r t).bind fun y t1 => match x, y with
      | .int _, .int _ => lift ((binD op x y).map fun z => (.nx, r.set i (.val z))) t1
      | _, _ => .bad
    | _ => .bad
  | .ret e, r, t => (ev G cs e r t).bind fun x t1 => .ok (.ret x, r) t1
  | .ite c a b, r, t => (ev G cs c r t).bind fun x t1 => match truD x with
    | some true => evSs G cs a r t1
    | some false => evSs G cs b r t1
    | none => .bad
  | .for tg it b, r, t => (evI G cs it r t).bind fun xs t1 => loopF (fun d r t => match setT tg d r with
    | some r1 => evSs G cs b r1 t
    | none => .bad) xs r t1
  | .while c b, r, t => loopW (fun r t => ev G cs c r t) (fun r t => evSs G cs b r t) r t
  | .exp e, r, t => (ev G cs e r t).bind fun _ t1 => .ok (.nx, r) t1
  | .new i e, r, t => (ev G cs e r t).bind fun x t1 => okSet r i (.own x) t1
  | .app i e, r, t => match r[i]? with
    | some (.own (.lst xs)) => (ev G cs e r t).bind fun x t1 => if decide (xs.length < 16777216) then .ok (.nx, r.set i (.own (.lst (xs ++ [x])))) t1 else .bad
    | _ => .bad
  | .put i k e, r, t => match r[i]? with
    | some (.own (.dct kvs)) => (ev G cs e r t).bind fun x t1 => (ev G cs k r t1).bind fun y t2 => (match keyD y with
      | some k => if decide (kvs.length < 16777216) then .ok (.nx, r.set i (.own (.dct (putD kvs k x)))) t2 else .bad
      | none => .bad)
    | _ => .bad
  | .upd i e, r, t => match r[i]? with
    | some (.own (.dct kvs)) => (ev G cs e r t).bind fun x t1 => (match x with
      | .dct more => if decide (kvs.length + more.length ≤ 16777216) then .ok (.nx, r.set i (.own (.dct (joinD kvs more)))) t1 else .bad
      | _ => .bad)
    | _ => .bad
  | .ins i k e, r, t => match r[i]? with
    | some (.own (.lst xs)) => (ev G cs k r t).bind fun y t1 => (ev G cs e r t1).bind fun x t2 => (match y with
      | .int j => if decide (0 ≤ j) && decide (j < 2 ^ 63) && decide (xs.length < 16777216) then .ok (.nx, r.set i (.own (.lst (xs.take j.toNat ++ [x] ++ xs.drop j.toNat)))) t2 else .bad
      | _ => .bad)
    | _ => .bad
  | .uns is j es, r, t => (evs G cs es r t).bind fun xs t1 => (match setAll is xs r with
    | some r1 => okSet r1 j (.own (.lst [])) t1
    | none => .bad)
  | .pnl _ j i e, r, t => (ev G cs e r t).bind fun x t1 => if decide (j < r.length) && decide (i < r.length) then .ok (.nx, (r.set j (.own (.lst []))).set i (.val x)) t1 else .bad
  | .putL i k e, r, t => match r[i]? with
    | some (.own (.lst xs)) => (ev G cs e r t).bind fun x t1 => (ev G cs k r t1).bind fun y t2 => (match y with
      | .int j => (match L2.ixN xs.length j with
        | some n => .ok (.nx, r.set i (.own (.lst (xs.set n x)))) t2
        | none => .bad)
      | _ => .bad)
    | _ => .bad
  | .frz i, r, t => match r[i]? with
    | some (.own d) => .ok (.nx, r.set i (.val d)) t
    | some (.val _) => .ok (.nx, r) t
    | _ => .bad
  | .tcnt i e, r, t => match r[i]? with
    | some (.val .tok) => (ev G cs e r t).bind fun x t1 => (match x with
      | .int c => .ok (.nx, r) { t1 with count := c }
      | _ => .bad)
    | _ => .bad
  | .trst i k e, r, t => match r[i]? with
    | some (.val .tok) => (ev G cs e r t).bind fun x t1 => (ev G cs k r t1).bind fun y t2 => (match x, y with
      | .int v, .int a => if decide (t2.rests.length < 1000000) then .ok (.nx, r) { t2 with rests := putT t2.rests a v } else .bad
      | _, _ => .bad)
    | _ => .bad
  | .brk, r, t => .ok (.brk, r) t
  | .cont, r, t => .ok (.cont, r) t
  | .raise n _, _, t => .exc n t
noncomputable def evSs (G : Gam) (cs : Nat → D) : Ss → Rho → Tw → Res (Fl × Rho)
  | .nil, r, t => .ok (.nx, r) t
  | .cons s ss, r, t => (evS G cs s r t).bind fun p t1 => match p with
    | (.nx, r1) => evSs G cs ss r1 t1
    | q => .ok q t1
end
end Fm

/-! ### a value bears a datum; the state bears an environment -/
namespace Fm
open PySem PySem.Spec PyProof.Rows L2
/-- where the town (a, its rests b) and the script stand, the script's ints -/
structure Tn where
  a : Addr
  b : Addr
  s : Addr
  ns : List Int
  tabs : List (Addr × Str)
  cl : Nat → Addr
/-- a caught exception of the class cls, at a -/
def ExI (cls : Value) (a : Addr) : HO := .ext fun h => ∃ (oe : Obj) (vs : Array Value), h.get? a = some oe ∧ Zc cls none oe ∧ oe.data = .fields vs
mutual
inductive Rp (K : PySem.W.Frag) (T : Tn) (F : Hp) : V → D → Prop
  | non : Rp K T F .non .non
  | bl (b : Bool) : Rp K T F (.bl b) (.bl b)
  | int (i : Int) : Rp K T F (.int i) (.int i)
  | str (x : Str) : Rp K T F (.str x) (.str x)
  | tup {a : Addr} {xs : List V} {ds : List D} : SqT K F a xs → xs.length ≤ sizeLine → RpL K T F xs ds → Rp K T F (.ref a) (.tup ds)
  | lst {a : Addr} {xs : List V} {ds : List D} : F a = some (.lst xs) → xs.length ≤ sizeLine → RpL K T F xs ds → Rp K T F (.ref a) (.lst ds)
  | dct {a : Addr} {o : Obj} {kvs : List (Key × V)} {es : List (Key × D)} : F a = some (.frz o (.dK kvs)) → kvs.length ≤ sizeLine → RpK K T F kvs es → Rp K T F (.ref a) (.dct es)
  | exc {a : Addr} (n : Nat) : F a = some (ExI (.ref (T.cl n)) a) → Rp K T F (.ref a) (.exc n)
  | tok : Rp K T F (.ref T.a) .tok
  | scr : Rp K T F (.ref T.s) (.scr T.ns)
inductive RpL (K : PySem.W.Frag) (T : Tn) (F : Hp) : List V → List D → Prop
  | nil : RpL K T F [] []
  | cons {v : V} {vs : List V} {d : D} {ds : List D} : Rp K T F v d → RpL K T F vs ds → RpL K T F (v :: vs) (d :: ds)
inductive RpK (K : PySem.W.Frag) (T : Tn) (F : Hp) : List (Key × V) → List (Key × D) → Prop
  | nil : RpK K T F [] []
  | cons {k : Key} {v : V} {kvs : List (Key × V)} {d : D} {es : List (Key × D)} : Rp K T F v d → RpK K T F kvs es → RpK K T F ((k, v) :: kvs) ((k, d) :: es)
end
theorem sqT_mono {K : PySem.W.Frag} {F F' : Hp} {a : Addr} {xs : List V} (e : Same F F') (h : SqT K F a xs) : SqT K F' a xs := by
  rcases h with h | h
  · rcases h with h | ⟨o, h⟩
    · exact .inl (.inl (e _ _ h))
    · exact .inl (.inr ⟨o, e _ _ h⟩)
  · exact .inr h
theorem sqL_mono {K : PySem.W.Frag} {F F' : Hp} {a : Addr} {xs : List V} (e : Same F F') (h : SqL K F a xs) : SqL K F' a xs := by
  rcases h with h | h
  · rcases h with h | ⟨o, h⟩
    · exact .inl (.inl (e _ _ h))
    · exact .inl (.inr ⟨o, e _ _ h⟩)
  · exact .inr h
section
variable {K : PySem.W.Frag} {T : Tn} {F F' H : Hp}
mutual
theorem Rp.mono (e : Same F F') : ∀ {v : V} {d : D}, Rp K T F v d → Rp K T F' v d
  | _, _, .non => .non
  | _, _, .bl b => .bl b
  | _, _, .int i => .int i
  | _, _, .str x => .str x
  | _, _, .tup h z r => .tup (sqT_mono e h) z (r.mono e)
  | _, _, .lst h z r => .lst (e _ _ h) z (r.mono e)
  | _, _, .dct h z r => .dct (e _ _ h) z (r.mono e)
  | _, _, .exc n h => .exc n (e _ _ h)
  | _, _, .tok => .tok
  | _, _, .scr => .scr
theorem RpL.mono (e : Same F F') : ∀ {v : List V} {d : List D}, RpL K T F v d → RpL K T F' v d
  | _, _, .nil => .nil
  | _, _, .cons h r => .cons (h.mono e) (r.mono e)
theorem RpK.mono (e : Same F F') : ∀ {v : List (Key × V)} {d : List (Key × D)}, RpK K T F v d → RpK K T F' v d
  | _, _, .nil => .nil
  | _, _, .cons h r => .cons (h.mono e) (r.mono e)
end
theorem RpL.length : ∀ {vs : List V} {ds : List D}, RpL K T F vs ds → vs.length = ds.length
  | _, _, .nil => rfl
  | _, _, .cons _ r => congrArg Nat.succ r.length
theorem RpK.length : ∀ {vs : List (Key × V)} {ds : List (Key × D)}, RpK K T F vs ds → vs.length = ds.length
  | _, _, .nil => rfl
  | _, _, .cons _ r => congrArg Nat.succ r.length
theorem RpL.get : ∀ {vs : List V} {ds : List D}, RpL K T F vs ds → ∀ {i : Nat} {d : D}, ds[i]? = some d → ∃ v, vs[i]? = some v ∧ Rp K T F v d
  | _, _, .nil, i, d, h => by simp at h
  | _, _, .cons h r, 0, d, e => by
    have e2 := Option.some.inj (show some _ = some d from e)
    subst e2
    exact ⟨_, rfl, h⟩
  | _, _, .cons h r, i + 1, d, e => r.get (i := i) e
theorem RpL.get' : ∀ {vs : List V} {ds : List D}, RpL K T F vs ds → ∀ {i : Nat} {v : V}, vs[i]? = some v → ∃ d, ds[i]? = some d ∧ Rp K T F v d
  | _, _, .nil, i, d, h => by simp at h
  | _, _, .cons h r, 0, d, e => by
    have e2 := Option.some.inj (show some _ = some d from e)
    subst e2
    exact ⟨_, rfl, h⟩
  | _, _, .cons h r, i + 1, d, e => r.get' (i := i) e
theorem RpL.append : ∀ {vs ws : List V} {ds es : List D}, RpL K T F vs ds → RpL K T F ws es → RpL K T F (vs ++ ws) (ds ++ es)
  | _, _, _, _, .nil, q => q
  | _, _, _, _, .cons h r, q => .cons h (r.append q)
theorem RpL.take : ∀ {vs : List V} {ds : List D} (n : Nat), RpL K T F vs ds → RpL K T F (vs.take n) (ds.take n)
  | _, _, 0, _ => .nil
  | _, _, _ + 1, .nil => .nil
  | _, _, n + 1, .cons h r => .cons h (r.take n)
theorem RpL.drop : ∀ {vs : List V} {ds : List D} (n : Nat), RpL K T F vs ds → RpL K T F (vs.drop n) (ds.drop n)
  | _, _, 0, r => r
  | _, _, _ + 1, .nil => .nil
  | _, _, n + 1, .cons h r => r.drop n
theorem RpL.set {v : V} {d : D} (h : Rp K T F v d) : ∀ {vs : List V} {ds : List D} (n : Nat), RpL K T F vs ds → RpL K T F (vs.set n v) (ds.set n d)
  | _, _, _, .nil => .nil
  | _, _, 0, .cons _ r => .cons h r
  | _, _, n + 1, .cons q r => .cons q (RpL.set h n r)
theorem RpL.intsOf : ∀ {vs : List V} {ds : List D} {ns : List Int}, RpL K T F vs ds → intsD ds = some ns → vs = ns.map V.int
  | _, _, ns, .nil, h => by
    simp only [intsD, Option.some.injEq] at h
    subst h
    rfl
  | _, _, ns, @RpL.cons _ _ _ v vs d ds h r, e => by
    cases h with
    | int i =>
      simp only [intsD, Option.map_eq_some_iff] at e
      obtain ⟨ms, e1, e2⟩ := e
      subst e2
      rw [r.intsOf e1]
      rfl
    | _ => simp [intsD] at e
theorem RpL.blsOf : ∀ {vs : List V} {ds : List D} {ns : List Bool}, RpL K T F vs ds → bls ds = some ns → vs = ns.map V.bl
  | _, _, ns, .nil, h => by
    simp only [bls, Option.some.injEq] at h
    subst h
    rfl
  | _, _, ns, @RpL.cons _ _ _ v vs d ds h r, e => by
    cases h with
    | bl i =>
      simp only [bls, Option.map_eq_some_iff] at e
      obtain ⟨ms, e1, e2⟩ := e
      subst e2
      rw [r.blsOf e1]
      rfl
    | _ => simp [bls] at e
theorem RpL.ofInts : ∀ (ns : List Int), RpL K T F (ns.map V.int) (ns.map D.int)
  | [] => .nil
  | n :: ns => .cons (.int n) (RpL.ofInts ns)
/-- data of any depth, as the library has it -/
theorem lay_cons {x : D} {xs : List D} (h : PyData.canLayAll0 (pys (x :: xs)) = true) : lay x = true ∧ PyData.canLayAll0 (pys xs) = true := by
  have h2 : (PyData.canLay0 x.py && PyData.canLayAll0 (pys xs)) = true := by
    simpa only [pys, PyData.canLayAll0] using h
  exact Bool.and_eq_true_iff.mp h2
mutual
theorem Rp.dp (s : Same F H) : ∀ {v : V} {d : D}, Rp K T F v d → lay d = true → Dp K H v d.py
  | _, _, .non, _ => .non
  | _, _, .bl b, _ => .bl b
  | _, _, .int i, _ => .int i
  | _, _, .str x, _ => .str x
  | _, _, .tup h z r, l => .tup (sqT_mono s h) (r.dp s (by simpa only [lay, D.py, PyData.canLay0] using l))
  | _, _, .lst h z r, l => .lst (SqL.of (s _ _ h)) (r.dp s (by simpa only [lay, D.py, PyData.canLay0] using l))
  | _, _, .dct h z r, l => by simp [lay, D.py, PyData.canLay0] at l
  | _, _, .exc n h, l => by simp [lay, D.py, PyData.canLay0] at l
  | _, _, .tok, l => by simp [lay, D.py, PyData.canLay0] at l
  | _, _, .scr, l => by simp [lay, D.py, PyData.canLay0] at l
theorem RpL.dp (s : Same F H) : ∀ {v : List V} {d : List D}, RpL K T F v d → PyData.canLayAll0 (pys d) = true → DpAll K H v (pys d)
  | _, _, .nil, _ => .nil
  | _, _, .cons h r, l => .cons (h.dp s (lay_cons l).1) (r.dp s (lay_cons l).2)
end
end
/-! ### the state -/
theorem tabs_upd {T : List (Addr × Str)} {H : Hp} {p : Addr} {o : HO} (t : LamX.Tabs T H) (n1 : ∀ ps, H p ≠ some (.tbl ps)) (n2 : ∀ c q, H p ≠ some (LamX.CodeO c q)) : LamX.Tabs T (upd H p o) := fun x hx => by
  obtain ⟨ps, h1, h2, h3⟩ := t x hx
  refine ⟨ps, ?_, h2, fun pos cv hc => ?_⟩
  · rw [upd_ne (fun z => n1 ps (by rw [← z]; exact h1))]
    exact h1
  · obtain ⟨c, e1, e2⟩ := h3 pos cv hc
    refine ⟨c, e1, ?_⟩
    rw [upd_ne (fun z => n2 c x.2 (by rw [← z]; exact e2))]
    exact e2
theorem tabs_none {T : List (Addr × Str)} {H : Hp} {p : Addr} {o : HO} (t : LamX.Tabs T H) (h : H p = none) : LamX.Tabs T (upd H p o) := tabs_upd t (fun ps z => by rw [h] at z; cases z) fun c q z => by rw [h] at z; cases z
theorem tabs_lst {T : List (Addr × Str)} {H : Hp} {p : Addr} {o : HO} {xs : List V} (t : LamX.Tabs T H) (h : H p = some (.lst xs)) : LamX.Tabs T (upd H p o) := tabs_upd t (fun ps z => by rw [h] at z; cases z) fun c q z => by rw [h] at z; cases z
theorem tabs_dK {T : List (Addr × Str)} {H : Hp} {p : Addr} {o : HO} {xs : List (Key × V)} (t : LamX.Tabs T H) (h : H p = some (.dK xs)) : LamX.Tabs T (upd H p o) := tabs_upd t (fun ps z => by rw [h] at z; cases z) fun c q z => by rw [h] at z; cases z
/-- no table of a code object -/
def NT (o : HO) : Prop := ∀ ps, o ≠ .tbl ps
/-- nothing stands there, but it be a table -/
def Nn (H : Hp) (a : Addr) : Prop := ∀ o, H a = some o → ∃ ps, o = .tbl ps
theorem Nn.of {H : Hp} {a : Addr} (h : H a = none) : Nn H a := fun o e => by rw [h] at e; cases e
theorem Nn.no {H : Hp} {a : Addr} {o : HO} (h : Nn H a) (e : H a = some o) (n : NT o) : False := let ⟨ps, z⟩ := h o e; n ps z
theorem Nn.upd {H : Hp} {p b : Addr} {o : HO} (h : Nn (L2.upd H p o) b) (n : NT o) : Nn H b ∧ b ≠ p := by
  by_cases e : b = p
  · subst e
    exact (h.no upd_same n).elim
  · exact ⟨fun x z => h x (by rw [upd_ne e]; exact z), e⟩
theorem Nn.upd0 {H : Hp} {p b : Addr} {o : HO} (h : Nn (L2.upd H p o) b) (n : H p = none) : Nn H b := by
  by_cases e : b = p
  · subst e
    exact .of n
  · exact fun x z => h x (by rw [upd_ne e]; exact z)
/-- the town stands in the heap -/
structure Town (T : Tn) (t : Tw) (H : Hp) : Prop where
  a : H T.a = some (.dK [(.inr "count", .int t.count), (.inr "rests", .ref T.b)])
  b : H T.b = some (.dK (t.rests.map fun p => (.inl p.1, .int p.2)))
  ne : T.a ≠ T.b
  small : t.rests.length ≤ 1000000
/-- the heap's part: F0, H0 what was frozen, what stood at the entry; F what is frozen now -/
structure RelH (K : PySem.W.Frag) (T : Tn) (F0 H0 F : Hp) (t : Tw) (H : Hp) : Prop where
  sub : Same F H
  new : ∀ a o, F a = some o → F0 a = some o ∨ Nn H0 a
  base : Same F0 F
  old : ∀ a o, H0 a = some o → a ≠ T.a → a ≠ T.b → NT o → H a = some o
  had : ∀ a, Nn H a → Nn H0 a
  tw : Town T t H
  tF1 : F T.a = none
  tF2 : F T.b = none
  sc : SqL K F T.s (T.ns.map V.int)
  tabs : LamX.Tabs T.tabs H
  nt : ∀ a o, F a = some o → NT o
/-- an object of the def's own -/
def OwnAt (K : PySem.W.Frag) (T : Tn) (F H : Hp) (p : Addr) : D → Prop
  | .lst ds => ∃ vs, H p = some (.lst vs) ∧ vs.length ≤ sizeLine ∧ RpL K T F vs ds
  | .dct es => ∃ kvs, H p = some (.dK kvs) ∧ kvs.length ≤ sizeLine ∧ RpK K T F kvs es
  | _ => False
structure Own (K : PySem.W.Frag) (T : Tn) (H0 F H : Hp) (p : Addr) (d : D) : Prop where
  fr : F p = none
  n1 : p ≠ T.a
  n2 : p ≠ T.b
  h0 : Nn H0 p
  at_ : OwnAt K T F H p d
structure Rel (K : PySem.W.Frag) (T : Tn) (F0 H0 F : Hp) (r : Rho) (t : Tw) (σ : L2.St) (H : Hp) : Prop extends RelH K T F0 H0 F t H where
  len : r.length = σ.length
  val : ∀ (i : Nat) (d : D), r[i]? = some (.val d) → ∃ v, σ[i]? = some (some v) ∧ Rp K T F v d
  own : ∀ (i : Nat) (d : D), r[i]? = some (.own d) → ∃ p, σ[i]? = some (some (.ref p)) ∧ Own K T H0 F H p d
  inj : ∀ (i j : Nat) (d e : D) (p : Addr), r[i]? = some (.own d) → r[j]? = some (.own e) → σ[i]? = some (some (.ref p)) → σ[j]? = some (some (.ref p)) → i = j
section
variable {K : PySem.W.Frag} {T : Tn} {F0 H0 F F' F1 H H' H1 : Hp} {r : Rho} {t t' : Tw} {σ : L2.St}
theorem OwnAt.obj {p : Addr} {d : D} (h : OwnAt K T F H p d) : ∃ o, H p = some o ∧ NT o := by
  cases d with
  | lst ds =>
    obtain ⟨vs, h, _⟩ := h
    exact ⟨_, h, fun _ z => by cases z⟩
  | dct es =>
    obtain ⟨vs, h, _⟩ := h
    exact ⟨_, h, fun _ z => by cases z⟩
  | _ => exact h.elim
theorem OwnAt.keep {p : Addr} {d : D} (h : OwnAt K T F H p d) (s : Same F F') (e : ∀ o, H p = some o → H' p = some o) : OwnAt K T F' H' p d := by
  cases d with
  | lst ds =>
    obtain ⟨vs, h, z, q⟩ := h
    exact ⟨vs, e _ h, z, q.mono s⟩
  | dct es =>
    obtain ⟨vs, h, z, q⟩ := h
    exact ⟨vs, e _ h, z, q.mono s⟩
  | _ => exact h.elim
theorem RelH.refl (a : RelH K T F0 H0 F t H) : RelH K T F H F t H :=
  ⟨a.sub, fun _ _ h => .inl h, Same.refl F, fun _ _ h _ _ _ => h, fun _ h => h, a.tw, a.tF1, a.tF2, a.sc, a.tabs, a.nt⟩
theorem RelH.trans (a : RelH K T F0 H0 F t H) (b : RelH K T F H F' t' H') : RelH K T F0 H0 F' t' H' := by
  refine ⟨b.sub, fun c o h => ?_, a.base.trans b.base, fun c o h n1 n2 n3 => b.old c o (a.old c o h n1 n2 n3) n1 n2 n3, fun c h => a.had c (b.had c h), b.tw, b.tF1, b.tF2, b.sc, b.tabs, b.nt⟩
  rcases b.new c o h with q | q
  · exact a.new c o q
  · exact .inr (a.had c q)
/-- behind something that touched nothing of ours -/
theorem Rel.step (a : Rel K T F0 H0 F r t σ H) (b : RelH K T F H F' t' H') : Rel K T F0 H0 F' r t' σ H' := by
  refine ⟨a.toRelH.trans b, a.len, fun i d h => ?_, fun i d h => ?_, a.inj⟩
  · obtain ⟨v, e, q⟩ := a.val i d h
    exact ⟨v, e, q.mono b.base⟩
  · obtain ⟨p, e, q⟩ := a.own i d h
    obtain ⟨o, ho, hnt⟩ := q.at_.obj
    refine ⟨p, e, ⟨?_, q.n1, q.n2, q.h0, q.at_.keep b.base fun o' h => b.old p o' h q.n1 q.n2 (by rw [ho] at h; cases h; exact hnt)⟩⟩
    cases z : F' p with
    | none => rfl
    | some u =>
      rcases b.new p u z with z | z
      · rw [q.fr] at z
        cases z
      · exact (z.no ho hnt).elim
theorem upd_none {H : Hp} {p b : Addr} {o : HO} (h : upd H p o b = none) : H b = none ∧ b ≠ p := by
  by_cases e : b = p
  · subst e
    rw [upd_same] at h
    cases h
  · rw [upd_ne e] at h
    exact ⟨h, e⟩
theorem same_new {H : Hp} {p : Addr} {o : HO} (h : H p = none) : Same H (upd H p o) := fun b x e => by
  rw [upd_ne (ne_of_none e h)]
  exact e
/-- a new object, frozen at once -/
theorem RelH.newF {p : Addr} {o : HO} (a : RelH K T F0 H0 F t H) (hp : H p = none) (ho : NT o := by intro _ z; cases z) : RelH K T F H (upd F p o) t (upd H p o) := by
  have fp : F p = none := a.sub.free hp
  have n1 : p ≠ T.a := fun e => by
    rw [e, a.tw.a] at hp
    cases hp
  have n2 : p ≠ T.b := fun e => by
    rw [e, a.tw.b] at hp
    cases hp
  refine ⟨fun b x e => ?_, fun b x e => ?_, same_new fp, fun b x e _ _ _ => same_new hp b x e, fun b h => h.upd0 hp, ⟨?_, ?_, a.tw.ne, a.tw.small⟩, ?_, ?_, sqL_mono (same_new fp) a.sc, tabs_none a.tabs hp, fun b x e => ?_⟩
  · by_cases hb : b = p
    · subst hb
      rw [upd_same] at e ⊢
      exact e
    · rw [upd_ne hb] at e ⊢
      exact a.sub b x e
  · by_cases hb : b = p
    · subst hb
      exact .inr (.of hp)
    · rw [upd_ne hb] at e
      exact .inl e
  · rw [upd_ne (Ne.symm n1)]
    exact a.tw.a
  · rw [upd_ne (Ne.symm n2)]
    exact a.tw.b
  · rw [upd_ne (Ne.symm n1)]
    exact a.tF1
  · rw [upd_ne (Ne.symm n2)]
    exact a.tF2
  · by_cases hb : b = p
    · rw [hb, upd_same] at e
      cases e
      exact ho
    · rw [upd_ne hb] at e
      exact a.nt b x e
/-- a new object, not frozen -/
theorem RelH.newO {p : Addr} {o : HO} (a : RelH K T F0 H0 F t H) (hp : H p = none) : RelH K T F H F t (upd H p o) := by
  have n1 : p ≠ T.a := fun e => by
    rw [e, a.tw.a] at hp
    cases hp
  have n2 : p ≠ T.b := fun e => by
    rw [e, a.tw.b] at hp
    cases hp
  refine ⟨a.sub.trans (same_new hp), fun b x e => .inl e, Same.refl F, fun b x e _ _ _ => same_new hp b x e, fun b h => h.upd0 hp, ⟨?_, ?_, a.tw.ne, a.tw.small⟩, a.tF1, a.tF2, a.sc, tabs_none a.tabs hp, a.nt⟩
  · rw [upd_ne (Ne.symm n1)]
    exact a.tw.a
  · rw [upd_ne (Ne.symm n2)]
    exact a.tw.b
/-- what stands, and is nobody's, is frozen -/
theorem RelH.freeze {p : Addr} {o : HO} (a : RelH K T F0 H0 F t H) (hp : H p = some o) (ho : NT o) (f : F p = none) (h0 : Nn H0 p) (n1 : p ≠ T.a) (n2 : p ≠ T.b) : RelH K T F0 H0 (upd F p o) t H := by
  refine ⟨fun b x e => ?_, fun b x e => ?_, a.base.trans (same_new f), a.old, a.had, a.tw, ?_, ?_, sqL_mono (same_new f) a.sc, a.tabs, fun b x e => ?_⟩
  · by_cases hb : b = p
    · subst hb
      rw [upd_same] at e
      cases e
      exact hp
    · rw [upd_ne hb] at e
      exact a.sub b x e
  · by_cases hb : b = p
    · subst hb
      exact .inr h0
    · rw [upd_ne hb] at e
      exact a.new b x e
  · rw [upd_ne (Ne.symm n1)]
    exact a.tF1
  · rw [upd_ne (Ne.symm n2)]
    exact a.tF2
  · by_cases hb : b = p
    · rw [hb, upd_same] at e
      cases e
      exact ho
    · rw [upd_ne hb] at e
      exact a.nt b x e
theorem Rel.freeze {p : Addr} {o : HO} (a : Rel K T F0 H0 F r t σ H) (hp : H p = some o) (ho : NT o) (f : F p = none) (h0 : Nn H0 p) (n1 : p ≠ T.a) (n2 : p ≠ T.b) (no : ∀ (i : Nat) (d : D), r[i]? = some (.own d) → σ[i]? ≠ some (some (.ref p))) :
    Rel K T F0 H0 (upd F p o) r t σ H := by
  refine ⟨a.toRelH.freeze hp ho f h0 n1 n2, a.len, fun i d h => ?_, fun i d h => ?_, a.inj⟩
  · obtain ⟨v, e, q⟩ := a.val i d h
    exact ⟨v, e, q.mono (same_new f)⟩
  · obtain ⟨q, e, w⟩ := a.own i d h
    have nq : q ≠ p := fun z => no i d h (z ▸ e)
    exact ⟨q, e, ⟨by rw [upd_ne nq]; exact w.fr, w.n1, w.n2, w.h0, w.at_.keep (same_new f) fun o h => h⟩⟩
/-- a dict is locked, and frozen -/
theorem Rel.lockF {p : Addr} {od : Obj} {kvs : List (Key × V)} (a : Rel K T F0 H0 F r t σ H) (hp : H p = some (.dK kvs)) (f : F p = none) (h0 : Nn H0 p) (n1 : p ≠ T.a) (n2 : p ≠ T.b) (no : ∀ (i : Nat) (d : D), r[i]? = some (.own d) → σ[i]? ≠ some (some (.ref p))) :
    Rel K T F0 H0 (upd F p (.frz od (.dK kvs))) r t σ (upd H p (.frz od (.dK kvs))) := by
  have nF : ∀ b x, F b = some x → b ≠ p := fun b x e z => by
    rw [z, f] at e
    cases e
  refine ⟨⟨fun b x e => ?_, fun b x e => ?_, a.base.trans (same_new f), fun b x e m1 m2 m3 => ?_, fun b e => a.had b (e.upd (by intro _ z; cases z)).1, ⟨?_, ?_, a.tw.ne, a.tw.small⟩, ?_, ?_, sqL_mono (same_new f) a.sc, tabs_dK a.tabs hp, fun b x e => ?_⟩, a.len, fun i d h => ?_, fun i d h => ?_, a.inj⟩
  · by_cases hb : b = p
    · rw [hb, upd_same] at e ⊢
      exact e
    · rw [upd_ne hb] at e ⊢
      exact a.sub b x e
  · by_cases hb : b = p
    · rw [hb]
      exact .inr h0
    · rw [upd_ne hb] at e
      exact a.new b x e
  · rw [upd_ne (fun z => h0.no (by rw [← z]; exact e) m3)]
    exact a.old b x e m1 m2 m3
  · rw [upd_ne (Ne.symm n1)]
    exact a.tw.a
  · rw [upd_ne (Ne.symm n2)]
    exact a.tw.b
  · rw [upd_ne (Ne.symm n1)]
    exact a.tF1
  · rw [upd_ne (Ne.symm n2)]
    exact a.tF2
  · by_cases hb : b = p
    · rw [hb, upd_same] at e
      cases e
      intro _ z
      cases z
    · rw [upd_ne hb] at e
      exact a.nt b x e
  · obtain ⟨v, e, q⟩ := a.val i d h
    exact ⟨v, e, q.mono (same_new f)⟩
  · obtain ⟨q, e, w⟩ := a.own i d h
    have nq : q ≠ p := fun z => no i d h (z ▸ e)
    exact ⟨q, e, ⟨by rw [upd_ne nq]; exact w.fr, w.n1, w.n2, w.h0, w.at_.keep (same_new f) fun o h => by rw [upd_ne nq]; exact h⟩⟩
/-- a slot forgotten, a slot set -/
theorem Rel.setVal {i : Nat} {v : V} {d : D} (a : Rel K T F0 H0 F r t σ H) (h : Rp K T F v d) : Rel K T F0 H0 F (r.set i (.val d)) t (σ.set i (some v)) H := by
  refine ⟨a.toRelH, by simpa using a.len, fun j e h2 => ?_, fun j e h2 => ?_, fun j k e1 e2 p h1 h2 h3 h4 => ?_⟩
  · by_cases hj : i = j
    · subst hj
      by_cases hi : i < r.length
      · rw [List.getElem?_set_self hi] at h2
        cases h2
        exact ⟨v, List.getElem?_set_self (by rw [← a.len]; exact hi), h⟩
      · rw [List.getElem?_eq_none (by simpa using hi)] at h2
        cases h2
    · rw [List.getElem?_set_ne hj] at h2 ⊢
      exact a.val j e h2
  · by_cases hj : i = j
    · subst hj
      by_cases hi : i < r.length
      · rw [List.getElem?_set_self hi] at h2
        cases h2
      · rw [List.getElem?_eq_none (by simpa using hi)] at h2
        cases h2
    · rw [List.getElem?_set_ne hj] at h2 ⊢
      exact a.own j e h2
  · have nj : ∀ {j : Nat} {e : D}, (r.set i (.val d))[j]? = some (.own e) → i ≠ j := fun {j e} q z => by
      subst z
      by_cases hi : i < r.length
      · rw [List.getElem?_set_self hi] at q
        cases q
      · rw [List.getElem?_eq_none (by simpa using hi)] at q
        cases q
    have n1 := nj h1
    have n2 := nj h2
    rw [List.getElem?_set_ne n1] at h1 h3
    rw [List.getElem?_set_ne n2] at h2 h4
    exact a.inj j k e1 e2 p h1 h2 h3 h4
theorem Rel.setUn {i : Nat} (a : Rel K T F0 H0 F r t σ H) : Rel K T F0 H0 F (r.set i .un) t (σ.set i none) H := by
  refine ⟨a.toRelH, by simpa using a.len, fun j e h2 => ?_, fun j e h2 => ?_, fun j k e1 e2 p h1 h2 h3 h4 => ?_⟩
  · by_cases hj : i = j
    · subst hj
      by_cases hi : i < r.length
      · rw [List.getElem?_set_self hi] at h2
        cases h2
      · rw [List.getElem?_eq_none (by simpa using hi)] at h2
        cases h2
    · rw [List.getElem?_set_ne hj] at h2 ⊢
      exact a.val j e h2
  · by_cases hj : i = j
    · subst hj
      by_cases hi : i < r.length
      · rw [List.getElem?_set_self hi] at h2
        cases h2
      · rw [List.getElem?_eq_none (by simpa using hi)] at h2
        cases h2
    · rw [List.getElem?_set_ne hj] at h2 ⊢
      exact a.own j e h2
  · have nj : ∀ {j : Nat} {e : D}, (r.set i .un)[j]? = some (.own e) → i ≠ j := fun {j e} q z => by
      subst z
      by_cases hi : i < r.length
      · rw [List.getElem?_set_self hi] at q
        cases q
      · rw [List.getElem?_eq_none (by simpa using hi)] at q
        cases q
    have n1 := nj h1
    have n2 := nj h2
    rw [List.getElem?_set_ne n1] at h1 h3
    rw [List.getElem?_set_ne n2] at h2 h4
    exact a.inj j k e1 e2 p h1 h2 h3 h4
theorem Rel.wipe (a : Rel K T F0 H0 F r t σ H) : ∀ vs : List Nat, Rel K T F0 H0 F (wipeR r vs) t (wipe σ vs) H
  | [] => a
  | v :: vs => (a.wipe vs).setUn
/-- a slot takes an object that nobody has -/
theorem Rel.setOwn {i : Nat} {p : Addr} {d : D} (a : Rel K T F0 H0 F r t σ H) (h : Own K T H0 F H p d) (no : ∀ (j : Nat) (e : D), r[j]? = some (.own e) → j ≠ i → σ[j]? ≠ some (some (.ref p))) :
    Rel K T F0 H0 F (r.set i (.own d)) t (σ.set i (some (.ref p))) H := by
  have cs : ∀ {j : Nat} {s : Sl}, (r.set i (.own d))[j]? = some s → (i = j ∧ i < r.length ∧ s = .own d) ∨ (i ≠ j ∧ r[j]? = some s) := fun {j s} q => by
    by_cases hj : i = j
    · subst hj
      by_cases hi : i < r.length
      · rw [List.getElem?_set_self hi] at q
        exact .inl ⟨rfl, hi, (Option.some.inj q).symm⟩
      · rw [List.getElem?_eq_none (by simpa using hi)] at q
        cases q
    · rw [List.getElem?_set_ne hj] at q
      exact .inr ⟨hj, q⟩
  refine ⟨a.toRelH, by simpa using a.len, fun j e h2 => ?_, fun j e h2 => ?_, fun j k e1 e2 q h1 h2 h3 h4 => ?_⟩
  · rcases cs h2 with ⟨_, _, z⟩ | ⟨hj, z⟩
    · cases z
    · rw [List.getElem?_set_ne hj]
      exact a.val j e z
  · rcases cs h2 with ⟨rfl, hi, z⟩ | ⟨hj, z⟩
    · cases z
      exact ⟨p, List.getElem?_set_self (by rw [← a.len]; exact hi), h⟩
    · rw [List.getElem?_set_ne hj]
      exact a.own j e z
  · rcases cs h1 with ⟨rfl, hi, _⟩ | ⟨hj, z⟩
    · rcases cs h2 with ⟨rfl, _, _⟩ | ⟨hk, z2⟩
      · rfl
      · rw [List.getElem?_set_self (by rw [← a.len]; exact hi)] at h3
        have eq := V.ref.inj (Option.some.inj (Option.some.inj h3))
        rw [List.getElem?_set_ne hk] at h4
        exact absurd (eq ▸ h4) (no k e2 z2 (Ne.symm hk))
    · rcases cs h2 with ⟨rfl, hi, _⟩ | ⟨hk, z2⟩
      · rw [List.getElem?_set_self (by rw [← a.len]; exact hi)] at h4
        have eq := V.ref.inj (Option.some.inj (Option.some.inj h4))
        rw [List.getElem?_set_ne hj] at h3
        exact absurd (eq ▸ h3) (no j e1 z (Ne.symm hj))
      · rw [List.getElem?_set_ne hj] at h3
        rw [List.getElem?_set_ne hk] at h4
        exact a.inj j k e1 e2 q z z2 h3 h4
end
end Fm

/-! ### readings of Core expressions; operators -/
namespace Fm
open PySem PySem.Spec PyProof.Rows L2
structure Pm where
  K : PySem.W.Frag
  T : Tn
  F0 : Hp
  H0 : Hp
  XE : Nat → Hp → Prop
def Aft {α : Type} (P : Pm) (F : Hp) (res : Res α) (Z : α → Tw → Prop) : Prop := match res with
  | .ok a t => Z a t
  | .exc n t => ∀ F' H', Same F F' → RelH P.K P.T P.F0 P.H0 F' t H' → P.XE n H'
  | .bad => False
/-- what was frozen is, and what stood stands, but for the town; newly frozen is only what is new -/
structure Kp (T : Tn) (F H F' H' : Hp) : Prop where
  base : Same F F'
  new : ∀ a o, F' a = some o → F a = some o ∨ Nn H a
  old : ∀ a o, H a = some o → a ≠ T.a → a ≠ T.b → NT o → H' a = some o
  had : ∀ a, Nn H' a → Nn H a
theorem Kp.refl {T : Tn} {F H : Hp} : Kp T F H F H := ⟨Same.refl F, fun _ _ h => .inl h, fun _ _ h _ _ _ => h, fun _ h => h⟩
theorem Kp.trans {T : Tn} {F H F1 H1 F2 H2 : Hp} (a : Kp T F H F1 H1) (b : Kp T F1 H1 F2 H2) : Kp T F H F2 H2 :=
  ⟨a.1.trans b.1, fun c o h => (b.new c o h).elim (fun q => a.new c o q) fun q => .inr (a.had c q), fun c o h n1 n2 n3 => b.old c o (a.old c o h n1 n2 n3) n1 n2 n3, fun c h => a.had c (b.had c h)⟩
theorem Kp.of {K : PySem.W.Frag} {T : Tn} {F H F' H' : Hp} {t : Tw} (b : RelH K T F H F' t H') : Kp T F H F' H' := ⟨b.base, b.new, b.old, b.had⟩
abbrev RelP (P : Pm) (F : Hp) (r : Rho) (t : Tw) (σ : L2.St) (H : Hp) : Prop := Rel P.K P.T P.F0 P.H0 F r t σ H
theorem Kp.relH {P : Pm} {F H F' H' : Hp} {r : Rho} {t : Tw} {σ : L2.St} (k : Kp P.T F H F' H') (R : RelP P F' r t σ H') : RelH P.K P.T F H F' t H' := ⟨R.sub, k.new, k.base, k.old, k.had, R.tw, R.tF1, R.tF2, R.sc, R.tabs, R.nt⟩
/-- borne by a frozen value, or by an object of the def's own -/
def RpB (P : Pm) (F : Hp) (r : Rho) (σ : L2.St) (v : V) (d : D) : Prop := Rp P.K P.T F v d ∨ ∃ i : Nat, r[i]? = some (.own d) ∧ σ[i]? = some (some v)
def tD (P : Pm) (f : Rho → Tw → Res D) : TE := fun σ H Q => ∃ F r t, RelP P F r t σ H ∧ Aft P F (f r t) fun d t' => ∀ v F' H', Kp P.T F H F' H' → RelP P F' r t' σ H' → Rp P.K P.T F' v d → Q v H'
def tB (P : Pm) (f : Rho → Tw → Res D) : TE := fun σ H Q => ∃ F r t, RelP P F r t σ H ∧ Aft P F (f r t) fun d t' => ∀ v F' H', Kp P.T F H F' H' → RelP P F' r t' σ H' → RpB P F' r σ v d → Q v H'
def tDs (P : Pm) (f : Rho → Tw → Res (List D)) : TA := fun σ H Q => ∃ F r t, RelP P F r t σ H ∧ Aft P F (f r t) fun ds t' => ∀ vs F' H', Kp P.T F H F' H' → RelP P F' r t' σ H' → RpL P.K P.T F' vs ds → Q vs H'
theorem peMono {X : Cx} {e : Expr} {t u : TE} (h : PE X e t) (i : ∀ σ H Q, u σ H Q → t σ H Q) : PE X e u := ⟨fun pins s σ H Q I q => h.run pins s σ H Q I (i σ H Q q)⟩
theorem paMono {X : Cx} {e : List Expr} {t u : TA} (h : PA X e t) (i : ∀ σ H Q, u σ H Q → t σ H Q) : PA X e u := ⟨fun pos pins s σ H Q I q => h.run pos pins s σ H Q I (i σ H Q q)⟩
theorem ptMono {X : Cx} {e : Expr} {t u : TT} (h : PT X e t) (i : ∀ σ H Q, u σ H Q → t σ H Q) : PT X e u := ⟨fun pins s σ H Q I q => h.run pins s σ H Q I (i σ H Q q)⟩
theorem psMono {X : Cx} {e : Stmt} {t u : TS} (h : PS X e t) (i : ∀ D σ H, u D σ H → t D σ H) : PS X e u := ⟨fun pins s σ H D I q => h.run pins s σ H D I (i D σ H q)⟩
theorem pssMono {X : Cx} {e : List Stmt} {t u : TS} (h : PSs X e t) (i : ∀ D σ H, u D σ H → t D σ H) : PSs X e u := ⟨fun pins s σ H D I q => h.run pins s σ H D I (i D σ H q)⟩
section
variable {P : Pm} {F F' H : Hp} {r : Rho} {t t' : Tw} {σ : L2.St} {v : V}
theorem Aft.mono {α : Type} {res : Res α} {Z Z' : α → Tw → Prop} (h : Aft P F res Z) (i : ∀ a t, Z a t → Z' a t) : Aft P F res Z' := by
  cases res with
  | ok a t => exact i a t h
  | exc n t => exact h
  | bad => exact h
/-- one step, then another -/
theorem Aft.bind {α β : Type} {res : Res α} {f : α → Tw → Res β} {Z : β → Tw → Prop} (h : Aft P F (res.bind f) Z) : Aft P F res fun a t => Aft P F (f a t) Z := by
  cases res with
  | ok a t => exact h
  | exc n t => exact h
  | bad => exact h
theorem Aft.thn {α β : Type} {res : Res α} {f : α → Tw → Res β} {Z : β → Tw → Prop} (h : Aft P F res fun a t => Aft P F (f a t) Z) : Aft P F (res.bind f) Z := by
  cases res with
  | ok a t => exact h
  | exc n t => exact h
  | bad => exact h
theorem Aft.up {α : Type} {res : Res α} {Z : α → Tw → Prop} (h : Aft P F res Z) (s : Same F F') : Aft P F' res Z := by
  cases res with
  | ok a t => exact h
  | exc n t => exact fun F2 H2 q => h F2 H2 (s.trans q)
  | bad => exact h
theorem Aft.lift {α : Type} {o : Option α} {Z : α → Tw → Prop} (h : Aft P F (Fm.lift o t) Z) : ∃ a, o = some a ∧ Z a t := by
  cases o with
  | none => exact h.elim
  | some a => exact ⟨a, rfl, h⟩
theorem RpB.mono (s : Same F F') {d : D} (h : RpB P F r σ v d) : RpB P F' r σ v d := h.elim (fun q => .inl (q.mono s)) .inr
theorem RpB.of {d : D} (h : Rp P.K P.T F v d) : RpB P F r σ v d := .inl h
theorem RpB.lst (R : RelP P F r t σ H) {ds : List D} (h : RpB P F r σ v (.lst ds)) : ∃ a xs, v = .ref a ∧ H a = some (.lst xs) ∧ xs.length ≤ sizeLine ∧ RpL P.K P.T F xs ds := by
  rcases h with h | ⟨i, h1, h2⟩
  · cases h with
    | lst h z q => exact ⟨_, _, rfl, R.sub _ _ h, z, q⟩
  · obtain ⟨p, e, o⟩ := R.own i _ h1
    rw [e] at h2
    cases h2
    obtain ⟨vs, a, b, c⟩ := o.at_
    exact ⟨p, vs, rfl, a, b, c⟩
theorem RpB.dct (R : RelP P F r t σ H) {ds : List (Key × D)} (h : RpB P F r σ v (.dct ds)) : ∃ a kvs, v = .ref a ∧ Rd H a (.dK kvs) ∧ RpK P.K P.T F kvs ds := by
  rcases h with h | ⟨i, h1, h2⟩
  · cases h with
    | dct h z q => exact ⟨_, _, rfl, .inr ⟨_, R.sub _ _ h⟩, q⟩
  · obtain ⟨p, e, o⟩ := R.own i _ h1
    rw [e] at h2
    cases h2
    obtain ⟨vs, a, b, c⟩ := o.at_
    exact ⟨p, vs, rfl, .inl a, c⟩
theorem RpB.rp (R : RelP P F r t σ H) {d : D} (h : RpB P F r σ v d) (n1 : ∀ ds, d ≠ .lst ds) (n2 : ∀ ds, d ≠ .dct ds) : Rp P.K P.T F v d := by
  rcases h with h | ⟨i, h1, h2⟩
  · exact h
  · obtain ⟨p, e, o⟩ := R.own i _ h1
    have q := o.at_
    cases d with
    | lst ds => exact absurd rfl (n1 ds)
    | dct ds => exact absurd rfl (n2 ds)
    | _ => exact q.elim
theorem RpB.int (R : RelP P F r t σ H) {i : Int} (h : RpB P F r σ v (.int i)) : v = .int i := by
  cases h.rp R (fun _ z => by cases z) (fun _ z => by cases z)
  rfl
theorem RpB.bl (R : RelP P F r t σ H) {i : Bool} (h : RpB P F r σ v (.bl i)) : v = .bl i := by
  cases h.rp R (fun _ z => by cases z) (fun _ z => by cases z)
  rfl
theorem RpB.str (R : RelP P F r t σ H) {i : Str} (h : RpB P F r σ v (.str i)) : v = .str i := by
  cases h.rp R (fun _ z => by cases z) (fun _ z => by cases z)
  rfl
theorem RpB.tup (R : RelP P F r t σ H) {ds : List D} (h : RpB P F r σ v (.tup ds)) : ∃ a xs, v = .ref a ∧ SqT P.K F a xs ∧ xs.length ≤ sizeLine ∧ RpL P.K P.T F xs ds := by
  cases h.rp R (fun _ z => by cases z) (fun _ z => by cases z) with
  | tup h2 z q => exact ⟨_, _, rfl, h2, z, q⟩
/-- deep data, whoever has it -/
theorem RpB.dp (R : RelP P F r t σ H) {d : D} (h : RpB P F r σ v d) (l : lay d = true) : Dp P.K H v d.py := by
  cases d with
  | lst ds =>
    obtain ⟨a, xs, rfl, e, _, q⟩ := h.lst R
    exact .lst (SqL.of e) (q.dp R.sub (by simpa only [lay, D.py, PyData.canLay0] using l))
  | dct ds => simp [lay, D.py, PyData.canLay0] at l
  | _ => exact (h.rp R (fun _ z => by cases z) (fun _ z => by cases z)).dp R.sub l
theorem okLen_le {n : Nat} (h : okLen n = true) : n ≤ sizeLine := by
  rw [sizeLine_eq]
  exact of_decide_eq_true h
/-- a test's value -/
theorem RpB.tru (R : RelP P F r t σ H) {d : D} {b : Bool} (h : RpB P F r σ v d) (e : truD d = some b) : TruV P.K v H b := by
  cases d with
  | lst ds =>
    obtain ⟨a, xs, rfl, e2, _, q⟩ := h.lst R
    cases e
    exact .inl ⟨_, SqL.of e2, by cases q <;> rfl⟩
  | tup ds =>
    obtain ⟨a, xs, rfl, e2, _, q⟩ := h.tup R
    cases e
    exact .inr (.inl ⟨_, sqT_mono R.sub e2, by cases q <;> rfl⟩)
  | str x =>
    obtain rfl := h.str R
    have e : (if okLen x.length = true then some ((x.length : Int) != 0) else none) = some b := e
    split at e
    · rename_i hl
      cases e
      exact ⟨okLen_le hl, rfl⟩
    · cases e
  | non =>
    cases h.rp R (fun _ z => by cases z) (fun _ z => by cases z)
    cases e
    rfl
  | bl x =>
    obtain rfl := h.bl R
    cases e
    rfl
  | int x =>
    obtain rfl := h.int R
    cases e
    rfl
  | dct ds => cases e
  | exc n => cases e
  | dcn _ => cases e
  | tok => cases e
  | scr ns =>
    cases h.rp R (fun _ z => by cases z) (fun _ z => by cases z)
    cases e
    exact .inl ⟨_, sqL_mono R.sub R.sc, by cases P.T.ns <;> rfl⟩
/-! ### one operand, two operands -/
theorem tB_tD {f : Rho → Tw → Res D} {X : Cx} {e : Expr} (h : PE X e (tD P f)) : PE X e (tB P f) := peMono h fun σ H Q ⟨F, r, t, R, q⟩ =>
  ⟨F, r, t, R, q.mono fun d t' q v F' H' s R' h => q v F' H' s R' (.inl h)⟩
theorem op1 {fa : Rho → Tw → Res D} {f : D → Option D} {rr : V → Hp → VK → Prop}
    (hr : ∀ {x : V} {dx d : D} {F : Hp} {r : Rho} {t : Tw} {σ : L2.St} {H : Hp} {Q : VK}, f dx = some d → RelP P F r t σ H → RpB P F r σ x dx →
      (∀ v F' H', Kp P.T F H F' H' → RelP P F' r t σ H' → Rp P.K P.T F' v d → Q v H') → rr x H Q) (σ : L2.St) (H : Hp) (Q : VK)
    (h : tD P (fun r t => (fa r t).bind fun x t1 => Fm.lift (f x) t1) σ H Q) : tUn rr (tB P fa) σ H Q := by
  obtain ⟨F, r, t, R, h⟩ := h
  refine ⟨F, r, t, R, h.bind.mono fun dx t1 h v F1 H1 s1 R1 rx => ?_⟩
  obtain ⟨d, e, q⟩ := h.lift
  exact hr e R1 rx fun v F' H' s R' h => q v F' H' (s1.trans s) R' h
theorem op2 {fa fb : Rho → Tw → Res D} {f : D → D → Option D} {rr : R2}
    (hr : ∀ {x y : V} {dx dy d : D} {F : Hp} {r : Rho} {t : Tw} {σ : L2.St} {H : Hp} {Q : VK}, f dx dy = some d → RelP P F r t σ H → RpB P F r σ x dx → RpB P F r σ y dy →
      (∀ v F' H', Kp P.T F H F' H' → RelP P F' r t σ H' → Rp P.K P.T F' v d → Q v H') → rr x y H Q) (σ : L2.St) (H : Hp) (Q : VK)
    (h : tD P (fun r t => (fa r t).bind fun x t1 => (fb r t1).bind fun y t2 => Fm.lift (f x y) t2) σ H Q) : tOp rr (tB P fa) (tB P fb) σ H Q := by
  obtain ⟨F, r, t, R, h⟩ := h
  refine ⟨F, r, t, R, h.bind.mono fun dx t1 h v F1 H1 s1 R1 rx => ?_⟩
  refine ⟨F1, r, t1, R1, (h.up s1.1).bind.mono fun dy t2 h w F2 H2 s2 R2 ry => ?_⟩
  obtain ⟨d, e, q⟩ := h.lift
  exact hr e R2 (rx.mono s2.1) ry fun v F' H' s R' h => q v F' H' (s1.trans (s2.trans s)) R' h
/-- a new tuple -/
theorem mkTup {xs : List V} {ds : List D} {Q : VK} (R : RelP P F r t σ H) (z : xs.length ≤ sizeLine) (q : RpL P.K P.T F xs ds) (h : ∀ v F' H', Kp P.T F H F' H' → RelP P F' r t σ H' → Rp P.K P.T F' v (.tup ds) → Q v H') :
    ∀ p, H p = none → Q (.ref p) (upd H p (.tup xs)) := fun p hp => by
  have b := R.toRelH.newF (o := .tup xs) hp
  exact h _ _ _ (Kp.of b) (R.step b) (.tup (SqT.of upd_same) z (q.mono b.base))
/-- a new list, frozen -/
theorem mkLst {xs : List V} {ds : List D} {Q : VK} (R : RelP P F r t σ H) (z : xs.length ≤ sizeLine) (q : RpL P.K P.T F xs ds) (h : ∀ v F' H', Kp P.T F H F' H' → RelP P F' r t σ H' → Rp P.K P.T F' v (.lst ds) → Q v H') :
    ∀ p, H p = none → Q (.ref p) (upd H p (.lst xs)) := fun p hp => by
  have b := R.toRelH.newF (o := .lst xs) hp
  exact h _ _ _ (Kp.of b) (R.step b) (.lst upd_same z (q.mono b.base))
end
/-! ### operators -/
section
variable {P : Pm} {X : Cx} {a b : Expr} {pos : Pos} {fa fb : Rho → Tw → Res D}
abbrev rAddA (K : PySem.W.Frag) : R2 := fun x y H Q => (rI0 fun i j => .int (i + j)) x y H Q ∨ ((fun x y H Q => ∃ i j, x = .str i ∧ y = .str j ∧ i.length + j.length ≤ sizeLine ∧ Q (.str (i ++ j)) H : R2) x y H Q ∨ rCatA K x y H Q)
theorem s_add (hK : X.K = P.K) (ha : PE X a (tB P fa)) (hb : PE X b (tB P fb)) : PE X (.BinOp a .Add b pos) (tD P fun r t => (fa r t).bind fun x t1 => (fb r t1).bind fun y t2 => Fm.lift (addD x y) t2) := by
  refine peMono (pe_op (OpR.or op_add (OpR.or op_add_str op_catA)) ha hb) (op2 fun {x y dx dy d F r t σ H Q} e R rx ry q => ?_)
  cases dx with
  | int i =>
    cases dy with
    | int j =>
      cases e
      exact .inl ⟨i, j, rx.int R, ry.int R, q _ _ _ Kp.refl R (.int _)⟩
    | _ => cases e
  | str i =>
    cases dy with
    | str j =>
      simp only [addD] at e
      split at e
      · rename_i hl
        cases e
        exact .inr (.inl ⟨i, j, rx.str R, ry.str R, okLen_le hl, q _ _ _ Kp.refl R (.str _)⟩)
      · cases e
    | _ => cases e
  | tup xs =>
    cases dy with
    | tup ys =>
      simp only [addD] at e
      split at e
      · rename_i hl
        cases e
        obtain ⟨p1, v1, rfl, e1, z1, q1⟩ := rx.tup R
        obtain ⟨p2, v2, rfl, e2, z2, q2⟩ := ry.tup R
        have hl2 : v1.length + v2.length ≤ sizeLine := by
          rw [q1.length, q2.length]
          exact okLen_le hl
        rw [hK]
        refine .inr (.inr ⟨p1, p2, v1, v2, rfl, rfl, sqT_mono R.sub e1, sqT_mono R.sub e2, hl2, fun h0 => ?_, fun _ h0 => ?_, fun _ _ => ?_⟩)
        · subst h0
          cases q1
          exact q _ _ _ Kp.refl R (.tup e2 z2 q2)
        · subst h0
          cases q2
          refine q _ _ _ Kp.refl R ?_
          rw [List.append_nil]
          exact .tup e1 z1 q1
        · exact mkTup R (by rw [List.length_append]; exact hl2) (q1.append q2) q
      · cases e
    | _ => cases e
  | _ => cases e
theorem s_cat (ha : PE X a (tB P fa)) (hb : PE X b (tB P fb)) : PE X (.BinOp a .Add b pos) (tD P fun r t => (fa r t).bind fun x t1 => (fb r t1).bind fun y t2 => Fm.lift (catD x y) t2) := by
  refine peMono (pe_op op_cat ha hb) (op2 fun {x y dx dy d F r t σ H Q} e R rx ry q => ?_)
  cases dx with
  | lst xs =>
    cases dy with
    | lst ys =>
      simp only [catD] at e
      split at e
      · rename_i hl
        cases e
        obtain ⟨p1, v1, rfl, e1, z1, q1⟩ := rx.lst R
        obtain ⟨p2, v2, rfl, e2, z2, q2⟩ := ry.lst R
        have hl2 : v1.length + v2.length ≤ sizeLine := by
          rw [q1.length, q2.length]
          exact okLen_le hl
        exact ⟨p1, p2, v1, v2, rfl, rfl, e1, e2, hl2, mkLst R (by rw [List.length_append]; exact hl2) (q1.append q2) q⟩
      · cases e
    | _ => cases e
  | _ => cases e
/-- an operator upon two ints -/
theorem s_int2 {op : Operator} {f : D → D → Option D} {C : Int → Int → Prop} {g : Int → Int → Int} (ho : OpR X (binaryOp op) (rI C fun i j => .int (g i j)))
    (hf : ∀ dx dy d, f dx dy = some d → ∃ i j, dx = .int i ∧ dy = .int j ∧ C i j ∧ d = .int (g i j)) (ha : PE X a (tB P fa)) (hb : PE X b (tB P fb)) :
    PE X (.BinOp a op b pos) (tD P fun r t => (fa r t).bind fun x t1 => (fb r t1).bind fun y t2 => Fm.lift (f x y) t2) := by
  refine peMono (pe_op ho ha hb) (op2 fun {x y dx dy d F r t σ H Q} e R rx ry q => ?_)
  obtain ⟨i, j, rfl, rfl, c, rfl⟩ := hf dx dy d e
  exact ⟨i, j, rx.int R, ry.int R, c, q _ _ _ Kp.refl R (.int _)⟩
theorem s_sub (ha : PE X a (tB P fa)) (hb : PE X b (tB P fb)) : PE X (.BinOp a .Sub b pos) (tD P fun r t => (fa r t).bind fun x t1 => (fb r t1).bind fun y t2 => Fm.lift (subD x y) t2) := by
  refine peMono (pe_op op_sub ha hb) (op2 fun {x y dx dy d F r t σ H Q} e R rx ry q => ?_)
  cases dx with
  | int i =>
    cases dy with
    | int j =>
      cases e
      exact ⟨i, j, rx.int R, ry.int R, q _ _ _ Kp.refl R (.int _)⟩
    | _ => cases e
  | _ => cases e
theorem s_mul (ha : PE X a (tB P fa)) (hb : PE X b (tB P fb)) : PE X (.BinOp a .Mult b pos) (tD P fun r t => (fa r t).bind fun x t1 => (fb r t1).bind fun y t2 => Fm.lift (mulD x y) t2) :=
  s_int2 op_mulW (fun dx dy d e => by
    cases dx with
    | int i =>
      cases dy with
      | int j =>
        simp only [mulD] at e
        split at e
        · rename_i h
          cases e
          exact ⟨i, j, rfl, rfl, (of_decide_eq_true h : i.natAbs.log2 + j.natAbs.log2 < 1000000), rfl⟩
        · cases e
      | _ => cases e
    | _ => cases e) ha hb
def CDivA (_ j : Int) : Prop := j ≠ 0 ∧ j.natAbs.log2 < 9000
theorem op_fdivA : OpR X (binaryOp .FloorDiv) (rI CDivA fun i j => .int (i.fdiv j)) := opI fun i j _ _ _ _ _ hc q => floordiv_int hc.1 q (.inl (PyProof.noPylong_of_log2 hc.2))
theorem s_fdiv (ha : PE X a (tB P fa)) (hb : PE X b (tB P fb)) : PE X (.BinOp a .FloorDiv b pos) (tD P fun r t => (fa r t).bind fun x t1 => (fb r t1).bind fun y t2 => Fm.lift (fdivD x y) t2) :=
  s_int2 op_fdivA (fun dx dy d e => by
    cases dx with
    | int i =>
      cases dy with
      | int j =>
        simp only [fdivD] at e
        split at e
        · rename_i h
          cases e
          have h2 := Bool.and_eq_true_iff.mp h
          exact ⟨i, j, rfl, rfl, ⟨of_decide_eq_true h2.1, of_decide_eq_true h2.2⟩, rfl⟩
        · cases e
      | _ => cases e
    | _ => cases e) ha hb
theorem s_mod (ha : PE X a (tB P fa)) (hb : PE X b (tB P fb)) : PE X (.BinOp a .Mod b pos) (tD P fun r t => (fa r t).bind fun x t1 => (fb r t1).bind fun y t2 => Fm.lift (modD x y) t2) :=
  s_int2 op_modN (fun dx dy d e => by
    cases dx with
    | int i =>
      cases dy with
      | int j =>
        simp only [modD] at e
        split at e
        · cases e
        · rename_i h
          cases e
          exact ⟨i, j, rfl, rfl, h, rfl⟩
      | _ => cases e
    | _ => cases e) ha hb
theorem okPow_c {i j : Int} (h : okPow i j = true) : CPow i j := by
  have h1 := Bool.and_eq_true_iff.mp h
  have h2 := Bool.and_eq_true_iff.mp h1.1
  exact ⟨of_decide_eq_true h2.1, of_decide_eq_true h2.2, of_decide_eq_true h1.2⟩
theorem s_pow (ha : PE X a (tB P fa)) (hb : PE X b (tB P fb)) : PE X (.BinOp a .Pow b pos) (tD P fun r t => (fa r t).bind fun x t1 => (fb r t1).bind fun y t2 => Fm.lift (powD x y) t2) :=
  s_int2 op_pow (fun dx dy d e => by
    cases dx with
    | int i =>
      cases dy with
      | int j =>
        simp only [powD] at e
        split at e
        · rename_i h
          cases e
          exact ⟨i, j, rfl, rfl, okPow_c h, rfl⟩
        · cases e
      | _ => cases e
    | _ => cases e) ha hb
theorem s_shl (ha : PE X a (tB P fa)) (hb : PE X b (tB P fb)) : PE X (.BinOp a .LShift b pos) (tD P fun r t => (fa r t).bind fun x t1 => (fb r t1).bind fun y t2 => Fm.lift (shlD x y) t2) :=
  s_int2 op_shl (fun dx dy d e => by
    cases dx with
    | int i =>
      cases dy with
      | int j =>
        simp only [shlD] at e
        split at e
        · rename_i h
          cases e
          exact ⟨i, j, rfl, rfl, okPow_c h, rfl⟩
        · cases e
      | _ => cases e
    | _ => cases e) ha hb
theorem s_neg (ha : PE X a (tB P fa)) : PE X (.UnaryOp .USub a pos) (tD P fun r t => (fa r t).bind fun x t1 => Fm.lift (negD x) t1) := by
  refine peMono (pe_un un_neg ha) (op1 fun {x dx d F r t σ H Q} e R rx q => ?_)
  cases dx with
  | int i =>
    cases e
    exact ⟨i, rx.int R, q _ _ _ Kp.refl R (.int _)⟩
  | _ => cases e
end
end Fm

/-! ### comparisons, tests, subscripts, displays, built-in calls -/
namespace Fm
open PySem PySem.Spec PyProof.Rows L2
theorem pys_map : ∀ xs : List D, pys xs = xs.map D.py
  | [] => by simp only [pys, List.map_nil]
  | x :: xs => by simp only [pys, List.map_cons, pys_map xs]
theorem layAll : ∀ xs : List D, PyData.canLayAll0 (pys xs) = xs.all lay
  | [] => by simp only [pys, PyData.canLayAll0, List.all_nil]
  | x :: xs => by simp only [pys, PyData.canLayAll0, List.all_cons, layAll xs, lay]
section
variable {P : Pm} {X : Cx}
/-- an operator by data: its rule, and that the rule gives what f says -/
def OpS (P : Pm) (X : Cx) (g : Value → Value → Sem Value) (f : D → D → Option D) : Prop :=
  ∃ rr : R2, OpR X g rr ∧ ∀ {x y : V} {dx dy d : D} {F : Hp} {r : Rho} {t : Tw} {σ : L2.St} {H : Hp} {Q : VK}, f dx dy = some d → RelP P F r t σ H → RpB P F r σ x dx → RpB P F r σ y dy →
      (∀ v F' H', Kp P.T F H F' H' → RelP P F' r t σ H' → Rp P.K P.T F' v d → Q v H') → rr x y H Q
theorem intCmp {op : CmpOp} {g : Int → Int → Bool} {f : D → D → Option D} (ho : OpR X (compareOp op) (rI0 fun i j => .bl (g i j))) (hf : ∀ dx dy d, f dx dy = some d → ∃ i j, dx = .int i ∧ dy = .int j ∧ d = .bl (g i j)) : OpS P X (compareOp op) f := by
  refine ⟨_, ho, fun {x y dx dy d F r t σ H Q} e R rx ry q => ?_⟩
  obtain ⟨i, j, rfl, rfl, rfl⟩ := hf dx dy d e
  exact ⟨i, j, rx.int R, ry.int R, q _ _ _ Kp.refl R (.bl _)⟩
def rEqA (K : PySem.W.Frag) (u : Nat) (neg : Bool) : R2 := fun x y H Q => ∃ d e, Dp K H x d ∧ Dp K H y e ∧ d.canLay0 = true ∧ e.canLay0 = true ∧ u + min d.depth e.depth < cLine ∧ Q (.bl (if neg then !PyData.eqv d e else PyData.eqv d e)) H
theorem op_eqA : OpR X (compareOp .Eq) (rEqA X.K X.A.units false) := by
  intro pins s σ H x y v u Q I rx ry h
  obtain ⟨d, e, hd, he, sd, se, hu, q⟩ := h
  obtain ⟨as, r1⟩ := Dp.reads I d x v hd rx
  obtain ⟨bs, r2⟩ := Dp.reads I e y u he ry
  exact SeqAt.compareEq_reads r1 r2 sd se hu ⟨.bl _, H, I, rfl, q⟩
theorem op_neA : OpR X (compareOp .NotEq) (rEqA X.K X.A.units true) := by
  intro pins s σ H x y v u Q I rx ry h
  obtain ⟨d, e, hd, he, sd, se, hu, q⟩ := h
  obtain ⟨as, r1⟩ := Dp.reads I d x v hd rx
  obtain ⟨bs, r2⟩ := Dp.reads I e y u he ry
  exact SeqAt.compareNe_reads r1 r2 sd se hu ⟨.bl _, H, I, rfl, q⟩
theorem okEq_parts {a b : D} (h : okEq a b = true) : lay a = true ∧ lay b = true ∧ min (dep a) (dep b) ≤ 190 := by
  have h1 := Bool.and_eq_true_iff.mp h
  have h2 := Bool.and_eq_true_iff.mp h1.1
  exact ⟨h2.1, h2.2, of_decide_eq_true h1.2⟩
def rInA (K : PySem.W.Frag) (u : Nat) (neg : Bool) : R2 := fun x y H Q => ∃ d ds, Dp K H x d ∧ (Dp K H y (.tuple ds) ∨ Dp K H y (.list ds)) ∧ d.canLay0 = true ∧ PyData.canLayAll0 ds = true ∧ u + 1 + min (PyData.depthAll ds) d.depth < cLine ∧
  Q (.bl (if neg then !(ds.any fun z => PyData.eqv z d) else ds.any fun z => PyData.eqv z d)) H
theorem op_inA : OpR X (compareOp .In) (rInA X.K X.A.units false) := by
  intro pins s σ H x y v u Q I rx ry h
  obtain ⟨d, ds, hd, he, sd, se, hu, q⟩ := h
  obtain ⟨as, r1⟩ := Dp.reads I d x v hd rx
  rcases he with he | he
  · obtain ⟨bs, r2⟩ := Dp.reads I (.tuple ds) y u he ry
    exact SeqAt.in_tuple_reads r2 r1 se sd hu ⟨.bl _, H, I, rfl, q⟩
  · obtain ⟨bs, r2⟩ := Dp.reads I (.list ds) y u he ry
    exact SeqAt.in_list_reads r2 r1 se sd hu ⟨.bl _, H, I, rfl, q⟩
theorem op_notInA : OpR X (compareOp .NotIn) (rInA X.K X.A.units true) := by
  intro pins s σ H x y v u Q I rx ry h
  obtain ⟨d, ds, hd, he, sd, se, hu, q⟩ := h
  obtain ⟨as, r1⟩ := Dp.reads I d x v hd rx
  rcases he with he | he
  · obtain ⟨bs, r2⟩ := Dp.reads I (.tuple ds) y u he ry
    exact SeqAt.notIn_tuple_reads r2 r1 se sd hu ⟨.bl _, H, I, rfl, q⟩
  · obtain ⟨bs, r2⟩ := Dp.reads I (.list ds) y u he ry
    exact SeqAt.notIn_list_reads r2 r1 se sd hu ⟨.bl _, H, I, rfl, q⟩
theorem inB_seq {a : D} {xs : List D} {c : Bool} (h : (if lay a && (xs.all lay) && decide (dep a ≤ 190) then some (xs.any fun z => eqD z a) else none) = some c) :
    lay a = true ∧ PyData.canLayAll0 (pys xs) = true ∧ dep a ≤ 190 ∧ c = (pys xs).any fun z => PyData.eqv z a.py := by
  split at h
  · rename_i h1
    have h2 := Bool.and_eq_true_iff.mp h1
    have h3 := Bool.and_eq_true_iff.mp h2.1
    cases h
    refine ⟨h3.1, (layAll xs).trans h3.2, of_decide_eq_true h2.2, ?_⟩
    rw [pys_map, List.any_map]
    rfl
  · cases h
/-- x in y, by data -/
theorem inS {neg : Bool} {F : Hp} {r : Rho} {t : Tw} {σ : L2.St} {H : Hp} {x y : V} {dx dy : D} {c : Bool} {Q : VK} {u : Nat} (hu : u + 200 < cLine) (e : inB dx dy = some c) (R : RelP P F r t σ H) (rx : RpB P F r σ x dx) (ry : RpB P F r σ y dy)
    (q : Q (.bl (if neg then !c else c)) H) : rInA P.K u neg x y H Q ∨ ∃ (c : Nat) (z : Str), x = .str ⟨#[c]⟩ ∧ y = .str z ∧ Q (.bl (if neg then !decide (c ∈ z.cps.toList) else decide (c ∈ z.cps.toList))) H := by
  cases dy with
  | tup ys =>
    have e : (if lay dx && (ys.all lay) && decide (dep dx ≤ 190) then some (ys.any fun z => eqD z dx) else none) = some c := by
      cases dx <;> exact e
    obtain ⟨l1, l2, l3, rfl⟩ := inB_seq e
    refine .inl ⟨_, _, rx.dp R l1, .inl (ry.dp R (by simpa only [lay, D.py, PyData.canLay0] using l2)), l1, l2, ?_, q⟩
    have : min (PyData.depthAll (pys ys)) dx.py.depth ≤ 190 := Nat.le_trans (Nat.min_le_right _ _) l3
    omega
  | lst ys =>
    have e : (if lay dx && (ys.all lay) && decide (dep dx ≤ 190) then some (ys.any fun z => eqD z dx) else none) = some c := by
      cases dx <;> exact e
    obtain ⟨l1, l2, l3, rfl⟩ := inB_seq e
    refine .inl ⟨_, _, rx.dp R l1, .inr (ry.dp R (by simpa only [lay, D.py, PyData.canLay0] using l2)), l1, l2, ?_, q⟩
    have : min (PyData.depthAll (pys ys)) dx.py.depth ≤ 190 := Nat.le_trans (Nat.min_le_right _ _) l3
    omega
  | str z =>
    cases dx with
    | str w =>
      have e : (if decide (w.cps.size = 1) then some (decide (w.cps.getD 0 0 ∈ z.cps.toList)) else none) = some c := e
      split at e
      · rename_i h1
        cases e
        have h1 := of_decide_eq_true h1
        refine .inr ⟨w.cps.getD 0 0, z, ?_, ry.str R, q⟩
        rw [rx.str R]
        obtain ⟨w⟩ := w
        congr 2
        refine Array.ext (by simpa using h1) fun i h2 h3 => ?_
        have h2 : i < w.size := h2
        have h1 : w.size = 1 := h1
        have hi : i = 0 := by omega
        subst hi
        simp [h1]
      · cases e
    | _ => cases e
  | _ => cases dx <;> cases e
theorem cmpS (hK : X.K = P.K) (hu : X.A.units + 200 < cLine) (op : CmpOp) : OpS P X (compareOp op) (cmpD op) := by
  cases op with
  | Eq =>
    refine ⟨_, op_eqA, fun {x y dx dy d F r t σ H Q} e R rx ry q => ?_⟩
    simp only [cmpD, eqOp] at e
    split at e
    · rename_i h
      cases e
      obtain ⟨h1, h2, h3⟩ := okEq_parts h
      rw [hK]
      exact ⟨_, _, rx.dp R h1, ry.dp R h2, h1, h2, by show X.A.units + min (dep dx) (dep dy) < cLine; omega, q _ _ _ Kp.refl R (.bl _)⟩
    · cases e
  | NotEq =>
    refine ⟨_, op_neA, fun {x y dx dy d F r t σ H Q} e R rx ry q => ?_⟩
    simp only [cmpD, neOp] at e
    split at e
    · rename_i h
      cases e
      obtain ⟨h1, h2, h3⟩ := okEq_parts h
      rw [hK]
      exact ⟨_, _, rx.dp R h1, ry.dp R h2, h1, h2, by show X.A.units + min (dep dx) (dep dy) < cLine; omega, q _ _ _ Kp.refl R (.bl _)⟩
    · cases e
  | Lt =>
    refine ⟨_, OpR.or op_lt op_lt_str, fun {x y dx dy d F r t σ H Q} e R rx ry q => ?_⟩
    cases dx with
    | int i =>
      cases dy with
      | int j =>
        cases e
        exact .inl ⟨i, j, rx.int R, ry.int R, q _ _ _ Kp.refl R (.bl _)⟩
      | _ => cases e
    | str i =>
      cases dy with
      | str j =>
        cases e
        exact .inr ⟨i, j, rx.str R, ry.str R, q _ _ _ Kp.refl R (.bl _)⟩
      | _ => cases e
    | _ => cases dy <;> cases e
  | LtE => exact intCmp op_le fun dx dy d e => by cases dx <;> cases dy <;> first | (cases e; done) | (cases e; exact ⟨_, _, rfl, rfl, rfl⟩)
  | Gt => exact intCmp op_gt fun dx dy d e => by cases dx <;> cases dy <;> first | (cases e; done) | (cases e; exact ⟨_, _, rfl, rfl, rfl⟩)
  | GtE => exact intCmp op_ge fun dx dy d e => by cases dx <;> cases dy <;> first | (cases e; done) | (cases e; exact ⟨_, _, rfl, rfl, rfl⟩)
  | Is =>
    refine ⟨_, op_isN, fun {x y dx dy d F r t σ H Q} e R rx ry q => ?_⟩
    cases dy with
    | non =>
      have e : some (D.bl (isN dx)) = some d := e
      cases e
      cases ry.rp R (fun _ z => by cases z) (fun _ z => by cases z)
      refine ⟨rfl, ?_⟩
      have hx : decide (x = V.non) = isN dx := by
        rcases rx with rx | ⟨i, h1, h2⟩
        · cases rx <;> simp [isN]
        · obtain ⟨p, e, o⟩ := R.own i _ h1
          rw [e] at h2
          cases h2
          have := o.at_
          cases dx <;> first | exact this.elim | simp [isN]
      rw [hx]
      exact q _ _ _ Kp.refl R (.bl _)
    | _ => cases e
  | IsNot =>
    refine ⟨_, op_notN, fun {x y dx dy d F r t σ H Q} e R rx ry q => ?_⟩
    cases dy with
    | non =>
      have e : some (D.bl (!isN dx)) = some d := e
      cases e
      cases ry.rp R (fun _ z => by cases z) (fun _ z => by cases z)
      refine ⟨rfl, ?_⟩
      have hx : decide (x = V.non) = isN dx := by
        rcases rx with rx | ⟨i, h1, h2⟩
        · cases rx <;> simp [isN]
        · obtain ⟨p, e, o⟩ := R.own i _ h1
          rw [e] at h2
          cases h2
          have := o.at_
          cases dx <;> first | exact this.elim | simp [isN]
      rw [hx]
      exact q _ _ _ Kp.refl R (.bl _)
    | _ => cases e
  | In =>
    refine ⟨_, OpR.or op_inA op_in_sign, fun {x y dx dy d F r t σ H Q} e R rx ry q => ?_⟩
    obtain ⟨c, e1, rfl⟩ := Option.map_eq_some_iff.mp (show (inB dx dy).map D.bl = some d from e)
    rw [hK]
    exact inS (neg := false) hu e1 R rx ry (q _ _ _ Kp.refl R (.bl _))
  | NotIn =>
    refine ⟨_, OpR.or op_notInA op_notIn_sign, fun {x y dx dy d F r t σ H Q} e R rx ry q => ?_⟩
    obtain ⟨c, e1, rfl⟩ := Option.map_eq_some_iff.mp (show (inB dx dy).map (fun r => D.bl (!r)) = some d from e)
    rw [hK]
    exact inS (neg := true) hu e1 R rx ry (q _ _ _ Kp.refl R (.bl _))
theorem cmp_bl {op : CmpOp} {x y d : D} (h : cmpD op x y = some d) : ∃ b, d = .bl b := by
  have m : ∀ {o : Option Bool} {f : Bool → Bool}, (o.map fun r => D.bl (f r)) = some d → ∃ b, d = .bl b := fun {o f} h => by
    obtain ⟨b, _, e⟩ := Option.map_eq_some_iff.mp h
    exact ⟨_, e.symm⟩
  cases op with
  | Eq =>
    simp only [cmpD, eqOp] at h
    split at h <;> cases h
    exact ⟨_, rfl⟩
  | NotEq =>
    simp only [cmpD, neOp] at h
    split at h <;> cases h
    exact ⟨_, rfl⟩
  | In => exact m (f := id) h
  | NotIn => exact m (f := Bool.not) h
  | Lt => cases x <;> cases y <;> first | (cases h; done) | (cases h; exact ⟨_, rfl⟩)
  | LtE => cases x <;> cases y <;> first | (cases h; done) | (cases h; exact ⟨_, rfl⟩)
  | Gt => cases x <;> cases y <;> first | (cases h; done) | (cases h; exact ⟨_, rfl⟩)
  | GtE => cases x <;> cases y <;> first | (cases h; done) | (cases h; exact ⟨_, rfl⟩)
  | Is => cases y <;> first | (cases h; done) | (cases h; exact ⟨_, rfl⟩)
  | IsNot => cases y <;> first | (cases h; done) | (cases h; exact ⟨_, rfl⟩)
end
/-! ### tests -/
def tT (P : Pm) (f : Rho → Tw → Res D) : TT := fun σ H Q => ∃ F r t, RelP P F r t σ H ∧ Aft P F (f r t) fun d t' => ∃ b, truD d = some b ∧ ∀ F' H', Kp P.T F H F' H' → RelP P F' r t' σ H' → Q b H'
section
variable {P : Pm} {X : Cx} {a b c : Expr} {pos : Pos} {fa fb fc : Rho → Tw → Res D}
theorem t_plain (hK : X.K = P.K) (ha : PE X a (tB P fa)) (he : ∀ whole, isTrue a X.env whole = (do let v ← whole; standAt a.pos; holding [v] (truthy v))) : PT X a (tT P fa) :=
  ptMono (pt_truth ha he) fun σ H Q ⟨F, r, t, R, h⟩ => ⟨F, r, t, R, h.mono fun d t' ⟨b, e, q⟩ v F' H' s R' rv => ⟨b, by rw [hK]; exact rv.tru R' e, q F' H' s R'⟩⟩
theorem t_not (ha : PT X a (tT P fa)) : PT X (.UnaryOp .Not a pos) (tT P fun r t => (fa r t).bind fun x t1 => Fm.lift (notD x) t1) :=
  ptMono (pt_not ha) fun σ H Q ⟨F, r, t, R, h⟩ => ⟨F, r, t, R, h.bind.mono fun d t' h => by
    obtain ⟨e, h1, b, h2, q⟩ := h.lift
    obtain ⟨b2, h3, rfl⟩ := Option.map_eq_some_iff.mp h1
    cases h2
    exact ⟨b2, h3, q⟩⟩
theorem t_cmp (hK : X.K = P.K) (hu : X.A.units + 200 < cLine) {op : CmpOp} (ha : PE X a (tB P fa)) (hb : PE X b (tB P fb)) (hm : behindInMarks op b = false) :
    PT X (.Compare a [op] [b] pos) (tT P fun r t => (fa r t).bind fun x t1 => (fb r t1).bind fun y t2 => Fm.lift (cmpD op x y) t2) := by
  obtain ⟨rr, ho, hr⟩ := cmpS (P := P) hK hu op
  refine ptMono (pt_cmpR ho ha hb hm) fun σ H Q ⟨F, r, t, R, h⟩ => op2 (P := P) hr σ H _ ⟨F, r, t, R, ?_⟩
  refine Aft.thn (h.bind.mono fun dx t1 h => Aft.thn (h.bind.mono fun dy t2 h => ?_))
  obtain ⟨d, e, b, e2, q⟩ := h.lift
  obtain ⟨k, rfl⟩ := cmp_bl e
  cases e2
  rw [e]
  exact fun v F' H' s R' rv => by
    cases rv
    exact ⟨_, rfl, q F' H' s R'⟩
/-- a comparison as a value -/
theorem s_cmp (hK : X.K = P.K) (hu : X.A.units + 200 < cLine) {op : CmpOp} (ha : PE X a (tB P fa)) (hb : PE X b (tB P fb)) (hm : behindInMarks op b = false) :
    PE X (.Compare a [op] [b] pos) (tD P fun r t => (fa r t).bind fun x t1 => (fb r t1).bind fun y t2 => Fm.lift (cmpD op x y) t2) := by
  obtain ⟨rr, ho, hr⟩ := cmpS (P := P) hK hu op
  exact peMono (pe_cmpR ho ha hb hm) (op2 (P := P) hr)
def chainE (o1 o2 : CmpOp) (fa fb fc : Rho → Tw → Res D) (r : Rho) (t : Tw) : Res D := (fa r t).bind fun x t1 => (fb r t1).bind fun y t2 => match cmpD o1 x y with
    | some (.bl true) => (fc r t2).bind fun z t3 => Fm.lift (cmpD o2 y z) t3
    | some (.bl false) => .ok (.bl false) t2
    | _ => .bad
theorem chain_of {rr rr' : R2} {o1 o2 : CmpOp} (hr : ∀ {x y : V} {dx dy d : D} {F : Hp} {r : Rho} {t : Tw} {σ : L2.St} {H : Hp} {Q : VK}, cmpD o1 dx dy = some d → RelP P F r t σ H → RpB P F r σ x dx → RpB P F r σ y dy →
      (∀ v F' H', Kp P.T F H F' H' → RelP P F' r t σ H' → Rp P.K P.T F' v d → Q v H') → rr x y H Q)
    (hr' : ∀ {x y : V} {dx dy d : D} {F : Hp} {r : Rho} {t : Tw} {σ : L2.St} {H : Hp} {Q : VK}, cmpD o2 dx dy = some d → RelP P F r t σ H → RpB P F r σ x dx → RpB P F r σ y dy →
      (∀ v F' H', Kp P.T F H F' H' → RelP P F' r t σ H' → Rp P.K P.T F' v d → Q v H') → rr' x y H Q) (σ : L2.St) (H : Hp) (Q : VK) (h : tD P (chainE o1 o2 fa fb fc) σ H Q) : tChain rr rr' (tB P fa) (tB P fb) (tB P fc) σ H Q := by
  obtain ⟨F, r, t, R, h⟩ := h
  refine ⟨F, r, t, R, h.bind.mono fun dx t1 h v F1 H1 s1 R1 rx => ?_⟩
  refine ⟨F1, r, t1, R1, (h.up s1.1).bind.mono fun dy t2 h w F2 H2 s2 R2 ry => ?_⟩
  have h := h.up s2.1
  cases e : cmpD o1 dx dy with
  | none =>
    rw [e] at h
    exact h.elim
  | some d =>
    obtain ⟨k, rfl⟩ := cmp_bl e
    rw [e] at h
    refine hr e R2 (rx.mono s2.1) ry fun z F3 H3 s3 R3 rz => ?_
    cases rz
    refine ⟨k, rfl, ?_⟩
    cases k with
    | false => exact h _ _ _ (s1.trans (s2.trans s3)) R3 (.bl false)
    | true =>
      refine ⟨F3, r, t2, R3, ((show Aft P F2 ((fc r t2).bind fun z t3 => Fm.lift (cmpD o2 dy z) t3) _ from h).up s3.1).bind.mono fun dz t4 h u F4 H4 s4 R4 rz => ?_⟩
      obtain ⟨d4, e4, q⟩ := h.lift
      exact hr' e4 R4 (ry.mono (s3.trans s4).1) rz fun v F' H' s R' h => q v F' H' (s1.trans (s2.trans (s3.trans (s4.trans s)))) R' h
theorem s_chain (hK : X.K = P.K) (hu : X.A.units + 200 < cLine) {o1 o2 : CmpOp} (ha : PE X a (tB P fa)) (hb : PE X b (tB P fb)) (hc : PE X c (tB P fc)) (hm : lastMarks [o1, o2] [b, c] = false) :
    PE X (.Compare a [o1, o2] [b, c] pos) (tD P (chainE o1 o2 fa fb fc)) := by
  obtain ⟨rr, ho, hr⟩ := cmpS (P := P) hK hu o1
  obtain ⟨rr', ho', hr'⟩ := cmpS (P := P) hK hu o2
  exact peMono (pe_chain ho ho' ha hb hc hm) (chain_of hr hr')
theorem chain_bl {o1 o2 : CmpOp} {F : Hp} {r : Rho} {t : Tw} {Z : D → Tw → Prop} (h : Aft P F (chainE o1 o2 fa fb fc r t) Z) : Aft P F (chainE o1 o2 fa fb fc r t) fun d t => (∃ k, d = .bl k) ∧ Z d t := by
  unfold chainE at h ⊢
  refine Aft.thn (h.bind.mono fun dx t1 h => Aft.thn (h.bind.mono fun dy t2 h => ?_))
  cases e : cmpD o1 dx dy with
  | none =>
    rw [e] at h
    exact h.elim
  | some d =>
    obtain ⟨k, rfl⟩ := cmp_bl e
    rw [e] at h
    cases k with
    | false => exact ⟨⟨_, rfl⟩, h⟩
    | true =>
      refine Aft.thn ((show Aft P F ((fc r t2).bind fun z t3 => Fm.lift (cmpD o2 dy z) t3) _ from h).bind.mono fun dz t3 h => ?_)
      obtain ⟨d4, e4, q⟩ := h.lift
      rw [e4]
      exact ⟨cmp_bl e4, q⟩
theorem t_chain (hK : X.K = P.K) (hu : X.A.units + 200 < cLine) {o1 o2 : CmpOp} (ha : PE X a (tB P fa)) (hb : PE X b (tB P fb)) (hc : PE X c (tB P fc)) (hm : lastMarks [o1, o2] [b, c] = false) :
    PT X (.Compare a [o1, o2] [b, c] pos) (tT P (chainE o1 o2 fa fb fc)) := by
  obtain ⟨rr, ho, hr⟩ := cmpS (P := P) hK hu o1
  obtain ⟨rr', ho', hr'⟩ := cmpS (P := P) hK hu o2
  refine ptMono (pt_chain ho ho' ha hb hc hm) fun σ H Q ⟨F, r, t, R, h⟩ => chain_of hr hr' σ H _ ⟨F, r, t, R, (chain_bl h).mono fun d t' h => ?_⟩
  obtain ⟨⟨k, rfl⟩, b, e, q⟩ := h
  cases e
  exact fun v F' H' s R' rv => by
    cases rv
    exact ⟨_, rfl, q F' H' s R'⟩
/-! ### not, and, or, if as values -/
theorem s_not (hK : X.K = P.K) (ha : PE X a (tB P fa)) : PE X (.UnaryOp .Not a pos) (tD P fun r t => (fa r t).bind fun x t1 => Fm.lift (notD x) t1) :=
  peMono (pe_notT ha) fun σ H Q ⟨F, r, t, R, h⟩ => ⟨F, r, t, R, h.bind.mono fun d t' h v F' H' s R' rv => by
    obtain ⟨e, h1, q⟩ := h.lift
    obtain ⟨b2, h3, rfl⟩ := Option.map_eq_some_iff.mp h1
    exact ⟨b2, by rw [hK]; exact rv.tru R' h3, q _ _ _ s R' (.bl _)⟩⟩
def andE (fa fb : Rho → Tw → Res D) (r : Rho) (t : Tw) : Res D := (fa r t).bind fun x t1 => match truD x with
    | some true => fb r t1
    | some false => .ok x t1
    | none => .bad
def orE (fa fb : Rho → Tw → Res D) (r : Rho) (t : Tw) : Res D := (fa r t).bind fun x t1 => match truD x with
    | some true => .ok x t1
    | some false => fb r t1
    | none => .bad
def iteE (fc fa fb : Rho → Tw → Res D) (r : Rho) (t : Tw) : Res D := (fc r t).bind fun x t1 => match truD x with
    | some true => fa r t1
    | some false => fb r t1
    | none => .bad
variable {rest : List Expr}
theorem s_and (hK : X.K = P.K) (ha : PE X a (tD P fa)) (hb : PE X (.BoolOp .And (b :: rest) pos) (tD P fb)) : PE X (.BoolOp .And (a :: b :: rest) pos) (tD P (andE fa fb)) :=
  peMono (pe_andT ha hb) fun σ H Q ⟨F, r, t, R, h⟩ => ⟨F, r, t, R, h.bind.mono fun d t' h v F' H' s R' rv => by
    cases e : truD d with
    | none =>
      rw [e] at h
      exact h.elim
    | some k =>
      rw [e] at h
      refine ⟨k, by rw [hK]; exact (RpB.of (r := r) (σ := σ) rv).tru R' e, ?_⟩
      cases k with
      | true => exact ⟨F', r, t', R', ((show Aft P F (fb r t') _ from h).up s.1).mono fun d2 t2 q v2 F2 H2 s2 R2 rv2 => q v2 F2 H2 (s.trans s2) R2 rv2⟩
      | false => exact h v F' H' s R' rv⟩
theorem s_or (hK : X.K = P.K) (ha : PE X a (tD P fa)) (hb : PE X (.BoolOp .Or (b :: rest) pos) (tD P fb)) : PE X (.BoolOp .Or (a :: b :: rest) pos) (tD P (orE fa fb)) :=
  peMono (pe_orT ha hb) fun σ H Q ⟨F, r, t, R, h⟩ => ⟨F, r, t, R, h.bind.mono fun d t' h v F' H' s R' rv => by
    cases e : truD d with
    | none =>
      rw [e] at h
      exact h.elim
    | some k =>
      rw [e] at h
      refine ⟨k, by rw [hK]; exact (RpB.of (r := r) (σ := σ) rv).tru R' e, ?_⟩
      cases k with
      | false => exact ⟨F', r, t', R', ((show Aft P F (fb r t') _ from h).up s.1).mono fun d2 t2 q v2 F2 H2 s2 R2 rv2 => q v2 F2 H2 (s.trans s2) R2 rv2⟩
      | true => exact h v F' H' s R' rv⟩
theorem s_ite (hc : PT X c (tT P fc)) (ha : PE X a (tD P fa)) (hb : PE X b (tD P fb)) : PE X (.IfExp c a b pos) (tD P (iteE fc fa fb)) :=
  peMono (pe_ifExp hc ha hb) fun σ H Q ⟨F, r, t, R, h⟩ => ⟨F, r, t, R, h.bind.mono fun d t' h => by
    cases e : truD d with
    | none =>
      rw [e] at h
      exact h.elim
    | some k =>
      rw [e] at h
      refine ⟨k, rfl, fun F' H' s R' => ?_⟩
      cases k with
      | true => exact ⟨F', r, t', R', ((show Aft P F (fa r t') _ from h).up s.1).mono fun d2 t2 q v2 F2 H2 s2 R2 rv2 => q v2 F2 H2 (s.trans s2) R2 rv2⟩
      | false => exact ⟨F', r, t', R', ((show Aft P F (fb r t') _ from h).up s.1).mono fun d2 t2 q v2 F2 H2 s2 R2 rv2 => q v2 F2 H2 (s.trans s2) R2 rv2⟩⟩
/-- and, or as tests -/
theorem t_and (ha : PT X a (tT P fa)) (hb : PW X (.BoolOp .And (b :: rest) pos) (tT P fb)) : PW X (.BoolOp .And (a :: b :: rest) pos) (tT P (andE fa fb)) :=
  ⟨fun wh pins s0 σ H Q I ⟨F, r, t, R, h⟩ => (pw_and ha hb).run wh pins s0 σ H Q I ⟨F, r, t, R, h.bind.mono fun d t' h => by
    cases e : truD d with
    | none =>
      rw [e] at h
      exact h.elim
    | some k =>
      rw [e] at h
      refine ⟨k, rfl, fun F' H' s R' => ?_⟩
      cases k with
      | true => exact ⟨F', r, t', R', ((show Aft P F (fb r t') _ from h).up s.1).mono fun d2 t2 ⟨b2, e2, q⟩ => ⟨b2, e2, fun F2 H2 s2 R2 => q F2 H2 (s.trans s2) R2⟩⟩
      | false =>
        obtain ⟨b2, e2, q⟩ := h
        rw [e] at e2
        cases e2
        exact q F' H' s R'⟩⟩
theorem t_or (ha : PT X a (tT P fa)) (hb : PW X (.BoolOp .Or (b :: rest) pos) (tT P fb)) : PW X (.BoolOp .Or (a :: b :: rest) pos) (tT P (orE fa fb)) :=
  ⟨fun wh pins s0 σ H Q I ⟨F, r, t, R, h⟩ => (pw_or ha hb).run wh pins s0 σ H Q I ⟨F, r, t, R, h.bind.mono fun d t' h => by
    cases e : truD d with
    | none =>
      rw [e] at h
      exact h.elim
    | some k =>
      rw [e] at h
      refine ⟨k, rfl, fun F' H' s R' => ?_⟩
      cases k with
      | false => exact ⟨F', r, t', R', ((show Aft P F (fb r t') _ from h).up s.1).mono fun d2 t2 ⟨b2, e2, q⟩ => ⟨b2, e2, fun F2 H2 s2 R2 => q F2 H2 (s.trans s2) R2⟩⟩
      | true =>
        obtain ⟨b2, e2, q⟩ := h
        rw [e] at e2
        cases e2
        exact q F' H' s R'⟩⟩
end
end Fm

/-! ### subscripts, displays, built-in calls, dicts -/
namespace Fm
open PySem PySem.Spec PyProof.Rows L2
section
variable {P : Pm} {X : Cx} {a b c : Expr} {pos : Pos} {fa fb fc : Rho → Tw → Res D}
theorem atI_map {ns : List Int} {i v : Int} (e : atI ns i = some v) : atI (ns.map V.int) i = some (.int v) := by
  unfold atI at e ⊢
  rw [List.length_map]
  cases h : ixN ns.length i with
  | none =>
    rw [h] at e
    cases e
  | some j =>
    rw [h] at e
    have e : ns[j]? = some v := e
    show (ns.map V.int)[j]? = _
    rw [List.getElem?_map, e]
    rfl
theorem ix_nat {xs : List V} {ds : List D} {F : Hp} {i : Int} {d : D} (q : RpL P.K P.T F xs ds) (e : atI ds i = some d) : ∃ v, atI xs i = some v ∧ Rp P.K P.T F v d := by
  unfold atI at e ⊢
  rw [q.length]
  cases h : ixN ds.length i with
  | none =>
    rw [h] at e
    cases e
  | some j =>
    rw [h] at e
    obtain ⟨v, e2, r2⟩ := q.get (i := j) e
    exact ⟨v, e2, r2⟩
theorem s_ix (hK : X.K = P.K) (ha : PE X a (tB P fa)) (hb : PE X b (tB P fb)) (hs : PlainIx b) : PE X (.Subscript a b pos) (tD P fun r t => (fa r t).bind fun x t1 => (fb r t1).bind fun y t2 => Fm.lift (ixD x y) t2) := by
  refine peMono (pe_ix ix_seq ha hb hs) (op2 fun {x y dx dy d F r t σ H Q} e R rx ry q => ?_)
  cases dx with
  | tup xs =>
    cases dy with
    | int i =>
      obtain ⟨p1, v1, rfl, e1, z1, q1⟩ := rx.tup R
      obtain ⟨v, e2, r2⟩ := ix_nat q1 e
      rw [hK]
      exact .inr (.inl ⟨p1, v1, i, v, rfl, ry.int R, sqT_mono R.sub e1, e2, q _ _ _ Kp.refl R r2⟩)
    | _ => cases e
  | lst xs =>
    cases dy with
    | int i =>
      obtain ⟨p1, v1, rfl, e1, z1, q1⟩ := rx.lst R
      obtain ⟨v, e2, r2⟩ := ix_nat q1 e
      rw [hK]
      exact .inl ⟨p1, v1, i, v, rfl, ry.int R, SqL.of e1, e2, q _ _ _ Kp.refl R r2⟩
    | _ => cases e
  | str z =>
    cases dy with
    | int i =>
      have e : (if okLen z.length then (atI z.cps.toList i).map fun c => D.str ⟨#[c]⟩ else none) = some d := e
      split at e
      · rename_i hl
        obtain ⟨c, e1, rfl⟩ := Option.map_eq_some_iff.mp e
        exact .inr (.inr ⟨z, i, c, rx.str R, ry.int R, okLen_le hl, e1, q _ _ _ Kp.refl R (.str _)⟩)
      · cases e
    | _ => cases e
  | scr ns =>
    cases dy with
    | int i =>
      have e : (L2.atI ns i).map D.int = some d := e
      obtain ⟨v, e1, rfl⟩ := Option.map_eq_some_iff.mp e
      cases rx.rp R (fun _ z => by cases z) (fun _ z => by cases z)
      rw [hK]
      exact .inl ⟨_, _, i, .int v, rfl, ry.int R, sqL_mono R.sub R.sc, atI_map e1, q _ _ _ Kp.refl R (.int v)⟩
    | _ => cases e
  | _ => cases dy <;> cases e
/-! ### slices -/
def tO (P : Pm) (f : Rho → Tw → Res (Option D)) : TO := fun σ H Q => ∃ F r t, RelP P F r t σ H ∧ Aft P F (f r t) fun o t' => ∃ i, optI o = some i ∧ ∀ F' H', Kp P.T F H F' H' → RelP P F' r t' σ H' → Q i H'
theorem poMono {e : Option Expr} {t u : TO} (h : PO X e t) (i : ∀ σ H Q, u σ H Q → t σ H Q) : PO X e u := ⟨fun pins s σ H Q I q => h.run pins s σ H Q I (i σ H Q q)⟩
theorem s_none : PO X none (tO P fun r t => .ok none t) := poMono po_none fun σ H Q ⟨F, r, t, R, i, e, q⟩ => by
  cases e
  exact q F H Kp.refl R
theorem s_some (ha : PE X a (tB P fa)) : PO X (some a) (tO P fun r t => (fa r t).bind fun x t1 => .ok (some x) t1) := poMono (po_some ha) fun σ H Q ⟨F, r, t, R, h⟩ => ⟨F, r, t, R, h.bind.mono fun d t' ⟨i, e, q⟩ v F' H' s R' rv => by
  cases d with
  | int j =>
    cases e
    exact ⟨j, rv.int R', q F' H' s R'⟩
  | _ => cases e⟩
theorem cut_rel {xs : List V} {ds : List D} {F : Hp} (q : RpL P.K P.T F xs ds) (l h : Option Int) : RpL P.K P.T F (cutV xs l h) (cutL ds l h) := by
  unfold cutV cutL
  rw [q.length]
  exact (q.drop _).take _
def cutE (fa : Rho → Tw → Res D) (fl fh : Rho → Tw → Res (Option D)) (r : Rho) (t : Tw) : Res D := (fa r t).bind fun x t1 => (fl r t1).bind fun l t2 => (Fm.lift (optI l) t2).bind fun l t2 => (fh r t2).bind fun h t3 => (Fm.lift (optI h) t3).bind fun h t3 => Fm.lift (cutD x l h) t3
theorem s_cut (hK : X.K = P.K) {lo hi : Option Expr} {p2 : Pos} {fl fh : Rho → Tw → Res (Option D)} (ha : PE X a (tB P fa)) (hl : PO X lo (tO P fl)) (hh : PO X hi (tO P fh)) :
    PE X (.Subscript a (.Slice lo hi none p2) pos) (tD P (cutE fa fl fh)) := by
  refine peMono (pe_slice (SlR.or sl_tupA sl_list) ha hl hh) fun σ H Q ⟨F, r, t, R, h⟩ => ⟨F, r, t, R, h.bind.mono fun dx t1 h v F1 H1 s1 R1 rx => ?_⟩
  refine ⟨F1, r, t1, R1, (h.up s1.1).bind.mono fun dl t2 h => ?_⟩
  obtain ⟨l, ol, h⟩ := h.bind.lift
  refine ⟨l, ol, fun F2 H2 s2 R2 => ⟨F2, r, t2, R2, (h.up s2.1).bind.mono fun dh t3 h => ?_⟩⟩
  obtain ⟨u, ou, h⟩ := h.bind.lift
  obtain ⟨d, e, q⟩ := h.lift
  refine ⟨u, ou, fun F3 H3 s3 R3 => ?_⟩
  have rx := rx.mono (s2.trans s3).1
  have q : ∀ v F' H', Kp P.T F3 H3 F' H' → RelP P F' r t3 σ H' → Rp P.K P.T F' v d → Q v H' := fun v F' H' s R' h => q v F' H' (s1.trans (s2.trans (s3.trans s))) R' h
  cases dx with
  | tup xs =>
    cases e
    obtain ⟨p1, v1, rfl, e1, z1, q1⟩ := rx.tup R3
    rw [hK]
    refine .inl ⟨p1, v1, rfl, sqT_mono R3.sub e1, fun hw => ?_, fun _ => ?_⟩
    · refine q _ _ _ Kp.refl R3 ?_
      have ec : cutL xs l u = xs := by
        unfold cutL
        rw [← q1.length, hw.1, hw.2]
        simp [q1.length]
      rw [ec]
      exact .tup e1 z1 q1
    · exact mkTup R3 (Nat.le_trans (cutV_length _ _ _) z1) (cut_rel q1 l u) q
  | lst xs =>
    cases e
    obtain ⟨p1, v1, rfl, e1, z1, q1⟩ := rx.lst R3
    exact .inr ⟨p1, v1, rfl, SqL.of e1, mkLst R3 (Nat.le_trans (cutV_length _ _ _) z1) (cut_rel q1 l u) q⟩
  | _ => cases e
/-! ### argument lists, displays -/
theorem s_nil : PA X [] (tDs P fun r t => .ok [] t) := paMono pa_nil fun σ H Q ⟨F, r, t, R, q⟩ => q [] F H Kp.refl R .nil
theorem s_cons {es : List Expr} {fs : Rho → Tw → Res (List D)} (ha : PE X a (tD P fa)) (hr : PA X es (tDs P fs)) (hs : starEach (a :: es) X.env = (false, eval a X.env) :: starEach es X.env) :
    PA X (a :: es) (tDs P fun r t => (fa r t).bind fun x t1 => (fs r t1).bind fun xs t2 => .ok (x :: xs) t2) :=
  paMono (pa_cons ha hr hs) fun σ H Q ⟨F, r, t, R, h⟩ => ⟨F, r, t, R, h.bind.mono fun d t1 h v F1 H1 s1 R1 rv => ⟨F1, r, t1, R1, (h.up s1.1).bind.mono fun ds t2 q vs F2 H2 s2 R2 rvs =>
    q (v :: vs) F2 H2 (s1.trans s2) R2 (.cons (rv.mono s2.1) rvs)⟩⟩
theorem s_tup {es : List Expr} {x1 : Nat} {fs : Rho → Tw → Res (List D)} (h : PA X es (tDs P fs)) : PE X (.Tuple es x1 pos) (tD P fun r t => (fs r t).bind fun xs t1 => if okLen xs.length then .ok (.tup xs) t1 else .bad) :=
  peMono (pe_tup h) fun σ H Q ⟨F, r, t, R, h⟩ => ⟨F, r, t, R, h.bind.mono fun ds t1 h vs F1 H1 s1 R1 rv => by
    split at h
    · rename_i hl
      have z : vs.length ≤ sizeLine := by
        rw [rv.length]
        exact okLen_le hl
      exact ⟨z, mkTup R1 z rv fun v F' H' s R' r => h v F' H' (s1.trans s) R' r⟩
    · exact h.elim⟩
/-! ### an object that is nobody's yet -/
/-- a new object: nobody's -/
structure Fre (P : Pm) (F : Hp) (r : Rho) (σ : L2.St) (H : Hp) (v : V) (d : D) (p : Addr) : Prop where
  v : v = .ref p
  own : Fm.Own P.K P.T P.H0 F H p d
  no : ∀ (i : Nat) (e : D), r[i]? = some (.own e) → σ[i]? ≠ some (some (.ref p))
def tN (P : Pm) (f : Rho → Tw → Res D) : TE := fun σ H Q => ∃ F r t, RelP P F r t σ H ∧ Aft P F (f r t) fun d t' => ∀ v F' H' p, Kp P.T F H F' H' → RelP P F' r t' σ H' → Nn H p → Fre P F' r σ H' v d p → Q v H'
/-- .. it may be frozen, if it is a list -/
theorem Fre.lst {F H : Hp} {F1 H1 : Hp} {r : Rho} {t' : Tw} {σ : L2.St} {v : V} {p : Addr} {ds : List D} {Q : VK} (s : Kp P.T F H F1 H1) (R' : RelP P F1 r t' σ H1) (hp : Nn H p) (fr : Fre P F1 r σ H1 v (.lst ds) p)
    (q : ∀ v F' H', Kp P.T F H F' H' → RelP P F' r t' σ H' → Rp P.K P.T F' v (.lst ds) → Q v H') : Q v H1 := by
  obtain ⟨rfl, o, no⟩ := fr
  obtain ⟨vs, h1, h2, h3⟩ := o.at_
  have R2 := R'.freeze (o := .lst vs) h1 (by intro _ z; cases z) o.fr o.h0 o.n1 o.n2 no
  have s2 : Same F1 (upd F1 p (.lst vs)) := same_new o.fr
  refine q _ _ _ ⟨s.1.trans s2, fun c u h => ?_, s.old, s.had⟩ R2 (.lst upd_same h2 (h3.mono s2))
  by_cases hc : c = p
  · rw [hc]
    exact .inr hp
  · rw [upd_ne hc] at h
    exact s.new c u h
theorem tNtD_mono {f : Rho → Tw → Res D} (hl : ∀ r t d t', f r t = .ok d t' → ∃ xs, d = .lst xs) (σ : L2.St) (H : Hp) (Q : VK) (z : tD P f σ H Q) : tN P f σ H Q := by
  obtain ⟨F, r, t, R, h⟩ := z
  refine ⟨F, r, t, R, ?_⟩
  cases e : f r t with
  | ok d t' =>
    obtain ⟨xs, rfl⟩ := hl r t d t' e
    rw [e] at h
    exact fun v F' H' p s R' hp fr => fr.lst s R' hp h
  | exc n t' =>
    rw [e] at h
    exact h
  | bad =>
    rw [e] at h
    exact h
/-- .. it may be frozen; a dict is locked -/
theorem tN_tD {f : Rho → Tw → Res D} {e : Expr} (h : PE X e (tN P f)) : PE X e (tD P f) := by
  refine ⟨fun pins s σ H Q I ⟨F, r, t, R, z⟩ => ?_⟩
  refine thn (h.run pins s σ H (fun v H1 => ∃ F1 t' d p, Kp P.T F H F1 H1 ∧ RelP P F1 r t' σ H1 ∧ Nn H p ∧ Fre P F1 r σ H1 v d p ∧ ∀ v F' H', Kp P.T F H F' H' → RelP P F' r t' σ H' → Rp P.K P.T F' v d → Q v H') I ⟨F, r, t, R, z.mono fun d t' q v F' H' p s R' hp fr => ⟨F', t', d, p, s, R', hp, fr, q⟩⟩) fun u s1 ⟨v, H1, I1, rv, F1, t', d, p, k, R1, hp, fr, q⟩ => ?_
  cases d with
  | lst ds => exact ⟨v, H1, I1, rv, fr.lst k R1 hp q⟩
  | dct es =>
    obtain ⟨rfl, o, no⟩ := fr
    obtain ⟨kvs, h1, h2, h3⟩ := o.at_
    obtain ⟨od, I2⟩ := I1.lock h1 trivial
    have R2 := R1.lockF (od := od) h1 o.fr o.h0 o.n1 o.n2 no
    have s2 : Same F1 (upd F1 p (.frz od (.dK kvs))) := same_new o.fr
    refine ⟨.ref p, _, I2, rv, q _ _ _ ⟨k.1.trans s2, fun c u h => ?_, fun c u h m1 m2 m3 => ?_, fun c h => k.had c (h.upd (by intro _ z; cases z)).1⟩ R2 (.dct upd_same h2 (h3.mono s2))⟩
    · by_cases hc : c = p
      · rw [hc]
        exact .inr hp
      · rw [upd_ne hc] at h
        exact k.new c u h
    · rw [upd_ne (fun z => hp.no (by rw [← z]; exact h) m3)]
      exact k.old c u h m1 m2 m3
  | _ =>
    obtain ⟨_, o, _⟩ := fr
    exact o.at_.elim
/-- laid just now -/
theorem mkNew {F : Hp} {r : Rho} {t : Tw} {σ : L2.St} {H : Hp} {o : HO} {d : D} (R : RelP P F r t σ H) {p : Addr} (hp : H p = none) (h : OwnAt P.K P.T F (upd H p o) p d) :
    RelP P F r t σ (upd H p o) ∧ Kp P.T F H F (upd H p o) ∧ Fre P F r σ (upd H p o) (.ref p) d p := by
  have b := R.toRelH.newO (o := o) hp
  have n1 : p ≠ P.T.a := fun e => by
    rw [e, R.tw.a] at hp
    cases hp
  have n2 : p ≠ P.T.b := fun e => by
    rw [e, R.tw.b] at hp
    cases hp
  refine ⟨R.step b, Kp.of b, rfl, ⟨R.sub.free hp, n1, n2, R.had p (.of hp), h⟩, fun i e h1 h2 => ?_⟩
  obtain ⟨q, e1, w⟩ := R.own i e h1
  rw [h2] at e1
  cases e1
  obtain ⟨o2, ho, _⟩ := w.at_.obj
  rw [hp] at ho
  cases ho
theorem n_lst {es : List Expr} {fs : Rho → Tw → Res (List D)} (h : PA X es (tDs P fs)) : PE X (.List es pos) (tN P fun r t => (fs r t).bind fun xs t1 => if okLen xs.length then .ok (.lst xs) t1 else .bad) :=
  peMono (pe_lst h) fun σ H Q ⟨F, r, t, R, h⟩ => ⟨F, r, t, R, h.bind.mono fun ds t1 h vs F1 H1 s1 R1 rv => by
    split at h
    · rename_i hl
      have z : vs.length ≤ sizeLine := by
        rw [rv.length]
        exact okLen_le hl
      refine ⟨z, fun p hp => ?_⟩
      obtain ⟨R2, k2, fr⟩ := mkNew (o := .lst vs) (d := .lst ds) R1 hp ⟨vs, upd_same, z, rv⟩
      exact h _ _ _ p (s1.trans k2) R2 (s1.had p (.of hp)) fr
    · exact h.elim⟩
/-! ### built-in calls of one value -/
def CallS (P : Pm) (X : Cx) (f : Value) (g : D → Option D) : Prop :=
  ∃ rr : List V → Hp → VK → Prop, CallR X f rr ∧ ∀ {x : V} {dx d : D} {F : Hp} {r : Rho} {t : Tw} {σ : L2.St} {H : Hp} {Q : VK}, g dx = some d → RelP P F r t σ H → RpB P F r σ x dx →
      (∀ v F' H', Kp P.T F H F' H' → RelP P F' r t σ H' → Rp P.K P.T F' v d → Q v H') → rr [x] H Q
/-- .. that make a new list, nobody's -/
def CallN (P : Pm) (X : Cx) (f : Value) (g : D → Option D) : Prop :=
  ∃ rr : List V → Hp → VK → Prop, CallR X f rr ∧ ∀ {x : V} {dx d : D} {F : Hp} {r : Rho} {t : Tw} {σ : L2.St} {H : Hp} {Q : VK}, g dx = some d → RelP P F r t σ H → RpB P F r σ x dx →
      (∀ v F' H' p, Kp P.T F H F' H' → RelP P F' r t σ H' → Nn H p → Fre P F' r σ H' v d p → Q v H') → rr [x] H Q
theorem cs_abs : CallS P X (.builtin "abs") (blt1 .abs) := by
  refine ⟨_, call_abs, fun {x dx d F r t σ H Q} e R rx q => ?_⟩
  cases dx with
  | int i =>
    cases e
    exact ⟨i, by rw [rx.int R], q _ _ _ Kp.refl R (.int _)⟩
  | _ => cases e
theorem cs_len (hK : X.K = P.K) : CallS P X (.builtin "len") (blt1 .len) := by
  refine ⟨_, CallR.or call_len call_lenD, fun {x dx d F r t σ H Q} e R rx q => ?_⟩
  rw [hK]
  cases dx with
  | tup ds =>
    cases e
    obtain ⟨p1, v1, rfl, e1, z1, q1⟩ := rx.tup R
    exact .inl ⟨_, v1.length, rfl, .inr ⟨v1, sqT_mono R.sub e1, rfl⟩, by rw [q1.length]; exact q _ _ _ Kp.refl R (.int _)⟩
  | lst ds =>
    cases e
    obtain ⟨p1, v1, rfl, e1, z1, q1⟩ := rx.lst R
    exact .inl ⟨_, v1.length, rfl, .inl ⟨v1, SqL.of e1, rfl⟩, by rw [q1.length]; exact q _ _ _ Kp.refl R (.int _)⟩
  | scr ns =>
    cases rx.rp R (fun _ z => by cases z) (fun _ z => by cases z)
    cases e
    exact .inl ⟨_, (P.T.ns.map V.int).length, rfl, .inl ⟨_, sqL_mono R.sub R.sc, rfl⟩, by rw [List.length_map]; exact q _ _ _ Kp.refl R (.int _)⟩
  | str z =>
    have e : (if okLen z.length then some (D.int z.length) else none) = some d := e
    split at e
    · rename_i hl
      cases e
      obtain rfl := rx.str R
      exact .inl ⟨_, z.length, rfl, ⟨okLen_le hl, rfl⟩, q _ _ _ Kp.refl R (.int _)⟩
    · cases e
  | _ => cases e
theorem cs_all (hK : X.K = P.K) (hc : X.calm = true) : CallS P X (.builtin "all") (blt1 .all) := by
  refine ⟨_, cr_all hc, fun {x dx d F r t σ H Q} e R rx q => ?_⟩
  cases dx with
  | lst ds =>
    obtain ⟨bs, e1, rfl⟩ := Option.map_eq_some_iff.mp (show (bls ds).map (fun bs => D.bl (bs.all id)) = some d from e)
    obtain ⟨p1, v1, rfl, e2, z1, q1⟩ := rx.lst R
    obtain rfl := q1.blsOf e1
    exact ⟨p1, bs, rfl, SqL.of e2, q _ _ _ Kp.refl R (.bl _)⟩
  | _ => cases e
theorem cs_any (hK : X.K = P.K) (hc : X.calm = true) : CallS P X (.builtin "any") (blt1 .any) := by
  refine ⟨_, cr_any hc, fun {x dx d F r t σ H Q} e R rx q => ?_⟩
  cases dx with
  | lst ds =>
    obtain ⟨bs, e1, rfl⟩ := Option.map_eq_some_iff.mp (show (bls ds).map (fun bs => D.bl (bs.any id)) = some d from e)
    obtain ⟨p1, v1, rfl, e2, z1, q1⟩ := rx.lst R
    obtain rfl := q1.blsOf e1
    exact ⟨p1, bs, rfl, SqL.of e2, q _ _ _ Kp.refl R (.bl _)⟩
  | _ => cases e
theorem cs_sum (hK : X.K = P.K) (hc : X.calm = true) : CallS P X (.builtin "sum") (blt1 .sum) := by
  refine ⟨_, cr_sum hc, fun {x dx d F r t σ H Q} e R rx q => ?_⟩
  cases dx with
  | lst ds =>
    obtain ⟨bs, e1, rfl⟩ := Option.map_eq_some_iff.mp (show (intsD ds).map (fun ns => D.int ns.sum) = some d from e)
    obtain ⟨p1, v1, rfl, e2, z1, q1⟩ := rx.lst R
    obtain rfl := q1.intsOf e1
    exact ⟨p1, bs, rfl, SqL.of e2, q _ _ _ Kp.refl R (.int _)⟩
  | _ => cases e
theorem cs_tuple (hK : X.K = P.K) : CallS P X (.type "tuple") (blt1 .tuple) := by
  refine ⟨_, call_tuple_of, fun {x dx d F r t σ H Q} e R rx q => ?_⟩
  rw [hK]
  cases dx with
  | lst ds =>
    cases e
    obtain ⟨p1, v1, rfl, e2, z1, q1⟩ := rx.lst R
    exact ⟨p1, v1, rfl, .inl ⟨SqL.of e2, mkTup R z1 q1 q⟩⟩
  | tup ds =>
    cases e
    obtain ⟨p1, v1, rfl, e2, z1, q1⟩ := rx.tup R
    exact ⟨p1, v1, rfl, .inr ⟨sqT_mono R.sub e2, q _ _ _ Kp.refl R (.tup e2 z1 q1)⟩⟩
  | _ => cases e
theorem cn_list (hK : X.K = P.K) : CallN P X (.type "list") (blt1 .list) := by
  refine ⟨_, call_list_of, fun {x dx d F r t σ H Q} e R rx q => ?_⟩
  rw [hK]
  cases dx with
  | lst ds =>
    cases e
    obtain ⟨p1, v1, rfl, e2, z1, q1⟩ := rx.lst R
    refine ⟨p1, v1, rfl, .inl (SqL.of e2), fun p hp => ?_⟩
    obtain ⟨R2, k2, fr⟩ := mkNew (o := .lst v1) (d := .lst ds) R hp ⟨v1, upd_same, z1, q1⟩
    exact q _ _ _ p k2 R2 (.of hp) fr
  | tup ds =>
    cases e
    obtain ⟨p1, v1, rfl, e2, z1, q1⟩ := rx.tup R
    refine ⟨p1, v1, rfl, .inr (sqT_mono R.sub e2), fun p hp => ?_⟩
    obtain ⟨R2, k2, fr⟩ := mkNew (o := .lst v1) (d := .lst ds) R hp ⟨v1, upd_same, z1, q1⟩
    exact q _ _ _ p k2 R2 (.of hp) fr
  | _ => cases e
/-! sorted -/
theorem insI_perm (x : Int) : ∀ l : List Int, (insI x l).Perm (x :: l)
  | [] => List.Perm.refl _
  | y :: r => by
    unfold insI
    split
    · exact List.Perm.refl _
    · exact ((insI_perm x r).cons y).trans (List.Perm.swap x y r)
theorem srtI_perm : ∀ l : List Int, (srtI l).Perm l
  | [] => List.Perm.refl _
  | x :: r => (insI_perm x _).trans ((srtI_perm r).cons x)
theorem insI_sorted (x : Int) : ∀ l : List Int, l.Pairwise (· ≤ ·) → (insI x l).Pairwise (· ≤ ·)
  | [], _ => List.pairwise_singleton _ _
  | y :: r, h => by
    obtain ⟨h1, h2⟩ := List.pairwise_cons.mp h
    unfold insI
    split
    · rename_i hx
      refine List.pairwise_cons.mpr ⟨fun z hz => ?_, h⟩
      rcases List.mem_cons.mp hz with rfl | hz
      · exact hx
      · exact Int.le_trans hx (h1 z hz)
    · rename_i hx
      refine List.pairwise_cons.mpr ⟨fun z hz => ?_, insI_sorted x r h2⟩
      rcases List.mem_cons.mp ((insI_perm x r).mem_iff.mp hz) with rfl | hz
      · omega
      · exact h1 z hz
theorem srtI_sorted : ∀ l : List Int, (srtI l).Pairwise (· ≤ ·)
  | [] => List.Pairwise.nil
  | x :: r => insI_sorted x _ (srtI_sorted r)
theorem srtI_one {l m : List Int} (h : m.Perm l) (s : m.Pairwise (· ≤ ·)) : m = srtI l := PySem.W.ksm_same (h.trans (srtI_perm l).symm) s (srtI_sorted l)
theorem keys_of {F : Hp} : ∀ {kvs : List (Key × V)} {es : List (Key × D)} {ns : List Int}, RpK P.K P.T F kvs es → keysI es = some ns → kvs.map (·.1) = ns.map Sum.inl
  | _, _, ns, .nil, h => by
    cases h
    rfl
  | _, _, ns, @RpK.cons _ _ _ k v kvs d es h q, e => by
    cases k with
    | inl i =>
      obtain ⟨ms, e1, rfl⟩ := Option.map_eq_some_iff.mp (show (keysI es).map (i :: ·) = some ns from e)
      simp [keys_of q e1]
    | inr x => cases e
theorem cn_sorted (hK : X.K = P.K) (hc : X.calm = true) : CallN P X (.builtin "sorted") (blt1 .sorted) := by
  refine ⟨_, CallR.or cr_sortedI (call_sortedDI hc), fun {x dx d F r t σ H Q} e R rx q => ?_⟩
  cases dx with
  | lst ds =>
    obtain ⟨ns, e1, rfl⟩ := Option.map_eq_some_iff.mp (show (intsD ds).map (fun ns => D.lst ((srtI ns).map D.int)) = some d from e)
    obtain ⟨p1, v1, rfl, e2, z1, q1⟩ := rx.lst R
    obtain rfl := q1.intsOf e1
    refine .inl ⟨p1, ns, rfl, SqL.of e2, fun ms p h1 h2 hp => ?_⟩
    obtain rfl := srtI_one h1 h2
    obtain ⟨R2, k2, fr⟩ := mkNew (o := .lst ((srtI ns).map V.int)) (d := .lst ((srtI ns).map D.int)) R hp ⟨_, upd_same, by rw [List.length_map, (srtI_perm ns).length_eq]; simpa using z1, RpL.ofInts _⟩
    exact q _ _ _ p k2 R2 (.of hp) fr
  | dct es =>
    have e : ((keysI es).bind fun ns => if decide (ns.length < 64) then some (.lst ((srtI ns).map D.int)) else none) = some d := e
    obtain ⟨ns, e1, e2⟩ := Option.bind_eq_some_iff.mp e
    split at e2
    · rename_i hl
      cases e2
      have hl := of_decide_eq_true hl
      obtain ⟨p1, v1, rfl, e3, q1⟩ := rx.dct R
      refine .inr ⟨p1, v1, ns, rfl, e3, keys_of q1 e1, hl, fun ms p h1 h2 hp => ?_⟩
      obtain rfl := srtI_one h1 h2
      obtain ⟨R2, k2, fr⟩ := mkNew (o := .lst ((srtI ns).map V.int)) (d := .lst ((srtI ns).map D.int)) R hp ⟨_, upd_same, by rw [List.length_map, (srtI_perm ns).length_eq, sizeLine_eq]; omega, RpL.ofInts _⟩
      exact q _ _ _ p k2 R2 (.of hp) fr
    · cases e2
  | _ => cases e
/-! the call itself -/
variable {x : Str} {p1 : Pos}
theorem call_form {g : D → Option D} {rr : List V → Hp → VK → Prop} (hr : ∀ {x : V} {dx d : D} {F : Hp} {r : Rho} {t : Tw} {σ : L2.St} {H : Hp} {Q : VK}, g dx = some d → RelP P F r t σ H → RpB P F r σ x dx →
      (∀ v F' H', Kp P.T F H F' H' → RelP P F' r t σ H' → Rp P.K P.T F' v d → Q v H') → rr [x] H Q) (σ : L2.St) (H : Hp) (Q : VK) (h : tD P (fun r t => (fa r t).bind fun x t1 => Fm.lift (g x) t1) σ H Q) : tCB rr (tCons (tB P fa) tNil) σ H Q := by
  obtain ⟨F, r, t, R, h⟩ := h
  refine ⟨F, r, t, R, h.bind.mono fun d t1 h v F1 H1 s1 R1 rv => ?_⟩
  obtain ⟨d2, e, q⟩ := h.lift
  exact hr e R1 rv fun v F' H' s R' h => q v F' H' (s1.trans s) R' h
theorem call_formN {g : D → Option D} {rr : List V → Hp → VK → Prop} (hr : ∀ {x : V} {dx d : D} {F : Hp} {r : Rho} {t : Tw} {σ : L2.St} {H : Hp} {Q : VK}, g dx = some d → RelP P F r t σ H → RpB P F r σ x dx →
      (∀ v F' H' p, Kp P.T F H F' H' → RelP P F' r t σ H' → Nn H p → Fre P F' r σ H' v d p → Q v H') → rr [x] H Q) (σ : L2.St) (H : Hp) (Q : VK) (h : tN P (fun r t => (fa r t).bind fun x t1 => Fm.lift (g x) t1) σ H Q) : tCB rr (tCons (tB P fa) tNil) σ H Q := by
  obtain ⟨F, r, t, R, h⟩ := h
  refine ⟨F, r, t, R, h.bind.mono fun d t1 h v F1 H1 s1 R1 rv => ?_⟩
  obtain ⟨d2, e, q⟩ := h.lift
  exact hr e R1 rv fun v F' H' p s R' hp h => q v F' H' p (s1.trans s) R' (s1.had p hp) h
theorem s_callB {id : String} {g : D → Option D} (hc : CallS P X (.builtin id) g) (hg : Gl X x) (hm : X.mg x = none) (hv : bootBuiltins x = some (.builtin id)) (ha : PE X a (tB P fa)) (hn : x ≠ "__name__") (hdb : (x == ("__debug__" : Str)) = false)
    (hs : starEach [a] X.env = (false, eval a X.env) :: starEach [] X.env) : PE X (.Call (.Name x p1) [a] [] pos) (tD P fun r t => (fa r t).bind fun x t1 => Fm.lift (g x) t1) := by
  obtain ⟨rr, h1, h2⟩ := hc
  exact peMono (pe_callB h1 hg hm hv (pa_cons ha pa_nil hs) hn hdb hs) (call_form h2)
theorem s_callT {id : String} {g : D → Option D} (hc : CallS P X (.type id) g) (hg : Gl X x) (hm : X.mg x = none) (hv : bootBuiltins x = some (.type id)) (ha : PE X a (tB P fa)) (hn : x ≠ "__name__") (hdb : (x == ("__debug__" : Str)) = false)
    (hs : starEach [a] X.env = (false, eval a X.env) :: starEach [] X.env) : PE X (.Call (.Name x p1) [a] [] pos) (tD P fun r t => (fa r t).bind fun x t1 => Fm.lift (g x) t1) := by
  obtain ⟨rr, h1, h2⟩ := hc
  exact peMono (pe_callTy h1 hg hm hv (pa_cons ha pa_nil hs) hn hdb hs) (call_form h2)
theorem n_callB {id : String} {g : D → Option D} (hc : CallN P X (.builtin id) g) (hg : Gl X x) (hm : X.mg x = none) (hv : bootBuiltins x = some (.builtin id)) (ha : PE X a (tB P fa)) (hn : x ≠ "__name__") (hdb : (x == ("__debug__" : Str)) = false)
    (hs : starEach [a] X.env = (false, eval a X.env) :: starEach [] X.env) : PE X (.Call (.Name x p1) [a] [] pos) (tN P fun r t => (fa r t).bind fun x t1 => Fm.lift (g x) t1) := by
  obtain ⟨rr, h1, h2⟩ := hc
  exact peMono (pe_callB h1 hg hm hv (pa_cons ha pa_nil hs) hn hdb hs) (call_formN h2)
theorem n_callT {id : String} {g : D → Option D} (hc : CallN P X (.type id) g) (hg : Gl X x) (hm : X.mg x = none) (hv : bootBuiltins x = some (.type id)) (ha : PE X a (tB P fa)) (hn : x ≠ "__name__") (hdb : (x == ("__debug__" : Str)) = false)
    (hs : starEach [a] X.env = (false, eval a X.env) :: starEach [] X.env) : PE X (.Call (.Name x p1) [a] [] pos) (tN P fun r t => (fa r t).bind fun x t1 => Fm.lift (g x) t1) := by
  obtain ⟨rr, h1, h2⟩ := hc
  exact peMono (pe_callTy h1 hg hm hv (pa_cons ha pa_nil hs) hn hdb hs) (call_formN h2)
end
end Fm

/-! ### isinstance, dicts, names, calls of the text's own defs -/
namespace Fm
open PySem PySem.Spec PyProof.Rows L2
section
variable {P : Pm} {X : Cx} {a b c : Expr} {pos p1 p2 : Pos} {fa fb fc : Rho → Tw → Res D}
theorem tup_ty {K : PySem.W.Frag} {H : Hp} {p : Addr} {xs : List V} (h : SqT K H p xs) : TyX K H (.ref p) (.type "tuple") := by
  rcases h with (h | ⟨o, h⟩) | ⟨o, its, n, h1, h2, _⟩
  · exact .base (.tup h)
  · exact .fTuple h
  · exact .kTuple h1 h2
theorem isa_of {F : Hp} {r : Rho} {t : Tw} {σ : L2.St} {H : Hp} {x : V} {dx : D} {T : Ty} {k : Bool} (R : RelP P F r t σ H) (rx : RpB P F r σ x dx) (e : isaD dx T = some k) : ∃ t, TyX P.K H x t ∧ PySem.W.kitOne P.K t (.type T.name) = some k := by
  cases dx with
  | non =>
    cases rx.rp R (fun _ z => by cases z) (fun _ z => by cases z)
    refine ⟨_, .base .non, ?_⟩
    cases T <;> cases e <;> exact kit_ty (by decide +kernel)
  | bl z =>
    obtain rfl := rx.bl R
    refine ⟨_, .base (.bl _), ?_⟩
    cases T <;> cases e <;> exact kit_ty (by decide +kernel)
  | int z =>
    obtain rfl := rx.int R
    refine ⟨_, .base (.int _), ?_⟩
    cases T <;> cases e <;> exact kit_ty (by decide +kernel)
  | str z =>
    obtain rfl := rx.str R
    refine ⟨_, .base (.str _), ?_⟩
    cases T <;> cases e <;> exact kit_ty (by decide +kernel)
  | tup z =>
    obtain ⟨p, xs, rfl, h, _, _⟩ := rx.tup R
    refine ⟨_, tup_ty (sqT_mono R.sub h), ?_⟩
    cases T <;> cases e <;> exact kit_ty (by decide +kernel)
  | lst z =>
    obtain ⟨p, xs, rfl, h, _, _⟩ := rx.lst R
    refine ⟨_, .base (.lst h), ?_⟩
    cases T <;> cases e <;> exact kit_ty (by decide +kernel)
  | dct z => cases T <;> cases e
  | dcn z => cases T <;> cases e
  | exc z => cases T <;> cases e
  | tok => cases T <;> cases e
  | scr => cases T <;> cases e
def Ty.nm (T : Ty) : Str := Str.ofString T.name
theorem Ty.boot (T : Ty) : bootBuiltins T.nm = some (.type T.name) := by
  cases T
  · exact PyProof.Rows.boot_int
  · exact PyProof.Rows.boot_bool
  · exact PyProof.Rows.boot_str
  · exact PyProof.Rows.boot_tuple
  · exact PyProof.Rows.boot_list
theorem s_isa (hK : X.K = P.K) {T : Ty} (hg : Gl X "isinstance") (hm : X.mg "isinstance" = none) (hgT : Gl X T.nm) (hmT : X.mg T.nm = none) (ha : PE X a (tB P fa))
    (hs : starEach [a, .Name T.nm p2] X.env = (false, eval a X.env) :: starEach [.Name T.nm p2] X.env) :
    PE X (.Call (.Name "isinstance" p1) [a, .Name T.nm p2] [] pos) (tD P fun r t => (fa r t).bind fun x t1 => Fm.lift ((isaD x T).map D.bl) t1) := by
  have hT : PE X (.Name T.nm p2) (tC (.ty T.name)) := pe_bltn hgT hmT T.boot rfl (by cases T <;> decide) (by cases T <;> decide)
  refine peMono (pe_callB call_isi hg hm PyProof.Rows.boot_isinstance (pa_cons ha (pa_cons hT pa_nil rfl) hs) (by decide) (by decide) hs (by rfl)) fun σ H Q ⟨F, r, t, R, h⟩ => ⟨F, r, t, R, h.bind.mono fun d t1 h v F1 H1 s1 R1 rv => ?_⟩
  obtain ⟨d2, e, q⟩ := h.lift
  obtain ⟨k, e1, rfl⟩ := Option.map_eq_some_iff.mp e
  obtain ⟨ty, h1, h2⟩ := isa_of R1 rv e1
  exact ⟨v, .ty T.name, ty, .type T.name, k, rfl, .ty _, by rw [hK]; exact h1, by rw [hK]; exact h2, q _ _ _ s1 R1 (.bl _)⟩
/-! ### dicts -/
theorem RpK.look {K : PySem.W.Frag} {T : Tn} {F : Hp} (k : Key) : ∀ {kvs : List (Key × V)} {es : List (Key × D)}, RpK K T F kvs es → (∃ v d, valV kvs k = some v ∧ lookD es k = some d ∧ Rp K T F v d) ∨ (valV kvs k = none ∧ lookD es k = none)
  | _, _, .nil => .inr ⟨rfl, rfl⟩
  | _, _, @RpK.cons _ _ _ k' v kvs d es h q => by
    by_cases e : k' = k
    · refine .inl ⟨v, d, valV_pos e, ?_, h⟩
      simp [lookD, List.find?_cons, e]
    · rcases RpK.look k q with ⟨v2, d2, h1, h2, h3⟩ | ⟨h1, h2⟩
      · refine .inl ⟨v2, d2, by rw [valV_neg e]; exact h1, ?_, h3⟩
        simpa [lookD, List.find?_cons, e] using h2
      · refine .inr ⟨by rw [valV_neg e]; exact h1, ?_⟩
        simpa [lookD, List.find?_cons, e] using h2
theorem RpK.any {K : PySem.W.Frag} {T : Tn} {F : Hp} (k : Key) : ∀ {kvs : List (Key × V)} {es : List (Key × D)}, RpK K T F kvs es → (kvs.any fun kv => decide (kv.1 = k)) = es.any fun kv => decide (kv.1 = k)
  | _, _, .nil => rfl
  | _, _, .cons h q => by simp only [List.any_cons, RpK.any k q]
theorem RpK.repl {K : PySem.W.Frag} {T : Tn} {F : Hp} {v : V} {d : D} (k : Key) (h : Rp K T F v d) : ∀ {kvs : List (Key × V)} {es : List (Key × D)}, RpK K T F kvs es →
    RpK K T F (kvs.map fun kv => if kv.1 = k then (kv.1, v) else kv) (es.map fun kv => if kv.1 = k then (kv.1, d) else kv)
  | _, _, .nil => .nil
  | _, _, @RpK.cons _ _ _ k' v' kvs d' es h' q => by
    simp only [List.map_cons]
    by_cases e : k' = k
    · rw [if_pos e, if_pos e]
      exact .cons h (RpK.repl k h q)
    · rw [if_neg e, if_neg e]
      exact .cons h' (RpK.repl k h q)
theorem RpK.snoc {K : PySem.W.Frag} {T : Tn} {F : Hp} {v : V} {d : D} (k : Key) (h : Rp K T F v d) : ∀ {kvs : List (Key × V)} {es : List (Key × D)}, RpK K T F kvs es → RpK K T F (kvs ++ [(k, v)]) (es ++ [(k, d)])
  | _, _, .nil => .cons h .nil
  | _, _, .cons h' q => .cons h' (RpK.snoc k h q)
theorem RpK.put {K : PySem.W.Frag} {T : Tn} {F : Hp} {v : V} {d : D} (k : Key) (h : Rp K T F v d) {kvs : List (Key × V)} {es : List (Key × D)} (q : RpK K T F kvs es) : RpK K T F (L2.putK kvs k v) (putD es k d) := by
  unfold L2.putK putD
  rw [q.any k]
  split
  · exact q.repl k h
  · exact q.snoc k h
theorem key_of' {F : Hp} {r : Rho} {t : Tw} {σ : L2.St} {H : Hp} {x : V} {dx : D} {k : Key} (R : RelP P F r t σ H) (rx : RpB P F r σ x dx) (e : keyD dx = some k) : x = kV k := by
  cases dx with
  | int i =>
    cases e
    exact rx.int R
  | str i =>
    cases e
    exact rx.str R
  | _ => cases e
theorem dget_rd {H : Hp} {a : Addr} {kvs : List (Key × V)} {k : Key} (e : Rd H a (.dK kvs)) : DGet H a (kV k) (valV kvs k) := .inl ⟨kvs, k, e, rfl, rfl⟩
theorem s_dix (hu : X.A.units + 200 < cLine) (ha : PE X a (tB P fa)) (hb : PE X b (tB P fb)) (hs : PlainIx b) : PE X (.Subscript a b pos) (tD P fun r t => (fa r t).bind fun x t1 => (fb r t1).bind fun y t2 => Fm.lift (dixD x y) t2) := by
  refine peMono (pe_dget (by omega) ha hb hs) fun σ H Q h => op2 (P := P) (rr := fun x y H2 Q => ∃ a v, x = .ref a ∧ DGet H2 a y (some v) ∧ Q v H2) (fun {x y dx dy d F r t σ H Q} e R rx ry q => ?_) σ H Q h
  cases dx with
  | dct es =>
    obtain ⟨k, e1, e2⟩ := Option.bind_eq_some_iff.mp (show ((keyD dy).bind fun k => lookD es k) = some d from e)
    obtain ⟨p, kvs, rfl, h1, h2⟩ := rx.dct R
    obtain rfl := key_of' R ry e1
    rcases h2.look k with ⟨v, d2, h3, h4, h5⟩ | ⟨h3, h4⟩
    · rw [e2] at h4
      cases h4
      exact ⟨p, v, rfl, h3 ▸ dget_rd h1, q _ _ _ Kp.refl R h5⟩
    · rw [e2] at h4
      cases h4
  | _ => cases e
def getE (fa fb fc : Rho → Tw → Res D) (r : Rho) (t : Tw) : Res D := (fa r t).bind fun x t1 => match x with
    | .dct kvs => (fb r t1).bind fun y t2 => (fc r t2).bind fun z t3 => (match keyD y with
      | some k => .ok ((lookD kvs k).getD z) t3
      | none => .bad)
    | _ => .bad
theorem s_get (hu : X.A.units + 200 < cLine) (ha : PE X a (tB P fa)) (hb : PE X b (tB P fb)) (hc : PE X c (tD P fc)) (m : M2 X a "get" p1 b c pos) : PE X (.Call (.Attribute a "get" p1) [b, c] [] pos) (tD P (getE fa fb fc)) := by
  refine peMono (pe_dget2 (by omega) ha hb hc m) fun σ H Q ⟨F, r, t, R, h⟩ => ⟨F, r, t, R, h.bind.mono fun dx t1 h v F1 H1 s1 R1 rx => ?_⟩
  cases dx with
  | dct es =>
    obtain ⟨p, kvs, rfl, h1, h2⟩ := rx.dct R1
    have h : Aft P F ((fb r t1).bind fun y t2 => (fc r t2).bind fun z t3 => (match keyD y with
      | some k => .ok ((lookD es k).getD z) t3
      | none => .bad)) _ := h
    refine ⟨p, rfl, .inl ⟨kvs, h1⟩, F1, r, t1, R1, (h.up s1.1).bind.mono fun dy t2 h w F2 H2 s2 R2 ry => ⟨F2, r, t2, R2, (h.up s2.1).bind.mono fun dz t3 h u F3 H3 s3 R3 rz => ?_⟩⟩
    cases e : keyD dy with
    | none =>
      rw [e] at h
      exact h.elim
    | some k =>
      rw [e] at h
      have h : ∀ v F' H', Kp P.T F H F' H' → RelP P F' r t3 σ H' → Rp P.K P.T F' v ((lookD es k).getD dz) → Q v H' := h
      obtain ⟨p', kvs', e1, h1', h2'⟩ := (rx.mono (s2.trans s3).1).dct R3
      cases e1
      obtain rfl := key_of' R3 (ry.mono s3.1) e
      refine ⟨_, dget_rd h1', h _ _ _ (s1.trans (s2.trans s3)) R3 ?_⟩
      rcases h2'.look k with ⟨v, d2, h3, h4, h5⟩ | ⟨h3, h4⟩
      · rw [h3, h4]
        exact h5
      · rw [h3, h4]
        exact rz
  | _ => exact (show False from h).elim
/-! ### a dict of written texts and constants -/
def Cst.v : Cst → V
  | .non => .non
  | .bl b => .bl b
  | .int i => .int i
  | .str x => .str x
theorem Cst.rp {K : PySem.W.Frag} {T : Tn} {F : Hp} (c : Cst) : Rp K T F c.v c.d := by
  cases c
  · exact .non
  · exact .bl _
  · exact .int _
  · exact .str _
def Cst.k : Cst → Const
  | .non => .none
  | .bl b => .bool b
  | .int i => .int i
  | .str x => .str x
theorem pe_cst {k : Cst} {j : Nat} : PE X (.Constant k.k j pos) (tC k.v) := by
  cases k
  · exact pe_non
  · exact pe_bl
  · exact pe_int
  · exact pe_str
theorem s_cst {k : Cst} {j : Nat} : PE X (.Constant k.k j pos) (tD P fun _ t => .ok k.d t) := peMono pe_cst fun σ H Q ⟨F, r, t, R, q⟩ => q _ _ _ Kp.refl R k.rp
/-- keys and values as they are written -/
inductive DspIs : List (Str × Cst) → List (Option Expr) → List Expr → Prop
  | nil : DspIs [] [] []
  | cons {x : Str} {c : Cst} {kvs : List (Str × Cst)} {ks : List (Option Expr)} {vs : List Expr} {j j' : Nat} {q q' : Pos} : DspIs kvs ks vs → DspIs ((x, c) :: kvs) (some (.Constant (.str x) j q) :: ks) (.Constant c.k j' q' :: vs)
theorem DspIs.pps {kvs : List (Str × Cst)} {ks : List (Option Expr)} {vs : List Expr} (h : DspIs kvs ks vs) : PPs X pos ks vs (kvs.map fun p => (tC (.str p.1), tC p.2.v)) := by
  induction h with
  | nil => exact pps_nil
  | cons h ih => exact pps_cons pe_str pe_cst ih
theorem DspIs.all {kvs : List (Str × Cst)} {ks : List (Option Expr)} {vs : List Expr} (h : DspIs kvs ks vs) : ks.all (·.isSome) = true ∧ ks.length = kvs.length ∧ vs.length = kvs.length := by
  induction h with
  | nil => exact ⟨rfl, rfl, rfl⟩
  | cons h ih => exact ⟨by simp [ih.1], by simp [ih.2.1], by simp [ih.2.2]⟩
theorem tPairs_cst {σ : L2.St} {H : Hp} : ∀ {kvs : List (Str × Cst)} {Q : List (V × V) → Hp → Prop}, Q (kvs.map fun p => (V.str p.1, p.2.v)) H → tPairs (kvs.map fun p => (tC (.str p.1), tC p.2.v)) σ H Q
  | [], _, h => h
  | p :: r, Q, h => tPairs_cst (kvs := r) (Q := fun ps H3 => Q ((V.str p.1, p.2.v) :: ps) H3) h
theorem merge_rel {K : PySem.W.Frag} {T : Tn} {F : Hp} : ∀ {l : List (Str × Cst)} {kvs : List (Key × V)} {es : List (Key × D)}, RpK K T F kvs es →
    RpK K T F (mergeK kvs (l.map fun p => (Sum.inr p.1, p.2.v))) (mergeD es (l.map fun p => (p.1, p.2.d)))
  | [], _, _, q => q
  | p :: r, _, _, q => merge_rel (l := r) (q.put (Sum.inr p.1) p.2.rp)
theorem n_dsp {kvs : List (Str × Cst)} {ks : List (Option Expr)} {vs : List Expr} (h : DspIs kvs ks vs) : PE X (.Dict ks vs pos) (tN P fun _ t => if decide (kvs.length ≤ 15) then .ok (.dct (mergeD [] (kvs.map fun p => (p.1, p.2.d)))) t else .bad) := by
  obtain ⟨a1, a2, a3⟩ := h.all
  by_cases hl : kvs.length ≤ 15
  · obtain rfl | hne : kvs = [] ∨ kvs ≠ [] := by
      cases kvs with
      | nil => exact .inl rfl
      | cons => exact .inr (List.cons_ne_nil _ _)
    · cases h
      refine peMono pe_dnewK fun σ H Q ⟨F, r, t, R, q⟩ p hp => ?_
      have q : ∀ v F' H' p, Kp P.T F H F' H' → RelP P F' r t σ H' → Nn H p → Fre P F' r σ H' v (.dct []) p → Q v H' := q
      obtain ⟨R2, k2, fr⟩ := mkNew (o := .dK []) (d := .dct []) R hp ⟨[], upd_same, Nat.zero_le _, .nil⟩
      exact q _ _ _ p k2 R2 (.of hp) fr
    · have h0 : ks ≠ [] := fun e => hne (List.length_eq_zero_iff.mp (by rw [← a2, e]; rfl))
      refine peMono (pe_disp h.pps a1 (a2.trans a3.symm) h0 (by rw [a2]; exact hl)) fun σ H Q ⟨F, r, t, R, q⟩ p hp => ?_
      dsimp only at q
      rw [decide_eq_true hl] at q
      have q : ∀ v F' H' p, Kp P.T F H F' H' → RelP P F' r t σ H' → Nn H p → Fre P F' r σ H' v (.dct (mergeD [] (kvs.map fun p => (p.1, p.2.d)))) p → Q v H' := q
      refine tPairs_cst ⟨upd_same, kvs.map (fun p => (Sum.inr p.1, p.2.v)), by simp [kV], by simpa using hl, ?_⟩
      rw [upd_upd]
      obtain ⟨R2, k2, fr⟩ := mkNew (o := .dK (mergeK [] (kvs.map fun p => (Sum.inr p.1, p.2.v)))) (d := .dct (mergeD [] (kvs.map fun p => (p.1, p.2.d)))) R hp
        ⟨_, upd_same, by have := length_mergeK (kvs.map fun p => (Sum.inr p.1, p.2.v)) []; rw [sizeLine_eq]; simp at this; omega, merge_rel .nil⟩
      exact q _ _ _ p k2 R2 (.of hp) fr
  · exact peMono (t := fun _ _ _ => False) ⟨fun _ _ _ _ _ _ z => False.elim z⟩ fun σ H Q ⟨F, r, t, R, q⟩ => by
      dsimp only at q
      rw [decide_eq_false hl] at q
      exact q
/-! ### names -/
theorem s_var {i : Nat} {x : Str} (hN : X.N[i]? = some x) (hv : Vis X.env.scope x) (hd : (x == ("__debug__" : Str)) = false) (hcd : (x == ("__classdict__" : Str)) = false) :
    PE X (.Name x pos) (tD P fun r t => match r[i]? with
      | some (.val d) => .ok d t
      | _ => .bad) := by
  refine peMono (pe_var hN hv hd hcd) fun σ H Q ⟨F, r, t, R, q⟩ => ?_
  dsimp only at q
  cases e : r[i]? with
  | none =>
    rw [e] at q
    exact q.elim
  | some s =>
    rw [e] at q
    cases s with
    | val d =>
      obtain ⟨v, e1, h⟩ := R.val i d e
      exact ⟨v, e1, q v F H Kp.refl R h⟩
    | _ => exact q.elim
theorem b_var {i : Nat} {x : Str} (hN : X.N[i]? = some x) (hv : Vis X.env.scope x) (hd : (x == ("__debug__" : Str)) = false) (hcd : (x == ("__classdict__" : Str)) = false) :
    PE X (.Name x pos) (tB P fun r t => match r[i]? with
      | some (.val d) => .ok d t
      | some (.own d) => .ok d t
      | _ => .bad) := by
  refine peMono (pe_var hN hv hd hcd) fun σ H Q ⟨F, r, t, R, q⟩ => ?_
  dsimp only at q
  cases e : r[i]? with
  | none =>
    rw [e] at q
    exact q.elim
  | some s =>
    rw [e] at q
    cases s with
    | val d =>
      obtain ⟨v, e1, h⟩ := R.val i d e
      exact ⟨v, e1, q v F H Kp.refl R (.inl h)⟩
    | own d =>
      obtain ⟨p, e1, h⟩ := R.own i d e
      exact ⟨_, e1, q _ F H Kp.refl R (.inr ⟨i, e, e1⟩)⟩
    | _ => exact q.elim
theorem s_glob {x : Str} {v : V} {u : Value} {d : D} (hg : Gl X x) (hm : X.mg x = some u) (rv : RelV v u) (h : Rp P.K P.T (fun _ => none) v d) (hd : (x == ("__debug__" : Str)) = false) : PE X (.Name x pos) (tD P fun _ t => .ok d t) :=
  peMono (pe_glob hg hm rv hd) fun σ H Q ⟨F, r, t, R, q⟩ => q v F H Kp.refl R (h.mono fun _ _ z => by cases z)
end
end Fm

/-! ### targets, what is walked, comprehensions -/
namespace Fm
open PySem PySem.Spec PyProof.Rows L2
/-- only these slots have changed -/
def Chg (is : List Nat) (σ σ' : L2.St) : Prop := σ'.length = σ.length ∧ ∀ j, j ∉ is → σ'[j]? = σ[j]?
theorem Chg.refl {is : List Nat} {σ : L2.St} : Chg is σ σ := ⟨rfl, fun _ _ => rfl⟩
theorem Chg.trans {is js : List Nat} {σ σ1 σ2 : L2.St} (a : Chg is σ σ1) (b : Chg js σ1 σ2) : Chg (is ++ js) σ σ2 :=
  ⟨b.1.trans a.1, fun j h => (b.2 j fun z => h (List.mem_append_right _ z)).trans (a.2 j fun z => h (List.mem_append_left _ z))⟩
theorem wipe_get (σ : L2.St) (j : Nat) : ∀ vs : List Nat, (wipe σ vs)[j]? = if j ∈ vs ∧ j < σ.length then some none else σ[j]?
  | [] => by simp [wipe]
  | v :: vs => by
    unfold wipe
    rw [List.getElem?_set, wipe_get σ j vs, wipe_length]
    by_cases h : v = j
    · subst h
      by_cases hl : v < σ.length
      · simp [hl]
      · simp [hl]
    · simp [h, Ne.symm h]
theorem Chg.wipe {is vs : List Nat} {σ σ' : L2.St} (c : Chg is σ σ') (h : ∀ i ∈ is, i ∈ vs) : wipe σ' vs = wipe σ vs := by
  refine List.ext_getElem? fun j => ?_
  rw [wipe_get, wipe_get, c.1]
  by_cases hj : j ∈ vs
  · by_cases hl : j < σ.length
    · simp [hj, hl]
    · simp only [hj, hl, and_false, if_false]
      rw [List.getElem?_eq_none (by rw [c.1]; omega), List.getElem?_eq_none (by omega)]
  · simp only [hj, false_and, if_false]
    exact c.2 j fun z => hj (h j z)
section
variable {P : Pm} {X : Cx} {a b c : Expr} {pos p1 p2 : Pos} {fa fb fc : Rho → Tw → Res D}
def gT (P : Pm) (tg : Tg) : TG := fun v σ H Q => ∃ F r t d r', RelP P F r t σ H ∧ Rp P.K P.T F v d ∧ setT tg d r = some r' ∧ ∀ σ', RelP P F r' t σ' H → Chg tg.slots σ σ' → Q σ' H
def gTs (P : Pm) (ts : Tgs) : TGs := fun vs σ H Q => ∃ F r t ds r', RelP P F r t σ H ∧ RpL P.K P.T F vs ds ∧ setTs ts ds r = some r' ∧ ∀ σ', RelP P F r' t σ' H → Chg ts.slots σ σ' → Q σ' H
theorem pgMono {tg : Expr} {t u : TG} (h : PG X tg t) (i : ∀ v σ H Q, u v σ H Q → t v σ H Q) : PG X tg u := ⟨fun pins s σ H v w Q I r q => h.run pins s σ H v w Q I r (i v σ H Q q)⟩
theorem pgsMono {tg : List Expr} {t u : TGs} (h : PGs X tg t) (i : ∀ v σ H Q, u v σ H Q → t v σ H Q) : PGs X tg u := ⟨fun pins s σ H v w Q I r q => h.run pins s σ H v w Q I r (i v σ H Q q)⟩
theorem g_name {i : Nat} {x : Str} (hN : X.N.Nodup) (hi : X.N[i]? = some x) (hx : Loc X.env.scope x) (hf : X.fn x = true ∨ X.env.scope.names.lookup x = some .local) : PG X (.Name x pos) (gT P (.name i)) := by
  refine pgMono (pg_name hN hi hx hf) fun v σ H Q ⟨F, r, t, d, r', R, rv, e, q⟩ => ?_
  simp only [setT] at e
  split at e
  · cases e
    refine q _ (R.setVal rv) ⟨by simp, fun j h => ?_⟩
    exact List.getElem?_set_ne (fun z => h (by simp [Tg.slots, z]))
  · cases e
theorem g_nil : PGs X [] (gTs P .nil) := pgsMono pgs_nil fun v σ H Q ⟨F, r, t, ds, r', R, rv, e, q⟩ => by
  cases rv with
  | nil =>
    cases e
    exact ⟨rfl, q σ R Chg.refl⟩
  | cons _ _ => cases e
theorem g_cons {e : Expr} {es : List Expr} {tg : Tg} {ts : Tgs} (h1 : PG X e (gT P tg)) (h2 : PGs X es (gTs P ts)) (hs : (assignEach (e :: es) X.env).map (·.2) = assign e X.env :: (assignEach es X.env).map (·.2)) : PGs X (e :: es) (gTs P (.cons tg ts)) :=
  pgsMono (pgs_cons h1 h2 hs) fun v σ H Q ⟨F, r, t, ds, r', R, rv, e, q⟩ => by
    cases rv with
    | nil => cases e
    | @cons v vs d ds h hr =>
      obtain ⟨r1, e1, e2⟩ := Option.bind_eq_some_iff.mp (show ((setT tg d r).bind fun r1 => setTs ts ds r1) = some r' from e)
      exact ⟨v, vs, rfl, F, r, t, d, r1, R, h, e1, fun σ1 R1 c1 => ⟨F, r1, t, ds, r', R1, hr, e2, fun σ2 R2 c2 => q σ2 R2 (c1.trans c2)⟩⟩
theorem setTs_len : ∀ {ts : Tgs} {ds : List D} {r r' : Rho}, setTs ts ds r = some r' → ∀ {n : Nat}, (∀ ds r r', setTs ts ds r = some r' → ds.length = n) → ds.length = n := fun h n k => k _ _ _ h
def Tgs.count : Tgs → Nat
  | .nil => 0
  | .cons _ ts => ts.count + 1
theorem setTs_count : ∀ {ts : Tgs} {ds : List D} {r r' : Rho}, setTs ts ds r = some r' → ds.length = ts.count
  | .nil, [], _, _, _ => rfl
  | .nil, _ :: _, _, _, h => by cases h
  | .cons _ _, [], _, _, h => by cases h
  | .cons t ts, d :: ds, r, r', h => by
    obtain ⟨r1, e1, e2⟩ := Option.bind_eq_some_iff.mp (show ((setT t d r).bind fun r1 => setTs ts ds r1) = some r' from h)
    show ds.length + 1 = ts.count + 1
    rw [setTs_count e2]
theorem g_tup {es : List Expr} {k : Nat} {ts : Tgs} (hK : X.K = P.K) (hc : X.calm = true) (h : PGs X es (gTs P ts)) (hn : (assignEach es X.env).length = ts.count) (hst : (assignEach es X.env).findIdx? (·.1) = none) :
    PG X (.Tuple es k pos) (gT P (.tup ts)) :=
  pgMono (pg_tup hc h hn hst) fun v σ H Q ⟨F, r, t, d, r', R, rv, e, q⟩ => by
    cases d with
    | tup ds =>
      cases rv with
      | @tup p xs ds h1 z h2 =>
        have e : setTs ts ds r = some r' := by simpa only [setT] using e
        rw [hK]
        exact ⟨p, xs, rfl, sqT_mono R.sub h1, by rw [h2.length]; exact setTs_count e, F, r, t, ds, r', R, h2, e, q⟩
    | _ => simp [setT] at e
/-! ### what is walked -/
structure WD (P : Pm) (J : It) (G : Hp → Prop) (F : Hp) (ds : List D) : Prop where
  goes : ∀ i H, i < ds.length → G H → J.go i H
  stops : ∀ H, G H → J.stop ds.length H
  yields : ∀ i H x H' d, ds[i]? = some d → G H → J.yld i H x H' → (H' = H ∧ Rp P.K P.T F x d) ∨ ∃ p xs es, x = .ref p ∧ H p = none ∧ H' = upd H p (.tup xs) ∧ d = .tup es ∧ xs.length ≤ sizeLine ∧ RpL P.K P.T F xs es
def keepG (P : Pm) (F H : Hp) (H2 : Hp) : Prop := Same F H2 ∧ ∀ a o, H a = some o → a ≠ P.T.a → a ≠ P.T.b → NT o → H2 a = some o
/-- G: what must stand while it is walked -/
def tI (P : Pm) (fz : Bool) (f : Rho → Tw → Res (List D)) : TI := fun σ H Q => ∃ F r t, RelP P F r t σ H ∧ Aft P F (f r t) fun ds t' => ∀ J F' H', Kp P.T F H F' H' → RelP P F' r t' σ H' →
  WD P J (if fz then Same F' else keepG P F' H') F' ds → Q J H'
theorem piMono {tg e : Expr} {t u : TI} (h : PI X tg e t) (i : ∀ σ H Q, u σ H Q → t σ H Q) : PI X tg e u := ⟨fun pins s σ H Q I q => h.run pins s σ H Q I (i σ H Q q)⟩
theorem WD.weak {J : It} {G G' : Hp → Prop} {F : Hp} {ds : List D} (w : WD P J G F ds) (h : ∀ H, G' H → G H) : WD P J G' F ds :=
  ⟨fun i H hi g => w.goes i H hi (h H g), fun H g => w.stops H (h H g), fun i H x H' d e g y => w.yields i H x H' d e (h H g) y⟩
theorem WD.fz {J : It} {F H : Hp} {ds : List D} (w : WD P J (Same F) F ds) (b : Bool) : WD P J (if b then Same F else keepG P F H) F ds := by
  cases b
  · exact w.weak fun H g => g.1
  · exact w
/-- a list, a tuple, a text -/
theorem pi_seq {tg : Expr} {tl : TE} (hl : PE X a tl) : PI X tg a (fun σ H R => tl σ H fun x H1 => (∃ p, x = .ref p ∧ (∃ xs, SqL X.K H1 p xs) ∧ R (Itl X.K p) H1) ∨ (∃ p, x = .ref p ∧ (∃ xs, SqT X.K H1 p xs) ∧ R (Itt X.K p) H1) ∨ ∃ z, x = .str z ∧ R (Its z) H1) := by
  constructor
  intro pins s σ H R I h
  have run := hl.run pins s σ H _ I h
  refine thn run fun v s1 ⟨_, H1, I1, rel, q⟩ => ?_
  rcases q with ⟨p, rfl, ⟨_, seq⟩, q⟩ | ⟨p, rfl, ⟨_, seq⟩, q⟩ | ⟨z, rfl, q⟩
  · cases rel
    have ⟨_, _, l, _⟩ := I1.list seq
    exact wpAny_pyIter_list l.isList (pi_one (tk := s1.toks) I1 _ (turn_list p _) ⟨_, Heap.get?_push_size _ rfl, rfl, rfl⟩ q)
  · cases rel
    have ⟨_, _, t, _⟩ := I1.tuple seq
    exact wpAny_pyIter_tuple t (pi_one (tk := s1.toks) I1 _ (turn_tuple p _) ⟨_, Heap.get?_push_size _ rfl, rfl, rfl⟩ q)
  · obtain ⟨t, rfl⟩ := rel
    cases narrow : z.cps.all (· < 128)
    · exact wpAny_pyIter_wide narrow (pi_one (tk := s1.toks) I1 _ (turn_str _ z t "str_iterator" (.inr rfl)) ⟨_, Heap.get?_push_size _ rfl, rfl, rfl⟩ q)
    · exact wpAny_pyIter_ascii narrow (pi_one (tk := s1.toks) I1 _ (turn_str _ z t "str_ascii_iterator" (.inl rfl)) ⟨_, Heap.get?_push_size _ rfl, rfl, rfl⟩ q)
theorem wd_at {J : It} {n : Nat} {G : Hp → Prop} {F : Hp} {xs : List V} {ds : List D} (w : Walk J xs.length G (YAt xs)) (q : RpL P.K P.T F xs ds) : WD P J G F ds := by
  refine ⟨fun i H hi g => w.goes i H (by rw [q.length]; exact hi) g, fun H g => by rw [← q.length]; exact w.stops H g, fun i H x H' d e g y => .inl ?_⟩
  obtain ⟨v, e1, r1⟩ := q.get e
  have hi : i < xs.length := (List.getElem?_eq_some_iff.mp e1).1
  obtain ⟨h1, h2⟩ := w.yields i H x H' hi g y
  rw [e1] at h2
  cases h2
  exact ⟨h1, r1⟩
theorem wd_lst {F : Hp} {p : Addr} {xs : List V} {ds : List D} {K : PySem.W.Frag} (hK : K = P.K) (h : F p = some (.lst xs)) (q : RpL P.K P.T F xs ds) : WD P (Itl K p) (Same F) F ds :=
  wd_at (n := 0) (walk_list.mono (fun H g => SqL.of (g _ _ h)) fun i H x H' _ _ y => y) q
theorem wd_lstO {F H : Hp} {p : Addr} {xs : List V} {ds : List D} {K : PySem.W.Frag} (hK : K = P.K) (h : H p = some (.lst xs)) (n1 : p ≠ P.T.a) (n2 : p ≠ P.T.b) (q : RpL P.K P.T F xs ds) : WD P (Itl K p) (keepG P F H) F ds :=
  wd_at (n := 0) (walk_list.mono (fun H g => SqL.of (g.2 _ _ h n1 n2 (by intro _ z; cases z))) fun i H x H' _ _ y => y) q
theorem wd_tup {F : Hp} {p : Addr} {xs : List V} {ds : List D} {K : PySem.W.Frag} (hK : K = P.K) (h : SqT K F p xs) (q : RpL P.K P.T F xs ds) : WD P (Itt K p) (Same F) F ds :=
  wd_at (n := 0) (walk_tup.mono (fun H g => sqT_mono g h) fun i H x H' _ _ y => y) q
theorem wd_str {F : Hp} {z : Str} : WD P (Its z) (Same F) F (strD z) := by
  have hl : (strD z).length = z.cps.size := by simp [strD]
  have w := walk_str (z := z)
  refine ⟨fun i H hi g => w.goes i H (by rw [← hl]; exact hi) trivial, fun H g => by rw [hl]; exact w.stops H trivial, fun i H x H' d e g y => .inl ?_⟩
  have hi : i < z.cps.size := by
    rw [← hl]
    exact (List.getElem?_eq_some_iff.mp e).1
  obtain ⟨h1, c, h2, rfl⟩ := w.yields i H x H' hi trivial y
  refine ⟨h1, ?_⟩
  have e2 : (strD z)[i]? = some (.str ⟨#[c]⟩) := by
    unfold strD
    rw [List.getElem?_map, Array.getElem?_toList, h2]
    rfl
  rw [e2] at e
  cases e
  exact .str _
def evV (f : Rho → Tw → Res D) (r : Rho) (t : Tw) : Res (List D) := (f r t).bind fun x t1 => match x with
    | .tup xs => .ok xs t1
    | .lst xs => .ok xs t1
    | .str x => .ok (strD x) t1
    | _ => .bad
theorem i_val {tg : Expr} (hK : X.K = P.K) (ha : PE X a (tD P fa)) : PI X tg a (tI P true (evV fa)) := piMono (pi_seq ha) fun σ H Q ⟨F, r, t, R, h⟩ => ⟨F, r, t, R, h.bind.mono fun d t' h v F' H' s R' rv => by
  cases d with
  | tup ds =>
    cases rv with
    | @tup p xs ds h1 z h2 => exact .inr (.inl ⟨p, rfl, ⟨xs, by rw [hK]; exact sqT_mono R'.sub h1⟩, h _ _ _ s R' (wd_tup hK (by rw [hK]; exact h1) h2)⟩)
  | lst ds =>
    cases rv with
    | @lst p xs ds h1 z h2 => exact .inl ⟨p, rfl, ⟨xs, SqL.of (R'.sub _ _ h1)⟩, h _ _ _ s R' (wd_lst hK h1 h2)⟩
  | str z =>
    cases rv
    exact .inr (.inr ⟨z, rfl, h _ _ _ s R' wd_str⟩)
  | _ => exact (show False from h).elim⟩
theorem i_bor {tg : Expr} (hK : X.K = P.K) (ha : PE X a (tB P fa)) : PI X tg a (tI P false (evV fa)) := piMono (pi_seq ha) fun σ H Q ⟨F, r, t, R, h⟩ => ⟨F, r, t, R, h.bind.mono fun d t' h v F' H' s R' rv => by
  cases d with
  | tup ds =>
    obtain ⟨p, xs, rfl, h1, z, h2⟩ := rv.tup R'
    exact .inr (.inl ⟨p, rfl, ⟨xs, by rw [hK]; exact sqT_mono R'.sub h1⟩, h _ _ _ s R' ((wd_tup hK (by rw [hK]; exact h1) h2).fz false)⟩)
  | lst ds =>
    obtain ⟨p, xs, rfl, h1, z, h2⟩ := rv.lst R'
    have n1 : p ≠ P.T.a := fun e => by
      rw [e, R'.tw.a] at h1
      cases h1
    have n2 : p ≠ P.T.b := fun e => by
      rw [e, R'.tw.b] at h1
      cases h1
    exact .inl ⟨p, rfl, ⟨xs, SqL.of h1⟩, h _ _ _ s R' (wd_lstO hK h1 n1 n2 h2)⟩
  | str z =>
    obtain rfl := rv.str R'
    exact .inr (.inr ⟨z, rfl, h _ _ _ s R' (wd_str.fz false)⟩)
  | _ => exact (show False from h).elim⟩
theorem wd_rng {F : Hp} {lo : Int} {n : Nat} : WD P (Itr lo n) (Same F) F (rngD lo n) := by
  have hl : (rngD lo n).length = n := by simp [rngD]
  refine ⟨fun i H hi g => (by rw [hl] at hi; exact hi), fun H g => (by rw [hl]; exact Nat.le_refl _), fun i H x H' d e g y => .inl ?_⟩
  obtain ⟨h1, h2⟩ := y
  refine ⟨h1, ?_⟩
  have hi : i < n := by
    rw [← hl]
    exact (List.getElem?_eq_some_iff.mp e).1
  have e2 : (rngD lo n)[i]? = some (.int (lo + (i : Nat))) := by
    unfold rngD
    rw [List.getElem?_map, List.getElem?_range hi]
    rfl
  rw [e2] at e
  cases e
  rw [h2]
  exact .int _
theorem okRng_of {i : Int} (h : okRng i = true) : -(2 ^ 62) ≤ i ∧ i < 2 ^ 62 := by
  have := Bool.and_eq_true_iff.mp h
  exact ⟨of_decide_eq_true this.1, of_decide_eq_true this.2⟩
theorem i_rng1 {tg : Expr} {fz : Bool} (hg : Gl X "range") (hm : X.mg "range" = none) (ha : PE X a (tB P fa)) (hs : starEach [a] X.env = (false, eval a X.env) :: starEach [] X.env) :
    PI X tg (.Call (.Name "range" p1) [a] [] pos) (tI P fz fun r t => (fa r t).bind fun x t1 => match x with
    | .int j => if okRng j then .ok (rngD 0 j.toNat) t1 else .bad
    | _ => .bad) := piMono (pi_range1 hg hm (pa_cons ha pa_nil hs) hs) fun σ H Q ⟨F, r, t, R, h⟩ => ⟨F, r, t, R, h.bind.mono fun d t' h v F' H' s R' rv => by
  cases d with
  | int j =>
    have h : Aft P F (if okRng j then .ok (rngD 0 j.toNat) t' else .bad) _ := h
    split at h
    · rename_i hr
      obtain ⟨h1, h2⟩ := okRng_of hr
      exact ⟨j, by rw [rv.int R'], h1, h2, h _ _ _ s R' (wd_rng.fz fz)⟩
    · exact h.elim
  | _ => exact (show False from h).elim⟩
theorem i_rng2 {tg : Expr} {fz : Bool} (hg : Gl X "range") (hm : X.mg "range" = none) (ha : PE X a (tB P fa)) (hb : PE X b (tB P fb)) (hs : starEach [a, b] X.env = (false, eval a X.env) :: starEach [b] X.env) (hs2 : starEach [b] X.env = (false, eval b X.env) :: starEach [] X.env) :
    PI X tg (.Call (.Name "range" p1) [a, b] [] pos) (tI P fz fun r t => (fa r t).bind fun x t1 => (fb r t1).bind fun y t2 => match x, y with
    | .int i, .int j => if okRng i && okRng j then .ok (rngD i (j - i).toNat) t2 else .bad
    | _, _ => .bad) := piMono (pi_range2 hg hm (pa_cons ha (pa_cons hb pa_nil hs2) hs) (hs.trans (by rw [hs2]; rfl)) hs2) fun σ H Q ⟨F, r, t, R, h⟩ => ⟨F, r, t, R, h.bind.mono fun dx t1 h v F1 H1 s1 R1 rx => ⟨F1, r, t1, R1, (h.up s1.1).bind.mono fun dy t2 h w F2 H2 s2 R2 ry => by
  cases dx with
  | int i =>
    cases dy with
    | int j =>
      have h : Aft P F1 (if okRng i && okRng j then .ok (rngD i (j - i).toNat) t2 else .bad) _ := h
      split at h
      · rename_i hr
        have hr := Bool.and_eq_true_iff.mp hr
        obtain ⟨h1, h2⟩ := okRng_of hr.1
        obtain ⟨h3, h4⟩ := okRng_of hr.2
        exact ⟨i, j, by rw [rx.int R1, ry.int R2], ⟨h1, h2, h3, h4⟩, h _ _ _ (s1.trans s2) R2 (wd_rng.fz fz)⟩
      · exact h.elim
    | _ => exact (show False from h).elim
  | _ => exact (show False from h).elim⟩⟩
/-! zip, enumerate -/
theorem zipD_len : ∀ xs ys : List D, (zipD xs ys).length = min xs.length ys.length
  | [], ys => by simp [zipD]
  | _ :: _, [] => by simp [zipD]
  | x :: xs, y :: ys => by
    simp only [zipD, List.length_cons, zipD_len xs ys]
    omega
theorem zipD_get : ∀ {xs ys : List D} {i : Nat} {d : D}, (zipD xs ys)[i]? = some d → ∃ a b, xs[i]? = some a ∧ ys[i]? = some b ∧ d = .tup [a, b]
  | [], ys, i, d, h => by simp [zipD] at h
  | _ :: _, [], i, d, h => by simp [zipD] at h
  | x :: xs, y :: ys, 0, d, h => by
    simp only [zipD, List.getElem?_cons_zero, Option.some.injEq] at h
    exact ⟨x, y, rfl, rfl, h.symm⟩
  | x :: xs, y :: ys, i + 1, d, h => by
    simp only [zipD, List.getElem?_cons_succ] at h
    obtain ⟨a, b, h1, h2, h3⟩ := zipD_get h
    exact ⟨a, b, by simpa using h1, by simpa using h2, h3⟩
theorem two_line : (2 : Nat) ≤ sizeLine := by
  rw [sizeLine_eq]
  decide
theorem wd_pair {J : It} {n : Nat} {G : Hp → Prop} {F : Hp} {ds : List D} {f g : Nat → Option V} (w : Walk J n G (YPair f g)) (hl : ds.length = n)
    (h : ∀ i d, ds[i]? = some d → ∃ x y a b, f i = some x ∧ g i = some y ∧ d = .tup [a, b] ∧ Rp P.K P.T F x a ∧ Rp P.K P.T F y b) : WD P J G F ds := by
  refine ⟨fun i H hi g => w.goes i H (by rw [← hl]; exact hi) g, fun H g => by rw [hl]; exact w.stops H g, fun i H x H' d e g y => .inr ?_⟩
  have hi : i < n := by
    rw [← hl]
    exact (List.getElem?_eq_some_iff.mp e).1
  obtain ⟨T, x1, y1, h1, h2, h3, h4, h5⟩ := w.yields i H x H' hi g y
  obtain ⟨x2, y2, a, b, h6, h7, h8, h9, h10⟩ := h i d e
  rw [h4] at h6
  rw [h5] at h7
  cases h6
  cases h7
  exact ⟨T, [x1, y1], [a, b], h1, h2, h3, h8, two_line, .cons h9 (.cons h10 .nil)⟩
theorem zip_both {F : Hp} {xs ys : List V} {ds es : List D} (q1 : RpL P.K P.T F xs ds) (q2 : RpL P.K P.T F ys es) (i : Nat) (d : D) (e : (zipD ds es)[i]? = some d) :
    ∃ x y a b, xs[i]? = some x ∧ ys[i]? = some y ∧ d = .tup [a, b] ∧ Rp P.K P.T F x a ∧ Rp P.K P.T F y b := by
  obtain ⟨a, b, h1, h2, h3⟩ := zipD_get e
  obtain ⟨x, h4, h5⟩ := q1.get h1
  obtain ⟨y, h6, h7⟩ := q2.get h2
  exact ⟨x, y, a, b, h4, h6, h3, h5, h7⟩
def zipE (fa fb : Rho → Tw → Res D) (r : Rho) (t : Tw) : Res (List D) := (fa r t).bind fun x t1 => (fb r t1).bind fun y t2 => match x, y with
    | .tup xs, .tup ys => .ok (zipD xs ys) t2
    | .lst xs, .lst ys => .ok (zipD xs ys) t2
    | _, _ => .bad
theorem own_ne {F H : Hp} {r : Rho} {t : Tw} {σ : L2.St} {p : Addr} {xs : List V} (R : RelP P F r t σ H) (h1 : H p = some (.lst xs)) : p ≠ P.T.a ∧ p ≠ P.T.b := by
  refine ⟨fun e => ?_, fun e => ?_⟩
  · rw [e, R.tw.a] at h1
    cases h1
  · rw [e, R.tw.b] at h1
    cases h1
theorem walk_zipT {K : PySem.W.Frag} {a b : Addr} {xs ys : List V} {n : Nat} (hn : n = min xs.length ys.length) : Walk (RZ.ItzT K a b) n (fun H => SqT K H a xs ∧ SqT K H b ys) (YPair (fun i => xs[i]?) (fun i => ys[i]?)) where
  goes := fun i _ lt ⟨sa, sb⟩ =>
    have la : i < xs.length := by omega
    have lb : i < ys.length := by omega
    ⟨xs, ys, xs[i], ys[i], sa, sb, List.getElem?_eq_getElem la, List.getElem?_eq_getElem lb⟩
  stops := fun _ ⟨sa, sb⟩ => ⟨xs, ys, sa, sb, by omega⟩
  yields := fun _ _ _ _ _ ⟨sa, sb⟩ ⟨T, x, z, ev, new, eH, ia, ib⟩ => ⟨T, x, z, ev, new, eH, ia xs sa, ib ys sb⟩
theorem i_zipB {elts : List Expr} {kk : Nat} {tpos : Pos} (hK : X.K = P.K) (hg : Gl X "zip") (hm : X.mg "zip" = none) (ha : PE X a (tB P fa)) (hb : PE X b (tB P fb)) (hs : starEach [a, b] X.env = (false, eval a X.env) :: starEach [b] X.env) (hs2 : starEach [b] X.env = (false, eval b X.env) :: starEach [] X.env) :
    PI X (.Tuple elts kk tpos) (.Call (.Name "zip" p1) [a, b] [] pos) (tI P false (zipE fa fb)) :=
  piMono (RZ.pi_zipA hg hm (pa_cons ha (pa_cons hb pa_nil hs2) hs) hs (by rw [hs2]; rfl)) fun σ H Q ⟨F, r, t, R, h⟩ => ⟨F, r, t, R, h.bind.mono fun dx t1 h v F1 H1 s1 R1 rx => ⟨F1, r, t1, R1, (h.up s1.1).bind.mono fun dy t2 h w F2 H2 s2 R2 ry => by
    cases dx with
    | tup xs =>
      cases dy with
      | tup ys =>
        obtain ⟨p1, v1, rfl, e1, z1, q1⟩ := (rx.mono s2.1).tup R2
        obtain ⟨p2, v2, rfl, e2, z2, q2⟩ := ry.tup R2
        refine ⟨p1, p2, v1, v2, rfl, .inr ⟨by rw [hK]; exact sqT_mono R2.sub e1, by rw [hK]; exact sqT_mono R2.sub e2, h _ _ _ (s1.trans s2) R2 ?_⟩⟩
        refine (wd_pair (G := fun H => SqT X.K H p1 v1 ∧ SqT X.K H p2 v2) (walk_zipT (n := min v1.length v2.length) rfl) (by rw [zipD_len, q1.length, q2.length]) (zip_both q1 q2)).weak fun H g => ?_
        rw [hK]
        exact ⟨sqT_mono g.1 e1, sqT_mono g.1 e2⟩
      | _ => exact (show False from h).elim
    | lst xs =>
      cases dy with
      | lst ys =>
        obtain ⟨p1, v1, rfl, e1, z1, q1⟩ := (rx.mono s2.1).lst R2
        obtain ⟨p2, v2, rfl, e2, z2, q2⟩ := ry.lst R2
        have n1 := own_ne R2 e1
        have n2 := own_ne R2 e2
        refine ⟨p1, p2, v1, v2, rfl, .inl ⟨SqL.of e1, SqL.of e2, h _ _ _ (s1.trans s2) R2 ?_⟩⟩
        exact (wd_pair (walk_zip (n := min v1.length v2.length) rfl) (by rw [zipD_len, q1.length, q2.length]) (zip_both q1 q2)).weak fun H g => ⟨SqL.of (g.2 _ _ e1 n1.1 n1.2 (by intro _ z; cases z)), SqL.of (g.2 _ _ e2 n2.1 n2.2 (by intro _ z; cases z))⟩
      | _ => exact (show False from h).elim
    | _ => exact (show False from h).elim⟩⟩
theorem i_zip {elts : List Expr} {kk : Nat} {tpos : Pos} (hK : X.K = P.K) (hg : Gl X "zip") (hm : X.mg "zip" = none) (ha : PE X a (tD P fa)) (hb : PE X b (tD P fb)) (hs : starEach [a, b] X.env = (false, eval a X.env) :: starEach [b] X.env) (hs2 : starEach [b] X.env = (false, eval b X.env) :: starEach [] X.env) :
    PI X (.Tuple elts kk tpos) (.Call (.Name "zip" p1) [a, b] [] pos) (tI P true (zipE fa fb)) :=
  piMono (RZ.pi_zipA hg hm (pa_cons ha (pa_cons hb pa_nil hs2) hs) hs (by rw [hs2]; rfl)) fun σ H Q ⟨F, r, t, R, h⟩ => ⟨F, r, t, R, h.bind.mono fun dx t1 h v F1 H1 s1 R1 rx => ⟨F1, r, t1, R1, (h.up s1.1).bind.mono fun dy t2 h w F2 H2 s2 R2 ry => by
    have rx := rx.mono s2.1
    cases dx with
    | tup xs =>
      cases dy with
      | tup ys =>
        cases rx with
        | @tup p1 v1 _ e1 z1 q1 =>
        cases ry with
        | @tup p2 v2 _ e2 z2 q2 =>
        refine ⟨p1, p2, v1, v2, rfl, .inr ⟨by rw [hK]; exact sqT_mono R2.sub e1, by rw [hK]; exact sqT_mono R2.sub e2, h _ _ _ (s1.trans s2) R2 ?_⟩⟩
        refine (wd_pair (G := fun H => SqT X.K H p1 v1 ∧ SqT X.K H p2 v2) (walk_zipT (n := min v1.length v2.length) rfl) (by rw [zipD_len, q1.length, q2.length]) (zip_both q1 q2)).weak fun H g => ?_
        rw [hK]
        exact ⟨sqT_mono g e1, sqT_mono g e2⟩
      | _ => exact (show False from h).elim
    | lst xs =>
      cases dy with
      | lst ys =>
        cases rx with
        | @lst p1 v1 _ e1 z1 q1 =>
        cases ry with
        | @lst p2 v2 _ e2 z2 q2 =>
        refine ⟨p1, p2, v1, v2, rfl, .inl ⟨SqL.of (R2.sub _ _ e1), SqL.of (R2.sub _ _ e2), h _ _ _ (s1.trans s2) R2 ?_⟩⟩
        exact (wd_pair (walk_zip (n := min v1.length v2.length) rfl) (by rw [zipD_len, q1.length, q2.length]) (zip_both q1 q2)).weak fun H g => ⟨SqL.of (g _ _ e1), SqL.of (g _ _ e2)⟩
      | _ => exact (show False from h).elim
    | _ => exact (show False from h).elim⟩⟩
theorem enumD_get : ∀ {xs : List D} {k i : Nat} {d : D}, (enumD k xs)[i]? = some d → ∃ a, xs[i]? = some a ∧ d = .tup [.int ((k + i : Nat) : Int), a]
  | [], k, i, d, h => by simp [enumD] at h
  | x :: xs, k, 0, d, h => by
    simp only [enumD, List.getElem?_cons_zero, Option.some.injEq] at h
    exact ⟨x, rfl, h.symm⟩
  | x :: xs, k, i + 1, d, h => by
    simp only [enumD, List.getElem?_cons_succ] at h
    obtain ⟨a, h1, h2⟩ := enumD_get h
    refine ⟨a, by simpa using h1, ?_⟩
    rw [h2, show k + 1 + i = k + (i + 1) by omega]
theorem enumD_len : ∀ (xs : List D) (k : Nat), (enumD k xs).length = xs.length
  | [], _ => rfl
  | x :: xs, k => by simp only [enumD, List.length_cons, enumD_len xs]
theorem enum_one {F : Hp} {xs : List V} {ds : List D} (q1 : RpL P.K P.T F xs ds) (i : Nat) (d : D) (e : (enumD 0 ds)[i]? = some d) :
    ∃ x y a b, (some (V.int (i : Nat)) : Option V) = some x ∧ xs[i]? = some y ∧ d = .tup [a, b] ∧ Rp P.K P.T F x a ∧ Rp P.K P.T F y b := by
  obtain ⟨a, h1, h2⟩ := enumD_get e
  obtain ⟨x, h4, h5⟩ := q1.get h1
  refine ⟨_, x, _, a, rfl, h4, h2, ?_, h5⟩
  rw [Nat.zero_add]
  exact .int _
def enumE (fa : Rho → Tw → Res D) (r : Rho) (t : Tw) : Res (List D) := (fa r t).bind fun x t1 => match x with
    | .lst xs => .ok (enumD 0 xs) t1
    | _ => .bad
theorem i_enumB {elts : List Expr} {kk : Nat} {tpos : Pos} (hK : X.K = P.K) (hg : Gl X "enumerate") (hm : X.mg "enumerate" = none) (ha : PE X a (tB P fa)) (hs : starEach [a] X.env = (false, eval a X.env) :: starEach [] X.env) :
    PI X (.Tuple elts kk tpos) (.Call (.Name "enumerate" p1) [a] [] pos) (tI P false (enumE fa)) :=
  piMono (pi_enum hg hm (pa_cons ha pa_nil hs) hs) fun σ H Q ⟨F, r, t, R, h⟩ => ⟨F, r, t, R, h.bind.mono fun dx t1 h v F1 H1 s1 R1 rx => by
    cases dx with
    | lst xs =>
      obtain ⟨p1, v1, rfl, e1, z1, q1⟩ := rx.lst R1
      have n1 := own_ne R1 e1
      refine ⟨p1, v1, rfl, SqL.of e1, h _ _ _ s1 R1 ?_⟩
      exact (wd_pair walk_enum (by rw [enumD_len, q1.length]) (enum_one q1)).weak fun H g => SqL.of (g.2 _ _ e1 n1.1 n1.2 (by intro _ z; cases z))
    | _ => exact (show False from h).elim⟩
theorem i_enum {elts : List Expr} {kk : Nat} {tpos : Pos} (hK : X.K = P.K) (hg : Gl X "enumerate") (hm : X.mg "enumerate" = none) (ha : PE X a (tD P fa)) (hs : starEach [a] X.env = (false, eval a X.env) :: starEach [] X.env) :
    PI X (.Tuple elts kk tpos) (.Call (.Name "enumerate" p1) [a] [] pos) (tI P true (enumE fa)) :=
  piMono (pi_enum hg hm (pa_cons ha pa_nil hs) hs) fun σ H Q ⟨F, r, t, R, h⟩ => ⟨F, r, t, R, h.bind.mono fun dx t1 h v F1 H1 s1 R1 rx => by
    cases dx with
    | lst xs =>
      cases rx with
      | @lst p1 v1 _ e1 z1 q1 =>
      refine ⟨p1, v1, rfl, SqL.of (R1.sub _ _ e1), h _ _ _ s1 R1 ?_⟩
      exact (wd_pair walk_enum (by rw [enumD_len, q1.length]) (enum_one q1)).weak fun H g => SqL.of (g _ _ e1)
    | _ => exact (show False from h).elim⟩
/-! ### comprehensions -/
/-- a turn's outcome: the element, or nothing -/
def turnE (tg : Tg) (vs : List Nat) (fc : Rho → Tw → Res (Option D)) (fe : Rho → Tw → Res D) (r : Rho) (d : D) (t : Tw) : Res (Option D) := match setT tg d (wipeR r vs) with
        | some r2 => (fc r2 t).bind fun o t => match o with
          | none => (fe r2 t).bind fun x t => .ok (some x) t
          | some y => match truD y with
            | some true => (fe r2 t).bind fun x t => .ok (some x) t
            | some false => .ok none t
            | none => .bad
        | none => .bad
/-- a clause's tests, none or one -/
def tC1 (P : Pm) (f : Rho → Tw → Res (Option D)) : TT := fun σ H Q => ∃ F r t, RelP P F r t σ H ∧ Aft P F (f r t) fun o t' => ∃ b, (match o with | none => some true | some y => truD y) = some b ∧ ∀ F' H', Kp P.T F H F' H' → RelP P F' r t' σ H' → Q b H'
theorem c_none : PTs X [] (tC1 P fun _ t => .ok none t) := ⟨fun pins s σ H Q I ⟨F, r, t, R, b, e, q⟩ => by
  cases e
  exact pts_nil.run pins s σ H Q I (q F H Kp.refl R)⟩
theorem c_some (ha : PT X a (tT P fa)) : PTs X [a] (tC1 P fun r t => (fa r t).bind fun x t1 => .ok (some x) t1) := ⟨fun pins s σ H Q I ⟨F, r, t, R, h⟩ =>
  (pts_one ha).run pins s σ H Q I ⟨F, r, t, R, h.bind.mono fun d t' q => q⟩⟩
end
end Fm

/-! ### zip of two tuples, the pair kept under a name -/
namespace Fm
open PySem PySem.Spec PyProof.Rows L2 RZ
/-- a zip: the tuple it gave out, if any, and whether it knows that it is held -/
abbrev ZipG (h : Heap) (z TI TO : Addr) (v0 : Value) (f : Bool) : Prop :=
  h.get? z = some { cls := .type "zip", dict := none, data := .fields #[v0, .bool f, .bool false, .ref TI, .ref TO], slots := #[] }
section
variable {prog : Program} {w : World} {A : Around} {E : Value → Shared → Prop} {s : Shared}
end
section
variable {P : Pm} {X : Cx} {a b : Expr} {pos p1 : Pos} {fa fb : Rho → Tw → Res D}
def zipNE (fa fb : Rho → Tw → Res D) (r : Rho) (t : Tw) : Res (List D) := (fa r t).bind fun x t1 => (fb r t1).bind fun y t2 => match x, y with
    | .tup xs, .tup ys => .ok (zipD xs ys) t2
    | _, _ => .bad
end
/-! ### x[::-1] -/
section
variable {prog : Program} {w : World} {A : Around} {E : Value → Shared → Prop} {s : Shared}
end
section
variable {X : Cx} {P : Pm} {fa fb : Rho → Tw → Res D}
theorem n_cat {a b : Expr} {pos : Pos} (ha : PE X a (tB P fa)) (hb : PE X b (tB P fb)) : PE X (.BinOp a .Add b pos) (tN P fun r t => (fa r t).bind fun x t1 => (fb r t1).bind fun y t2 => Fm.lift (catD x y) t2) := by
  refine peMono (pe_op op_cat ha hb) fun σ H Q ⟨F, r, t, R, h⟩ => ?_
  refine ⟨F, r, t, R, h.bind.mono fun dx t1 h v F1 H1 s1 R1 rx => ?_⟩
  refine ⟨F1, r, t1, R1, (h.up s1.1).bind.mono fun dy t2 h w F2 H2 s2 R2 ry => ?_⟩
  obtain ⟨d, e, q⟩ := h.lift
  have rx := rx.mono s2.1
  cases dx with
  | lst xs =>
    cases dy with
    | lst ys =>
      simp only [catD] at e
      split at e
      · rename_i hl
        cases e
        obtain ⟨p1, v1, rfl, e1, z1, q1⟩ := rx.lst R2
        obtain ⟨p2, v2, rfl, e2, z2, q2⟩ := ry.lst R2
        have hl2 : v1.length + v2.length ≤ sizeLine := by
          rw [q1.length, q2.length]
          exact okLen_le hl
        refine ⟨p1, p2, v1, v2, rfl, rfl, e1, e2, hl2, fun p hp => ?_⟩
        obtain ⟨R3, k3, fr⟩ := mkNew (o := .lst (v1 ++ v2)) (d := .lst (xs ++ ys)) R2 hp ⟨_, upd_same, by rw [List.length_append]; exact hl2, q1.append q2⟩
        exact q _ _ _ p (s1.trans (s2.trans k3)) R3 (s1.had p (s2.had p (.of hp))) fr
      · cases e
    | _ => cases e
  | _ => cases e
end
end Fm

/-! ### comprehensions; statements -/
namespace Fm
open PySem PySem.Spec PyProof.Rows L2
/-- without exceptions -/
abbrev Pm.nox (P : Pm) : Pm := { P with XE := fun _ _ => False }
section
variable {P : Pm} {X : Cx}
/-- an object of ours that no slot has is changed -/
theorem Rel.upd {F H : Hp} {r : Rho} {t : Tw} {σ : L2.St} {p : Addr} {o : HO} {K : PySem.W.Frag} {T : Tn} {F0 H0 : Hp} (R : Rel K T F0 H0 F r t σ H) (hp : H p ≠ none) (hT : ∀ ps, H p ≠ some (.tbl ps)) (hC : ∀ c q, H p ≠ some (LamX.CodeO c q)) (f : F p = none) (h0 : Nn H0 p) (n1 : p ≠ T.a) (n2 : p ≠ T.b)
    (no : ∀ (i : Nat) (e : D), r[i]? = some (.own e) → σ[i]? ≠ some (some (.ref p))) (ho : NT o := by intro _ z; cases z) : Rel K T F0 H0 F r t σ (L2.upd H p o) := by
  have nF : ∀ b u, F b = some u → b ≠ p := fun b u h e => by
    rw [e, f] at h
    cases h
  refine ⟨⟨fun b u h => ?_, R.new, R.base, fun b u h m1 m2 m3 => ?_, fun b h => R.had b (h.upd ho).1, ⟨?_, ?_, R.tw.ne, R.tw.small⟩, R.tF1, R.tF2, R.sc, tabs_upd R.tabs hT hC, R.nt⟩, R.len, R.val, fun i d h => ?_, R.inj⟩
  · rw [upd_ne (nF b u h)]
    exact R.sub b u h
  · have : b ≠ p := fun e => h0.no (by rw [← e]; exact h) m3
    rw [upd_ne this]
    exact R.old b u h m1 m2 m3
  · rw [upd_ne (Ne.symm n1)]
    exact R.tw.a
  · rw [upd_ne (Ne.symm n2)]
    exact R.tw.b
  · obtain ⟨q, e, w⟩ := R.own i d h
    have nq : q ≠ p := fun z => no i d h (z ▸ e)
    exact ⟨q, e, ⟨w.fr, w.n1, w.n2, w.h0, w.at_.keep (Same.refl F) fun o h => by rw [upd_ne nq]; exact h⟩⟩
theorem wipe_wipe (σ : L2.St) (vs : List Nat) : wipe (wipe σ vs) vs = wipe σ vs := by
  refine List.ext_getElem? fun j => ?_
  rw [wipe_get, wipe_get, wipe_length]
  by_cases h : j ∈ vs ∧ j < σ.length
  · rw [if_pos h, if_pos h]
  · rw [if_neg h, if_neg h]
def compE (tg : Tg) (vs : List Nat) (fi : Rho → Tw → Res (List D)) (fc : Rho → Tw → Res (Option D)) (fe : Rho → Tw → Res D) (r : Rho) (t : Tw) : Res D :=
  (fi r t).bind fun xs t1 => if okLen xs.length then (compL (turnE tg vs fc fe r) xs t1).bind fun ys t2 => .ok (.lst ys) t2 else .bad
/-- the invariant of a comprehension's turns -/
structure CInv (P : Pm) (f : D → Tw → Res (Option D)) (r : Rho) (σ : L2.St) (F1 H1 : Hp) (D : Addr) (ds ys : List Fm.D) (t2 : Tw) (i : Nat) (H : Hp) (F2 : Hp) (t' : Tw) (vacc : List V) (acc rest : List Fm.D) : Prop where
  k : Kp P.T F1 H1 F2 H
  R : RelP P F2 r t' σ H
  d : H D = some (.lst vacc)
  q : RpL P.K P.T F2 vacc acc
  l : vacc.length ≤ i
  e : compL f (ds.drop i) t' = .ok rest t2
  y : ys = acc ++ rest
theorem turn_ok {tg : Tg} {vs : List Nat} {fc : Rho → Tw → Res (Option D)} {fe : Rho → Tw → Res D} {r : Rho} {d : D} {t t1 : Tw} {o : Option D} (h : turnE tg vs fc fe r d t = .ok o t1) :
    ∃ r2 oc tc b, setT tg d (wipeR r vs) = some r2 ∧ fc r2 t = .ok oc tc ∧ (match oc with | none => some true | some y => truD y) = some b ∧
      ((b = true ∧ ∃ x, fe r2 tc = .ok x t1 ∧ o = some x) ∨ (b = false ∧ o = none ∧ tc = t1)) := by
  unfold turnE at h
  cases e : setT tg d (wipeR r vs) with
  | none =>
    rw [e] at h
    cases h
  | some r2 =>
    rw [e] at h
    dsimp only at h
    cases e2 : fc r2 t with
    | bad =>
      rw [e2] at h
      cases h
    | exc n t3 =>
      rw [e2] at h
      cases h
    | ok oc tc =>
      rw [e2] at h
      simp only [Res.bind_ok] at h
      have fin : ∀ {res : Res D}, (res.bind fun x t => Res.ok (some x) t) = .ok o t1 → ∃ x, res = .ok x t1 ∧ o = some x := fun {res} h => by
        cases res with
        | ok x t =>
          cases h
          exact ⟨x, rfl, rfl⟩
        | exc n t => cases h
        | bad => cases h
      cases oc with
      | none => exact ⟨r2, none, tc, true, rfl, e2, rfl, .inl ⟨rfl, fin h⟩⟩
      | some y =>
        dsimp only at h
        cases e3 : truD y with
        | none =>
          rw [e3] at h
          cases h
        | some b =>
          rw [e3] at h
          cases b with
          | true => exact ⟨r2, some y, tc, true, rfl, e2, e3, .inl ⟨rfl, fin h⟩⟩
          | false =>
            have h : Res.ok none tc = Res.ok o t1 := h
            injection h with h1 h2
            exact ⟨r2, some y, tc, false, rfl, e2, e3, .inr ⟨rfl, h1.symm, h2⟩⟩
theorem comp_read {tg : Tg} {vs : List Nat} {fi : Rho → Tw → Res (List D)} {fc : Rho → Tw → Res (Option D)} {fe : Rho → Tw → Res D} (hsl : ∀ i ∈ tg.slots, i ∈ vs) (σ : L2.St) (H : Hp) (Q : VK) (h : tN P (compE tg vs fi fc fe) σ H Q) :
    tLc (tI P false fi) (gT P.nox tg) (tC1 P.nox fc) (tD P.nox fe) vs σ H Q := by
  obtain ⟨F, r, t, R, h⟩ := h
  refine ⟨F, r, t, R, h.bind.mono fun ds t1 h J F1 H1 s1 R1 w D hD => ?_⟩
  have w : WD P J (keepG P F1 H1) F1 ds := w
  split at h
  rotate_left
  · exact h.elim
  rename_i hok
  -- what the turns give
  obtain ⟨ys, t2, ec, h⟩ : ∃ ys t2, compL (turnE tg vs fc fe r) ds t1 = .ok ys t2 ∧ ∀ v F' H' p, Kp P.T F H F' H' → RelP P F' r t2 σ H' → Nn H p → Fre P F' r σ H' v (.lst ys) p → Q v H' := by
    cases e : compL (turnE tg vs fc fe r) ds t1 with
    | ok ys t2 =>
      rw [e] at h
      exact ⟨ys, t2, rfl, h⟩
    | exc n t2 =>
      exfalso
      have no : ∀ (l : List Fm.D) (t : Tw) (n : Nat) (t2 : Tw), compL (turnE tg vs fc fe r) l t ≠ .exc n t2 := by
        intro l
        induction l with
        | nil =>
          intro t n t2 z
          cases z
        | cons d l ih =>
          intro t n t2 z
          unfold compL at z
          split at z
          · rename_i o t3 _
            cases e4 : compL (turnE tg vs fc fe r) l t3 with
            | ok a b =>
              rw [e4] at z
              cases z
            | exc a b => exact ih _ _ _ e4
            | bad =>
              rw [e4] at z
              cases z
          · cases z
      exact no _ _ _ _ e
    | bad =>
      rw [e] at h
      exact h.elim
  have nTa : D ≠ P.T.a := fun e => by
    rw [e, R1.tw.a] at hD
    cases hD
  have nTb : D ≠ P.T.b := fun e => by
    rw [e, R1.tw.b] at hD
    cases hD
  have no : ∀ (i : Nat) (e : Fm.D), r[i]? = some (.own e) → σ[i]? ≠ some (some (.ref D)) := fun i e h1 h2 => by
    obtain ⟨q, e1, w⟩ := R1.own i e h1
    rw [h2] at e1
    cases e1
    obtain ⟨o2, ho, _⟩ := w.at_.obj
    rw [hD] at ho
    cases ho
  have FD : ∀ {F2 H2 : Hp}, Kp P.T F1 H1 F2 H2 → H2 D ≠ none → True := fun _ _ => trivial
  have b0 := R1.toRelH.newO (o := .lst []) hD
  -- D is never frozen while it is filled
  refine ⟨fun i m H => m = ds.length - i ∧ i ≤ ds.length ∧ ∃ F2 t' vacc acc rest, CInv P (turnE tg vs fc fe r) r σ F1 H1 D ds ys t2 i H F2 t' vacc acc rest ∧ F2 D = none, ⟨ds.length, by simp, Nat.zero_le _, F1, t1, [], [], ys, ?_, ?_⟩, fun i m H2 hW => ?_⟩
  · exact ⟨Kp.of b0, R1.step b0, upd_same, .nil, Nat.zero_le _, by simpa using ec, rfl⟩
  · exact R1.sub.free hD
  · obtain ⟨rfl, hi, F2, t', vacc, acc, rest, ⟨k, R2, hd, q, hl, e, ey⟩, fD⟩ := hW
    have hG : keepG P F1 H1 H2 := ⟨k.base.trans R2.sub, k.old⟩
    by_cases hlt : i < ds.length
    · refine .inr ⟨w.goes i H2 hlt hG, fun H' => ∃ F2 t' vacc acc rest, CInv P (turnE tg vs fc fe r) r σ F1 H1 D ds ys t2 (i + 1) H' F2 t' vacc acc rest ∧ F2 D = none, fun H' hn => ⟨_, by omega, rfl, hlt, hn⟩, fun x H' hy => ?_⟩
      have hdi : ds[i]? = some ds[i] := List.getElem?_eq_getElem hlt
      -- the turn
      have e' : compL (turnE tg vs fc fe r) (ds[i] :: ds.drop (i + 1)) t' = .ok rest t2 := by
        rw [← List.drop_eq_getElem_cons hlt]
        exact e
      unfold compL at e'
      cases et : turnE tg vs fc fe r ds[i] t' with
      | exc n t3 =>
        rw [et] at e'
        cases e'
      | bad =>
        rw [et] at e'
        cases e'
      | ok o t3 =>
        rw [et] at e'
        dsimp only at e'
        obtain ⟨rest', er, eo⟩ : ∃ rest', compL (turnE tg vs fc fe r) (ds.drop (i + 1)) t3 = .ok rest' t2 ∧ rest = consO o rest' := by
          cases e4 : compL (turnE tg vs fc fe r) (ds.drop (i + 1)) t3 with
          | ok a b =>
            rw [e4] at e'
            simp only [Res.bind_ok] at e'
            cases e'
            exact ⟨a, rfl, rfl⟩
          | exc a b =>
            rw [e4] at e'
            cases e'
          | bad =>
            rw [e4] at e'
            cases e'
        obtain ⟨r2, oc, tc, b, es, efc, eb, alt⟩ := turn_ok et
        -- the item
        obtain ⟨F3, k3, R3, rx⟩ : ∃ F3, Kp P.T F2 H2 F3 H' ∧ RelP P F3 r t' σ H' ∧ Rp P.K P.T F3 x ds[i] := by
          rcases w.yields i H2 x H' _ hdi hG hy with ⟨rfl, rx⟩ | ⟨p, xs, es', rfl, hp, rfl, ed, z, qx⟩
          · exact ⟨F2, Kp.refl, R2, rx.mono k.base⟩
          · have b := R2.toRelH.newF (o := .tup xs) hp
            refine ⟨_, Kp.of b, R2.step b, ?_⟩
            rw [ed]
            exact .tup (SqT.of upd_same) z (qx.mono (k.base.trans b.base))
        refine ⟨F3, wipeR r vs, t', ds[i], r2, R3.wipe vs, rx, es, fun σ' R4 c => ⟨(c.wipe hsl).trans (wipe_wipe σ vs), ?_⟩⟩
        refine ⟨F3, r2, t', R4, ?_⟩
        rw [efc]
        refine ⟨b, eb, fun F4 H4 k4 R5 => ?_⟩
        rcases alt with ⟨rfl, y, efe, rfl⟩ | ⟨rfl, rfl, rfl⟩
        · rw [if_pos rfl]
          refine ⟨F4, r2, tc, R5, ?_⟩
          rw [efe]
          intro v F5 H5 k5 R6 rv
          have k6 : Kp P.T F2 H2 F5 H5 := k3.trans (k4.trans k5)
          have hd5 : H5 D = some (.lst vacc) := k6.old D _ hd nTa nTb (by intro _ z; cases z)
          have fD5 : F5 D = none := by
            cases z : F5 D with
            | none => rfl
            | some u =>
              rcases k6.new D u z with z | z
              · rw [fD] at z
                cases z
              · exact (z.no hd (by intro _ z; cases z)).elim
          have hsz : vacc.length < sizeLine := by
            have := of_decide_eq_true hok
            rw [sizeLine_eq]
            omega
          have R7 : RelP P F5 r t3 σ H5 := R2.step (Kp.relH (P := P.nox) k6 R6)
          have R8 : RelP P F5 r t3 σ (L2.upd H5 D (.lst (vacc ++ [v]))) := Rel.upd R7 (by rw [hd5]; simp) (fun ps z => by rw [hd5] at z; cases z) (fun c q z => by rw [hd5] at z; cases z) fD5 (R1.had D (.of hD)) nTa nTb no
          refine ⟨vacc, hd5, hsz, F5, t3, vacc ++ [v], acc ++ [y], rest', ⟨?_, R8, upd_same, (q.mono k6.base).append (.cons rv .nil), ?_, er, ?_⟩, fD5⟩
          · have k7 := k.trans k6
            refine ⟨k7.base, k7.new, fun a o ha m1 m2 m3 => ?_, fun a ha => k7.had a (ha.upd (by intro _ z; cases z)).1⟩
            have : a ≠ D := fun e => by
              rw [e, hD] at ha
              cases ha
            rw [upd_ne this]
            exact k7.old a o ha m1 m2 m3
          · rw [List.length_append, List.length_singleton]
            omega
          · rw [ey, eo]
            simp [consO]
        · rw [if_neg (by decide)]
          have k6 : Kp P.T F2 H2 F4 H4 := k3.trans k4
          have R7 : RelP P F4 r tc σ H4 := R2.step (Kp.relH (P := P.nox) k6 R5)
          refine ⟨F4, tc, vacc, acc, rest', ⟨k.trans k6, R7, k6.old D _ hd nTa nTb (by intro _ z; cases z), q.mono k6.base, by omega, er, ?_⟩, ?_⟩
          · rw [ey, eo]; rfl
          · cases z : F4 D with
            | none => rfl
            | some u =>
              rcases k6.new D u z with z | z
              · rw [fD] at z
                cases z
              · exact (z.no hd (by intro _ z; cases z)).elim
    · have ei : i = ds.length := by omega
      subst ei
      refine .inl ⟨w.stops H2 hG, ?_⟩
      rw [List.drop_length] at e
      cases e
      rw [List.append_nil] at ey
      subst ey
      refine h _ _ _ D (s1.trans k) R2 (s1.had D (.of hD)) ⟨rfl, ⟨fD, nTa, nTb, R1.had D (.of hD), vacc, hd, ?_, q⟩, no⟩
      have := of_decide_eq_true hok
      rw [sizeLine_eq]
      omega
theorem n_comp {elt tg iter : Expr} {ifs : List Expr} {scope : Scope} {own : List (Str × Nat)} {pos : Pos} {tgt : Tg} {fi : Rho → Tw → Res (List D)} {fc : Rho → Tw → Res (Option D)} {fe : Rho → Tw → Res D} (hc : X.calm = true) (hN : X.N.Nodup)
    (hi : PI X tg iter (tI P false fi)) (ok : BlkOk X.N X.env.scope scope own) (hg : ∀ (s : Shared) (H : Hp) (C : Addr) (cl : List (Str × Addr)) (fp : List Addr), PG (X.blk s H scope (compEnvC scope cl C X.env) fp) tg (gT P.nox tgt))
    (ht : ∀ (s : Shared) (H : Hp) (C : Addr) (cl : List (Str × Addr)) (fp : List Addr), PTs (X.blk s H scope (compEnvC scope cl C X.env) fp) ifs (tC1 P.nox fc))
    (he : ∀ (s : Shared) (H : Hp) (C : Addr) (cl : List (Str × Addr)) (fp : List Addr), PE (X.blk s H scope (compEnvC scope cl C X.env) fp) elt (tD P.nox fe)) (hs : ∀ x, foldedSetIterable iter X.env x = pure x) (hsl : ∀ i ∈ tgt.slots, i ∈ own.map (·.2)) :
    PE X (.ListComp elt [⟨tg, iter, ifs, 0⟩] scope pos) (tN P (compE tgt (own.map (·.2)) fi fc fe)) :=
  peMono (pe_lc hc hN hi ok hg ht he hs) (comp_read hsl)
/-! ### calls of own defs -/
/-- what a def promises: its value by data -/
def spD (K : PySem.W.Frag) (T : Tn) (cl : Nat → Addr) (np : Nat) (Γ : List D → Tw → Res D) : Sp := fun vs H Q E => ∃ F t ds, RelH K T F H F t H ∧ RpL K T F vs ds ∧ ds.length = np ∧ match Γ ds t with
  | .ok d t' => ∀ v F' H', RelH K T F H F' t' H' → Rp K T F' v d → Q v H'
  | .exc n t' => ∀ F' H', RelH K T F H F' t' H' → E (.ref (cl n)) none H'
  | .bad => False
/-- an exception's wish -/
def EX (cl : Nat → Addr) (XE : Nat → Hp → Prop) : XK := fun c d H => ∃ n, c = .ref (cl n) ∧ d = none ∧ XE n H
theorem sp_call {cl : Nat → Addr} {np : Nat} {Γ : List D → Tw → Res D} {F H : Hp} {r : Rho} {t : Tw} {σ : L2.St} {vs : List V} {ds : List D} {Q : VK} (R : RelP P F r t σ H) (rv : RpL P.K P.T F vs ds) (hl : ds.length = np)
    (h : Aft P F (Γ ds t) fun d t' => ∀ v F' H', Kp P.T F H F' H' → RelP P F' r t' σ H' → Rp P.K P.T F' v d → Q v H') : spD P.K P.T cl np Γ vs H Q (EX cl P.XE) := by
  refine ⟨F, t, ds, R.toRelH.refl, rv, hl, ?_⟩
  cases e : Γ ds t with
  | ok d t' =>
    rw [e] at h
    exact fun v F' H' b rv => h v F' H' (Kp.of b) (R.step b) rv
  | exc n t' =>
    rw [e] at h
    exact fun F' H' b => ⟨n, rfl, rfl, h F' H' b.base (R.toRelH.trans b)⟩
  | bad =>
    rw [e] at h
    exact h
variable {k np : Nat} {f : Addr} {fd : FuncData} {ps ks : List Str} {x : Str} {p pos : Pos} {e : Expr} {es : List Expr} {kws : List Keyword} {cl : Nat → Addr} {Γ : List D → Tw → Res D} {fs gs : Rho → Tw → Res (List D)} {dvs : List V} {ds : List Value} {dds : List D}
theorem s_call (F : FnOk X.prog X.w X.K X.mg X.base (CX X.prog X.w) k f fd ps (spD P.K P.T cl np Γ)) (hr : Room k X.A) (hg : Gl X x) (hm : X.mg x = some (.ref f)) (hk : PySem.W.keepIn X.K (.ref f) = true) (hb : Binds X.K fd ps ds) (hd : Vals dvs ds)
    (hdd : ∀ F, RpL P.K P.T F dvs dds) (tk : Takes X fun c d _ H => EX cl P.XE c d H) (ha : PA X (e :: es) (tDs P fs)) (hnp : ∀ r t xs t1, fs r t = .ok xs t1 → xs.length + dds.length = np) (hdb : (x == ("__debug__" : Str)) = false)
    (he : starEach (e :: es) X.env = (false, eval e X.env) :: starEach es X.env) (hpl : (backTo pos (starEach es X.env)).any (·.1) = false) :
    PE X (.Call (.Name x p) (e :: es) [] pos) (tD P fun r t => (fs r t).bind fun xs t1 => Γ (xs ++ dds) t1) :=
  peMono (pe_call F hr hg hm hk hb hd (passes_call tk fun _ _ _ _ h => h) ha hdb he hpl) fun σ H Q ⟨F, r, t, R, h⟩ => ⟨F, r, t, R, by
    dsimp only at h
    cases ef : fs r t with
    | ok xs t1 =>
      rw [ef] at h
      intro vs F1 H1 s1 R1 rv
      exact sp_call R1 (rv.append (hdd F1)) (by rw [List.length_append]; exact hnp r t xs t1 ef) (((show Aft P F (Γ (xs ++ dds) t1) _ from h).up s1.1).mono fun d t' q v F' H' s R' rv => q v F' H' (s1.trans s) R' rv)
    | exc n t1 =>
      rw [ef] at h
      exact h
    | bad =>
      rw [ef] at h
      exact h⟩
theorem s_call0 (F : FnOk X.prog X.w X.K X.mg X.base (CX X.prog X.w) k f fd ps (spD P.K P.T cl np Γ)) (hr : Room k X.A) (hg : Gl X x) (hm : X.mg x = some (.ref f)) (hk : PySem.W.keepIn X.K (.ref f) = true) (hb : Binds X.K fd ps ds) (hd : Vals dvs ds)
    (hdd : ∀ F, RpL P.K P.T F dvs dds) (tk : Takes X fun c d _ H => EX cl P.XE c d H) (hnp : dds.length = np) (hdb : (x == ("__debug__" : Str)) = false) :
    PE X (.Call (.Name x p) [] [] pos) (tD P fun r t => Γ dds t) :=
  peMono (pe_call0 F hr hg hm hk hb hd (passes_call tk fun _ _ _ _ h => h) hdb) fun σ H Q ⟨F, r, t, R, h⟩ => sp_call R (by simpa using hdd F) hnp h
/-- keywords' values -/
theorem pkMono {t u : TA} (h : PK X kws t) (i : ∀ σ H Q, u σ H Q → t σ H Q) : PK X kws u := ⟨fun pos pins s σ H Q I q => h.run pos pins s σ H Q I (i σ H Q q)⟩
theorem k_nil : PK X [] (tDs P fun _ t => .ok [] t) := pkMono pk_nil fun σ H Q ⟨F, r, t, R, q⟩ => q [] F H Kp.refl R .nil
theorem k_cons {fa : Rho → Tw → Res D} {nm : Option Str} {kpos : Pos} (ha : PE X e (tD P fa)) (hr : PK X kws (tDs P fs)) : PK X (⟨nm, e, kpos⟩ :: kws) (tDs P fun r t => (fa r t).bind fun x t1 => (fs r t1).bind fun xs t2 => .ok (x :: xs) t2) :=
  pkMono (pk_cons ha hr) fun σ H Q ⟨F, r, t, R, h⟩ => ⟨F, r, t, R, h.bind.mono fun d t1 h v F1 H1 s1 R1 rv => ⟨F1, r, t1, R1, (h.up s1.1).bind.mono fun ds t2 q vs F2 H2 s2 R2 rvs =>
    q (v :: vs) F2 H2 (s1.trans s2) R2 (.cons (rv.mono s2.1) rvs)⟩⟩
theorem s_callK {n : Nat} {g : List Value → List Value → List Value} (F : FnOk X.prog X.w X.K X.mg X.base (CX X.prog X.w) k f fd ps (spD P.K P.T cl np Γ)) (hr : Room k X.A) (hg : Gl X x) (hm : X.mg x = some (.ref f)) (hk : PySem.W.keepIn X.K (.ref f) = true)
    (hb : KBn X.K fd ps n ks g (fun vs zs => vs ++ zs ++ dvs)) (hdd : ∀ F, RpL P.K P.T F dvs dds) (tk : Takes X fun c d _ H => EX cl P.XE c d H) (ha : PA X (e :: es) (tDs P fs)) (hkw : PK X kws (tDs P gs))
    (hn1 : ∀ r t xs t1, fs r t = .ok xs t1 → xs.length = n) (hn2 : ∀ r t xs t1, gs r t = .ok xs t1 → xs.length = ks.length) (hnp : n + ks.length + dds.length = np)
    (hall : (backToKw pos (keywordEach kws X.env)).all (·.1.isSome) = true) (hks : (backToKw pos (keywordEach kws X.env)).filterMap (·.1) = ks)
    (hdb : (x == ("__debug__" : Str)) = false) (he : starEach (e :: es) X.env = (false, eval e X.env) :: starEach es X.env)
    (hpl : ((backTo pos (starEach (e :: es) X.env)).any (·.1) || (backToKw pos (keywordEach kws X.env)).any (·.1.isNone)) = false) :
    PE X (.Call (.Name x p) (e :: es) kws pos) (tD P fun r t => (fs r t).bind fun xs t1 => (gs r t1).bind fun ys t2 => Γ (xs ++ ys ++ dds) t2) :=
  peMono (pe_callN F hr hg hm hk hb (passes_call tk fun _ _ _ _ h => h) ha hkw hall hks hdb he hpl) fun σ H Q ⟨F, r, t, R, h⟩ => ⟨F, r, t, R, by
    dsimp only at h
    cases ef : fs r t with
    | ok xs t1 =>
      rw [ef] at h
      intro vs F1 H1 s1 R1 rv
      have h : Aft P F ((gs r t1).bind fun ys t2 => Γ (xs ++ ys ++ dds) t2) _ := h
      refine ⟨F1, r, t1, R1, ?_⟩
      have h := h.up s1.1
      cases eg : gs r t1 with
      | ok ys t2 =>
        rw [eg] at h
        intro zs F2 H2 s2 R2 rz
        have l1 := hn1 r t xs t1 ef
        have l2 := hn2 r t1 ys t2 eg
        refine ⟨by rw [rv.length]; exact l1, by rw [rz.length]; exact l2, sp_call R2 (((rv.mono s2.1).append rz).append (hdd F2)) (by rw [List.length_append, List.length_append]; omega) (((show Aft P F1 (Γ (xs ++ ys ++ dds) t2) _ from h).up s2.1).mono fun d t' q v F' H' s R' rv => q v F' H' (s1.trans (s2.trans s)) R' rv)⟩
      | exc n t1 =>
        rw [eg] at h
        exact h
      | bad =>
        rw [eg] at h
        exact h
    | exc n t1 =>
      rw [ef] at h
      exact h
    | bad =>
      rw [ef] at h
      exact h⟩
end
end Fm

/-! ### statements -/
namespace Fm
open PySem PySem.Spec PyProof.Rows L2
def aftS (P : Pm) (F : Hp) (D : Ends) (p : Fl × Rho) (t' : Tw) : Prop := match p.1 with
  | .nx => ∀ F' σ' H', Same F F' → RelP P F' p.2 t' σ' H' → D.nx σ' H'
  | .brk => ∀ F' σ' H', Same F F' → RelP P F' p.2 t' σ' H' → D.bk σ' H'
  | .cont => ∀ F' σ' H', Same F F' → RelP P F' p.2 t' σ' H' → D.ct σ' H'
  | .ret d => ∀ v F' H', Same F F' → RelH P.K P.T P.F0 P.H0 F' t' H' → Rp P.K P.T F' v d → D.rt v H'
def tS (P : Pm) (f : Rho → Tw → Res (Fl × Rho)) : TS := fun D σ H => ∃ F r t, RelP P F r t σ H ∧ Aft P F (f r t) (aftS P F D)
section
variable {P : Pm} {X : Cx} {a b c : Expr} {pos p1 p2 : Pos} {fa fb fc : Rho → Tw → Res D} {st : Stmt} {rest : List Stmt} {f g : Rho → Tw → Res (Fl × Rho)}
theorem aftS.up {F F' : Hp} {D : Ends} {p : Fl × Rho} {t : Tw} (h : aftS P F D p t) (s : Same F F') : aftS P F' D p t := by
  obtain ⟨fl, r⟩ := p
  cases fl with
  | nx => exact fun F2 σ2 H2 s2 => h F2 σ2 H2 (s.trans s2)
  | brk => exact fun F2 σ2 H2 s2 => h F2 σ2 H2 (s.trans s2)
  | cont => exact fun F2 σ2 H2 s2 => h F2 σ2 H2 (s.trans s2)
  | ret d => exact fun v F2 H2 s2 => h v F2 H2 (s.trans s2)
def nilE (r : Rho) (t : Tw) : Res (Fl × Rho) := .ok (.nx, r) t
def consE (f g : Rho → Tw → Res (Fl × Rho)) (r : Rho) (t : Tw) : Res (Fl × Rho) := (f r t).bind fun p t1 => match p with
    | (.nx, r1) => g r1 t1
    | q => .ok q t1
theorem ss_nil : PSs X [] (tS P nilE) := pssMono pss_nil fun D σ H ⟨F, r, t, R, h⟩ => h F σ H (Same.refl F) R
theorem seq_aft {F : Hp} {D : Ends} {r : Rho} {t : Tw} (h : Aft P F (consE f g r t) (aftS P F D)) : Aft P F (f r t) (aftS P F { D with nx := tS P g D }) := by
  unfold consE at h
  refine h.bind.mono fun p t1 h => ?_
  obtain ⟨fl, r1⟩ := p
  cases fl with
  | nx => exact fun F' σ' H' s R => ⟨F', r1, t1, R, ((show Aft P F (g r1 t1) (aftS P F D) from h).up s).mono fun p t2 q => q.up s⟩
  | brk => exact h
  | cont => exact h
  | ret d => exact h
theorem ss_cons (h1 : PS X st (tS P f)) (h2 : PSs X rest (tS P g)) : PSs X (st :: rest) (tS P (consE f g)) := pssMono (pss_cons h1 h2) fun D σ H ⟨F, r, t, R, h⟩ => ⟨F, r, t, R, seq_aft h⟩
theorem st_ret (ha : PE X a (tD P fa)) : PS X (.Return (some a) pos) (tS P fun r t => (fa r t).bind fun x t1 => .ok (.ret x, r) t1) :=
  psMono (ps_ret ha) fun D σ H ⟨F, r, t, R, h⟩ => ⟨F, r, t, R, h.bind.mono fun d t' q v F' H' s R' rv => q v F' H' s.1 R'.toRelH rv⟩
theorem st_exp (ha : PE X a (tD P fa)) (hs : swapsWith a none pos.line X.env = pure false) : PS X (.Expr a pos) (tS P fun r t => (fa r t).bind fun _ t1 => .ok (.nx, r) t1) :=
  psMono (ps_expr ha hs) fun D σ H ⟨F, r, t, R, h⟩ => ⟨F, r, t, R, h.bind.mono fun d t' q v F' H' s R' rv => q F' σ H' s.1 R'⟩
def iteS (fc : Rho → Tw → Res D) (f g : Rho → Tw → Res (Fl × Rho)) (r : Rho) (t : Tw) : Res (Fl × Rho) := (fc r t).bind fun x t1 => match truD x with
    | some true => f r t1
    | some false => g r t1
    | none => .bad
theorem st_ite {as bs : List Stmt} (hc : PT X c (tT P fc)) (ha : PSs X as (tS P f)) (hb : PSs X bs (tS P g)) : PS X (.If c as bs pos) (tS P (iteS fc f g)) :=
  psMono (ps_if hc ha hb) fun D σ H ⟨F, r, t, R, h⟩ => ⟨F, r, t, R, h.bind.mono fun d t' h => by
    cases e : truD d with
    | none =>
      rw [e] at h
      exact h.elim
    | some k =>
      rw [e] at h
      refine ⟨k, rfl, fun F' H' s R' => ?_⟩
      cases k with
      | true => exact ⟨F', r, t', R', ((show Aft P F (f r t') _ from h).up s.1).mono fun p t2 q => q.up s.1⟩
      | false => exact ⟨F', r, t', R', ((show Aft P F (g r t') _ from h).up s.1).mono fun p t2 q => q.up s.1⟩⟩
theorem st_brk : PS X (.Break pos) (tS P fun r t => .ok (.brk, r) t) := psMono ps_break fun D σ H ⟨F, r, t, R, h⟩ => h F σ H (Same.refl F) R
theorem st_cont : PS X (.Continue pos) (tS P fun r t => .ok (.cont, r) t) := psMono ps_continue fun D σ H ⟨F, r, t, R, h⟩ => h F σ H (Same.refl F) R
/-! ### assignments -/
/-- name = e -/
theorem st_set {i : Nat} {y : Str} {py : Pos} (h : PS X (.Assign [.Name y py] a pos) (tAsg (tD P fa) (gName i))) : PS X (.Assign [.Name y py] a pos) (tS P fun r t => (fa r t).bind fun x t1 => Fm.lift ((setT (.name i) x r).map fun r1 => (.nx, r1)) t1) :=
  psMono h fun D σ H ⟨F, r, t, R, h⟩ => ⟨F, r, t, R, h.bind.mono fun d t' h v F' H' s R' rv => by
    obtain ⟨p, e, q⟩ := h.lift
    obtain ⟨r1, e1, rfl⟩ := Option.map_eq_some_iff.mp e
    simp only [setT] at e1
    split at e1
    · cases e1
      exact q F' _ H' s.1 (R'.setVal rv)
    · cases e1⟩
theorem st_new {i : Nat} {y : Str} {py : Pos} (h : PS X (.Assign [.Name y py] a pos) (tAsg (tN P fa) (gName i))) : PS X (.Assign [.Name y py] a pos) (tS P fun r t => (fa r t).bind fun x t1 => okSet r i (.own x) t1) :=
  psMono h fun D σ H ⟨F, r, t, R, h⟩ => ⟨F, r, t, R, h.bind.mono fun d t' h v F' H' p s R' hp fr => by
    unfold okSet at h
    split at h
    · obtain ⟨rfl, o, no⟩ := fr
      exact h F' _ H' s.1 (R'.setOwn o fun j e h1 _ => no j e h1)
    · exact h.elim⟩
theorem asg_plain {i : Nat} {y : Str} {py : Pos} {te : TE} (hN : X.N.Nodup) (hi : X.N[i]? = some y) (hx : Loc X.env.scope y) (ha : PE X a te) (hs : swapsWith a (some (.Name y py)) pos.line X.env = pure false) (hf : X.fn y = true ∨ X.env.scope.names.lookup y = some .local) :
    PS X (.Assign [.Name y py] a pos) (tAsg te (gName i)) := ps_set hN hi hx ha hs hf
/-- targets = e -/
theorem st_asg {tg : Expr} {tt : Tg} (ha : PE X a (tD P fa)) (hg : PG X tg (gT P tt)) (hs : swapsWithSole [tg] a pos.line X.env = pure false) (hw : swappedStores [tg] a X.env = pure none)
    (h1 : (assignEach [tg] X.env).map (·.2) = [assign tg X.env]) : PS X (.Assign [tg] a pos) (tS P fun r t => (fa r t).bind fun x t1 => Fm.lift ((setT tt x r).map fun r1 => (.nx, r1)) t1) :=
  psMono (ps_asg ha hg hs hw h1) fun D σ H ⟨F, r, t, R, h⟩ => ⟨F, r, t, R, h.bind.mono fun d t' h v F' H' s R' rv => by
    obtain ⟨p, e, q⟩ := h.lift
    obtain ⟨r1, e1, rfl⟩ := Option.map_eq_some_iff.mp e
    exact ⟨F', r, t', d, r1, R', rv, e1, fun σ' R2 _ => q F' σ' H' s.1 R2⟩⟩
def parE (is : List Nat) (fs : Rho → Tw → Res (List D)) (r : Rho) (t : Tw) : Res (Fl × Rho) := (fs r t).bind fun xs t1 => Fm.lift ((setAll is xs r).map fun r1 => (.nx, r1)) t1
theorem st_par2 {i j : Nat} {x y : Str} {fs : Rho → Tw → Res (List D)} {px py pt pt2 : Pos} {kt k2 : Nat} (hc : X.calm = true) (hN : X.N.Nodup) (hi : X.N[i]? = some x) (hj : X.N[j]? = some y) (hij : i ≠ j)
    (hx : X.env.scope.names.lookup x = some .local) (hy : X.env.scope.names.lookup y = some .local) (ha : PA X [a, b] (tDs P fs))
    (hw : swappedStores [.Tuple [.Name x px, .Name y py] kt pt] (.Tuple [a, b] k2 pt2) X.env = pure (some [x, y])) :
    PS X (.Assign [.Tuple [.Name x px, .Name y py] kt pt] (.Tuple [a, b] k2 pt2) pos) (tS P (parE [i, j] fs)) :=
  psMono (ps_par hc hN hi hj hij hx hy ha hw) fun D σ H ⟨F, r, t, R, h⟩ => ⟨F, r, t, R, h.bind.mono fun ds t' h vs F' H' s R' rv => by
    obtain ⟨p, e, q⟩ := h.lift
    obtain ⟨r1, e1, rfl⟩ := Option.map_eq_some_iff.mp e
    cases rv with
    | nil => simp [setAll] at e1
    | @cons v1 _ d1 _ h1 rv =>
      cases rv with
      | nil => simp [setAll] at e1
      | @cons v2 _ d2 _ h2 rv =>
        cases rv with
        | nil =>
          simp only [setAll] at e1
          split at e1
          · split at e1
            · cases e1
              exact ⟨v1, v2, rfl, q F' _ H' s.1 ((R'.setVal h1).setVal h2)⟩
            · cases e1
          · cases e1
        | cons _ _ =>
          simp only [setAll] at e1
          split at e1
          · split at e1
            · cases e1
            · cases e1
          · cases e1⟩
theorem st_par3 {i j l : Nat} {x y z : Str} {fs : Rho → Tw → Res (List D)} {px py pz pt pt2 : Pos} {kt k2 : Nat} (hc : X.calm = true) (hN : X.N.Nodup) (hi : X.N[i]? = some x) (hj : X.N[j]? = some y) (hl : X.N[l]? = some z) (hij : i ≠ j) (hil : i ≠ l) (hjl : j ≠ l)
    (hx : X.env.scope.names.lookup x = some .local) (hy : X.env.scope.names.lookup y = some .local) (hz : X.env.scope.names.lookup z = some .local) (ha : PA X [a, b, c] (tDs P fs))
    (hw : swappedStores [.Tuple [.Name x px, .Name y py, .Name z pz] kt pt] (.Tuple [a, b, c] k2 pt2) X.env = pure (some [x, y, z])) :
    PS X (.Assign [.Tuple [.Name x px, .Name y py, .Name z pz] kt pt] (.Tuple [a, b, c] k2 pt2) pos) (tS P (parE [i, j, l] fs)) :=
  psMono (ps_par3 hc hN hi hj hl hij hil hjl hx hy hz ha hw) fun D σ H ⟨F, r, t, R, h⟩ => ⟨F, r, t, R, h.bind.mono fun ds t' h vs F' H' s R' rv => by
    obtain ⟨p, e, q⟩ := h.lift
    obtain ⟨r1, e1, rfl⟩ := Option.map_eq_some_iff.mp e
    cases rv with
    | nil => simp [setAll] at e1
    | @cons v1 _ d1 _ h1 rv =>
      cases rv with
      | nil => simp [setAll] at e1
      | @cons v2 _ d2 _ h2 rv =>
        cases rv with
        | nil => simp [setAll] at e1
        | @cons v3 _ d3 _ h3 rv =>
          cases rv with
          | nil =>
            simp only [setAll] at e1
            split at e1
            · split at e1
              · split at e1
                · cases e1
                  exact ⟨v1, v2, v3, rfl, q F' _ H' s.1 (((R'.setVal h1).setVal h2).setVal h3)⟩
                · cases e1
              · cases e1
            · cases e1
          | cons _ _ => simp [setAll] at e1⟩
/-! ### freezing a slot -/
theorem Rel.unOwn {K : PySem.W.Frag} {T : Tn} {F0 H0 F H : Hp} {r : Rho} {t : Tw} {σ : L2.St} {i : Nat} (R : Rel K T F0 H0 F r t σ H) : Rel K T F0 H0 F (r.set i .un) t σ H := by
  have cs : ∀ {j : Nat} {s : Sl}, (r.set i .un)[j]? = some s → s ≠ .un → i ≠ j ∧ r[j]? = some s := fun {j s} q n => by
    by_cases hj : i = j
    · subst hj
      by_cases hi : i < r.length
      · rw [List.getElem?_set_self hi] at q
        exact absurd (Option.some.inj q).symm n
      · rw [List.getElem?_eq_none (by simpa using hi)] at q
        cases q
    · rw [List.getElem?_set_ne hj] at q
      exact ⟨hj, q⟩
  exact ⟨R.toRelH, by simpa using R.len, fun j d h => R.val j d (cs h (by intro z; cases z)).2, fun j d h => R.own j d (cs h (by intro z; cases z)).2, fun j k d e p h1 h2 h3 h4 => R.inj j k d e p (cs h1 (by intro z; cases z)).2 (cs h2 (by intro z; cases z)).2 h3 h4⟩
theorem Rel.asVal {K : PySem.W.Frag} {T : Tn} {F0 H0 F H : Hp} {r : Rho} {t : Tw} {σ : L2.St} {i : Nat} {v : V} {d : D} (R : Rel K T F0 H0 F r t σ H) (e : σ[i]? = some (some v)) (h : Rp K T F v d) : Rel K T F0 H0 F (r.set i (.val d)) t σ H := by
  have hs : σ.set i (some v) = σ := by
    refine List.ext_getElem? fun j => ?_
    by_cases hj : i = j
    · subst hj
      rw [List.getElem?_set_self (List.getElem?_eq_some_iff.mp e).1, e]
    · rw [List.getElem?_set_ne hj]
  have := R.setVal (i := i) h
  rw [hs] at this
  exact this
theorem Rel.noOwn {K : PySem.W.Frag} {T : Tn} {F0 H0 F H : Hp} {r : Rho} {t : Tw} {σ : L2.St} {i : Nat} {d : D} {p : Addr} (R : Rel K T F0 H0 F r t σ H) (e : r[i]? = some (.own d)) (e1 : σ[i]? = some (some (.ref p))) :
    ∀ (j : Nat) (e' : D), (r.set i .un)[j]? = some (.own e') → σ[j]? ≠ some (some (.ref p)) := fun j e' h z => by
  by_cases hj : i = j
  · subst hj
    rw [List.getElem?_set_self (List.getElem?_eq_some_iff.mp e).1] at h
    cases h
  · rw [List.getElem?_set_ne hj] at h
    exact hj (R.inj i j d e' p e h e1 z)
theorem set_set {r : Rho} {i : Nat} {a b : Sl} : (r.set i a).set i b = r.set i b := List.set_set ..
def frzE (i : Nat) (r : Rho) (t : Tw) : Res (Fl × Rho) := match r[i]? with
    | some (.own d) => .ok (.nx, r.set i (.val d)) t
    | some (.val _) => .ok (.nx, r) t
    | _ => .bad
theorem ss_frz {i : Nat} (h2 : PSs X rest (tS P g)) : PSs X rest (tS P (consE (frzE i) g)) := by
  refine ⟨fun pins s σ H D I ⟨F, r, t, R, h⟩ => ?_⟩
  unfold consE frzE at h
  cases e : r[i]? with
  | none =>
    rw [e] at h
    exact h.elim
  | some sl =>
    rw [e] at h
    cases sl with
    | un => exact h.elim
    | val d => exact h2.run pins s σ H D I ⟨F, r, t, R, h⟩
    | own d =>
      have h : Aft P F (g (r.set i (.val d)) t) (aftS P F D) := h
      obtain ⟨p, e1, o⟩ := R.own i d e
      have no := R.noOwn e e1
      cases d with
      | lst ds =>
        obtain ⟨vs, h1, hz, h3⟩ := o.at_
        have s2 : Same F (L2.upd F p (.lst vs)) := same_new o.fr
        have R2 := (R.unOwn (i := i)).freeze h1 (by intro _ z; cases z) o.fr o.h0 o.n1 o.n2 no
        have R3 := R2.asVal e1 (.lst upd_same hz (h3.mono s2))
        rw [set_set] at R3
        exact h2.run pins s σ H D I ⟨_, _, t, R3, (h.up s2).mono fun p t2 q => q.up s2⟩
      | dct es =>
        obtain ⟨kvs, h1, hz, h3⟩ := o.at_
        obtain ⟨od, I2⟩ := I.lock h1 trivial
        have s2 : Same F (L2.upd F p (.frz od (.dK kvs))) := same_new o.fr
        have R2 := (R.unOwn (i := i)).lockF (od := od) h1 o.fr o.h0 o.n1 o.n2 no
        have R3 := R2.asVal e1 (.dct upd_same hz (h3.mono s2))
        rw [set_set] at R3
        exact h2.run pins s σ _ D I2 ⟨_, _, t, R3, (h.up s2).mono fun p t2 q => q.up s2⟩
      | _ => exact o.at_.elim
/-! ### an object of ours is changed -/
theorem Rel.updOwn {F H : Hp} {r : Rho} {t : Tw} {σ : L2.St} {i : Nat} {d d' : D} {p : Addr} {o : HO} (R : RelP P F r t σ H) (e : r[i]? = some (.own d)) (e1 : σ[i]? = some (some (.ref p))) (h : OwnAt P.K P.T F (L2.upd H p o) p d') :
    RelP P F (r.set i (.own d')) t σ (L2.upd H p o) := by
  obtain ⟨p', e2, w⟩ := R.own i d e
  rw [e1] at e2
  cases e2
  have hi : i < r.length := (List.getElem?_eq_some_iff.mp e).1
  obtain ⟨ob, ho, _⟩ := w.at_.obj
  have hNT : NT o := by
    obtain ⟨o2, z, n⟩ := h.obj
    rw [upd_same] at z
    cases z
    exact n
  have cs : ∀ {j : Nat} {s : Sl}, (r.set i (.own d'))[j]? = some s → (i = j ∧ s = .own d') ∨ (i ≠ j ∧ r[j]? = some s) := fun {j s} q => by
    by_cases hj : i = j
    · subst hj
      rw [List.getElem?_set_self hi] at q
      exact .inl ⟨rfl, (Option.some.inj q).symm⟩
    · rw [List.getElem?_set_ne hj] at q
      exact .inr ⟨hj, q⟩
  have nF : ∀ b u, F b = some u → b ≠ p := fun b u h e => by
    rw [e, w.fr] at h
    cases h
  refine ⟨⟨fun b u h => ?_, R.new, R.base, fun b u h m1 m2 m3 => ?_, fun b h => R.had b (h.upd hNT).1, ⟨?_, ?_, R.tw.ne, R.tw.small⟩, R.tF1, R.tF2, R.sc, ?_, R.nt⟩, by simpa using R.len, fun j e2 h2 => ?_, fun j e2 h2 => ?_, fun j k e2 e3 q h1 h2 h3 h4 => ?_⟩
  · rw [upd_ne (nF b u h)]
    exact R.sub b u h
  · have : b ≠ p := fun e => w.h0.no (by rw [← e]; exact h) m3
    rw [upd_ne this]
    exact R.old b u h m1 m2 m3
  · rw [upd_ne (Ne.symm w.n1)]
    exact R.tw.a
  · rw [upd_ne (Ne.symm w.n2)]
    exact R.tw.b
  · have w2 := w.at_
    cases d with
    | lst ds =>
      obtain ⟨vs, h1, _⟩ := w2
      exact tabs_lst R.tabs h1
    | dct ds =>
      obtain ⟨vs, h1, _⟩ := w2
      exact tabs_dK R.tabs h1
    | _ => exact w2.elim
  · rcases cs h2 with ⟨rfl, z⟩ | ⟨hj, z⟩
    · cases z
    · exact R.val j e2 z
  · rcases cs h2 with ⟨rfl, z⟩ | ⟨hj, z⟩
    · cases z
      exact ⟨p, e1, ⟨w.fr, w.n1, w.n2, w.h0, h⟩⟩
    · obtain ⟨q, e4, w2⟩ := R.own j e2 z
      have nq : q ≠ p := fun z2 => by
        subst z2
        exact hj (R.inj i j d e2 q e z e1 e4)
      exact ⟨q, e4, ⟨w2.fr, w2.n1, w2.n2, w2.h0, w2.at_.keep (Same.refl F) fun o h => by rw [upd_ne nq]; exact h⟩⟩
  · have own : ∀ {j : Nat} {e2 : D}, (r.set i (.own d'))[j]? = some (.own e2) → ∃ e3, r[j]? = some (.own e3) := fun {j e2} q => by
      rcases cs q with ⟨rfl, z⟩ | ⟨_, z⟩
      · exact ⟨d, e⟩
      · exact ⟨e2, z⟩
    obtain ⟨e4, z1⟩ := own h1
    obtain ⟨e5, z2⟩ := own h2
    exact R.inj j k e4 e5 q z1 z2 h3 h4
def borE (i : Nat) (r : Rho) (t : Tw) : Res D := match r[i]? with
    | some (.val d) => .ok d t
    | some (.own d) => .ok d t
    | _ => .bad
/-- the slot itself -/
theorem pe_slot {i : Nat} {x : Str} (hN : X.N[i]? = some x) (hv : Vis X.env.scope x) (hd : (x == ("__debug__" : Str)) = false) (hcd : (x == ("__classdict__" : Str)) = false) : PE X (.Name x pos) (tVar i) := pe_var hN hv hd hcd
def appE (i : Nat) (fa : Rho → Tw → Res D) (r : Rho) (t : Tw) : Res (Fl × Rho) := match r[i]? with
    | some (.own (.lst xs)) => (fa r t).bind fun x t1 => if decide (xs.length < 16777216) then .ok (.nx, r.set i (.own (.lst (xs ++ [x])))) t1 else .bad
    | _ => .bad
/-- the list that a slot has -/
theorem own_lst {F H : Hp} {r : Rho} {t : Tw} {σ : L2.St} {i : Nat} {xs : List D} (R : RelP P F r t σ H) (e : r[i]? = some (.own (.lst xs))) : ∃ p vs, σ[i]? = some (some (.ref p)) ∧ H p = some (.lst vs) ∧ vs.length ≤ sizeLine ∧ RpL P.K P.T F vs xs := by
  obtain ⟨p, e1, w⟩ := R.own i _ e
  obtain ⟨vs, h1, h2, h3⟩ := w.at_
  exact ⟨p, vs, e1, h1, h2, h3⟩
theorem own_dct {F H : Hp} {r : Rho} {t : Tw} {σ : L2.St} {i : Nat} {xs : List (Key × D)} (R : RelP P F r t σ H) (e : r[i]? = some (.own (.dct xs))) : ∃ p vs, σ[i]? = some (some (.ref p)) ∧ H p = some (.dK vs) ∧ vs.length ≤ sizeLine ∧ RpK P.K P.T F vs xs := by
  obtain ⟨p, e1, w⟩ := R.own i _ e
  obtain ⟨vs, h1, h2, h3⟩ := w.at_
  exact ⟨p, vs, e1, h1, h2, h3⟩
theorem appE_ok {i : Nat} {F : Hp} {r : Rho} {t : Tw} {Z : Fl × Rho → Tw → Prop} (h : Aft P F (appE i fa r t) Z) : ∃ xs, r[i]? = some (.own (.lst xs)) ∧ Aft P F ((fa r t).bind fun x t1 => if decide (xs.length < 16777216) then .ok (.nx, r.set i (.own (.lst (xs ++ [x])))) t1 else .bad) Z := by
  unfold appE at h
  split at h
  · rename_i xs e
    exact ⟨xs, e, h⟩
  · exact h.elim
theorem st_app {i : Nat} {y : Str} (hK : X.K = P.K) (hN : X.N[i]? = some y) (hv : Vis X.env.scope y) (hd : (y == ("__debug__" : Str)) = false) (hcd : (y == ("__classdict__" : Str)) = false) (ha : PE X a (tD P fa)) (hline : (p1.endLine == p2.line) = true)
    (hs : starEach [a] X.env = (false, eval a X.env) :: starEach [] X.env) {q : Pos} : PS X (.Expr (.Call (.Attribute (.Name y q) "append" p1) [a] [] p2) pos) (tS P (appE i fa)) := by
  have hfew : ((backTo p2 (starEach [a] X.env)).all (fun x => !x.1) && (backToKw p2 (keywordEach [] X.env)).all (fun x => x.1.isSome)
      && decide (([a] : List Expr).length + ([] : List Keyword).length + (if ([] : List Keyword).isEmpty then 0 else 1) < 30)) = true := by
    rw [hs]
    rfl
  refine psMono (ps_expr (pe_bm PySem.F.plainAttrs_list PySem.F.slot_list_append PySem.F.type_list_append mt_append (pe_slot hN hv hd hcd) (pa_cons ha pa_nil hs) rfl hfew hline hs rfl) rfl) fun D σ H ⟨F, r, t, R, h⟩ => ?_
  obtain ⟨xs, e, h⟩ := appE_ok h
  obtain ⟨p, vs, e1, h1, h2, h3⟩ := own_lst R e
  refine ⟨_, e1, .inl ⟨rfl, vs, SqL.of h1⟩, F, r, t, R, h.bind.mono fun d t' h v F' H' s R' rv => ?_⟩
  split at h
  · rename_i hl
    have hl := of_decide_eq_true hl
    obtain ⟨p', vs', e1', h1', h2', h3'⟩ := own_lst R' e
    rw [e1] at e1'
    cases e1'
    have hz : vs'.length < sizeLine := by
      rw [h3'.length, sizeLine_eq]
      exact hl
    refine ⟨p, vs', v, rfl, rfl, h1', hz, h F' σ _ s.1 (Rel.updOwn R' e e1 ⟨_, upd_same, ?_, h3'.append (.cons rv .nil)⟩)⟩
    rw [List.length_append, List.length_singleton]
    omega
  · exact h.elim
def putE (i : Nat) (fk fa : Rho → Tw → Res D) (r : Rho) (t : Tw) : Res (Fl × Rho) := match r[i]? with
    | some (.own (.dct kvs)) => (fa r t).bind fun x t1 => (fk r t1).bind fun y t2 => (match keyD y with
      | some k => if decide (kvs.length < 16777216) then .ok (.nx, r.set i (.own (.dct (putD kvs k x)))) t2 else .bad
      | none => .bad)
    | _ => .bad
theorem putE_ok {i : Nat} {fk : Rho → Tw → Res D} {F : Hp} {r : Rho} {t : Tw} {Z : Fl × Rho → Tw → Prop} (h : Aft P F (putE i fk fa r t) Z) : ∃ kvs, r[i]? = some (.own (.dct kvs)) ∧ Aft P F ((fa r t).bind fun x t1 => (fk r t1).bind fun y t2 => (match keyD y with
      | some k => if decide (kvs.length < 16777216) then .ok (.nx, r.set i (.own (.dct (putD kvs k x)))) t2 else .bad
      | none => .bad)) Z := by
  unfold putE at h
  split at h
  · rename_i xs e
    exact ⟨xs, e, h⟩
  · exact h.elim
theorem st_put {i : Nat} {y : Str} {q : Pos} (hu : X.A.units + 200 < cLine) (hN : X.N[i]? = some y) (hv : Vis X.env.scope y) (hd : (y == ("__debug__" : Str)) = false) (hcd : (y == ("__classdict__" : Str)) = false) (hb : PE X b (tB P fb)) (ha : PE X a (tD P fa))
    (hs : swapsWith a (some (.Subscript (.Name y q) b p1)) pos.line X.env = pure false) : PS X (.Assign [.Subscript (.Name y q) b p1] a pos) (tS P (putE i fb fa)) := by
  refine psMono (ps_dput (by omega) (pe_slot hN hv hd hcd) hb ha hs) fun D σ H ⟨F, r, t, R, h⟩ => ?_
  obtain ⟨xs, e, h⟩ := putE_ok h
  obtain ⟨p, vs, e1, h1, h2, h3⟩ := own_dct R e
  refine ⟨F, r, t, R, h.bind.mono fun d t1 h v F1 H1 s1 R1 rv => ⟨_, e1, F1, r, t1, R1, (h.up s1.1).bind.mono fun dk t2 h w F2 H2 s2 R2 rw' => ?_⟩⟩
  cases ek : keyD dk with
  | none =>
    rw [ek] at h
    exact h.elim
  | some k =>
    rw [ek] at h
    obtain rfl := key_of' R2 rw' ek
    have h : Aft P F1 (if decide (xs.length < 16777216) then .ok (.nx, r.set i (.own (.dct (putD xs k d)))) t2 else .bad) (aftS P F D) := h
    split at h
    · rename_i hl
      have hl := of_decide_eq_true hl
      obtain ⟨p', vs', e1', h1', h2', h3'⟩ := own_dct R2 e
      rw [e1] at e1'
      cases e1'
      have hz : vs'.length < sizeLine := by
        rw [h3'.length, sizeLine_eq]
        exact hl
      refine ⟨p, _, rfl, DPut.k h1' hz, h F2 σ _ (s1.1.trans s2.1) (Rel.updOwn R2 e e1 ⟨_, upd_same, ?_, h3'.put k (rv.mono s2.1)⟩)⟩
      have := length_putK vs' k v
      omega
    · exact h.elim
def putLE (i : Nat) (fk fa : Rho → Tw → Res D) (r : Rho) (t : Tw) : Res (Fl × Rho) := match r[i]? with
    | some (.own (.lst xs)) => (fa r t).bind fun x t1 => (fk r t1).bind fun y t2 => (match y with
      | .int j => (match L2.ixN xs.length j with
        | some n => .ok (.nx, r.set i (.own (.lst (xs.set n x)))) t2
        | none => .bad)
      | _ => .bad)
    | _ => .bad
theorem putLE_ok {i : Nat} {fk : Rho → Tw → Res D} {F : Hp} {r : Rho} {t : Tw} {Z : Fl × Rho → Tw → Prop} (h : Aft P F (putLE i fk fa r t) Z) : ∃ xs, r[i]? = some (.own (.lst xs)) ∧ Aft P F ((fa r t).bind fun x t1 => (fk r t1).bind fun y t2 => (match y with
      | .int j => (match L2.ixN xs.length j with
        | some n => .ok (.nx, r.set i (.own (.lst (xs.set n x)))) t2
        | none => .bad)
      | _ => .bad)) Z := by
  unfold putLE at h
  split at h
  · rename_i xs e
    exact ⟨xs, e, h⟩
  · exact h.elim
theorem st_putL {i : Nat} {y : Str} {q : Pos} (hN : X.N[i]? = some y) (hv : Vis X.env.scope y) (hd : (y == ("__debug__" : Str)) = false) (hcd : (y == ("__classdict__" : Str)) = false) (hb : PE X b (tB P fb)) (ha : PE X a (tD P fa))
    (hasg : ∀ v, assign (.Subscript (.Name y q) b p1) X.env v = (do
      let ov ← holding [v] (eval (.Name y q) X.env)
      let iv ← holding [v, ov] (eval b X.env)
      standAt p1
      holding [v, ov, iv] (setItem ov iv v)
      release [v, ov, iv] []))
    (hs : swapsWithSole [.Subscript (.Name y q) b p1] a pos.line X.env = pure false) (hw : swappedStores [.Subscript (.Name y q) b p1] a X.env = pure none) : PS X (.Assign [.Subscript (.Name y q) b p1] a pos) (tS P (putLE i fb fa)) := by
  refine psMono (ps_asg ha (pg_sub (pe_slot hN hv hd hcd) hb set_list hasg) hs hw rfl) fun D σ H ⟨F, r, t, R, h⟩ => ?_
  obtain ⟨xs, e, h⟩ := putLE_ok h
  obtain ⟨p, vs, e1, h1, h2, h3⟩ := own_lst R e
  refine ⟨F, r, t, R, h.bind.mono fun d t1 h v F1 H1 s1 R1 rv => ⟨_, e1, F1, r, t1, R1, (h.up s1.1).bind.mono fun dk t2 h w F2 H2 s2 R2 rw' => ?_⟩⟩
  cases dk with
  | int j =>
    obtain rfl := rw'.int R2
    obtain ⟨p', vs', e1', h1', h2', h3'⟩ := own_lst R2 e
    rw [e1] at e1'
    cases e1'
    have h : Aft P F1 (match L2.ixN xs.length j with
        | some n => .ok (.nx, r.set i (.own (.lst (xs.set n d)))) t2
        | none => .bad) (aftS P F D) := h
    cases en : L2.ixN xs.length j with
    | none =>
      rw [en] at h
      exact h.elim
    | some n =>
      rw [en] at h
      refine ⟨p, vs', j, n, rfl, rfl, h1', by rw [h3'.length]; exact en, ?_⟩
      exact h F2 σ _ (s1.1.trans s2.1) (Rel.updOwn R2 e e1 ⟨_, upd_same, by rw [List.length_set]; exact h2', h3'.set (rv.mono s2.1) n⟩)
  | _ => exact (show False from h).elim
/-! ### name op= e, of ints -/
def augE (i : Nat) (op : Operator) (fa : Rho → Tw → Res D) (r : Rho) (t : Tw) : Res (Fl × Rho) := match r[i]? with
    | some (.val x) => (fa r t).bind fun y t1 => match x, y with
      | .int _, .int _ => Fm.lift ((binD op x y).map fun z => (.nx, r.set i (.val z))) t1
      | _, _ => .bad
    | _ => .bad
theorem augE_ok {i : Nat} {op : Operator} {F : Hp} {r : Rho} {t : Tw} {Z : Fl × Rho → Tw → Prop} (h : Aft P F (augE i op fa r t) Z) : ∃ x, r[i]? = some (.val x) ∧ Aft P F ((fa r t).bind fun y t1 => match x, y with
      | .int _, .int _ => Fm.lift ((binD op x y).map fun z => (.nx, r.set i (.val z))) t1
      | _, _ => .bad) Z := by
  unfold augE at h
  split at h
  · rename_i xs e
    exact ⟨xs, e, h⟩
  · exact h.elim
/-- the rule of an in-place operator upon ints -/
def IpS (X : Cx) (op : Operator) : Prop := ∃ (C : Int → Int → Prop) (g : Int → Int → Int), OpR X (inplaceOp op) (rI C fun i j => .int (g i j)) ∧ ∀ i j d, binD op (.int i) (.int j) = some d → C i j ∧ d = .int (g i j)
theorem ip_of {op : Operator} (h : op = .Add ∨ op = .Sub ∨ op = .Mult ∨ op = .FloorDiv ∨ op = .Mod) : IpS X op := by
  rcases h with rfl | rfl | rfl | rfl | rfl
  · exact ⟨fun _ _ => True, fun i j => i + j, opI fun _ _ _ _ _ _ _ _ q => iadd_int q, fun i j d e => by cases e; exact ⟨trivial, rfl⟩⟩
  · exact ⟨fun _ _ => True, fun i j => i - j, opI fun _ _ _ _ _ _ _ _ q => isub_int q, fun i j d e => by cases e; exact ⟨trivial, rfl⟩⟩
  · refine ⟨CMulW, fun i j => i * j, opI fun _ _ _ _ _ _ _ hc q => imul_int q hc.ok, fun i j d e => ?_⟩
    simp only [binD, mulD] at e
    split at e
    · rename_i h
      cases e
      exact ⟨(of_decide_eq_true h : i.natAbs.log2 + j.natAbs.log2 < 1000000), rfl⟩
    · cases e
  · refine ⟨CDivA, fun i j => i.fdiv j, opI fun i j _ _ _ _ _ hc q => ifloordiv_int hc.1 q (.inl (PyProof.noPylong_of_log2 hc.2)), fun i j d e => ?_⟩
    simp only [binD, fdivD] at e
    split at e
    · rename_i h
      cases e
      have h2 := Bool.and_eq_true_iff.mp h
      exact ⟨⟨of_decide_eq_true h2.1, of_decide_eq_true h2.2⟩, rfl⟩
    · cases e
  · refine ⟨fun _ j => j ≠ 0, fun i j => i.fmod j, opI fun i j _ _ _ _ _ hc q => imod_int hc q, fun i j d e => ?_⟩
    simp only [binD, modD] at e
    split at e
    · cases e
    · rename_i h
      cases e
      exact ⟨h, rfl⟩
theorem st_aug {i : Nat} {y : Str} {q : Pos} {op : Operator} (hop : IpS X op) (hN : X.N.Nodup) (hi : X.N[i]? = some y) (hx : Loc X.env.scope y) (hf : X.fn y = true ∨ X.env.scope.names.lookup y = some .local) (ha : PE X a (tB P fa)) :
    PS X (.AugAssign (.Name y q) op a pos) (tS P (augE i op fa)) := by
  obtain ⟨C, g, ho, hg⟩ := hop
  refine psMono (ps_aug hN hi hx ha ho hf) fun D σ H ⟨F, r, t, R, h⟩ => ?_
  obtain ⟨x, e, h⟩ := augE_ok h
  obtain ⟨v, e1, rv⟩ := R.val i x e
  refine ⟨v, e1, F, r, t, R, h.bind.mono fun d t' h w F' H' s R' rw' => ?_⟩
  cases x with
  | int m =>
    cases d with
    | int n =>
      obtain ⟨p, e2, q⟩ := Aft.lift h
      obtain ⟨z, e3, rfl⟩ := Option.map_eq_some_iff.mp e2
      obtain ⟨c, rfl⟩ := hg m n z e3
      cases rv
      exact ⟨m, n, rfl, rw'.int R', c, q F' _ H' s.1 (R'.setVal (.int _))⟩
    | _ => exact (show False from h).elim
  | _ => exact (show False from h).elim
end
end Fm

/-! ### loops, starred targets, raise -/
namespace Fm
open PySem PySem.Spec PyProof.Rows L2
section
variable {P : Pm} {X : Cx} {a b c : Expr} {pos p1 p2 : Pos} {fa fb fc : Rho → Tw → Res D} {st : Stmt} {rest : List Stmt} {f g : Rho → Tw → Res (Fl × Rho)}
def forE (tg : Tg) (fi : Rho → Tw → Res (List D)) (f : Rho → Tw → Res (Fl × Rho)) (r : Rho) (t : Tw) : Res (Fl × Rho) := (fi r t).bind fun xs t1 => loopF (fun d r t => match setT tg d r with
    | some r1 => f r1 t
    | none => .bad) xs r t1
theorem for_turn {tg : Tg} {d : D} {ds : List D} {F : Hp} {r : Rho} {t : Tw} {D' : Ends} (h : Aft P F (loopF (fun d r t => match setT tg d r with
    | some r1 => f r1 t
    | none => .bad) (d :: ds) r t) (aftS P F D')) : ∃ r1, setT tg d r = some r1 ∧ Aft P F (f r1 t) fun p t1 => match p with
      | (.nx, r2) => Aft P F (loopF (fun d r t => match setT tg d r with
        | some r1 => f r1 t
        | none => .bad) ds r2 t1) (aftS P F D')
      | (.cont, r2) => Aft P F (loopF (fun d r t => match setT tg d r with
        | some r1 => f r1 t
        | none => .bad) ds r2 t1) (aftS P F D')
      | (.brk, r2) => aftS P F D' (.nx, r2) t1
      | (.ret d, r2) => aftS P F D' (.ret d, r2) t1 := by
  simp only [loopF] at h
  cases e : setT tg d r with
  | none =>
    rw [e] at h
    exact h.elim
  | some r1 =>
    rw [e] at h
    refine ⟨r1, rfl, h.bind.mono fun p t1 h => ?_⟩
    obtain ⟨fl, r2⟩ := p
    cases fl with
    | nx => exact h
    | cont => exact h
    | brk => exact h
    | ret d => exact h
theorem st_for {tg iter : Expr} {tt : Tg} {body : List Stmt} {fi : Rho → Tw → Res (List D)} (hp : PassesOwn (model X.prog X.w) X.A X.env X.xe) (hc : X.calm = true) (hi : PI X tg iter (tI P true fi)) (hg : PG X tg (gT P tt)) (hb : PSs X body (tS P f))
    (hs : ∀ x, foldedSetIterable iter X.env x = pure x) : PS X (.For tg iter body [] pos) (tS P (forE tt fi f)) := by
  refine psMono (ps_for hp hc hi hg hb hs) fun D σ H ⟨F, r, t, R, h⟩ => ⟨F, r, t, R, h.bind.mono fun ds t1 h J F1 H1 s1 R1 w => ?_⟩
  have w : WD P J (Same F1) F1 ds := w
  refine ⟨fun i m σ H => m = ds.length - i ∧ i ≤ ds.length ∧ ∃ F2 r2 t2, Same F1 F2 ∧ RelP P F2 r2 t2 σ H ∧ Aft P F2 (loopF (fun d r t => match setT tt d r with
    | some r1 => f r1 t
    | none => .bad) (ds.drop i) r2 t2) (aftS P F2 D), ⟨ds.length, by simp, Nat.zero_le _, F1, r, t1, Same.refl F1, R1, (h.up s1.1).mono fun p t2 q => q.up s1.1⟩, fun i m σ2 H2 hW => ?_⟩
  obtain ⟨rfl, hi, F2, r2, t2, s2, R2, h⟩ := hW
  have hG : Same F1 H2 := s2.trans R2.sub
  by_cases hlt : i < ds.length
  · refine .inr ⟨w.goes i H2 hlt hG, fun σ' H' => ∃ F2 r2 t2, Same F1 F2 ∧ RelP P F2 r2 t2 σ' H' ∧ Aft P F2 (loopF (fun d r t => match setT tt d r with
      | some r1 => f r1 t
      | none => .bad) (ds.drop (i + 1)) r2 t2) (aftS P F2 D), fun σ' H' hn => ⟨_, by omega, rfl, hlt, hn⟩, fun x H' hy => ?_⟩
    have hdi : ds[i]? = some ds[i] := List.getElem?_eq_getElem hlt
    rw [List.drop_eq_getElem_cons hlt] at h
    obtain ⟨r3, e3, h⟩ := for_turn h
    obtain ⟨F3, s3, R3, rx⟩ : ∃ F3, Same F2 F3 ∧ RelP P F3 r2 t2 σ2 H' ∧ Rp P.K P.T F3 x ds[i] := by
      rcases w.yields i H2 x H' _ hdi hG hy with ⟨rfl, rx⟩ | ⟨p, xs, es', rfl, hp, rfl, ed, z, qx⟩
      · exact ⟨F2, Same.refl F2, R2, rx.mono s2⟩
      · have b := R2.toRelH.newF (o := .tup xs) hp
        refine ⟨_, b.base, R2.step b, ?_⟩
        rw [ed]
        exact .tup (SqT.of upd_same) z (qx.mono (s2.trans b.base))
    refine ⟨F3, r2, t2, ds[i], r3, R3, rx, e3, fun σ4 R4 _ => ⟨F3, r3, t2, R4, (h.up s3).mono fun p t4 h => ?_⟩⟩
    obtain ⟨fl, r4⟩ := p
    cases fl with
    | nx => exact fun F5 σ5 H5 s5 R5 => ⟨F5, r4, t4, (s2.trans s3).trans s5, R5, ((show Aft P F2 _ (aftS P F2 D) from h).up (s3.trans s5)).mono fun p t q => q.up (s3.trans s5)⟩
    | cont => exact fun F5 σ5 H5 s5 R5 => ⟨F5, r4, t4, (s2.trans s3).trans s5, R5, ((show Aft P F2 _ (aftS P F2 D) from h).up (s3.trans s5)).mono fun p t q => q.up (s3.trans s5)⟩
    | brk => exact fun F5 σ5 H5 s5 R5 => h F5 σ5 H5 (s3.trans s5) R5
    | ret d => exact fun v F5 H5 s5 R5 rv => h v F5 H5 (s3.trans s5) R5 rv
  · have ei : i = ds.length := by omega
    subst ei
    refine .inl ⟨w.stops H2 hG, ?_⟩
    rw [List.drop_length] at h
    exact h F2 σ2 H2 (Same.refl F2) R2
theorem st_while {body : List Stmt} (hp : PassesOwn (model X.prog X.w) X.A X.env X.xe) (hc : PT X c (tT P fc)) (hb : PSs X body (tS P f)) : PS X (.While c body [] pos) (tS P (loopW fc f)) := by
  refine psMono (ps_while hp hc hb) fun D σ H ⟨F, r, t, R, h⟩ => ?_
  obtain ⟨n, hn⟩ := loopW_not (c := fc) (f := f) (r := r) (t := t) fun e => by
    rw [e] at h
    exact h
  refine ⟨fun m σ H => ∃ F2 r2 t2 v, RelP P F2 r2 t2 σ H ∧ loopN fc f m r2 t2 = some v ∧ Aft P F2 v (aftS P F2 D), ⟨n, F, r, t, _, R, hn, h⟩, fun m σ2 H2 hW => ?_⟩
  obtain ⟨F2, r2, t2, v, R2, hm, h⟩ := hW
  cases m with
  | zero => simp [loopN] at hm
  | succ m =>
    simp only [loopN] at hm
    refine ⟨F2, r2, t2, R2, ?_⟩
    cases ec : fc r2 t2 with
    | exc k t3 =>
      rw [ec] at hm
      cases hm
      exact h
    | bad =>
      rw [ec] at hm
      cases hm
      exact h
    | ok x t3 =>
      rw [ec] at hm
      dsimp only at hm
      cases ex : truD x with
      | none =>
        rw [ex] at hm
        cases hm
        exact h.elim
      | some k =>
        rw [ex] at hm
        refine ⟨k, ex, fun F3 H3 s3 R3 => ?_⟩
        cases k with
        | false =>
          cases hm
          rw [if_neg (by decide)]
          exact h F3 σ2 H3 s3.1 R3
        | true =>
          rw [if_pos rfl]
          dsimp only at hm
          refine ⟨fun σ' H' => ∃ F2 r2 t2 v, RelP P F2 r2 t2 σ' H' ∧ loopN fc f m r2 t2 = some v ∧ Aft P F2 v (aftS P F2 D), fun σ' H' q => ⟨m, by omega, q⟩, F3, r2, t3, R3, ?_⟩
          cases ef : f r2 t3 with
          | exc k t4 =>
            rw [ef] at hm
            cases hm
            exact Aft.up h s3.1
          | bad =>
            rw [ef] at hm
            cases hm
            exact h
          | ok p t4 =>
            rw [ef] at hm
            obtain ⟨fl, r4⟩ := p
            cases fl with
            | nx => exact fun F5 σ5 H5 s5 R5 => ⟨F5, r4, t4, v, R5, hm, (h.up (s3.1.trans s5)).mono fun p t q => q.up (s3.1.trans s5)⟩
            | cont => exact fun F5 σ5 H5 s5 R5 => ⟨F5, r4, t4, v, R5, hm, (h.up (s3.1.trans s5)).mono fun p t q => q.up (s3.1.trans s5)⟩
            | brk =>
              cases hm
              exact fun F5 σ5 H5 s5 R5 => h F5 σ5 H5 (s3.1.trans s5) R5
            | ret d =>
              cases hm
              exact fun v F5 H5 s5 R5 rv => h v F5 H5 (s3.1.trans s5) R5 rv
/-! ### x, *y = e -/
theorem star_unpack {prog : Program} {w : World} {A : Around} {E : Value → Shared → Prop} {s : Shared} {l : Addr} {y : Value} {ys : List Value} {Q : List Value → Shared → Prop} (hl : IsTup s.heap l (y :: ys).toArray) (hh : A.handled = none) (hz : ys.length < 16384)
    (h : ∀ (h' : Heap) (tk : Nat), (∀ b o, s.heap.get? b = some o → h'.get? b = some o) → Q [y, .ref h'.objs.size] { s with heap := h'.push { cls := .type "list", data := .seq ys.toArray }, toks := tk }) :
    wpAny (model prog w) A (unpackItems (.ref l) 2 (some 1)) Q E s := by
  have hlt : l ≠ s.heap.objs.size := let ⟨_, ho, _⟩ := hl; Nat.ne_of_lt (Heap.lt_size ho)
  have iterable : ∀ {R : Bool → Shared → Prop}, R false s → wpAny (model prog w) A (notIterableAtAll (.ref l)) R E s := fun q => wpAny_bind (wpAny_specialOf hl.typeIs slot_tuple_iter.lookup (wpAny_pure q))
  unfold unpackItems
  refine wpAny_bind (iterable ?_)
  rw [if_neg Bool.false_ne_true]
  refine wpAny_bind (wpAny_holding (iter_tuple hl (?_)))
  refine wpAny_bind (wpAny_holding (draw_tuple hlt 1 0 _ _ ⟨_, Heap.get?_push_size _ rfl, rfl, rfl⟩ (hl.push _) (by simp) fun h₁ hit₁ hs₁ => ?_))
  have hl₁ : IsTup h₁ l (y :: ys).toArray := (hl.push _).extBut hs₁.extBut hlt
  rw [Nat.zero_add] at hit₁
  have hit₁' := hit₁
  obtain ⟨oi, hoi, _⟩ := hit₁'
  have hl₁' := hl₁
  obtain ⟨ol, hol, _⟩ := hl₁'
  refine wpAny_bind (wpAny_holding (PySem.W.kun_collect (s := { s with heap := h₁ }) (T := "tuple_iterator") (.inr (.inr (.inr rfl))) (Walks.tuple (A := A.in1) hh s.heap.objs.size l hlt (y :: ys).toArray) (fun j u st => st.1.typeIs) (k := 1) (by simp) ⟨hit₁, hl₁⟩ (Heap.lt_size hoi) (Heap.lt_size hol) (fun h₂ tk hk => ?_) (by rw [sizeLine_eq]; simp; omega)))
  show wpAny _ _ (newList (ys.take (ys.length - 0)) >>= fun d => pure ([y] ++ [d] ++ ys.drop (ys.length - 0))) _ _ _
  have e1 : ys.take (ys.length - 0) = ys := by simp
  have e2 : ys.drop (ys.length - 0) = [] := by simp
  rw [e1, e2]
  have he : ∀ b o, s.heap.get? b = some o → h₂.get? b = some o := fun b o e => by
    have nb : b ≠ s.heap.objs.size := Nat.ne_of_lt (Heap.lt_size e)
    exact hk b o nb (hs₁.extBut b o nb (Heap.get?_push_of_some _ e))
  refine wpAny_bind (wpAny_newList (wpAny_pure ?_) (by rw [sizeLine_eq]; omega))
  exact h h₂ tk he
def starE (i j : Nat) (fa : Rho → Tw → Res D) (r : Rho) (t : Tw) : Res (Fl × Rho) := (fa r t).bind fun x t1 => match x with
    | .tup (y :: ys) => if decide (i < r.length) && decide (j < r.length) && decide (ys.length < 16384) then .ok (.nx, (r.set i (.val y)).set j (.val (.lst ys))) t1 else .bad
    | _ => .bad
def gSt (P : Pm) (i j : Nat) : TG := fun v σ H Q => ∃ F r t y ys, RelP P F r t σ H ∧ Rp P.K P.T F v (.tup (y :: ys)) ∧ ys.length < 16384 ∧ ∀ F' σ' H', Same F F' → RelP P F' ((r.set i (.val y)).set j (.val (.lst ys))) t σ' H' → Q σ' H'
theorem g_star {i j : Nat} {x y : Str} {k : Nat} {q1 q2 q3 : Pos} (hK : X.K = P.K) (hc : X.calm = true) (hN : X.N.Nodup) (hi : X.N[i]? = some x) (hj : X.N[j]? = some y) (hx : Loc X.env.scope x) (hy : Loc X.env.scope y)
    (hfx : X.fn x = true ∨ X.env.scope.names.lookup x = some .local) (hfy : X.fn y = true ∨ X.env.scope.names.lookup y = some .local) : PG X (.Tuple [.Name x q1, .Starred (.Name y q2) q3] k pos) (gSt P i j) := by
  refine ⟨fun pins s σ H v u Q I rv h => ?_⟩
  obtain ⟨F, r, t, d, ds, R, rd, hl, q⟩ := h
  cases rd with
  | @tup p xs _ h1 z h2 =>
  cases h2 with
  | @cons v1 vs _ _ r1 r2 =>
  cases rv
  have h1' : SqT X.K H p (v1 :: vs) := by
    rw [hK]
    exact sqT_mono R.sub h1
  obtain ⟨its, rv, ht, hz⟩ := I.tuple h1'
  cases rv with
  | @cons _ u1 _ us ru rus =>
  rw [assign_Tuple]
  refine wpAny_bind (wpAny_standAt ?_)
  unfold unpack
  show wpAny _ _ (assignInOrder _ =<< holding [.ref p] (unpackItems (.ref p) 2 (some 1))) _ _ _
  have hlen : vs.length = us.length := rus.length
  have hvs : vs.length = ds.length := r2.length
  refine wpAny_bind (wpAny_holding (star_unpack ht (I.ok.hd hc) (by omega) fun h' tk hk => ?_))
  have I1 : Inv X pins σ H { s with heap := h', toks := tk } := I.kept hk
  have hf : H h'.objs.size = none := I1.hok.fresh (Nat.le_refl _)
  have hzz : vs.length ≤ sizeLine := by
    rw [sizeLine_eq]
    omega
  have I2 : Inv X pins σ (L2.upd H h'.objs.size (.lst vs)) { s with heap := h'.push { cls := .type "list", data := .seq us.toArray }, toks := tk } := I1.lnew rus hzz
  have b := R.toRelH.newF (o := .lst vs) hf
  have R2 := R.step b
  have pgs : PGs X [.Name x q1, .Name y q2] (gCons (gName i) (gCons (gName j) gNil)) := pgs_cons (pg_name hN hi hx hfx) (pgs_cons (pg_name hN hj hy hfy) pgs_nil rfl) rfl
  refine pgs.run pins _ σ _ [v1, .ref h'.objs.size] [u1, .ref h'.objs.size] Q I2 (.cons ru (.cons rfl .nil)) ⟨v1, _, rfl, .ref _, [], rfl, rfl, ?_⟩
  exact q _ _ _ b.base ((R2.setVal (r1.mono b.base)).setVal (.lst upd_same hzz (r2.mono b.base)))
theorem st_star {i j : Nat} {x y : Str} {k : Nat} {q1 q2 q3 q4 : Pos} (hK : X.K = P.K) (hc : X.calm = true) (hN : X.N.Nodup) (hi : X.N[i]? = some x) (hj : X.N[j]? = some y) (hx : Loc X.env.scope x) (hy : Loc X.env.scope y)
    (hfx : X.fn x = true ∨ X.env.scope.names.lookup x = some .local) (hfy : X.fn y = true ∨ X.env.scope.names.lookup y = some .local) (ha : PE X a (tD P fa)) (hs : swapsWithSole [.Tuple [.Name x q1, .Starred (.Name y q2) q3] k q4] a pos.line X.env = pure false)
    (hw : swappedStores [.Tuple [.Name x q1, .Starred (.Name y q2) q3] k q4] a X.env = pure none) : PS X (.Assign [.Tuple [.Name x q1, .Starred (.Name y q2) q3] k q4] a pos) (tS P (starE i j fa)) :=
  psMono (ps_asg ha (g_star (P := P) hK hc hN hi hj hx hy hfx hfy) hs hw rfl) fun D σ H ⟨F, r, t, R, h⟩ => ⟨F, r, t, R, h.bind.mono fun d t' h v F' H' s R' rv => by
    cases d with
    | tup xs =>
      cases xs with
      | nil => exact (show False from h).elim
      | cons y ys =>
        have h : Aft P F (if decide (i < r.length) && decide (j < r.length) && decide (ys.length < 16384) then .ok (.nx, (r.set i (.val y)).set j (.val (.lst ys))) t' else .bad) (aftS P F D) := h
        split at h
        · rename_i hb
          exact ⟨F', r, t', y, ys, R', rv, of_decide_eq_true (Bool.and_eq_true_iff.mp hb).2, fun F2 σ2 H2 s2 R2 => h F2 σ2 H2 (s.1.trans s2) R2⟩
        · exact h.elim
    | _ => exact (show False from h).elim⟩
/-! ### raise -/
theorem st_raise {n : Nat} {C : Addr} {cl : Nat → Addr} {x m : Str} {j : Nat} {p3 p4 : Pos} {bmB : List Value} {B newId initId : String} (hc : X.calm = true) (tk : Takes X fun c d _ H => EX cl P.XE c d H) (F : ExcBaseFacts B newId initId bmB)
    (q : PySem.W.excIn X.K (cl n) bmB newId = true) (gC : X.mg x = some (.ref (cl n))) (kC : PySem.W.keepIn X.K (.ref (cl n)) = true) (rC : Raises X (.ref (cl n))) (hg : Gl X x) (hdb : (x == ("__debug__" : Str)) = false) :
    PS X (.Raise (some (.Call (.Name x p1) [.Constant (.str m) j p2] [] p3)) none p4) (tS P fun _ t => .exc n t) :=
  psMono (ps_raise hc tk (pmk_own F q gC kC rC hg hdb)) fun D σ H ⟨F, r, t, R, h⟩ => ⟨n, rfl, rfl, h F H (Same.refl F) R.toRelH⟩
end
end Fm

/-! ### the town of the draws -/
namespace Fm
open PySem PySem.Spec PyProof.Rows L2
section
variable {P : Pm} {X : Cx} {a b c : Expr} {pos p1 p2 : Pos} {fa fb fc : Rho → Tw → Res D} {i : Nat} {y : Str} {q : Pos} {j : Nat}
theorem tok_at {F H : Hp} {r : Rho} {t : Tw} {σ : L2.St} (R : RelP P F r t σ H) (e : r[i]? = some (.val .tok)) : σ[i]? = some (some (.ref P.T.a)) := by
  obtain ⟨v, e1, h⟩ := R.val i _ e
  cases h
  exact e1
/-- the town is changed -/
theorem Rel.town {F H H' : Hp} {r : Rho} {t t' : Tw} {σ : L2.St} (R : RelP P F r t σ H) (hn : ∀ b, b ≠ P.T.a → b ≠ P.T.b → H' b = H b) (tw : Town P.T t' H') : RelP P F r t' σ H' := by
  have fa := R.tF1
  have fb := R.tF2
  refine ⟨⟨fun b o h => ?_, R.new, R.base, fun b o h n1 n2 n3 => ?_, fun b h => ?_, tw, fa, fb, R.sc, fun x hx => ?_, R.nt⟩, R.len, R.val, fun i d h => ?_, R.inj⟩
  · have n1 : b ≠ P.T.a := fun e => by
      rw [e, fa] at h
      cases h
    have n2 : b ≠ P.T.b := fun e => by
      rw [e, fb] at h
      cases h
    rw [hn b n1 n2]
    exact R.sub b o h
  · rw [hn b n1 n2]
    exact R.old b o h n1 n2 n3
  · by_cases n1 : b = P.T.a
    · subst n1
      exact (h.no tw.a (by intro _ z; cases z)).elim
    · by_cases n2 : b = P.T.b
      · subst n2
        exact (h.no tw.b (by intro _ z; cases z)).elim
      · exact R.had b fun o e => h o (by rw [hn b n1 n2]; exact e)
  · have ka : ∀ b o, H b = some o → (∀ kvs, o ≠ .dK kvs) → H' b = some o := fun b o h n => by
      rw [hn b (fun z => by rw [z, R.tw.a] at h; cases h; exact n _ rfl) (fun z => by rw [z, R.tw.b] at h; cases h; exact n _ rfl)]
      exact h
    obtain ⟨ps, h1, h2, h3⟩ := R.tabs x hx
    refine ⟨ps, ka _ _ h1 (by intro _ z; cases z), h2, fun pos cv hc => ?_⟩
    obtain ⟨c, e1, e2⟩ := h3 pos cv hc
    exact ⟨c, e1, ka _ _ e2 (by intro _ z; cases z)⟩
  · obtain ⟨p, e, w⟩ := R.own i d h
    exact ⟨p, e, ⟨w.fr, w.n1, w.n2, w.h0, w.at_.keep (Same.refl F) fun o h => by rw [hn p w.n1 w.n2]; exact h⟩⟩
def tcountE (i : Nat) (r : Rho) (t : Tw) : Res D := match r[i]? with
    | some (.val .tok) => .ok (.int t.count) t
    | _ => .bad
def tgetE (i : Nat) (fk fd : Rho → Tw → Res D) (r : Rho) (t : Tw) : Res D := match r[i]? with
    | some (.val .tok) => (fk r t).bind fun y t1 => (fd r t1).bind fun z t2 => (match y, z with
      | .int a, .int b => .ok (.int ((lkT t2.rests a).getD b)) t2
      | _, _ => .bad)
    | _ => .bad
def tcntE (i : Nat) (fa : Rho → Tw → Res D) (r : Rho) (t : Tw) : Res (Fl × Rho) := match r[i]? with
    | some (.val .tok) => (fa r t).bind fun x t1 => (match x with
      | .int c => .ok (.nx, r) { t1 with count := c }
      | _ => .bad)
    | _ => .bad
def trstE (i : Nat) (fk fa : Rho → Tw → Res D) (r : Rho) (t : Tw) : Res (Fl × Rho) := match r[i]? with
    | some (.val .tok) => (fa r t).bind fun x t1 => (fk r t1).bind fun y t2 => (match x, y with
      | .int v, .int a => if decide (t2.rests.length < 1000000) then .ok (.nx, r) { t2 with rests := putT t2.rests a v } else .bad
      | _, _ => .bad)
    | _ => .bad
theorem tok_of {α : Type} {F : Hp} {r : Rho} {m : Res α} {Z : α → Tw → Prop} (h : Aft P F (match r[i]? with
    | some (.val .tok) => m
    | _ => .bad) Z) : r[i]? = some (.val .tok) ∧ Aft P F m Z := by
  split at h
  · rename_i e
    exact ⟨e, h⟩
  · exact h.elim
theorem valV_rests (rs : List (Int × Int)) (k : Int) : valV (rs.map fun p => ((.inl p.1 : Key), V.int p.2)) (.inl k) = (lkT rs k).map V.int := by
  induction rs with
  | nil => rfl
  | cons p r ih =>
    by_cases e : p.1 = k
    · rw [List.map_cons, valV_pos (by rw [e])]
      simp [lkT, List.find?_cons, e]
    · rw [List.map_cons, valV_neg (by simpa using e), ih]
      simp [lkT, List.find?_cons, e]
theorem putK_rests (rs : List (Int × Int)) (k v : Int) : putK (rs.map fun p => ((.inl p.1 : Key), V.int p.2)) (.inl k) (.int v) = (putT rs k v).map fun p => ((.inl p.1 : Key), V.int p.2) := by
  unfold putK putT
  have e : ((rs.map fun p => ((.inl p.1 : Key), V.int p.2)).any fun kv => decide (kv.1 = (.inl k : Key))) = rs.any fun p => decide (p.1 = k) := by
    rw [List.any_map]
    congr 1
    funext p
    simp
  rw [e]
  split
  · rw [List.map_map, List.map_map]
    refine List.map_congr_left fun p _ => ?_
    simp only [Function.comp]
    by_cases e : p.1 = k
    · simp [e]
    · simp [e]
  · simp
theorem putT_len (rs : List (Int × Int)) (k v : Int) : (putT rs k v).length ≤ rs.length + 1 := by
  unfold putT
  split <;> simp
/-- town['count'] -/
theorem s_tcount (hu : X.A.units + 200 < cLine) (hN : X.N[i]? = some y) (hv : Vis X.env.scope y) (hd : (y == ("__debug__" : Str)) = false) (hcd : (y == ("__classdict__" : Str)) = false) : PE X (.Subscript (.Name y q) (.Constant (.str "count") j p1) pos) (tD P (tcountE i)) := by
  refine peMono (pe_dget (by omega) (pe_slot hN hv hd hcd) pe_str (fun _ _ => rfl)) fun σ H Q ⟨F, r, t, R, h⟩ => ?_
  obtain ⟨e, h⟩ := tok_of h
  refine ⟨_, tok_at R e, P.T.a, .int t.count, rfl, DGet.k (k := .inr "count") R.tw.a, h _ _ _ Kp.refl R (.int _)⟩
theorem town_rests (hu : X.A.units + 200 < cLine) (hN : X.N[i]? = some y) (hv : Vis X.env.scope y) (hd : (y == ("__debug__" : Str)) = false) (hcd : (y == ("__classdict__" : Str)) = false) :
    PE X (.Subscript (.Name y q) (.Constant (.str "rests") j p1) pos) (fun σ H Q => ∃ F r t, RelP P F r t σ H ∧ r[i]? = some (.val .tok) ∧ Q (.ref P.T.b) H) := by
  refine peMono (pe_dget (by omega) (pe_slot hN hv hd hcd) pe_str (fun _ _ => rfl)) fun σ H Q ⟨F, r, t, R, e, h⟩ => ?_
  refine ⟨_, tok_at R e, P.T.a, .ref P.T.b, rfl, ?_, h⟩
  have := DGet.k (k := .inr "rests") R.tw.a
  exact this
theorem s_tget (hu : X.A.units + 200 < cLine) (hN : X.N[i]? = some y) (hv : Vis X.env.scope y) (hd : (y == ("__debug__" : Str)) = false) (hcd : (y == ("__classdict__" : Str)) = false) {p3 p4 : Pos} (hb : PE X b (tB P fb)) (hc : PE X c (tD P fc))
    (m : M2 X (.Subscript (.Name y q) (.Constant (.str "rests") j p1) pos) "get" p3 b c p4) : PE X (.Call (.Attribute (.Subscript (.Name y q) (.Constant (.str "rests") j p1) pos) "get" p3) [b, c] [] p4) (tD P (tgetE i fb fc)) := by
  refine peMono (pe_dget2 (by omega) (town_rests (P := P) hu hN hv hd hcd) hb hc m) fun σ H Q ⟨F, r, t, R, h⟩ => ?_
  obtain ⟨e, h⟩ := tok_of h
  refine ⟨F, r, t, R, e, P.T.b, rfl, .inl ⟨_, .inl R.tw.b⟩, F, r, t, R, h.bind.mono fun dy t1 h v F1 H1 s1 R1 ry => ⟨F1, r, t1, R1, (h.up s1.1).bind.mono fun dz t2 h u F2 H2 s2 R2 rz => ?_⟩⟩
  cases dy with
  | int k =>
    cases dz with
    | int z =>
      obtain rfl := (ry.mono s2.1).int R2
      cases rz
      refine ⟨_, DGet.k (k := .inl k) R2.tw.b, ?_⟩
      rw [valV_rests]
      have := h (.int ((lkT t2.rests k).getD z)) F2 H2 (s1.trans s2) R2 (.int _)
      cases e2 : lkT t2.rests k with
      | none =>
        rw [e2] at this
        exact this
      | some w =>
        rw [e2] at this
        exact this
    | _ => exact (show False from h).elim
  | _ => exact (show False from h).elim
/-- town['count'] = e -/
theorem st_tcnt (hu : X.A.units + 200 < cLine) (hN : X.N[i]? = some y) (hv : Vis X.env.scope y) (hd : (y == ("__debug__" : Str)) = false) (hcd : (y == ("__classdict__" : Str)) = false) (ha : PE X a (tD P fa))
    (hs : swapsWith a (some (.Subscript (.Name y q) (.Constant (.str "count") j p1) p2)) pos.line X.env = pure false) : PS X (.Assign [.Subscript (.Name y q) (.Constant (.str "count") j p1) p2] a pos) (tS P (tcntE i fa)) := by
  refine psMono (ps_dput (by omega) (pe_slot hN hv hd hcd) pe_str ha hs) fun D σ H ⟨F, r, t, R, h⟩ => ?_
  obtain ⟨e, h⟩ := tok_of h
  refine ⟨F, r, t, R, h.bind.mono fun d t1 h v F1 H1 s1 R1 rv => ⟨_, tok_at R1 e, ?_⟩⟩
  split at h
  · rename_i c
    cases rv
    have d := DPut.k (k := .inr "count") (v := .int c) R1.tw.a (by rw [sizeLine_eq]; simp)
    refine ⟨P.T.a, _, rfl, d, h F1 σ _ s1.1 (Rel.town R1 (fun b n1 n2 => upd_ne n1) ⟨?_, ?_, R1.tw.ne, R1.tw.small⟩)⟩
    · rw [upd_same]
      rfl
    · rw [upd_ne (Ne.symm R1.tw.ne)]
      exact R1.tw.b
  · exact h.elim
/-- town['rests'][k] = e -/
theorem st_trst (hu : X.A.units + 200 < cLine) (hN : X.N[i]? = some y) (hv : Vis X.env.scope y) (hd : (y == ("__debug__" : Str)) = false) (hcd : (y == ("__classdict__" : Str)) = false) {p3 : Pos} (hb : PE X b (tB P fb)) (ha : PE X a (tD P fa))
    (hs : swapsWith a (some (.Subscript (.Subscript (.Name y q) (.Constant (.str "rests") j p1) p2) b p3)) pos.line X.env = pure false) : PS X (.Assign [.Subscript (.Subscript (.Name y q) (.Constant (.str "rests") j p1) p2) b p3] a pos) (tS P (trstE i fb fa)) := by
  refine psMono (ps_dput (by omega) (town_rests (P := P) hu hN hv hd hcd) hb ha hs) fun D σ H ⟨F, r, t, R, h⟩ => ?_
  obtain ⟨e, h⟩ := tok_of h
  refine ⟨F, r, t, R, h.bind.mono fun d t1 h v F1 H1 s1 R1 rv => ⟨F1, r, t1, R1, e, F1, r, t1, R1, (h.up s1.1).bind.mono fun dk t2 h w F2 H2 s2 R2 rk => ?_⟩⟩
  cases d with
  | int z =>
    cases dk with
    | int k =>
      obtain rfl := rk.int R2
      have rv := rv.mono s2.1
      cases rv
      have h : Aft P F1 (if decide (t2.rests.length < 1000000) then .ok (.nx, r) { t2 with rests := putT t2.rests k z } else .bad) (aftS P F D) := h
      split at h
      · rename_i hl
        have hl := of_decide_eq_true hl
        have d := DPut.k (k := .inl k) (v := .int z) R2.tw.b (by rw [List.length_map, sizeLine_eq]; omega)
        rw [putK_rests] at d
        refine ⟨P.T.b, _, rfl, d, h F2 σ _ (s1.1.trans s2.1) (Rel.town R2 (fun b n1 n2 => upd_ne n2) ⟨?_, ?_, R2.tw.ne, ?_⟩)⟩
        · rw [upd_ne R2.tw.ne]
          exact R2.tw.a
        · rw [upd_same]
        · have := putT_len t2.rests k z
          show (putT t2.rests k z).length ≤ 1000000
          omega
      · exact h.elim
    | _ => exact (show False from h).elim
  | _ => exact (show False from h).elim
end
end Fm

/-! ### d.update(d2), displays of a dict, its keys walked, isinstance of a caught exception -/
namespace Fm
open PySem PySem.Spec PyProof.Rows L2
def rUpdD : V → List V → Hp → VK → Prop := fun x vs H Q => ∃ (a b : Addr) (kvs more : List (Key × V)), x = .ref a ∧ vs = [.ref b] ∧ a ≠ b ∧ H a = some (.dK kvs) ∧ Rd H b (.dK more) ∧ kvs.length + more.length ≤ sizeLine ∧ Q .non (upd H a (.dK (mergeK kvs more)))
theorem mt_updD {X : Cx} : MtR X "dict.update" rUpdD := by
  intro pins s σ H x vs v us Q I rx rv h
  obtain ⟨a, b, kvs, more, ex, ev, hab, e, e2, hz, q⟩ := h
  subst ex ev
  obtain rfl : v = Value.ref a := rx
  obtain ⟨u, rfl, ru⟩ := vals1 rv
  cases ru
  obtain ⟨z, hd, ws, rel, dd⟩ := dk_of I.hok e
  obtain ⟨z2, hd2, ws2, rel2, dd2⟩ := dk_rd I.hok e2
  refine call_meetsIn PySem.F.slot_dict_update dd.typeIs PySem.F.entry_dict_update (PySem.F.args_dict_update_2 _ _) (meets_dict_update (mixKind X.prog X.w) a b hab hd2) ⟨ws, ws2, dd, dd2, ?_, fun h' dd' _ hs => ?_⟩
  · rw [← rel.length, ← rel2.length]
    exact hz
  · have he : ∃ q, h'.get? a = some q := let ⟨q, _, _, hq, _⟩ := dd'; ⟨q, hq⟩
    have hl := length_mergeK more kvs
    exact ⟨.non, _, d_write (t' := s.toks) I (by rw [e]; exact True.intro) hs he (dk_new (by omega) hd (KV.merge rel2 rel) dd'), rfl, q⟩
section
variable {P : Pm} {X : Cx} {a b c : Expr} {pos p1 p2 : Pos} {fa fb fc : Rho → Tw → Res D}
def updE (i : Nat) (fa : Rho → Tw → Res D) (r : Rho) (t : Tw) : Res (Fl × Rho) := match r[i]? with
    | some (.own (.dct kvs)) => (fa r t).bind fun x t1 => (match x with
      | .dct more => if decide (kvs.length + more.length ≤ 16777216) then .ok (.nx, r.set i (.own (.dct (joinD kvs more)))) t1 else .bad
      | _ => .bad)
    | _ => .bad
theorem updE_ok {i : Nat} {F : Hp} {r : Rho} {t : Tw} {Z : Fl × Rho → Tw → Prop} (h : Aft P F (updE i fa r t) Z) : ∃ kvs, r[i]? = some (.own (.dct kvs)) ∧ Aft P F ((fa r t).bind fun x t1 => (match x with
      | .dct more => if decide (kvs.length + more.length ≤ 16777216) then .ok (.nx, r.set i (.own (.dct (joinD kvs more)))) t1 else .bad
      | _ => .bad)) Z := by
  unfold updE at h
  split at h
  · rename_i kvs e
    exact ⟨kvs, e, h⟩
  · exact h.elim
theorem RpK.join {K : PySem.W.Frag} {T : Tn} {F : Hp} : ∀ {more : List (Key × V)} {ms : List (Key × D)} {kvs : List (Key × V)} {es : List (Key × D)}, RpK K T F more ms → RpK K T F kvs es → RpK K T F (mergeK kvs more) (joinD es ms)
  | _, _, _, _, .nil, q => q
  | _, _, kvs, es, @RpK.cons _ _ _ k v ms d ns h r, q => (RpK.join r (q.put k h) : RpK K T F (mergeK (L2.putK kvs k v) ms) (joinD (putD es k d) ns))
theorem st_upd {i : Nat} {y : Str} (hN : X.N[i]? = some y) (hv : Vis X.env.scope y) (hd : (y == ("__debug__" : Str)) = false) (hcd : (y == ("__classdict__" : Str)) = false) (ha : PE X a (tD P fa)) (hline : (p1.endLine == p2.line) = true)
    (hs : starEach [a] X.env = (false, eval a X.env) :: starEach [] X.env) {q : Pos} : PS X (.Expr (.Call (.Attribute (.Name y q) "update" p1) [a] [] p2) pos) (tS P (updE i fa)) := by
  have hfew : ((backTo p2 (starEach [a] X.env)).all (fun x => !x.1) && (backToKw p2 (keywordEach [] X.env)).all (fun x => x.1.isSome)
      && decide (([a] : List Expr).length + ([] : List Keyword).length + (if ([] : List Keyword).isEmpty then 0 else 1) < 30)) = true := by
    rw [hs]
    rfl
  refine psMono (ps_expr (pe_bm PySem.F.plainAttrs_dict PySem.F.slot_dict_update PySem.F.type_dict_update mt_updD (pe_slot hN hv hd hcd) (pa_cons ha pa_nil hs) rfl hfew hline hs rfl) rfl) fun D σ H ⟨F, r, t, R, h⟩ => ?_
  obtain ⟨xs, e, h⟩ := updE_ok h
  obtain ⟨p, vs, e1, h1, h2, h3⟩ := own_dct R e
  refine ⟨_, e1, .inr (.inr (.inl ⟨rfl, .inl ⟨vs, h1⟩⟩)), F, r, t, R, h.bind.mono fun d t' h v F' H' s R' rv => ?_⟩
  cases d with
  | dct more =>
    cases rv with
    | @dct b o kvs _ hb hz hq =>
      have h : Aft P F (if decide (xs.length + more.length ≤ 16777216) then .ok (.nx, r.set i (.own (.dct (joinD xs more)))) t' else .bad) (aftS P F D) := h
      split at h
      · rename_i hl
        have hl := of_decide_eq_true hl
        obtain ⟨p', vs', e1', h1', h2', h3'⟩ := own_dct R' e
        rw [e1] at e1'
        cases e1'
        have hz2 : vs'.length + kvs.length ≤ sizeLine := by
          rw [h3'.length, hq.length, sizeLine_eq]
          exact hl
        have hlm := length_mergeK kvs vs'
        refine ⟨p, b, vs', kvs, rfl, rfl, fun z => ?_, h1', .inr ⟨o, R'.sub _ _ hb⟩, hz2, h F' σ _ s.1 (Rel.updOwn R' e e1 ⟨_, upd_same, by omega, RpK.join hq h3'⟩)⟩
        have := R'.sub _ _ hb
        rw [← z, h1'] at this
        cases this
      · exact h.elim
  | _ => exact (show False from h).elim
/-! ### {"a": e, ..} -/
def evL : List (Rho → Tw → Res D) → Rho → Tw → Res (List D)
  | [], _, t => .ok [] t
  | f :: fs, r, t => (f r t).bind fun x t1 => (evL fs r t1).bind fun xs t2 => .ok (x :: xs) t2
/-- keys and values as they are written -/
inductive DspE (X : Cx) (P : Pm) : List Str → List (Rho → Tw → Res D) → List (Option Expr) → List Expr → Prop
  | nil : DspE X P [] [] [] []
  | cons {x : Str} {f : Rho → Tw → Res D} {xs : List Str} {fs : List (Rho → Tw → Res D)} {ks : List (Option Expr)} {e : Expr} {vs : List Expr} {j : Nat} {q : Pos} : PE X e (tD P f) → DspE X P xs fs ks vs → DspE X P (x :: xs) (f :: fs) (some (.Constant (.str x) j q) :: ks) (e :: vs)
theorem DspE.pps {xs : List Str} {fs : List (Rho → Tw → Res D)} {ks : List (Option Expr)} {vs : List Expr} (h : DspE X P xs fs ks vs) : PPs X pos ks vs ((xs.zip fs).map fun p => (tC (.str p.1), tD P p.2)) := by
  induction h with
  | nil => exact pps_nil
  | cons h1 h ih => exact pps_cons pe_str h1 ih
theorem DspE.all {xs : List Str} {fs : List (Rho → Tw → Res D)} {ks : List (Option Expr)} {vs : List Expr} (h : DspE X P xs fs ks vs) : ks.all (·.isSome) = true ∧ ks.length = xs.length ∧ vs.length = xs.length ∧ fs.length = xs.length := by
  induction h with
  | nil => exact ⟨rfl, rfl, rfl, rfl⟩
  | cons h1 h ih => exact ⟨by simp [ih.1], by simp [ih.2.1], by simp [ih.2.2.1], by simp [ih.2.2.2]⟩
theorem evL_len {fs : List (Rho → Tw → Res D)} {r : Rho} : ∀ {t : Tw} {xs : List D} {t' : Tw}, evL fs r t = .ok xs t' → xs.length = fs.length := by
  induction fs with
  | nil =>
    intro t xs t' h
    cases h
    rfl
  | cons f fs ih =>
    intro t xs t' h
    unfold evL at h
    cases e : f r t with
    | ok x t1 =>
      rw [e] at h
      simp only [Res.bind_ok] at h
      cases e2 : evL fs r t1 with
      | ok ys t2 =>
        rw [e2] at h
        cases h
        simp [ih e2]
      | exc n t2 =>
        rw [e2] at h
        cases h
      | bad =>
        rw [e2] at h
        cases h
    | exc n t1 =>
      rw [e] at h
      cases h
    | bad =>
      rw [e] at h
      cases h
theorem pairs_read {σ : L2.St} {r : Rho} : ∀ {xs : List Str} {fs : List (Rho → Tw → Res D)} {F H : Hp} {t : Tw} {Z : List D → Tw → Prop} {Q : List (V × V) → Hp → Prop}, xs.length = fs.length → RelP P F r t σ H → Aft P F (evL fs r t) Z →
    (∀ ds t' vs F' H', Z ds t' → Kp P.T F H F' H' → RelP P F' r t' σ H' → RpL P.K P.T F' vs ds → vs.length = xs.length → Q ((xs.zip vs).map fun p => (V.str p.1, p.2)) H') → tPairs ((xs.zip fs).map fun p => (tC (.str p.1), tD P p.2)) σ H Q
  | [], [], F, H, t, Z, Q, _, R, h, q => q [] t [] F H h Kp.refl R .nil rfl
  | [], _ :: _, F, H, t, Z, Q, l, R, h, q => by cases l
  | _ :: _, [], F, H, t, Z, Q, l, R, h, q => by cases l
  | x :: xs, f :: fs, F, H, t, Z, Q, l, R, h, q => by
    have h : Aft P F ((f r t).bind fun x t1 => (evL fs r t1).bind fun xs t2 => .ok (x :: xs) t2) Z := h
    refine ⟨F, r, t, R, h.bind.mono fun d t1 h v F1 H1 s1 R1 rv => ?_⟩
    refine pairs_read (xs := xs) (fs := fs) (by simpa using l) R1 ((h.up s1.1).bind) fun ds t' vs F' H' z k R' rvs hl => ?_
    exact q (d :: ds) t' (v :: vs) F' H' z (s1.trans k) R' (.cons (rv.mono k.base) rvs) (by simp [hl])
theorem merge_rel2 {K : PySem.W.Frag} {T : Tn} {F : Hp} : ∀ {xs : List Str} {vs : List V} {ds : List D} {kvs : List (Key × V)} {es : List (Key × D)}, RpL K T F vs ds → RpK K T F kvs es →
    RpK K T F (mergeK kvs ((xs.zip vs).map fun p => (Sum.inr p.1, p.2))) (mergeD es (xs.zip ds))
  | [], _, _, _, _, _, q => q
  | _ :: _, _, _, _, _, .nil, q => q
  | x :: xs, _, _, _, _, .cons h r, q => merge_rel2 (xs := xs) r (q.put (Sum.inr x) h)
def dspEE (ks : List Str) (fs : List (Rho → Tw → Res D)) (r : Rho) (t : Tw) : Res D := (evL fs r t).bind fun xs t1 => if decide (xs.length ≤ 15) && decide (xs.length = ks.length) && decide (0 < xs.length) then .ok (.dct (mergeD [] (ks.zip xs))) t1 else .bad
theorem n_dspE {xs : List Str} {fs : List (Rho → Tw → Res D)} {ks : List (Option Expr)} {vs : List Expr} (h : DspE X P xs fs ks vs) (hl : xs.length ≤ 15 ∧ 0 < xs.length) : PE X (.Dict ks vs pos) (tN P (dspEE xs fs)) := by
  obtain ⟨a1, a2, a3, a4⟩ := h.all
  · have h0 : ks ≠ [] := fun e => by
      rw [e] at a2
      simp at a2
      omega
    refine peMono (pe_disp h.pps a1 (a2.trans a3.symm) h0 (by rw [a2]; exact hl.1)) fun σ H Q ⟨F, r, t, R, q⟩ p hp => ?_
    have q : Aft P F ((evL fs r t).bind fun ds t1 => if decide (ds.length ≤ 15) && decide (ds.length = xs.length) && decide (0 < ds.length) then .ok (D.dct (mergeD [] (xs.zip ds))) t1 else .bad) (fun d t' => ∀ v F' H' p, Kp P.T F H F' H' → RelP P F' r t' σ H' → Nn H p → Fre P F' r σ H' v d p → Q v H') := q
    have b0 := R.toRelH.newO (o := .dK []) hp
    refine pairs_read a4.symm (R.step b0) q.bind fun ds t' vs F' H' z k R' rvs hlv => ?_
    have n1 : p ≠ P.T.a := fun e => by
      rw [e, R.tw.a] at hp
      cases hp
    have n2 : p ≠ P.T.b := fun e => by
      rw [e, R.tw.b] at hp
      cases hp
    have hd : H' p = some (.dK []) := k.old p _ upd_same n1 n2 (by intro _ z; cases z)
    have hdl : ds.length = xs.length := by rw [← rvs.length, hlv]
    rw [if_pos (by simp only [Bool.and_eq_true, decide_eq_true_eq]; omega)] at z
    refine ⟨hd, (xs.zip vs).map (fun p => (Sum.inr p.1, p.2)), by simp [kV], by simp; omega, ?_⟩
    have fF : F' p = none := by
      cases e : F' p with
      | none => rfl
      | some o =>
        rcases k.new p o e with e2 | e2
        · rw [R.sub.free hp] at e2
          cases e2
        · exact (e2.no upd_same (by intro _ z; cases z)).elim
    have no : ∀ (i : Nat) (e : D), r[i]? = some (.own e) → σ[i]? ≠ some (some (.ref p)) := fun i e h1 h2 => by
      obtain ⟨q, e1, w⟩ := R.own i e h1
      rw [h2] at e1
      cases e1
      obtain ⟨o2, ho, _⟩ := w.at_.obj
      rw [hp] at ho
      cases ho
    have R2 : RelP P F' r t' σ (L2.upd H' p (.dK (mergeK [] ((xs.zip vs).map fun p => (Sum.inr p.1, p.2))))) := Rel.upd R' (by rw [hd]; simp) (fun ps z => by rw [hd] at z; cases z) (fun c q z => by rw [hd] at z; cases z) fF (R.had p (.of hp)) n1 n2 no
    refine z _ F' _ p ⟨b0.base.trans k.base, fun c o e => ?_, fun c o e m1 m2 m3 => ?_, fun c e => ?_⟩ R2 (.of hp) ⟨rfl, ⟨fF, n1, n2, R.had p (.of hp), _, upd_same, ?_, merge_rel2 rvs .nil⟩, no⟩
    · rcases k.new c o e with e2 | e2
      · exact .inl e2
      · exact .inr (b0.had c e2)
    · have nc : c ≠ p := fun z => by
        rw [z, hp] at e
        cases e
      rw [upd_ne nc]
      exact k.old c o (by rw [upd_ne nc]; exact e) m1 m2 m3
    · exact b0.had c (k.had c (e.upd (by intro _ z; cases z)).1)
    · have := length_mergeK ((xs.zip vs).map fun p => (Sum.inr p.1, p.2)) ([] : List (Key × V))
      rw [sizeLine_eq]
      simp at this
      omega
/-! ### for k in d -/
theorem RpK.getK {K : PySem.W.Frag} {T : Tn} {F : Hp} : ∀ {kvs : List (Key × V)} {es : List (Key × D)}, RpK K T F kvs es → kvs.map (·.1) = es.map (·.1)
  | _, _, .nil => rfl
  | _, _, .cons _ r => by simp [r.getK]
def keysE (fa : Rho → Tw → Res D) (r : Rho) (t : Tw) : Res (List D) := (fa r t).bind fun x t1 => match x with
    | .dct kvs => .ok (kvs.map fun p => kD p.1) t1
    | _ => .bad
theorem i_keys {tg : Expr} {fz : Bool} (ha : PE X a (tD P fa)) : PI X tg a (tI P fz (keysE fa)) := piMono (pi_keys ha) fun σ H Q ⟨F, r, t, R, h⟩ => ⟨F, r, t, R, h.bind.mono fun d t' h v F' H' s R' rv => by
  cases d with
  | dct es =>
    cases rv with
    | @dct p o kvs _ h1 z h2 =>
      refine ⟨p, o, rfl, .inl ⟨kvs, R'.sub _ _ h1, h _ _ _ s R' (WD.fz ?_ fz)⟩⟩
      have w := walk_keys (d := p) (o := o) (kvs := kvs)
      have hl : (es.map fun q => kD q.1).length = kvs.length := by rw [List.length_map, h2.length]
      refine ⟨fun i H hi g => w.goes i H (by rw [← hl]; exact hi) (g _ _ h1), fun H g => by rw [hl]; exact w.stops H (g _ _ h1), fun i H x H' d e g y => .inl ?_⟩
      have hi : i < kvs.length := by
        rw [← hl]
        exact (List.getElem?_eq_some_iff.mp e).1
      obtain ⟨e1, k, v, e2, rfl⟩ := w.yields i H x H' hi (g _ _ h1) y
      refine ⟨e1, ?_⟩
      have e3 : (es.map (·.1))[i]? = some k := by
        rw [← h2.getK, List.getElem?_map, e2]
        rfl
      have e4 : (es.map fun q => kD q.1)[i]? = some (kD k) := by
        have : (es.map fun q => kD q.1) = (es.map (·.1)).map kD := by simp
        rw [this, List.getElem?_map, e3]
        rfl
      rw [e4] at e
      cases e
      cases k with
      | inl i => exact .int i
      | inr x => exact .str x
  | _ => exact (show False from h).elim⟩
/-! ### isinstance of a caught exception -/
def rIsX (K : PySem.W.Frag) : List V → Hp → VK → Prop := fun xs H Q => ∃ (a C : Addr) (c : V) (cv : Value) (b : Bool), xs = [.ref a, c] ∧ ExcC K C ∧ H a = some (ExI (.ref C) a) ∧ (∀ u, RelV c u → u = cv) ∧ PySem.W.kitOne K (.ref C) cv = some b ∧ Q (.bl b) H
theorem call_isX : CallR X (.builtin "isinstance") (rIsX X.K) := by
  intro pins s σ H xs us Q I r h
  obtain ⟨a, C, c, cv, b, rfl, hC, ha, hcv, e, q⟩ := h
  cases r with
  | cons rx rr =>
    cases rr with
    | cons rt rr =>
      cases rr
      cases rx
      have ec := hcv _ rt
      subst ec
      obtain ⟨⟨oe, vs, hget, hz, hv⟩, _, _⟩ := I.hok a _ ha
      have J : PySem.W.InstAt s.heap a oe C none := by
        obtain ⟨oc, od, oda, osl⟩ := oe
        obtain ⟨h1, h2⟩ := hz
        dsimp only at h1 h2 hv
        subst h1 h2 hv
        exact ⟨hget, rfl, rfl, trivial⟩
      exact PySem.W.kia_one (PySem.W.handS_kitx_exc hC.hg hC.hk hC.hs hC.hd hC.ha hC.hn hC.ht hC.hm) I.kIn J e (fun z => nomatch z) fun tk => ⟨.bl b, H, I.kept (t' := tk) fun _ _ z => z, rfl, q⟩
/-- what the nine classes say -/
structure Nine (K : PySem.W.Frag) (cl : Nat → Addr) : Prop where
  c : ∀ m, m < 9 → ExcC K (cl m)
  s : ∀ m n, m < 9 → n < 9 → PySem.W.kitOne K (.ref (cl m)) (.ref (cl n)) = some (decide (m = n))
  v : ∀ m, m < 9 → PySem.W.kitOne K (.ref (cl m)) (.type "ValueError") = some true
theorem s_isx (hK : X.K = P.K) (N9 : Nine X.K P.T.cl) {n : Nat} {y : Str} (hn : n < 9) (hg : Gl X "isinstance") (hm : X.mg "isinstance" = none) (hgy : Gl X y) (hmy : X.mg y = some (.ref (P.T.cl n))) (hdy : (y == ("__debug__" : Str)) = false) (ha : PE X a (tB P fa))
    (hs : starEach [a, .Name y p2] X.env = (false, eval a X.env) :: starEach [.Name y p2] X.env) :
    PE X (.Call (.Name "isinstance" p1) [a, .Name y p2] [] pos) (tD P fun r t => (fa r t).bind fun x t1 => Fm.lift (isxD x n) t1) := by
  have hT : PE X (.Name y p2) (tC (.ref (P.T.cl n))) := pe_glob hgy hmy rfl hdy
  refine peMono (pe_callB call_isX hg hm PyProof.Rows.boot_isinstance (pa_cons ha (pa_cons hT pa_nil rfl) hs) (by decide) (by decide) hs (by rfl)) fun σ H Q ⟨F, r, t, R, h⟩ => ⟨F, r, t, R, h.bind.mono fun d t1 h v F1 H1 s1 R1 rv => ?_⟩
  obtain ⟨d2, e, q⟩ := h.lift
  cases d with
  | exc m =>
    have e : (if decide (m < 9) && decide (n < 9) then some (D.bl (decide (m = n))) else none) = some d2 := e
    split at e
    · rename_i hm9
      simp only [Bool.and_eq_true, decide_eq_true_eq] at hm9
      cases e
      cases rv.rp R1 (fun _ z => by cases z) (fun _ z => by cases z) with
      | exc _ h1 => exact ⟨_, P.T.cl m, .ref (P.T.cl n), .ref (P.T.cl n), decide (m = n), rfl, N9.c m hm9.1, R1.sub _ _ h1, fun u z => z, N9.s m n hm9.1 hn, q _ _ _ s1 R1 (.bl _)⟩
    · cases e
  | _ => cases e
theorem s_isv (hK : X.K = P.K) (N9 : Nine X.K P.T.cl) (hg : Gl X "isinstance") (hm : X.mg "isinstance" = none) (hgy : Gl X "ValueError") (hmy : X.mg "ValueError" = none) (ha : PE X a (tB P fa))
    (hs : starEach [a, .Name "ValueError" p2] X.env = (false, eval a X.env) :: starEach [.Name "ValueError" p2] X.env) :
    PE X (.Call (.Name "isinstance" p1) [a, .Name "ValueError" p2] [] pos) (tD P fun r t => (fa r t).bind fun x t1 => Fm.lift (isvD x) t1) := by
  have hT : PE X (.Name "ValueError" p2) (tC (.ty "ValueError")) := pe_bltn hgy hmy (by decide +kernel) rfl (by decide) (by decide)
  refine peMono (pe_callB call_isX hg hm PyProof.Rows.boot_isinstance (pa_cons ha (pa_cons hT pa_nil rfl) hs) (by decide) (by decide) hs (by rfl)) fun σ H Q ⟨F, r, t, R, h⟩ => ⟨F, r, t, R, h.bind.mono fun d t1 h v F1 H1 s1 R1 rv => ?_⟩
  obtain ⟨d2, e, q⟩ := h.lift
  cases d with
  | exc m =>
    have e : (if decide (m < 9) then some (D.bl true) else none) = some d2 := e
    split at e
    · rename_i hm9
      simp only [decide_eq_true_eq] at hm9
      cases e
      cases rv.rp R1 (fun _ z => by cases z) (fun _ z => by cases z) with
      | exc _ h1 => exact ⟨_, P.T.cl m, .ty "ValueError", .type "ValueError", true, rfl, N9.c m hm9, R1.sub _ _ h1, fun u z => z, N9.v m hm9, q _ _ _ s1 R1 (.bl _)⟩
    · cases e
  | _ => cases e
end
end Fm

/-! ### try: body, except x as n: suite; the exception is known behind it -/
namespace Fm
open PySem PySem.Spec PyProof.Rows L2
section
variable {X : Cx} {pins : List (Addr × Obj)} {σ : L2.St} {H : Hp} {s : Shared}
theorem inv_track {a : Addr} {φ : Heap → Prop} {oe : Obj} {vs : Array Value} (I : Inv X pins σ H s) (hn : H a = none) (h0 : X.s_0.heap.get? a = none) (ha : s.heap.get? a = some oe) (hd : oe.data = .fields vs) (nL : a ≠ X.env.locals)
    (np : ∀ p ∈ X.pn ++ pins, p.1 ≠ a) (new : ObjOk X.prog X.w (upd H a (.ext φ)) s.heap a (.ext φ)) : Inv X pins σ (upd H a (.ext φ)) s := by
  -- at every other place the table tells what it told
  have off : ∀ {b}, b ≠ a → upd H a (.ext φ) b = H b := upd_ne
  have was : ∀ {b u}, H b = some u → upd H a (.ext φ) b = some u := fun {b u} e => (off (ne_of_none e hn)).trans e
  have noCell : ∀ x c, X.env.cells.lookup x = some c → c ≠ a := by
    rintro x c e rfl
    obtain ⟨v, o, ho, hc⟩ := I.cell x c e
    rw [show o = oe from Option.some.inj (ho.symm.trans ha), hd] at hc
    exact nomatch hc
  exact {
    ok := I.ok, os := I.os, bare := I.bare, loc := I.loc, cell := I.cell, len := I.len
    base := {
      keep := I.base.keep, slot := I.base.slot, there := I.base.there
      free := fun b o e n hx => (off (by rintro rfl; rw [h0] at e; cases e)).trans (I.base.free b o e n hx)
      tups := fun b xs e => was (I.base.tups b xs e)
      frzs := fun b o u e => was (I.base.frzs b o u e)
      tbls := fun b ps e => (I.base.tbls b ps e).imp fun _ => was }
    free := (off nL.symm).trans I.free
    freeC := fun x c e => (off (noCell x c e)).trans (I.freeC x c e)
    pin := fun p hp => (I.pin p hp).imp_right fun q => q.imp_left (off (np p hp)).trans
    hok := fun b u e => by
      by_cases hb : b = a
      · subst hb
        obtain rfl : HO.ext φ = u := Option.some.inj (upd_same.symm.trans e)
        exact new
      · exact (I.hok b u ((off hb).symm.trans e)).stay (fun _ _ _ q => q) (fun _ => was) fun _ _ => was }
end
/-- what the clause wishes of an exception of the body -/
def wKeep (K : PySem.W.Frag) (N : List Str) (c : Value) (i : Nat) (ts : Addr → Value → Option Addr → TS) (D : Ends) : WX := fun cls d σ H =>
  d = none ∧ PySem.W.exmOne K cls c = some true ∧ (σ.length = N.length → ∀ a, H a = none → ts a cls d { nx := fun σ' H' => H' a = none → D.nx (σ'.set i none) (upd H' a (ExI cls a)), rt := fun _ _ => False, bk := fun _ _ => False, ct := fun _ _ => False } (σ.set i (some (.ref a))) H)
/-- an exception in the air is nothing that the def knew -/
structure Aloft (X : Cx) (pins : List (Addr × Obj)) (a : Addr) : Prop where
  loc : a ≠ X.env.locals
  fs : a ∉ X.fs
  old : X.s_0.heap.get? a = none
  pin : ∀ p ∈ X.pn ++ pins, p.1 ≠ a
theorem aloft {X : Cx} {pins : List (Addr × Obj)} {σ : L2.St} {H : Hp} {sI : Shared} {B h : Heap} {a : Addr} {Z : Obj → Prop} (hs : X.stack = X.env :: X.outer) (hf : X.env.frame = some X.env.locals) (hex : X.ex = []) (J : Inv X pins σ H sI)
    (nb : ∀ b o, sI.heap.get? b = some o → b ∉ frs X.stack → B.get? b = some o) (fl : HandSPX.FlyingZ B (X.env :: X.outer) a Z h) : Aloft X pins a := by
  have noFrame : a ∉ frs X.stack := by
    rw [hs]
    intro m
    obtain ⟨o, vs, e, _, dd⟩ := fl.there
    obtain ⟨_, o2, e2, no⟩ := fl.2.2.1.mem m
    exact no vs (Option.some.inj (e2.symm.trans e) ▸ dd)
  have unseen : sI.heap.get? a = none := Option.eq_none_iff_forall_ne_some.mpr fun o e => by
    have z := nb a o e noFrame
    rw [fl.2.1] at z
    exact nomatch z
  have up : ∀ e ∈ X.env :: X.outer, e.frame = some a → False := fun e he q => noFrame (hs ▸ List.mem_filterMap.mpr ⟨e, he, q⟩)
  refine ⟨?_, ?_, ?_, ?_⟩
  · rintro rfl
    exact up _ List.mem_cons_self hf
  · intro m
    obtain ⟨e, he, q⟩ := List.mem_filterMap.mp m
    exact up e (List.mem_cons_of_mem _ he) q
  · refine Option.eq_none_iff_forall_ne_some.mpr fun o e => ?_
    obtain ⟨o2, e2⟩ := J.base.there a o e (by rw [hex]; exact List.not_mem_nil)
    rw [unseen] at e2
    exact nomatch e2
  · rintro ⟨_, o⟩ hp rfl
    have z := (J.pin _ hp).1
    rw [unseen] at z
    exact nomatch z
section
variable {X : Cx} {x n : Str} {c : Value} {i : Nat} {body suite : List Stmt} {b₀ : Stmt} {np pos pos' : Pos} {tb : WX → TS} {ts : Addr → Value → Option Addr → TS}
theorem ps_try_keep (hs : X.stack = X.env :: X.outer) (hf : X.env.frame = some X.env.locals) (hex : X.ex = []) (hN : X.N.Nodup) (hi : X.N[i]? = some n) (hln : X.env.kindOf n = some .local) (hc : Names X x c)
    (hb : ∀ (W : WX) (pn : List (Addr × Obj)) (xe : Value → Shared → Prop), Takes (X.tr pn xe) W → PassesOwn (model X.prog X.w) X.A X.env xe → PSs (X.tr pn xe) body (tb W))
    (hsu : ∀ (a : Addr) (oe : Obj) (cls : Value) (d : Option Addr) (pn : List (Addr × Obj)), Zc cls d oe → (∃ vs, oe.data = .fields vs) → PSs (X.suite a ((a, oe) :: pn)) (b₀ :: suite) (ts a cls d)) :
    PS X (.Try body [.ExceptHandler (some (.Name x np)) (some n) (b₀ :: suite) pos'] [] [] pos) (fun D σ H => tb (wKeep X.K X.N c i ts D) D σ H) := by
  constructor
  intro pins s σ H D I h
  have ok := I.ok
  -- the body's end in the try's context is one in the def's own
  have plainEnd : ∀ {pn : List (Addr × Obj)} {xe : Value → Shared → Prop} {fl : Flow} {s1 : Shared}, SP (X.tr (X.pn ++ pins) xe) pn D fl s1 → SP X pins D fl s1 := fun {pn xe fl s1} q => by
    cases fl
    case ret => exact let ⟨v, σ1, H1, J, r⟩ := q; ⟨v, σ1, H1, J.ofTry ok, r⟩
    all_goals exact let ⟨σ1, H1, J, r⟩ := q; ⟨σ1, H1, J.ofTry ok, r⟩
  refine wpAny_Try_except (wpAny_mono ((hb (wKeep X.K X.N c i ts D) (X.pn ++ pins) _ ?landed PassesOwn.looking).run [] s σ H D (I.toTry _) h) ?fine fun _ _ z => z)
  case fine =>
    intro fl s1 q
    have q := plainEnd q
    cases fl
    case next => exact wpAny_execs_nil q
    all_goals exact q
  case landed =>
    rintro _ s1 ⟨a, B, sI, pn, σ1, H1, cls, _, rfl, J0, nb, up, sky, na, os, ag, rfl, fits, go⟩
    have J : Inv X pins σ1 H1 sI := J0.ofTry ok
    have frames : X.A.frames = some (X.env :: X.outer) := ok.frames.trans (congrArg some hs)
    refine Sky.land Zc.steady frames hf (show Sky B (X.env :: X.outer) a (Zc cls none) X.env.locals s1.heap from hs ▸ sky) fun h2 fl2 up2 => ?_
    have al : Aloft X pins a := aloft hs hf hex J nb fl2
    -- in whatever heap it has landed, the suite may begin
    have begun : ∀ {h : Heap}, HandSPX.FlyingZ B (X.env :: X.outer) a (Zc cls none) h → sI.heap.UpToSlots h → ∃ oe vs, h.get? a = some oe ∧ Zc cls none oe ∧ oe.data = .fields vs ∧ Inv X pins σ1 H1 { s1 with heap := h } ∧ Inv (X.suite a ((a, oe) :: (X.pn ++ pins))) [] σ1 H1 { s1 with heap := h } := fun {h} fl to => by
      obtain ⟨oe, vs, e, z, dd⟩ := fl.there
      have K : Inv X pins σ1 H1 { s1 with heap := h } := J.landed nb fl.1 to os ag
      exact ⟨oe, vs, e, z, dd, K, K.suite e dd na al.loc al.fs⟩
    obtain ⟨o2, _, e2, z2, _, K2, S2⟩ := begun fl2 (up.trans up2)
    refine wpAny_handleBy_cons (codeAny_handlers_test ?_) nofun
    have kind : PySem.W.Looks (model X.prog X.w) h2 (typeOf (.ref a)) cls := fun _ _ _ _ k q => wpAny_typeOf_ref (k _ _ e2) (z2.1.symm ▸ q)
    have caught := PySem.W.exm_one (M := model X.prog X.w) K2.kIn kind fits
    have named : ∀ {Q E}, Q c { s1 with heap := h2 } → wpAny (model X.prog X.w) (X.A.mark (some (.ref a))) (eval (.Name x np) X.env) Q E { s1 with heap := h2 } := fun q => by
      obtain ⟨hg, dbg, hm | ⟨hm, hv, nn⟩⟩ := hc
      · exact ld_glob (X := X.suite a _) S2 hg hm q dbg
      · exact ld_blt (X := X.suite a _) S2 hg hm hv q nn dbg
    refine named (caught.here (codeAny_handlers_suite_as (HandSPX.lands_againZ fl2 fun h4 fl4 up4 => ?_)))
    obtain ⟨o4, v4, _, z4, d4, _, S4⟩ := begun fl4 ((up.trans up2).trans up4)
    refine store_ok (X := X.suite a _) (v := .ref a) S4 hN hi (.inl hln) rfl (fun s5 S5 => ?_) (.inr hln)
    refine wpAny_mono ((hsu a o4 cls none _ z4 ⟨v4, d4⟩).run [] s5 _ H1 _ S5 (go J.len a na)) (fun fl s6 q => ?_) fun _ _ z => z.elim
    cases fl
    case next =>
      obtain ⟨σ6, H6, S6, q⟩ := q
      refine gone_ok (X := X.suite a _) S6 hN hi hln fun s7 S7 => ?_
      have ⟨there, none7, _⟩ := S7.pin (a, o4) (List.mem_append_left _ List.mem_cons_self)
      exact ⟨_, _, inv_track (S7.unsuite ok) none7 al.old there d4 al.loc al.pin ⟨⟨o4, v4, there, z4, d4⟩, ⟨o4, there⟩, fun _ _ ⟨o, v, q, r⟩ k => ⟨o, v, k o q, r⟩⟩, q none7⟩
    case ret => exact let ⟨_, _, _, _, _, z⟩ := q; z.elim
    all_goals exact let ⟨_, _, _, z⟩ := q; z.elim
end
end Fm

/-! ### x.index(y), l.insert(i, y) -/
namespace Fm
open PySem PySem.Spec PyProof.Rows L2
theorem RpL.strsOf {K : PySem.W.Frag} {T : Tn} {F : Hp} : ∀ {vs : List V} {ds : List D} {ys : List Str}, RpL K T F vs ds → strsD ds = some ys → vs = ys.map V.str ∧ ds = ys.map D.str
  | _, _, ns, .nil, h => by
    simp only [strsD, Option.some.injEq] at h
    subst h
    exact ⟨rfl, rfl⟩
  | _, _, ns, @RpL.cons _ _ _ v vs d ds h r, e => by
    cases h with
    | str i =>
      simp only [strsD, Option.map_eq_some_iff] at e
      obtain ⟨ms, e1, e2⟩ := e
      subst e2
      obtain ⟨q1, q2⟩ := r.strsOf e1
      rw [q1, q2]
      exact ⟨rfl, rfl⟩
    | _ => simp [strsD] at e
theorem idxOf_first {ys : List Str} {z : Str} : ∀ m, m < ys.idxOf z → ys[m]? ≠ some z := by
  induction ys with
  | nil => intro m h; simp at h
  | cons y ys ih =>
    intro m h
    rw [List.idxOf_cons] at h
    by_cases e : y = z
    · subst e
      simp at h
    · have e2 : (y == z) = false := by simpa using e
      rw [e2] at h
      simp only [cond_false] at h
      cases m with
      | zero => simpa using e
      | succ m =>
        simp only [List.getElem?_cons_succ]
        exact ih m (by omega)
theorem idxOf_at {ys : List Str} {z : Str} (h : z ∈ ys) : ys[ys.idxOf z]? = some z := by
  rw [List.getElem?_eq_getElem (List.idxOf_lt_length_of_mem h)]
  simp
section
variable {P : Pm} {X : Cx} {a b c : Expr} {pos p1 p2 : Pos} {fa fb fc : Rho → Tw → Res D}
theorem few1 (hs : starEach [a] X.env = (false, eval a X.env) :: starEach [] X.env) : ((backTo p2 (starEach [a] X.env)).all (fun x => !x.1) && (backToKw p2 (keywordEach [] X.env)).all (fun x => x.1.isSome)
      && decide (([a] : List Expr).length + ([] : List Keyword).length + (if ([] : List Keyword).isEmpty then 0 else 1) < 30)) = true := by
  rw [hs]
  rfl
def idxE (fa fb : Rho → Tw → Res D) (r : Rho) (t : Tw) : Res D := (fa r t).bind fun x t1 => if isSq true x then (fb r t1).bind fun y t2 => Fm.lift (idxD true x y) t2 else .bad
/-- a constant that is a tuple -/
structure ConT (X : Cx) (P : Pm) (x : Str) (d : D) : Prop where
  ex : ∃ (a : Addr) (o : Obj) (xs : List V) (ds : List D), X.mg x = some (.ref a) ∧ X.K.lookup a = some o ∧ o.cls = .type "tuple" ∧ o.dict = none ∧ d = .tup ds ∧ SqT X.K (fun _ => none) a xs ∧ RpL P.K P.T (fun _ => none) xs ds
theorem s_idxG {x : Str} {d0 : D} {q : Pos} (hg : Gl X x) (c0 : ConT X P x d0) (hdb : (x == ("__debug__" : Str)) = false) (hb : PE X b (tD P fb)) (hline : (p1.endLine == p2.line) = true) (hs : starEach [b] X.env = (false, eval b X.env) :: starEach [] X.env) :
    PE X (.Call (.Attribute (.Name x q) "index" p1) [b] [] p2) (tD P fun r t => (fb r t).bind fun y t1 => Fm.lift (idxD false d0 y) t1) := by
  obtain ⟨a, o, vs, xs, hm, lk, oc, od, rfl, e1, q1⟩ := c0.ex
  refine peMono (pe_bm PySem.F.plainAttrs_tuple PySem.F.slot_tuple_index PySem.F.type_tuple_index mt_tup_index (pe_glob (v := .ref a) hg hm rfl hdb) (pa_cons hb pa_nil hs) rfl (few1 hs) hline hs rfl) fun σ H Q ⟨F, r, t, R, h⟩ => ⟨.inr (.inl ⟨rfl, o, lk, oc, od⟩), F, r, t, R, h.bind.mono fun dy t2 h w F2 H2 s2 R2 ry => ?_⟩
  obtain ⟨d, e, q⟩ := h.lift
  cases dy with
  | str z =>
    cases ry
    obtain ⟨ys, e2, e3⟩ := Option.bind_eq_some_iff.mp (show ((strsD xs).bind fun ys => if decide (z ∈ ys) then some (D.int (ys.idxOf z : Nat)) else none) = some d from e)
    split at e3
    · rename_i hm
      have hm := of_decide_eq_true hm
      cases e3
      obtain ⟨rfl, _⟩ := q1.strsOf e2
      exact ⟨a, ys, z, ys.idxOf z, rfl, rfl, sqT_mono (fun _ _ z => by cases z) e1, idxOf_at hm, idxOf_first, q _ _ _ s2 R2 (.int _)⟩
    · cases e3
  | _ => cases e
theorem strs_eqv (y z : Str) : PyData.eqv (D.str y).py (D.str z).py = decide (y = z) := by
  simp [D.py, PyData.eqv, Bool.beq_eq_decide_eq]
theorem shaped_lst {ys : List Str} (h : lay (.lst (ys.map D.str)) = true) : SeqAt.shaped (D.lst (ys.map D.str)).py = true := by
  have hd : (D.lst (ys.map D.str)).py.depth ≤ 1 := by
    simp only [D.py, PyData.depth]
    have : ∀ ys : List Str, PyData.depthAll (pys (ys.map D.str)) = 0 := fun ys => by
      induction ys with
      | nil => rfl
      | cons y ys ih => simp [pys, PyData.depthAll, D.py, PyData.depth, ih]
    rw [this]
    exact Nat.le_refl _
  unfold SeqAt.shaped
  rw [Bool.and_eq_true, decide_eq_true_eq]
  exact ⟨h, by omega⟩
theorem s_idxL (hK : X.K = P.K) (hu : X.A.units + 200 < cLine) (ha : PE X a (tB P fa)) (hb : PE X b (tD P fb)) (hbase : attributeBase a "index" X.env (eval a X.env) = eval a X.env) (hline : (p1.endLine == p2.line) = true) (hs : starEach [b] X.env = (false, eval b X.env) :: starEach [] X.env) :
    PE X (.Call (.Attribute a "index" p1) [b] [] p2) (tD P (idxE fa fb)) := by
  refine peMono (pe_bm PySem.F.plainAttrs_list PySem.F.slot_list_index PySem.F.type_list_index (mt_indexD (by omega)) ha (pa_cons hb pa_nil hs) hbase (few1 hs) hline hs rfl) fun σ H Q ⟨F, r, t, R, h⟩ => ⟨F, r, t, R, h.bind.mono fun dx t1 h v F1 H1 s1 R1 rx => ?_⟩
  cases dx with
  | lst xs =>
    have h : Aft P F ((fb r t1).bind fun y t2 => Fm.lift (idxD true (.lst xs) y) t2) _ := h
    obtain ⟨p, vs, rfl, e1, z1, q1⟩ := rx.lst R1
    refine ⟨.inl ⟨rfl, vs, SqL.of e1⟩, F1, r, t1, R1, (h.up s1.1).bind.mono fun dy t2 h w F2 H2 s2 R2 ry => ?_⟩
    obtain ⟨d, e, q⟩ := h.lift
    cases dy with
    | str z =>
      cases ry
      obtain ⟨ys, e2, e3⟩ := Option.bind_eq_some_iff.mp (show ((strsD xs).bind fun ys => if decide (z ∈ ys) && (lay (.lst xs) && lay (.str z)) then some (D.int (ys.idxOf z : Nat)) else none) = some d from e)
      split at e3
      · rename_i hm
        obtain ⟨hm1, hl⟩ := Bool.and_eq_true_iff.mp hm
        obtain ⟨hl1, hl2⟩ := Bool.and_eq_true_iff.mp hl
        have hmz : z ∈ ys := of_decide_eq_true hm1
        cases e3
        have rx2 := rx.mono s2.1
        obtain ⟨rfl, rfl⟩ := q1.strsOf e2
        have D1 := rx2.dp R2 hl1
        have hD : (D.lst (ys.map D.str)).py = .list (pys (ys.map D.str)) := rfl
        rw [hD] at D1
        have gp : ∀ m y, ys[m]? = some y → (pys (ys.map D.str))[m]? = some (D.str y).py := fun m y e => by
          have : ∀ (l : List D), pys l = l.map D.py := fun l => by
            induction l with
            | nil => rfl
            | cons x l ih => simp [pys, ih]
          rw [this, List.map_map, List.getElem?_map, e]
          rfl
        have gl : (pys (ys.map D.str)).length = ys.length := by
          have : ∀ (l : List D), pys l = l.map D.py := fun l => by
            induction l with
            | nil => rfl
            | cons x l ih => simp [pys, ih]
          rw [this]
          simp
        rw [hK]
        refine ⟨p, .str z, (D.str z).py, pys (ys.map D.str), ys.idxOf z, (D.str z).py, rfl, rfl, D1, .str z, shaped_lst hl1, ?_, gp _ _ (idxOf_at hmz), by rw [strs_eqv]; simp, fun m z' hm' hz' => ?_, q _ _ _ (s1.trans s2) R2 (.int _)⟩
        · unfold SeqAt.shaped
          rw [Bool.and_eq_true, decide_eq_true_eq]
          exact ⟨hl2, by simp [D.py, PyData.depth]⟩
        · have hlt : m < ys.length := by
            have := (List.getElem?_eq_some_iff.mp hz').1
            rw [gl] at this
            exact this
          have e4 := gp m _ (List.getElem?_eq_getElem hlt)
          rw [e4] at hz'
          cases hz'
          rw [strs_eqv]
          have := idxOf_first m hm'
          rw [List.getElem?_eq_getElem hlt] at this
          simpa using fun z => this (by rw [z])
      · cases e3
    | _ => cases e
  | _ => exact (show False from h).elim
/-! ### name.insert(k, e) -/
def insE (i : Nat) (fk fa : Rho → Tw → Res D) (r : Rho) (t : Tw) : Res (Fl × Rho) := match r[i]? with
    | some (.own (.lst xs)) => (fk r t).bind fun y t1 => (fa r t1).bind fun x t2 => (match y with
      | .int j => if decide (0 ≤ j) && decide (j < 2 ^ 63) && decide (xs.length < 16777216) then .ok (.nx, r.set i (.own (.lst (xs.take j.toNat ++ [x] ++ xs.drop j.toNat)))) t2 else .bad
      | _ => .bad)
    | _ => .bad
theorem insE_ok {i : Nat} {F : Hp} {r : Rho} {t : Tw} {Z : Fl × Rho → Tw → Prop} (h : Aft P F (insE i fb fa r t) Z) : ∃ xs, r[i]? = some (.own (.lst xs)) ∧ Aft P F ((fb r t).bind fun y t1 => (fa r t1).bind fun x t2 => (match y with
      | .int j => if decide (0 ≤ j) && decide (j < 2 ^ 63) && decide (xs.length < 16777216) then .ok (.nx, r.set i (.own (.lst (xs.take j.toNat ++ [x] ++ xs.drop j.toNat)))) t2 else .bad
      | _ => .bad)) Z := by
  unfold insE at h
  split at h
  · rename_i xs e
    exact ⟨xs, e, h⟩
  · exact h.elim
theorem st_ins {i : Nat} {y : Str} (hN : X.N[i]? = some y) (hv : Vis X.env.scope y) (hd : (y == ("__debug__" : Str)) = false) (hcd : (y == ("__classdict__" : Str)) = false) (hb : PE X b (tD P fb)) (ha : PE X a (tD P fa)) (hline : (p1.endLine == p2.line) = true)
    (hs : starEach [b, a] X.env = (false, eval b X.env) :: starEach [a] X.env) (hs2 : starEach [a] X.env = (false, eval a X.env) :: starEach [] X.env) {q : Pos} : PS X (.Expr (.Call (.Attribute (.Name y q) "insert" p1) [b, a] [] p2) pos) (tS P (insE i fb fa)) := by
  have hfew : ((backTo p2 (starEach [b, a] X.env)).all (fun x => !x.1) && (backToKw p2 (keywordEach [] X.env)).all (fun x => x.1.isSome)
      && decide (([b, a] : List Expr).length + ([] : List Keyword).length + (if ([] : List Keyword).isEmpty then 0 else 1) < 30)) = true := by
    rw [hs, hs2]
    rfl
  refine psMono (ps_expr (pe_bm PySem.F.plainAttrs_list PySem.F.slot_list_insert PySem.F.type_list_insert mt_insert (pe_slot hN hv hd hcd) (pa_cons hb (pa_cons ha pa_nil hs2) hs) rfl hfew hline hs (by rw [hs2]; rfl)) rfl) fun D σ H ⟨F, r, t, R, h⟩ => ?_
  obtain ⟨xs, e, h⟩ := insE_ok h
  obtain ⟨p, vs, e1, h1, h2, h3⟩ := own_lst R e
  refine ⟨_, e1, .inl ⟨rfl, vs, SqL.of h1⟩, F, r, t, R, h.bind.mono fun dk t1 h k F1 H1 s1 R1 rk => ⟨F1, r, t1, R1, (h.up s1.1).bind.mono fun d t' h v F' H' s2 R' rv => ?_⟩⟩
  cases dk with
  | int j =>
    cases rk
    have h : Aft P F1 (if decide (0 ≤ j) && decide (j < 2 ^ 63) && decide (xs.length < 16777216) then .ok (.nx, r.set i (.own (.lst (xs.take j.toNat ++ [d] ++ xs.drop j.toNat)))) t' else .bad) (aftS P F D) := h
    split at h
    · rename_i hl
      simp only [Bool.and_eq_true, decide_eq_true_eq] at hl
      obtain ⟨⟨j0, j1⟩, hl⟩ := hl
      obtain ⟨p', vs', e1', h1', h2', h3'⟩ := own_lst R' e
      rw [e1] at e1'
      cases e1'
      have hz : vs'.length < sizeLine := by
        rw [h3'.length, sizeLine_eq]
        exact hl
      refine ⟨p, vs', j, v, rfl, rfl, h1', hz, j0, j1, h F' σ _ (s1.trans s2).1 (Rel.updOwn R' e e1 ⟨_, upd_same, ?_, ((h3'.take _).append (.cons rv .nil)).append (h3'.drop _)⟩)⟩
      rw [List.length_append, List.length_append, List.length_singleton, List.length_take, List.length_drop]
      omega
    · exact h.elim
  | _ => exact (show False from h).elim
end
end Fm

/-! ### enumerate(a tuple) -/
namespace Fm
open PySem PySem.Spec PyProof.Rows L2 RZ
/-- the heap behind enumerate(a tuple): the tuple's walk, and the count over it -/
abbrev tIt (l : Addr) : Obj := { cls := .type "tuple_iterator", data := .fields #[.ref l, .int 0 0] }
abbrev tEn (i : Addr) : Obj := { cls := .type "enumerate", data := .fields #[.none, .bool false, .ref i, rawInt 0, .none, .none] }
abbrev tHp (h : Heap) (l : Addr) : Heap := (h.push (tIt l)).push (tEn h.objs.size)
theorem tHp_old {h : Heap} {l b : Addr} {o : Obj} (x : h.get? b = some o) : (tHp h l).get? b = some o :=
  Heap.get?_push_of_some _ (Heap.get?_push_of_some _ x)
theorem tHp_mid (h : Heap) (l : Addr) : (h.push (tIt l)).objs.size = h.objs.size + 1 := Heap.size_push ..
theorem tHp_size (h : Heap) (l : Addr) : (tHp h l).objs.size = h.objs.size + 2 := by
  rw [Heap.size_push, tHp_mid]
theorem tHp_it (h : Heap) (l : Addr) : (tHp h l).IsTupleIter h.objs.size l 0 :=
  ⟨tIt l, Heap.get?_push_of_some _ (Heap.get?_push_size _ rfl), rfl, rfl⟩
theorem tHp_en (h : Heap) (l : Addr) : IsEnum (tHp h l) (h.objs.size + 1) h.objs.size 0 .none := by
  rw [← tHp_mid h l]
  exact Heap.get?_push_size _ rfl
theorem meets_enumT (l : Addr) (items : Array Value) : Meets (Builtin.«enumerate.__new__» ⟨[.type "enumerate", .ref l], []⟩)
    (fun _ R s => (∃ n dct sl, s.heap.get? l = some { cls := .type "tuple", dict := dct, data := .seq items n, slots := sl }) ∧ R (.ok (.ret (.ref (s.heap.push (tIt l)).objs.size))) { s with heap := tHp s.heap l }) :=
  .of_wp fun prog w A R s ⟨⟨n, dct, sl, hl⟩, h⟩ => by
    obtain ⟨hp, g, d, tk, os⟩ := s
    have sub := sub_enumerate
    have tup : hp.IsTuple l items := ⟨_, hl, rfl, n, rfl⟩
    wp_walk using AutoSeq1.wpAny_loadPart' hl
    refine wpAny_stack_any fun st => wpAny_pure ?_
    split
    rotate_left
    · wp_walk using AutoSeq1.wpAny_loadPart' hl, wpAny_pyIter_tuple tup
      exact ⟨_, rfl, h⟩
    · rename_i c _ _ _ _ _
      cases c == Value.type "enumerate" <;> (wp_walk using AutoSeq1.wpAny_loadPart' hl, wpAny_pyIter_tuple tup; exact ⟨_, rfl, h⟩)
section
variable {prog : Program} {w : World} {A : Around} {E : Value → Shared → Prop} {s : Shared}
theorem call_enumT {l : Addr} {items : Array Value} {Q : Value → Shared → Prop} (tup : s.heap.IsTuple l items) (h : Q (.ref (s.heap.objs.size + 1)) { s with heap := tHp s.heap l }) :
    wpAny (model prog w) A (call (.type "enumerate") [.ref l]) Q E s := by
  obtain ⟨⟨c, dct, dt, sl⟩, hl, (rfl : c = _), n, (rfl : dt = _)⟩ := tup
  refine callType_new F.called_enumerate (by decide) (F.typeCall_enumerate_1 _) (F.newCall_enumerate_1 _) (fun o => F.args_object_init_2 o _) F.entry_enumerate_new (meets_enumT l items) ⟨⟨n, dct, sl, hl⟩, ?_⟩
  show _ ∧ _
  rw [tHp_mid]
  exact ⟨⟨_, tHp_en s.heap l, rfl⟩, h⟩
theorem drawsT {it a : Addr} {items : Array Value} (hh : A.handled = none) (hne : it ≠ a) : Draws prog w A it [it, a] items.size (fun i x => items[i]? = some x) (fun i h => h.IsTupleIter it a i ∧ h.IsTuple a items) where
  live := fun i h st => let ⟨⟨o, ho, _⟩, _⟩ := st; ⟨o, ho⟩
  frame := fun i h h' st k => ⟨st.1.at fun o q => k it (by simp) o q, let ⟨o, ho, r⟩ := st.2; ⟨o, k a (by simp) o ho, r⟩⟩
  item := fun i s Q E hi st hQ => nextOf_tuple_item st.1 st.2 (Array.getElem?_eq_getElem hi) fun h' h1 sb => hQ _ h' s.toks (Array.getElem?_eq_getElem hi) ⟨h1, let ⟨o, ho, r⟩ := st.2; ⟨o, (sb.2 a (Ne.symm hne)).trans ho, r⟩⟩ sb
  done := fun s Q E st hE => nextOf_tuple_end hh st.1 st.2 (Array.getElem?_eq_none (Nat.le_refl _)) hE
end
/-- the count at e over the walk at it of the tuple at a stands at i -/
structure EnT (a e it : Addr) (i : Nat) (h : Heap) : Prop where
  en : ∃ old, IsEnum h e it ((i : Nat) : Int) old
  at_ : h.IsTupleIter it a i
  ne : e ≠ it ∧ e ≠ a ∧ it ≠ a
theorem EnT.kept {a e it : Addr} {i : Nat} {h h' : Heap} (S : EnT a e it i h) (k : ∀ b ∈ [e, it], ∀ o, h.get? b = some o → h'.get? b = some o) : EnT a e it i h' where
  en := S.en.imp fun _ q => k e (by simp) _ q
  at_ := S.at_.at (k it (by simp))
  ne := S.ne
theorem EnT.live {a e it : Addr} {i : Nat} {h : Heap} (S : EnT a e it i h) : ∀ b ∈ [e, it], ∃ o, h.get? b = some o ∧ ∀ v, o.data ≠ .cell v := by
  obtain ⟨old, q⟩ := S.en
  obtain ⟨o, ho, _, hd⟩ := S.at_
  simp only [List.mem_cons, List.not_mem_nil, or_false, forall_eq_or_imp, forall_eq]
  exact ⟨⟨_, q, nofun⟩, o, ho, fun v z => by rw [hd] at z; cases z⟩
/-- the tuple at a, each item in a new pair -/
def IteT (K : PySem.W.Frag) (a : Addr) : It :=
  ⟨fun i H => ∃ (xs : List V) (x : V), SqT K H a xs ∧ xs[i]? = some x, fun i H v H' => ∃ T x, v = .ref T ∧ H T = none ∧ H' = upd H T (.tup [.int (i : Nat), x]) ∧ ∀ xs, SqT K H a xs → xs[i]? = some x, fun i H => ∃ xs : List V, SqT K H a xs ∧ xs.length = i⟩
/-- one item drawn: the pair is new, the rest of the world as it was -/
theorem EnT.next {X : Cx} {elts : List Expr} {kk : Nat} {tpos : Pos} {a e it : Addr} {i : Nat} {pins : List (Addr × Obj)} {s : Shared} {σ : L2.St} {H : Hp} {E : Value → Shared → Prop} {xs : List V} {x : V} (hc : X.calm = true) (I : Inv X pins σ H s) (S : EnT a e it i s.heap)
    (foot : ∀ b ∈ [e, it], FpOk X pins H b) (seq : SqT X.K H a xs) (hx : xs[i]? = some x) : wpAny (model X.prog X.w) X.A (pyNext (.ref e)) (fun r s1 => ∃ u, r = some u ∧
      wpAny (model X.prog X.w) X.A (letOwnedTupleGo (.Tuple elts kk tpos) (.ref e) u) (fun _ s2 => u = .ref s.heap.objs.size ∧ Inv X pins σ (upd H s.heap.objs.size (.tup [.int (i : Nat), x])) s2 ∧ EnT a e it (i + 1) s2.heap) E s1) E s := by
  have ⟨⟨old, en⟩, wk, nei, nea, nia⟩ := S
  obtain ⟨its, rel, tup, _⟩ := I.tuple seq
  obtain ⟨u, hu, ru⟩ := rel.get hx
  have lt : i < its.toArray.size := by simpa using (List.getElem?_eq_some_iff.mp hu).1
  have fresh : s.heap.objs.size ≠ e := Nat.ne_of_gt (Heap.lt_size en)
  refine wpAny_pyNext_enum_itemD (drawsT (A := X.A.in1) (items := its.toArray) (I.ok.hd hc) nia) en ⟨wk, tup⟩ lt nei (by simp [nei, nea]) fun u2 h2 tk got own walk pair _ rest => ?_
  obtain rfl : u2 = u := Option.some.inj ((show its.toArray[i]? = some u2 from got).symm.trans (by simpa using hu))
  refine ⟨.ref s.heap.objs.size, rfl, wpAny_letOwnedTupleGo_enum (s := { s with heap := h2, toks := tk + 1 }) own fun h3 en3 same => ⟨rfl, ?_, ⟨u2, en3⟩, walk.1.at fun o q => (same.2 it nei.symm).trans q, nei, nea, nia⟩⟩
  refine I.turnedNew (ch := [e, it]) (fun b o hb q => ?_) foot (Nat.le_refl _) ⟨by show 2 ≤ sizeLine; decide, [.int i tk, u2], .cons ⟨_, rfl⟩ (.cons ru .nil), _, (same.2 _ fresh).trans pair, rfl, _, rfl⟩
  simp only [List.mem_cons, List.not_mem_nil, or_false, not_or] at hb
  exact (same.2 b hb.1).trans (rest b o hb.1 hb.2 q)
theorem turn_enumT {P : Program} {w : World} {K : PySem.W.Frag} {elts : List Expr} {kk : Nat} {tpos : Pos} (a e it : Addr) : Turn P w K (.Tuple elts kk tpos) (IteT K a) [e, it] e (EnT a e it) where
  mem := List.mem_cons_self
  obj := fun _ _ S => S.live
  keep := fun _ _ _ S => S.kept
  self := fun _ _ _ _ _ S q => let ⟨_, en⟩ := S.en; wpAny_pyIter_enum en q
  item := by
    rintro X rfl rfl rfl hc i pins s σ H E I foot S ⟨xs, x, seq, hx⟩
    refine thnF (S.next hc I (fun b hb => foot b hb) seq hx) fun r s1 ⟨u, hr, q⟩ => ⟨u, hr, thnF q fun _ s2 ⟨hu, I2, S2⟩ => ⟨.ref s.heap.objs.size, _, I2, hu, ?_, S2, fun b hb => ?_⟩⟩
    · exact ⟨_, x, rfl, I.hok.fresh (Nat.le_refl _), rfl, fun ys hy => I.tuple_inj hy seq ▸ hx⟩
    · obtain ⟨o, ho, _⟩ := S.live b hb
      rw [upd_ne (Nat.ne_of_lt (Heap.lt_size ho))]
      exact (foot b hb).1
  done := by
    rintro X rfl rfl rfl hc i pins s σ H E I foot S ⟨xs, seq, hx⟩
    have ⟨⟨old, en⟩, wk, _, _, nia⟩ := S
    obtain ⟨its, rel, tup, _⟩ := I.tuple seq
    obtain rfl : i = its.toArray.size := by rw [List.size_toArray, ← rel.length]; exact hx.symm
    obtain ⟨k0, k1, _, k3, k4, k5⟩ := foot it (by simp)
    exact wpAny_pyNext_enum_endD (drawsT (A := X.A.in1) (items := its.toArray) (I.ok.hd hc) nia) en ⟨wk, tup⟩ fun h2 same => ⟨rfl, I.turned (t' := s.toks) same k0 k1 k3 k4 k5⟩
def iEnumT (K : PySem.W.Frag) (ta : TA) : TI := fun σ H R => ta σ H fun vs H1 => ∃ a xs, vs = [.ref a] ∧ SqT K H1 a xs ∧ R (IteT K a) H1
theorem pi_enumT {X : Cx} {e : Expr} {ta : TA} {p pos tpos : Pos} {elts : List Expr} {kk : Nat} (hg : Gl X "enumerate") (hm : X.mg "enumerate" = none) (ha : PA X [e] ta) (hs : starEach [e] X.env = [(false, eval e X.env)] := by rfl) :
    PI X (.Tuple elts kk tpos) (.Call (.Name "enumerate" p) [e] [] pos) (iEnumT X.K ta) := by
  constructor
  intro pins s σ H R I h
  have args := ha.run pos pins s σ H _ I h
  refine Call_ (ld_blt I hg hm boot_enumerate (PyProof.Rows.callWith_type1 (thn args fun us s1 ⟨vs, H1, I1, rel, a, xs, ev, seq, q⟩ => ?_) hs rfl))
  subst ev
  rw [Vals.ref1 rel]
  obtain ⟨its, _, tup, _⟩ := I1.tuple seq
  have lt : a < s1.heap.objs.size := let ⟨_, q, _⟩ := tup; Heap.lt_size q
  refine call_enumT tup (wpAny_pyIter_enum (tHp_en s1.heap a) ⟨_, [_, s1.heap.objs.size], _, _, H1, rfl, I1.kept (t' := s1.toks) fun _ _ => tHp_old, turn_enumT a _ _, ?_, ?_, q⟩)
  · exact ⟨⟨_, tHp_en s1.heap a⟩, tHp_it s1.heap a, Nat.succ_ne_self _, Nat.ne_of_gt (Nat.lt_succ_of_lt lt), Nat.ne_of_gt lt⟩
  · simp only [List.mem_cons, List.not_mem_nil, or_false, forall_eq_or_imp, forall_eq]
    exact ⟨I1.fpOk (Nat.le_succ _) (I1.hok.fresh (Nat.le_succ _)), I1.fpOk (Nat.le_refl _) (I1.hok.fresh (Nat.le_refl _))⟩
theorem walk_enumT {K : PySem.W.Frag} {a : Addr} {xs : List V} : Walk (IteT K a) xs.length (fun H => SqT K H a xs) (YPair (fun i => some (.int (i : Nat))) (fun i => xs[i]?)) :=
  ⟨fun i _ hi q => ⟨xs, xs[i], q, List.getElem?_eq_getElem hi⟩, fun _ q => ⟨xs, q, rfl⟩, fun i _ _ _ _ q ⟨T, x, ev, new, eH, it⟩ => ⟨T, _, x, ev, new, eH, rfl, it xs q⟩⟩
section
variable {P : Pm} {X : Cx} {a b : Expr} {pos p1 : Pos} {fa fb : Rho → Tw → Res D}
def enumTE (fa : Rho → Tw → Res D) (r : Rho) (t : Tw) : Res (List D) := (fa r t).bind fun x t1 => match x with
    | .tup xs => .ok (enumD 0 xs) t1
    | _ => .bad
theorem i_enumT {elts : List Expr} {kk : Nat} {tpos : Pos} {fz : Bool} (hK : X.K = P.K) (hg : Gl X "enumerate") (hm : X.mg "enumerate" = none) (ha : PE X a (tB P fa)) (hs : starEach [a] X.env = (false, eval a X.env) :: starEach [] X.env) :
    PI X (.Tuple elts kk tpos) (.Call (.Name "enumerate" p1) [a] [] pos) (tI P fz (enumTE fa)) :=
  piMono (pi_enumT hg hm (pa_cons ha pa_nil hs) hs) fun σ H Q ⟨F, r, t, R, h⟩ => ⟨F, r, t, R, h.bind.mono fun dx t1 h v F1 H1 s1 R1 rx => by
    cases dx with
    | tup xs =>
      obtain ⟨p1, v1, rfl, e1, z1, q1⟩ := rx.tup R1
      rw [hK]
      refine ⟨p1, v1, rfl, sqT_mono R1.sub e1, h _ _ _ s1 R1 (WD.fz ?_ fz)⟩
      exact (wd_pair walk_enumT (by rw [enumD_len, q1.length]) (enum_one q1)).weak fun H g => sqT_mono g e1
    | _ => exact (show False from h).elim⟩
end
end Fm

/-! ### [e for a in x for b in y] -/
namespace Fm
open PySem PySem.Spec PyProof.Rows L2
def noC : Rho → Tw → Res (Option D) := fun _ t => .ok none t
def innE (tg1 : Tg) (fi1 : Rho → Tw → Res (List D)) (fe : Rho → Tw → Res D) (r2 : Rho) (t : Tw) : Res (List D) := match fi1 r2 t with
  | .ok es t1 => if okLen es.length then compL (turnE tg1 tg1.slots noC fe r2) es t1 else .bad
  | _ => .bad
def outE (tg : Tg) (vs : List Nat) (tg1 : Tg) (fi1 : Rho → Tw → Res (List D)) (fe : Rho → Tw → Res D) (r : Rho) (d : D) (t : Tw) : Res (List D) := match setT tg d (wipeR r vs) with
  | some r2 => innE tg1 fi1 fe r2 t
  | none => .bad
def comp2E (tg : Tg) (vs : List Nat) (fi : Rho → Tw → Res (List D)) (tg1 : Tg) (fi1 : Rho → Tw → Res (List D)) (fe : Rho → Tw → Res D) (r : Rho) (t : Tw) : Res D :=
  (fi r t).bind fun xs t1 => if okLen xs.length then (comp2L (outE tg vs tg1 fi1 fe r) xs t1).bind fun ys t2 => if okLen ys.length then .ok (.lst ys) t2 else .bad else .bad
theorem comp2_noexc {f : D → Tw → Res (List D)} (l : List D) : ∀ (t : Tw) (n : Nat) (t2 : Tw), comp2L f l t ≠ .exc n t2 := by
  induction l with
  | nil =>
    intro t n t2 z
    cases z
  | cons d l ih =>
    intro t n t2 z
    unfold comp2L at z
    split at z
    · rename_i o t3 _
      cases e4 : comp2L f l t3 with
      | ok a b =>
        rw [e4] at z
        cases z
      | exc a b => exact ih _ _ _ e4
      | bad =>
        rw [e4] at z
        cases z
    · cases z
mutual
theorem setT_own {i : Nat} {e : D} : ∀ {tg : Tg} {d : D} {r r2 : Rho}, setT tg d r = some r2 → r2[i]? = some (.own e) → r[i]? = some (.own e) ∧ i ∉ tg.slots
  | .name j, d, r, r2, h, h2 => by
    simp only [setT] at h
    split at h
    · rename_i hj
      have hj := of_decide_eq_true hj
      cases h
      by_cases hi : j = i
      · subst hi
        rw [List.getElem?_set_self hj] at h2
        cases h2
      · rw [List.getElem?_set_ne hi] at h2
        exact ⟨h2, by simpa [Tg.slots] using Ne.symm hi⟩
    · cases h
  | .tup ts, .tup xs, r, r2, h, h2 => by
    have h : setTs ts xs r = some r2 := by simpa only [setT] using h
    have := setTs_own h h2
    exact ⟨this.1, by simpa [Tg.slots] using this.2⟩
  | .tup ts, .non, _, _, h, _ => by simp [setT] at h
  | .tup ts, .bl _, _, _, h, _ => by simp [setT] at h
  | .tup ts, .int _, _, _, h, _ => by simp [setT] at h
  | .tup ts, .str _, _, _, h, _ => by simp [setT] at h
  | .tup ts, .lst _, _, _, h, _ => by simp [setT] at h
  | .tup ts, .dct _, _, _, h, _ => by simp [setT] at h
  | .tup ts, .tok, _, _, h, _ => by simp [setT] at h
  | .tup ts, .scr _, _, _, h, _ => by simp [setT] at h
  | .tup ts, .exc _, _, _, h, _ => by simp [setT] at h
  | .tup ts, .dcn _, _, _, h, _ => by simp [setT] at h
theorem setTs_own {i : Nat} {e : D} : ∀ {ts : Tgs} {ds : List D} {r r2 : Rho}, setTs ts ds r = some r2 → r2[i]? = some (.own e) → r[i]? = some (.own e) ∧ i ∉ ts.slots
  | .nil, [], r, r2, h, h2 => by
    simp only [setTs, Option.some.injEq] at h
    subst h
    exact ⟨h2, by simp [Tgs.slots]⟩
  | .nil, _ :: _, _, _, h, _ => by simp [setTs] at h
  | .cons _ _, [], _, _, h, _ => by simp [setTs] at h
  | .cons t ts, d :: ds, r, r2, h, h2 => by
    obtain ⟨r1, e1, e2⟩ := Option.bind_eq_some_iff.mp (show ((setT t d r).bind fun r1 => setTs ts ds r1) = some r2 from h)
    obtain ⟨a, b⟩ := setTs_own e2 h2
    obtain ⟨c, d'⟩ := setT_own e1 a
    exact ⟨c, by simp [Tgs.slots, d', b]⟩
end
theorem wipeR_own {r : Rho} {i : Nat} {e : D} : ∀ {vs : List Nat}, (wipeR r vs)[i]? = some (.own e) → r[i]? = some (.own e) ∧ i ∉ vs
  | [], h => ⟨h, by simp⟩
  | v :: vs, h => by
    have h : ((wipeR r vs).set v .un)[i]? = some (.own e) := h
    by_cases hv : v = i
    · subst hv
      by_cases hl : v < (wipeR r vs).length
      · rw [List.getElem?_set_self hl] at h
        cases h
      · rw [List.getElem?_eq_none (by simpa using hl)] at h
        cases h
    · rw [List.getElem?_set_ne hv] at h
      obtain ⟨a, b⟩ := wipeR_own h
      exact ⟨a, by simp [b, Ne.symm hv]⟩
section
variable {P : Pm} {X : Cx}
/-- the second for's invariant -/
structure C2 (P : Pm) (r r2 : Rho) (σ σ2 : L2.St) (F1 H1 F5 : Hp) (D : Addr) (f : Fm.D → Tw → Res (Option Fm.D)) (acc es ysI : List Fm.D) (t3 : Tw) (j : Nat) (H F6 : Hp) (t6 : Tw) (vacc : List V) (accI restI : List Fm.D) : Prop where
  k : Kp P.T F1 H1 F6 H
  R : RelP P F6 r t6 σ H
  R2 : RelP P F6 r2 t6 σ2 H
  d : H D = some (.lst vacc)
  q : RpL P.K P.T F6 vacc (acc ++ accI)
  e : compL f (es.drop j) t6 = .ok restI t3
  y : ysI = accI ++ restI
  fD : F6 D = none
  s : Same F5 F6
theorem comp2_read {tg tg1 : Tg} {vs : List Nat} {fi fi1 : Rho → Tw → Res (List D)} {fe : Rho → Tw → Res D} (hsl : ∀ i ∈ tg.slots, i ∈ vs) (σ : L2.St) (H : Hp) (Q : VK) (h : tN P (comp2E tg vs fi tg1 fi1 fe) σ H Q) :
    tLc2 (tI P false fi) (gT P.nox tg) (tC1 P.nox noC) (tI P.nox true fi1) (gT P.nox tg1) (tC1 P.nox noC) (tD P.nox fe) vs tg1.slots σ H Q := by
  obtain ⟨F, r, t, R, h⟩ := h
  refine ⟨F, r, t, R, h.bind.mono fun ds t1 h J F1 H1 s1 R1 w D hD => ?_⟩
  have w : WD P J (keepG P F1 H1) F1 ds := w
  split at h
  rotate_left
  · exact h.elim
  obtain ⟨ys, t2, ec, hly, h⟩ : ∃ ys t2, comp2L (outE tg vs tg1 fi1 fe r) ds t1 = .ok ys t2 ∧ ys.length ≤ sizeLine ∧ ∀ v F' H' p, Kp P.T F H F' H' → RelP P F' r t2 σ H' → Nn H p → Fre P F' r σ H' v (.lst ys) p → Q v H' := by
    cases e : comp2L (outE tg vs tg1 fi1 fe r) ds t1 with
    | ok ys t2 =>
      rw [e] at h
      simp only [Res.bind_ok] at h
      split at h
      · rename_i hl
        exact ⟨ys, t2, rfl, okLen_le hl, h⟩
      · exact h.elim
    | exc n t2 => exact absurd e (comp2_noexc _ _ _ _)
    | bad =>
      rw [e] at h
      exact h.elim
  have nTa : D ≠ P.T.a := fun e => by
    rw [e, R1.tw.a] at hD
    cases hD
  have nTb : D ≠ P.T.b := fun e => by
    rw [e, R1.tw.b] at hD
    cases hD
  have no : ∀ (i : Nat) (e : Fm.D), r[i]? = some (.own e) → σ[i]? ≠ some (some (.ref D)) := fun i e h1 h2 => by
    obtain ⟨q, e1, w⟩ := R1.own i e h1
    rw [h2] at e1
    cases e1
    obtain ⟨o2, ho, _⟩ := w.at_.obj
    rw [hD] at ho
    cases ho
  have b0 := R1.toRelH.newO (o := .lst []) hD
  have fDk : ∀ {F2 H2 F3 H3 : Hp} {vacc : List V}, Kp P.T F2 H2 F3 H3 → H2 D = some (.lst vacc) → F2 D = none → F3 D = none := fun {F2 H2 F3 H3 vacc} k hd fD => by
    cases z : F3 D with
    | none => rfl
    | some u =>
      rcases k.new D u z with z | z
      · rw [fD] at z
        cases z
      · exact (z.no hd (by intro _ z; cases z)).elim
  refine ⟨fun i m H => m = ds.length - i ∧ i ≤ ds.length ∧ ∃ F2 t' vacc acc rest, (Kp P.T F1 H1 F2 H ∧ RelP P F2 r t' σ H ∧ H D = some (.lst vacc) ∧ RpL P.K P.T F2 vacc acc ∧ comp2L (outE tg vs tg1 fi1 fe r) (ds.drop i) t' = .ok rest t2 ∧ ys = acc ++ rest) ∧ F2 D = none, ⟨ds.length, by simp, Nat.zero_le _, F1, t1, [], [], ys, ?_, ?_⟩, fun i m H2 hW => ?_⟩
  · exact ⟨Kp.of b0, R1.step b0, upd_same, .nil, by simpa using ec, rfl⟩
  · exact R1.sub.free hD
  · obtain ⟨rfl, hi, F2, t', vacc, acc, rest, ⟨k, R2, hd, q, e, ey⟩, fD⟩ := hW
    have hG : keepG P F1 H1 H2 := ⟨k.base.trans R2.sub, k.old⟩
    by_cases hlt : i < ds.length
    · refine .inr ⟨w.goes i H2 hlt hG, fun H' => ∃ F2 t' vacc acc rest, (Kp P.T F1 H1 F2 H' ∧ RelP P F2 r t' σ H' ∧ H' D = some (.lst vacc) ∧ RpL P.K P.T F2 vacc acc ∧ comp2L (outE tg vs tg1 fi1 fe r) (ds.drop (i + 1)) t' = .ok rest t2 ∧ ys = acc ++ rest) ∧ F2 D = none, fun H' hn => ⟨_, by omega, rfl, hlt, hn⟩, fun x H' hy => ?_⟩
      have hdi : ds[i]? = some ds[i] := List.getElem?_eq_getElem hlt
      have e' : comp2L (outE tg vs tg1 fi1 fe r) (ds[i] :: ds.drop (i + 1)) t' = .ok rest t2 := by
        rw [← List.drop_eq_getElem_cons hlt]
        exact e
      unfold comp2L at e'
      cases et : outE tg vs tg1 fi1 fe r ds[i] t' with
      | exc n t3 =>
        rw [et] at e'
        cases e'
      | bad =>
        rw [et] at e'
        cases e'
      | ok ysI t3 =>
        rw [et] at e'
        dsimp only at e'
        obtain ⟨rest', er, eo⟩ : ∃ rest', comp2L (outE tg vs tg1 fi1 fe r) (ds.drop (i + 1)) t3 = .ok rest' t2 ∧ rest = ysI ++ rest' := by
          cases e4 : comp2L (outE tg vs tg1 fi1 fe r) (ds.drop (i + 1)) t3 with
          | ok a b =>
            rw [e4] at e'
            simp only [Res.bind_ok] at e'
            cases e'
            exact ⟨a, rfl, rfl⟩
          | exc a b =>
            rw [e4] at e'
            cases e'
          | bad =>
            rw [e4] at e'
            cases e'
        -- the first target, the second source
        obtain ⟨r2, es, tE, es0, efi, hes, eci⟩ : ∃ r2 es tE, setT tg ds[i] (wipeR r vs) = some r2 ∧ fi1 r2 t' = .ok es tE ∧ es.length ≤ sizeLine ∧ compL (turnE tg1 tg1.slots noC fe r2) es tE = .ok ysI t3 := by
          unfold outE at et
          cases z : setT tg ds[i] (wipeR r vs) with
          | none =>
            rw [z] at et
            cases et
          | some r2 =>
            rw [z] at et
            dsimp only at et
            unfold innE at et
            cases z2 : fi1 r2 t' with
            | ok es tE =>
              rw [z2] at et
              dsimp only at et
              split at et
              · rename_i hl
                exact ⟨r2, es, tE, rfl, z2, okLen_le hl, et⟩
              · cases et
            | exc n t4 =>
              rw [z2] at et
              cases et
            | bad =>
              rw [z2] at et
              cases et
        obtain ⟨F3, k3, R3, rx⟩ : ∃ F3, Kp P.T F2 H2 F3 H' ∧ RelP P F3 r t' σ H' ∧ Rp P.K P.T F3 x ds[i] := by
          rcases w.yields i H2 x H' _ hdi hG hy with ⟨rfl, rx⟩ | ⟨p, xs, es', rfl, hp, rfl, ed, z, qx⟩
          · exact ⟨F2, Kp.refl, R2, rx.mono k.base⟩
          · have b := R2.toRelH.newF (o := .tup xs) hp
            refine ⟨_, Kp.of b, R2.step b, ?_⟩
            rw [ed]
            exact .tup (SqT.of upd_same) z (qx.mono (k.base.trans b.base))
        refine ⟨F3, wipeR r vs, t', ds[i], r2, R3.wipe vs, rx, es0, fun σ2 R4 c => ⟨(c.wipe hsl).trans (wipe_wipe σ vs), ?_⟩⟩
        have no2 : ∀ (i : Nat) (e : Fm.D), r2[i]? = some (.own e) → σ2[i]? ≠ some (some (.ref D)) := fun i e h1 h2 => by
          obtain ⟨a, b⟩ := setT_own es0 h1
          obtain ⟨a2, b2⟩ := wipeR_own a
          rw [c.2 i b, wipe_get, if_neg (fun z => b2 z.1)] at h2
          exact no i e a2 h2
        refine ⟨F3, r2, t', R4, true, rfl, fun F4 H4 k4 R5 => ?_⟩
        show (if true = true then _ else _)
        rw [if_pos rfl]
        refine ⟨F4, r2, t', R5, ?_⟩
        rw [efi]
        intro J1 F5 H5 k5 R6 w1
        have w1 : WD P.nox J1 (Same F5) F5 es := w1
        have k6 : Kp P.T F2 H2 F5 H5 := k3.trans (k4.trans k5)
        have hd5 : H5 D = some (.lst vacc) := k6.old D _ hd nTa nTb (by intro _ z; cases z)
        have fD5 := fDk k6 hd fD
        have R7 : RelP P F5 r tE σ H5 := R2.step (Kp.relH (P := P.nox) k6 R6)
        refine ⟨fun j m H => m = es.length - j ∧ j ≤ es.length ∧ ∃ F6 t6 va accI restI, C2 P r r2 σ σ2 F1 H1 F5 D (turnE tg1 tg1.slots noC fe r2) acc es ysI t3 j H F6 t6 va accI restI, ⟨es.length, by simp, Nat.zero_le _, F5, tE, vacc, [], ysI, ⟨k.trans k6, R7, R6, hd5, by rw [List.append_nil]; exact q.mono k6.base, by simpa using eci, rfl, fD5, Same.refl _⟩⟩, fun j m HJ hW1 => ?_⟩
        obtain ⟨rfl, hj, F6, t6, va, accI, restI, ⟨kJ, RJ, RJ2, hdJ, qJ, eJ, yJ, fDJ, sJ⟩⟩ := hW1
        have hGJ : Same F5 HJ := sJ.trans RJ.sub
        have lva : va.length = (acc ++ accI).length := qJ.length
        by_cases hjl : j < es.length
        · refine .inr ⟨w1.goes j HJ hjl hGJ, fun H' => ∃ F6 t6 va accI restI, C2 P r r2 σ σ2 F1 H1 F5 D (turnE tg1 tg1.slots noC fe r2) acc es ysI t3 (j + 1) H' F6 t6 va accI restI, fun H' hn => ⟨_, by omega, rfl, hjl, hn⟩, fun x1 HX hy1 => ?_⟩
          have hej : es[j]? = some es[j] := List.getElem?_eq_getElem hjl
          have eJ' : compL (turnE tg1 tg1.slots noC fe r2) (es[j] :: es.drop (j + 1)) t6 = .ok restI t3 := by
            rw [← List.drop_eq_getElem_cons hjl]
            exact eJ
          unfold compL at eJ'
          cases etj : turnE tg1 tg1.slots noC fe r2 es[j] t6 with
          | exc n t4 =>
            rw [etj] at eJ'
            cases eJ'
          | bad =>
            rw [etj] at eJ'
            cases eJ'
          | ok o t4 =>
            rw [etj] at eJ'
            dsimp only at eJ'
            obtain ⟨restI', erI, eoI⟩ : ∃ rest', compL (turnE tg1 tg1.slots noC fe r2) (es.drop (j + 1)) t4 = .ok rest' t3 ∧ restI = consO o rest' := by
              cases e4 : compL (turnE tg1 tg1.slots noC fe r2) (es.drop (j + 1)) t4 with
              | ok a b =>
                rw [e4] at eJ'
                simp only [Res.bind_ok] at eJ'
                cases eJ'
                exact ⟨a, rfl, rfl⟩
              | exc a b =>
                rw [e4] at eJ'
                cases eJ'
              | bad =>
                rw [e4] at eJ'
                cases eJ'
            obtain ⟨r3, oc, tc, b, es3, efc, eb, alt⟩ := turn_ok etj
            cases efc
            cases eb
            obtain ⟨y, efe, rfl⟩ : ∃ y, fe r3 t6 = .ok y t4 ∧ o = some y := by
              rcases alt with ⟨_, y, efe, rfl⟩ | ⟨z, _⟩
              · exact ⟨y, efe, rfl⟩
              · cases z
            obtain ⟨F7, k7, RX, RX2, rx1⟩ : ∃ F7, Kp P.T F6 HJ F7 HX ∧ RelP P F7 r t6 σ HX ∧ RelP P F7 r2 t6 σ2 HX ∧ Rp P.K P.T F7 x1 es[j] := by
              rcases w1.yields j HJ x1 HX _ hej hGJ hy1 with ⟨rfl, rx⟩ | ⟨p, xs, es', rfl, hp, rfl, ed, z, qx⟩
              · exact ⟨F6, Kp.refl, RJ, RJ2, rx.mono sJ⟩
              · have b := RJ.toRelH.newF (o := .tup xs) hp
                refine ⟨_, Kp.of b, RJ.step b, RJ2.step b, ?_⟩
                rw [ed]
                exact .tup (SqT.of upd_same) z (qx.mono (sJ.trans b.base))
            refine ⟨F7, wipeR r2 tg1.slots, t6, es[j], r3, RX2.wipe tg1.slots, rx1, es3, fun σ3 R8 c3 => ⟨(c3.wipe fun i hi => hi).trans (wipe_wipe σ2 _), ?_⟩⟩
            refine ⟨F7, r3, t6, R8, true, rfl, fun F8 H8 k8 R9 => ?_⟩
            show (if true = true then _ else _)
            rw [if_pos rfl]
            refine ⟨F8, r3, t6, R9, ?_⟩
            rw [efe]
            intro v F9 H9 k9 R10 rv
            have k10 : Kp P.T F6 HJ F9 H9 := k7.trans (k8.trans k9)
            have hd9 : H9 D = some (.lst va) := k10.old D _ hdJ nTa nTb (by intro _ z; cases z)
            have fD9 := fDk k10 hdJ fDJ
            have hsz : va.length < sizeLine := by
              have e1 : ys.length = acc.length + (accI.length + (restI'.length + 1) + rest'.length) := by
                rw [ey, eo, yJ, eoI]
                simp [consO]
                omega
              rw [lva, List.length_append]
              omega
            have bK := Kp.relH (P := P.nox) k10 R10
            have R11 : RelP P F9 r t4 σ H9 := RJ.step bK
            have R12 : RelP P F9 r2 t4 σ2 H9 := RJ2.step bK
            have hN := R1.had D (.of hD)
            have R13 : RelP P F9 r t4 σ (L2.upd H9 D (.lst (va ++ [v]))) := Rel.upd R11 (by rw [hd9]; simp) (fun ps z => by rw [hd9] at z; cases z) (fun c q z => by rw [hd9] at z; cases z) fD9 hN nTa nTb no
            have R14 : RelP P F9 r2 t4 σ2 (L2.upd H9 D (.lst (va ++ [v]))) := Rel.upd R12 (by rw [hd9]; simp) (fun ps z => by rw [hd9] at z; cases z) (fun c q z => by rw [hd9] at z; cases z) fD9 hN nTa nTb no2
            refine ⟨va, hd9, hsz, F9, t4, va ++ [v], accI ++ [y], restI', ⟨?_, R13, R14, upd_same, by rw [← List.append_assoc]; exact (qJ.mono k10.base).append (.cons rv .nil), erI, ?_, fD9, sJ.trans k10.base⟩⟩
            · have k11 := kJ.trans k10
              refine ⟨k11.base, k11.new, fun a o ha m1 m2 m3 => ?_, fun a ha => k11.had a (ha.upd (by intro _ z; cases z)).1⟩
              have : a ≠ D := fun e => by
                rw [e, hD] at ha
                cases ha
              rw [upd_ne this]
              exact k11.old a o ha m1 m2 m3
            · rw [yJ, eoI]
              simp [consO]
        · have ej : j = es.length := by omega
          subst ej
          refine .inl ⟨w1.stops HJ hGJ, F6, t3, va, acc ++ ysI, rest', ⟨kJ, ?_, hdJ, ?_, er, ?_⟩, fDJ⟩
          all_goals
            rw [List.drop_length] at eJ
            cases eJ
            rw [List.append_nil] at yJ
            subst yJ
          · exact RJ
          · exact qJ
          · rw [ey, eo, List.append_assoc]
    · have ei : i = ds.length := by omega
      subst ei
      refine .inl ⟨w.stops H2 hG, ?_⟩
      rw [List.drop_length] at e
      cases e
      rw [List.append_nil] at ey
      subst ey
      exact h _ _ _ D (s1.trans k) R2 (s1.had D (.of hD)) ⟨rfl, ⟨fD, nTa, nTb, R1.had D (.of hD), vacc, hd, by rw [q.length]; exact hly, q⟩, no⟩
theorem n_comp2 {elt tg iter tg1 iter1 : Expr} {scope : Scope} {own : List (Str × Nat)} {pos : Pos} {tgt tgt1 : Tg} {fi fi1 : Rho → Tw → Res (List D)} {fe : Rho → Tw → Res D} (hc : X.calm = true) (hN : X.N.Nodup)
    (hi : PI X tg iter (tI P false fi)) (ok : BlkOk X.N X.env.scope scope own) (hg : ∀ (s : Shared) (H : Hp) (C : Addr) (cl : List (Str × Addr)) (fp : List Addr), PG (X.blk s H scope (compEnvC scope cl C X.env) fp) tg (gT P.nox tgt))
    (hi1 : ∀ (s : Shared) (H : Hp) (C : Addr) (cl : List (Str × Addr)) (fp : List Addr), PI (X.blk s H scope (compEnvC scope cl C X.env) fp) tg1 iter1 (tI P.nox true fi1))
    (hg1 : ∀ (s : Shared) (H : Hp) (C : Addr) (cl : List (Str × Addr)) (fp : List Addr), PG (X.blk s H scope (compEnvC scope cl C X.env) fp) tg1 (gT P.nox tgt1))
    (he : ∀ (s : Shared) (H : Hp) (C : Addr) (cl : List (Str × Addr)) (fp : List Addr), PE (X.blk s H scope (compEnvC scope cl C X.env) fp) elt (tD P.nox fe)) (hs : ∀ x, foldedSetIterable iter X.env x = pure x) (hs1 : ∀ env x, foldedSetIterable iter1 env x = pure x) (hsl : ∀ i ∈ tgt.slots, i ∈ own.map (·.2)) (hsl1 : ∀ i ∈ tgt1.slots, i ∈ own.map (·.2)) :
    PE X (.ListComp elt [⟨tg, iter, [], 0⟩, ⟨tg1, iter1, [], 0⟩] scope pos) (tN P (comp2E tgt (own.map (·.2)) fi tgt1 fi1 fe)) :=
  peMono (pe_lc2 hc hN hi ok hsl1 hg (fun _ _ _ _ _ => c_none) hi1 hg1 (fun _ _ _ _ _ => c_none) he hs hs1) (comp2_read hsl)
end
end Fm

/-! ### a, b, c, d = x, y, z, [] -/
namespace Fm
open PySem PySem.Spec PyProof.Rows L2
section
variable {P : Pm} {X : Cx} {a1 a2 a3 : Expr} {f1 f2 f3 : Rho → Tw → Res D} {pos : Pos}
def unsE (is : List Nat) (j : Nat) (fs : Rho → Tw → Res (List D)) (r : Rho) (t : Tw) : Res (Fl × Rho) := (fs r t).bind fun xs t1 => (match setAll is xs r with
    | some r1 => okSet r1 j (.own (.lst [])) t1
    | none => .bad)
theorem noSet {r : Rho} {σ : L2.St} {p : Addr} {k : Nat} {d : D} {v : Option V} (no : ∀ (i : Nat) (e : D), r[i]? = some (.own e) → σ[i]? ≠ some (some (.ref p))) : ∀ (i : Nat) (e : D), (r.set k (.val d))[i]? = some (.own e) → (σ.set k v)[i]? ≠ some (some (.ref p)) := fun i e h => by
  by_cases hk : k = i
  · subst hk
    by_cases hl : k < r.length
    · rw [List.getElem?_set_self hl] at h
      cases h
    · rw [List.getElem?_eq_none (by simpa using hl)] at h
      cases h
  · rw [List.getElem?_set_ne hk] at h ⊢
    exact no i e h
theorem st_uns {i1 i2 i3 j : Nat} {x1 x2 x3 y : Str} {q1 q2 q3 q4 q5 q6 q7 : Pos} {k1 k2 : Nat} (hK : X.K = P.K) (hc : X.calm = true) (hN : X.N.Nodup) (h1 : X.N[i1]? = some x1) (h2 : X.N[i2]? = some x2) (h3 : X.N[i3]? = some x3) (h4 : X.N[j]? = some y)
    (l1 : Loc X.env.scope x1) (l2 : Loc X.env.scope x2) (l3 : Loc X.env.scope x3) (l4 : Loc X.env.scope y) (n1 : X.fn x1 = true ∨ X.env.scope.names.lookup x1 = some .local) (n2 : X.fn x2 = true ∨ X.env.scope.names.lookup x2 = some .local) (n3 : X.fn x3 = true ∨ X.env.scope.names.lookup x3 = some .local) (n4 : X.fn y = true ∨ X.env.scope.names.lookup y = some .local)
    (p1 : PE X a1 (tD P f1)) (p2 : PE X a2 (tD P f2)) (p3 : PE X a3 (tD P f3)) (s1 : ∀ es, starEach (a1 :: es) X.env = (false, eval a1 X.env) :: starEach es X.env) (s2 : ∀ es, starEach (a2 :: es) X.env = (false, eval a2 X.env) :: starEach es X.env) (s3 : ∀ es, starEach (a3 :: es) X.env = (false, eval a3 X.env) :: starEach es X.env)
    (hw : swappedStores [.Tuple [.Name x1 q1, .Name x2 q2, .Name x3 q3, .Name y q4] k1 q5] (.Tuple [a1, a2, a3, .List [] q6] k2 q7) X.env = pure none) :
    PS X (.Assign [.Tuple [.Name x1 q1, .Name x2 q2, .Name x3 q3, .Name y q4] k1 q5] (.Tuple [a1, a2, a3, .List [] q6] k2 q7) pos) (tS P (unsE [i1, i2, i3] j fun r t => (f1 r t).bind fun x t1 => (f2 r t1).bind fun y t2 => (f3 r t2).bind fun z t3 => .ok [x, y, z] t3)) := by
  refine psMono (ps_asg (pe_tup (pa_cons p1 (pa_cons p2 (pa_cons p3 (pa_cons (pe_lst pa_nil) pa_nil rfl) (s3 _)) (s2 _)) (s1 _)))
    (pg_tup hc (pgs_cons (pg_name hN h1 l1 n1) (pgs_cons (pg_name hN h2 l2 n2) (pgs_cons (pg_name hN h3 l3 n3) (pgs_cons (pg_name hN h4 l4 n4) pgs_nil))))) rfl hw rfl) fun D σ H ⟨F, r, t, R, h⟩ => ?_
  have h := h.bind
  refine ⟨F, r, t, R, h.bind.mono fun d1 t1 h v1 F1 H1 s1 R1 rv1 => ⟨F1, r, t1, R1, (h.up s1.1).bind.mono fun d2 t2 h v2 F2 H2 s2 R2 rv2 => ⟨F2, r, t2, R2, (h.up s2.1).bind.mono fun d3 t3 h v3 F3 H3 s3 R3 rv3 => ?_⟩⟩⟩
  refine ⟨Nat.zero_le _, fun p hp => ⟨by show 4 ≤ sizeLine; decide, fun a ha => ?_⟩⟩
  have h : Aft P F (match setAll [i1, i2, i3] [d1, d2, d3] r with
    | some r1 => okSet r1 j (.own (.lst [])) t3
    | none => .bad) (aftS P F D) := h
  obtain ⟨R4, k4, ⟨_, ow, no⟩⟩ := mkNew (o := .lst []) (d := .lst []) R3 hp ⟨[], upd_same, Nat.zero_le _, .nil⟩
  have b5 := R4.toRelH.newO (o := .tup [v1, v2, v3, .ref p]) ha
  have R5 := R4.step b5
  have nap : p ≠ a := (upd_none ha).2.symm
  have ow5 : Own P.K P.T P.H0 F3 (L2.upd (L2.upd H3 p (.lst [])) a (.tup [v1, v2, v3, .ref p])) p (.lst []) := ⟨ow.fr, ow.n1, ow.n2, ow.h0, [], by rw [upd_ne nap]; exact upd_same, Nat.zero_le _, .nil⟩
  refine ⟨a, _, rfl, .inl (.inl upd_same), rfl, v1, _, rfl, v2, _, rfl, v3, _, rfl, .ref p, _, rfl, rfl, ?_⟩
  by_cases c1 : i1 < r.length
  · by_cases c2 : i2 < r.length
    · by_cases c3 : i3 < r.length
      · by_cases c4 : j < r.length
        · have h : aftS P F D (.nx, (((r.set i1 (.val d1)).set i2 (.val d2)).set i3 (.val d3)).set j (.own (.lst []))) t3 := by
            simp only [setAll, c1, c2, c3, List.length_set, decide_true, if_true, okSet, c4] at h
            exact h
          have R6 := ((R5.setVal (i := i1) (rv1.mono (s2.trans s3).1)).setVal (i := i2) (rv2.mono s3.1)).setVal (i := i3) rv3
          exact h F3 _ _ ((s1.trans (s2.trans s3)).1) (R6.setOwn (i := j) ow5 fun jj e hj _ => noSet (noSet (noSet no)) jj e hj)
        · simp only [setAll, c1, c2, c3, List.length_set, decide_true, if_true, okSet, c4, decide_false] at h
          exact h.elim
      · simp only [setAll, c1, c2, c3, List.length_set, decide_true, if_true, decide_false] at h
        exact h.elim
    · simp only [setAll, c1, c2, List.length_set, decide_true, if_true, decide_false] at h
      exact h.elim
  · simp only [setAll, c1, decide_false] at h
    exact h.elim
/-! ### y, x = [], e; x, y = e, [] -/
def pnlE (j i : Nat) (f : Rho → Tw → Res D) (r : Rho) (t : Tw) : Res (Fl × Rho) := (f r t).bind fun x t1 => if decide (j < r.length) && decide (i < r.length) then .ok (.nx, (r.set j (.own (.lst []))).set i (.val x)) t1 else .bad
theorem setCm {α : Type} {l : List α} {i j : Nat} {a b : α} (h : i ≠ j) : (l.set i a).set j b = (l.set j b).set i a := List.set_comm a b h
theorem pnl_end {F F1 : Hp} {r : Rho} {t1 : Tw} {σ : L2.St} {H1 : Hp} {p : Addr} {d : D} {v : V} {i j : Nat} {Z : Ends} (hji : j ≠ i) (h : Aft P F (if decide (j < r.length) && decide (i < r.length) then Res.ok (Fl.nx, (r.set j (.own (.lst []))).set i (.val d)) t1 else .bad) (aftS P F Z)) (s1 : Same F F1) (R1 : RelP P F1 r t1 σ H1) (rv : Rp P.K P.T F1 v d)
    (ow : Own P.K P.T P.H0 F1 H1 p (.lst [])) (no : ∀ (i : Nat) (e : D), r[i]? = some (.own e) → σ[i]? ≠ some (some (.ref p))) : Z.nx ((σ.set j (some (.ref p))).set i (some v)) H1 := by
  split at h
  · have h : aftS P F Z (.nx, (r.set j (.own (.lst []))).set i (.val d)) t1 := h
    exact h F1 _ _ s1 ((R1.setOwn (i := j) ow fun jj e hj _ => no jj e hj).setVal rv)
  · exact h.elim
theorem st_pnlT {i j : Nat} {x y : Str} {px py pt pt2 q : Pos} {kt k2 : Nat} (hc : X.calm = true) (hN : X.N.Nodup) (hj : X.N[j]? = some y) (hi : X.N[i]? = some x) (hji : j ≠ i)
    (hy : X.env.scope.names.lookup y = some .local) (hx : X.env.scope.names.lookup x = some .local) (p1 : PE X a1 (tD P f1)) (s1 : ∀ es, starEach (a1 :: es) X.env = (false, eval a1 X.env) :: starEach es X.env)
    (hw : swappedStores [.Tuple [.Name y py, .Name x px] kt pt] (.Tuple [.List [] q, a1] k2 pt2) X.env = pure (some [y, x])) :
    PS X (.Assign [.Tuple [.Name y py, .Name x px] kt pt] (.Tuple [.List [] q, a1] k2 pt2) pos) (tS P (pnlE j i f1)) := by
  refine psMono (ps_par hc hN hj hi hji hy hx (pa_cons (pe_lst pa_nil) (pa_cons p1 pa_nil (s1 _)) rfl) hw) fun D σ H ⟨F, r, t, R, h⟩ => ?_
  refine ⟨Nat.zero_le _, fun p hp => ?_⟩
  obtain ⟨R4, k4, ⟨_, ow, no⟩⟩ := mkNew (o := .lst []) (d := .lst []) R hp ⟨[], upd_same, Nat.zero_le _, .nil⟩
  refine ⟨F, r, t, R4, h.bind.mono fun d1 t1 h v1 F1 H1 s1 R1 rv1 => ⟨.ref p, v1, rfl, ?_⟩⟩
  have hs : H1 p = some (.lst []) := s1.old p _ upd_same ow.n1 ow.n2 (by intro _ z; cases z)
  have hfr : F1 p = none := by
    cases z : F1 p with
    | none => rfl
    | some u =>
      rcases s1.new p u z with q | q
      · rw [ow.fr] at q
        cases q
      · exact (q.no upd_same (by intro _ z; cases z)).elim
  have ow1 : Own P.K P.T P.H0 F1 H1 p (.lst []) := ⟨hfr, ow.n1, ow.n2, ow.h0, [], hs, Nat.zero_le _, .nil⟩
  exact pnl_end hji h s1.1 R1 rv1 ow1 no
theorem st_pnlF {i j : Nat} {x y : Str} {px py pt pt2 q : Pos} {kt k2 : Nat} (hc : X.calm = true) (hN : X.N.Nodup) (hi : X.N[i]? = some x) (hj : X.N[j]? = some y) (hji : j ≠ i)
    (hx : X.env.scope.names.lookup x = some .local) (hy : X.env.scope.names.lookup y = some .local) (p1 : PE X a1 (tD P f1)) (s1 : ∀ es, starEach (a1 :: es) X.env = (false, eval a1 X.env) :: starEach es X.env)
    (hw : swappedStores [.Tuple [.Name x px, .Name y py] kt pt] (.Tuple [a1, .List [] q] k2 pt2) X.env = pure (some [x, y])) :
    PS X (.Assign [.Tuple [.Name x px, .Name y py] kt pt] (.Tuple [a1, .List [] q] k2 pt2) pos) (tS P (pnlE j i f1)) := by
  refine psMono (ps_par hc hN hi hj (Ne.symm hji) hx hy (pa_cons p1 (pa_cons (pe_lst pa_nil) pa_nil rfl) (s1 _)) hw) fun D σ H ⟨F, r, t, R, h⟩ => ?_
  refine ⟨F, r, t, R, h.bind.mono fun d1 t1 h v1 F1 H1 s1 R1 rv1 => ⟨Nat.zero_le _, fun p hp => ⟨v1, .ref p, rfl, ?_⟩⟩⟩
  obtain ⟨R4, k4, ⟨_, ow, no⟩⟩ := mkNew (o := .lst []) (d := .lst []) R1 hp ⟨[], upd_same, Nat.zero_le _, .nil⟩
  rw [setCm (Ne.symm hji)]
  exact pnl_end hji h s1.1 R4 rv1 ow no
end
end Fm

/-! ### the text is the one of a Core text: a check by computation -/
namespace Fm
open PySem PySem.Spec PyProof.Rows L2
/-- a call's form: the def's name, positional values, keywords' names, what fills up -/
structure Sh where
  name : Str
  np : Nat
  ks : List Str
  dfl : List Cst
  fn : Nat
structure Tb where
  sh : List Sh
  cs : List Str
  ex : List (Nat × Str)
  hd : Bool
/-- a block's names: its scope; the names whose cells are its own -/
structure Cs where
  sc : Scope
  fn : Str → Bool
  lm : Bool
/-- no parameters -/
def noArgs (a : Arguments) : Bool := a.posonlyargs.isEmpty && a.args.isEmpty && a.vararg.isNone && a.kwonlyargs.isEmpty && a.kw_defaults.isEmpty && a.kwarg.isNone && a.defaults.isEmpty
def keysB : List Str → List (Option Expr) → Bool
  | [], [] => true
  | x :: xs, some (.Constant (.str y) _ _) :: ks => decide (x = y) && keysB xs ks
  | _, _ => false
/-- keys of as many values -/
def keysV (ks : List Str) (kes : List (Option Expr)) (vs : List Expr) : Bool := keysB ks kes && decide (kes.length = vs.length)
def nameB (x : Str) : Bool := !(x == ("__debug__" : Str)) && !(x == ("__classdict__" : Str)) && decide (x ≠ "__name__")
def visB (c : Cs) (x : Str) : Bool := match c.sc.names.lookup x with
  | some .local => true
  | some .cell => true
  | some .free => true
  | _ => false
def locB (c : Cs) (x : Str) : Bool := match c.sc.names.lookup x with
  | some .local => true
  | some .cell => c.fn x
  | _ => false
def lclB (c : Cs) (x : Str) : Bool := match c.sc.names.lookup x with
  | some .local => true
  | _ => false
def glB (c : Cs) (x : Str) : Bool := nameB x && match c.sc.names.lookup x with
  | some .globalImplicit => true
  | _ => false
def varB (N : List Str) (c : Cs) (i : Nat) (x : Str) : Bool := decide (N[i]? = some x) && visB c x && nameB x
def tgtB (N : List Str) (c : Cs) (i : Nat) (x : Str) : Bool := decide (N[i]? = some x) && locB c x && nameB x
def nStar : Expr → Bool
  | .Starred _ _ => false
  | _ => true
def nSlice : Expr → Bool
  | .Slice _ _ _ _ => false
  | _ => true
def nSet : Expr → Bool
  | .Set _ _ _ => false
  | _ => true
def nComp : Expr → Bool
  | .ListComp _ _ _ _ => false
  | .SetComp _ _ _ _ => false
  | .DictComp _ _ _ _ _ => false
  | _ => true
def nCall : Expr → Bool
  | .Call _ _ _ _ => false
  | _ => true
def isTupB : Expr → Bool
  | .Tuple _ _ _ => true
  | _ => false
def isNmB : Expr → Bool
  | .Name _ _ => true
  | _ => false
def opB : Operator → Bool
  | .Add => true
  | .Sub => true
  | .Mult => true
  | .FloorDiv => true
  | .Mod => true
  | .Pow => true
  | .LShift => true
  | _ => false
def Blt.nm : Blt → Str
  | .len => "len"
  | .abs => "abs"
  | .all => "all"
  | .any => "any"
  | .sum => "sum"
  | .tuple => "tuple"
  | .list => "list"
  | .sorted => "sorted"
  | .int => "int"
def bltB : Blt → Bool
  | .int => false
  | _ => true
mutual
def mTg (N : List Str) (c : Cs) : Tg → Expr → Bool
  | .name i, .Name x _ => tgtB N c i x
  | .tup ts, .Tuple es _ _ => mTgs N c ts es
  | _, _ => false
def mTgs (N : List Str) (c : Cs) : Tgs → List Expr → Bool
  | .nil, [] => true
  | .cons t ts, e :: es => nStar e && mTg N c t e && mTgs N c ts es
  | _, _ => false
end
def mDsp : List (Str × Cst) → List (Option Expr) → List Expr → Bool
  | [], [], [] => true
  | (x, k) :: r, some (.Constant (.str y) _ _) :: ks, .Constant k' _ _ :: vs => decide (x = y) && decide (k.k = k') && mDsp r ks vs
  | _, _, _ => false
def isStr (x : Str) : Expr → Bool
  | .Constant (.str y) _ _ => decide (y = x)
  | _ => false
/-- a block of a comprehension -/
def blkCs (c : Cs) (scope : Scope) : Cs := ⟨relS scope c.sc, fun x => scope.names.lookup x == some .cell, false⟩
/-- a lambda's body -/
def lamCs (scope : Scope) : Cs := ⟨scope, fun _ => false, false⟩
mutual
def mE (tb : Tb) (N : List Str) (c : Cs) (fl : Bool) : E → Expr → Bool
  | .cst k, .Constant k' _ _ => decide (k.k = k')
  | .var i, .Name x _ => varB N c i x
  | .bor i, .Name x _ => fl && varB N c i x
  | .glob g, .Name x _ => decide (tb.cs[g]? = some x) && glB c x
  | .bin op a b, .BinOp ea op' eb _ => decide (op = op') && opB op && mE tb N c true a ea && mE tb N c true b eb
  | .cat a b, .BinOp ea .Add eb _ => mE tb N c true a ea && mE tb N c true b eb
  | .neg a, .UnaryOp .USub ea _ => mE tb N c true a ea
  | .not a, .UnaryOp .Not ea _ => mE tb N c true a ea
  | .and a b, .BoolOp .And (x :: y :: r) pos => mE tb N c false a x && (match r with
    | [] => mE tb N c false b y
    | z :: r' => mE tb N c false b (.BoolOp .And (y :: z :: r') pos))
  | .or a b, .BoolOp .Or (x :: y :: r) pos => mE tb N c false a x && (match r with
    | [] => mE tb N c false b y
    | z :: r' => mE tb N c false b (.BoolOp .Or (y :: z :: r') pos))
  | .ite k a b, .IfExp ek ea eb _ => mE tb N c true k ek && mE tb N c false a ea && mE tb N c false b eb
  | .cmp op a b, .Compare ea [op'] [eb] _ => decide (op = op') && !behindInMarks op eb && mE tb N c true a ea && mE tb N c true b eb
  | .chain o1 o2 a b k, .Compare ea [o1', o2'] [eb, ek] _ => decide (o1 = o1') && decide (o2 = o2') && !lastMarks [o1, o2] [eb, ek] && mE tb N c true a ea && mE tb N c true b eb && mE tb N c true k ek
  | .cut a lo hi, .Subscript ea (.Slice l h none _) _ => mE tb N c true a ea && mO tb N c lo l && mO tb N c hi h
  | .ix a b, .Subscript ea eb _ => nSlice eb && mE tb N c true a ea && mE tb N c true b eb
  | .dix a b, .Subscript ea eb _ => nSlice eb && mE tb N c true a ea && mE tb N c true b eb
  | .tup es, .Tuple xs _ _ => mEs tb N c es xs
  | .lst es, .List xs _ => mEs tb N c es xs
  | .call i es ks, .Call (.Name x _) xs kws _ => (match tb.sh[i]? with
    | some sh => decide (sh.name = x) && glB c x && decide (xs.length = sh.np) && decide (kws.map (·.arg) = sh.ks.map some) && (decide (kws = []) || !decide (xs = [])) && mEs tb N c es xs && mKs tb N c ks kws
    | none => false)
  | .blt b a, .Call (.Name x _) [ea] [] _ => bltB b && decide (b.nm = x) && glB c x && nStar ea && mE tb N c true a ea
  | .isa a T, .Call (.Name x _) [ea, .Name y _] [] _ => decide (x = "isinstance") && decide (T.nm = y) && glB c x && glB c y && nStar ea && mE tb N c true a ea
  | .get a k d, .Call (.Attribute ea m p) [ek, ed] [] cp => decide (m = "get") && nCall ea && (p.endLine == cp.line) && nStar ek && nStar ed && mE tb N c true a ea && mE tb N c true k ek && mE tb N c false d ed
  | .tcount i, .Subscript (.Name y _) eb _ => varB N c i y && isStr "count" eb
  | .tget i k d, .Call (.Attribute (.Subscript (.Name y _) eb _) m p) [ek, ed] [] cp => varB N c i y && isStr "rests" eb && decide (m = "get") && (p.endLine == cp.line) && nStar ek && nStar ed && mE tb N c true k ek && mE tb N c false d ed
  | .dsp kvs, .Dict ks vs _ => mDsp kvs ks vs
  | .heard e, .Call (.Name x _) [.Lambda params body scope _] [] _ => decide (x = "_law_heard") && tb.hd && c.lm && glB c x && noArgs params && LamX.lamSB c.sc scope && mE tb N (lamCs scope) false e body
  | .isx a n, .Call (.Name x _) [ea, .Name y _] [] _ => decide (x = "isinstance") && decide (tb.ex.lookup n = some y) && decide (n < 9) && tb.hd && glB c x && glB c y && nStar ea && mE tb N c true a ea
  | .isv a, .Call (.Name x _) [ea, .Name y _] [] _ => decide (x = "isinstance") && decide (y = "ValueError") && tb.hd && glB c x && glB c y && nStar ea && mE tb N c true a ea
  | .dspE ks es, .Dict kes vs _ => keysV ks kes vs && decide (ks.length ≤ 15) && decide (0 < ks.length) && mEs tb N c es vs
  | .idxG g b, .Call (.Attribute (.Name x _) m p) [eb] [] cp => decide (m = "index") && decide (tb.cs[g]? = some x) && glB c x && (p.endLine == cp.line) && nStar eb && mE tb N c false b eb
  | .idx a b, .Call (.Attribute ea m p) [eb] [] cp => decide (m = "index") && nCall ea && (p.endLine == cp.line) && nStar eb && mE tb N c true a ea && mE tb N c false b eb
  | .comp2 own elt tg it tg1 it1, .ListComp ee [⟨et, ei, [], z⟩, ⟨et1, ei1, [], z1⟩] scope _ => decide (z = 0) && decide (z1 = 0) && blkC N c.sc scope own && (tg.slots.all fun i => (own.map (·.2)).contains i) && (tg1.slots.all fun i => (own.map (·.2)).contains i) && mI tb N c false et it ei && nSet ei && nSet ei1 && mTg N (blkCs c scope) tg et && mI tb N (blkCs c scope) true et1 it1 ei1 && mTg N (blkCs c scope) tg1 et1 && mE tb N (blkCs c scope) false elt ee
  | .rev _, _ => false
  | .comp own elt tg it cd, .ListComp ee [⟨et, ei, ifs, z⟩] scope _ => decide (z = 0) && blkC N c.sc scope own && (tg.slots.all fun i => (own.map (·.2)).contains i) && mI tb N c false et it ei && nSet ei && mTg N (blkCs c scope) tg et && mCd tb N (blkCs c scope) cd ifs && mE tb N (blkCs c scope) false elt ee
  | _, _ => false
def mO (tb : Tb) (N : List Str) (c : Cs) : O → Option Expr → Bool
  | .none, none => true
  | .some e, some x => mE tb N c true e x
  | _, _ => false
def mCd (tb : Tb) (N : List Str) (c : Cs) : O → List Expr → Bool
  | .none, [] => true
  | .some k, [x] => mE tb N c true k x
  | _, _ => false
def mEs (tb : Tb) (N : List Str) (c : Cs) : Es → List Expr → Bool
  | .nil, [] => true
  | .cons e es, x :: xs => nStar x && mE tb N c false e x && mEs tb N c es xs
  | _, _ => false
def mKs (tb : Tb) (N : List Str) (c : Cs) : Es → List Keyword → Bool
  | .nil, [] => true
  | .cons e es, ⟨_, x, _⟩ :: xs => mE tb N c false e x && mKs tb N c es xs
  | _, _ => false
def mI (tb : Tb) (N : List Str) (c : Cs) (fz : Bool) (tg : Expr) : I → Expr → Bool
  | .val e, x => mE tb N c (!fz) e x
  | .rng1 a, .Call (.Name x _) [ea] [] _ => decide (x = "range") && glB c x && nStar ea && mE tb N c true a ea
  | .rng2 a b, .Call (.Name x _) [ea, eb] [] _ => decide (x = "range") && glB c x && nStar ea && nStar eb && mE tb N c true a ea && mE tb N c true b eb
  | .zip a b, .Call (.Name x _) [ea, eb] [] _ => isTupB tg && decide (x = "zip") && glB c x && nStar ea && nStar eb && mE tb N c (!fz) a ea && mE tb N c (!fz) b eb
  | .zipN _ _, _ => false
  | .keys a, x => mE tb N c false a x
  | .enumT a, .Call (.Name x _) [ea] [] _ => isTupB tg && decide (x = "enumerate") && glB c x && nStar ea && mE tb N c true a ea
  | .enum a, .Call (.Name x _) [ea] [] _ => isTupB tg && decide (x = "enumerate") && glB c x && nStar ea && mE tb N c (!fz) a ea
  | _, _ => false
end
end Fm

/-! ### soundness of expressions -/
namespace Fm
open PySem PySem.Spec PyProof.Rows L2
/-- a def that may be called, at the level k -/
structure CallOk (X : Cx) (P : Pm) (cl : Nat → Addr) (sh : Sh) (k : Nat) (g : List D → List D → Tw → Res D) : Prop where
  ex : ∃ f fd ps Γ, FnOk X.prog X.w X.K X.mg X.base (CX X.prog X.w) k f fd ps (spD P.K P.T cl (sh.np + sh.ks.length + sh.dfl.length) Γ) ∧ X.mg sh.name = some (.ref f) ∧ PySem.W.keepIn X.K (.ref f) = true ∧
    (sh.ks = [] → ∃ ds, Vals (sh.dfl.map Cst.v) ds ∧ Binds X.K fd ps ds) ∧ (sh.ks ≠ [] → ∃ gg, KBn X.K fd ps sh.np sh.ks gg (fun vs zs => vs ++ zs ++ sh.dfl.map Cst.v)) ∧ ∀ xs ys t, g xs ys t = Γ (xs ++ ys ++ sh.dfl.map Cst.d) t
structure ExcOk (X : Cx) (C : Addr) (x : Str) : Prop where
  q : PySem.W.excIn X.K C He.veBase "ValueError.__new__" = true
  g : X.mg x = some (.ref C)
  k : PySem.W.keepIn X.K (.ref C) = true
  r : Raises X (.ref C)
def freeNames : List Str := ["len", "abs", "all", "any", "sum", "tuple", "list", "sorted", "isinstance", "int", "bool", "str", "range", "zip", "enumerate", "ValueError"]
def heardN : List Str := ["deed", "refused", "found", "e", "some", "names", "word"]
/-- what is heard of a deed -/
def TTh (K : PySem.W.Frag) (T : Tn) : (XK → Hp → VK → Prop) → Hp → VK → Prop := fun tl H Q => ∃ (F : Hp) (t : Tw), RelH K T F H F t H ∧ ∀ F1 H1, RelH K T F H F1 t H1 →
  tl (fun cls d H' => ∃ (n : Nat) (F' : Hp) (t' : Tw), n < 9 ∧ cls = .ref (T.cl n) ∧ d = none ∧ RelH K T F' H' F' t' H' ∧ ∀ v F2 H2, RelH K T F' H' F2 t' H2 → Rp K T F2 v (.tup [.str (hWord n)]) → Q v H2) H1
    fun v H' => ∃ (F' : Hp) (t' : Tw) (d : D), RelH K T F' H' F' t' H' ∧ Rp K T F' v d ∧ ∀ w F2 H2, RelH K T F' H' F2 t' H2 → Rp K T F2 w (.tup [.str "told", d]) → Q w H2
structure Heard (X : Cx) (P : Pm) : Prop where
  ex : ∃ (g c Pt : Addr) (pg : Arguments) (bg : List Stmt) (sg : Scope) (dV kV doc pm cdv ct oc : Value) (an od : Option Addr) (osl : Array (Option Value)),
    X.mg "_law_heard" = some (.ref g) ∧ PySem.W.keepIn X.K (.ref g) = true ∧ X.K.lookup g = some ⟨oc, od, .func (PySem.W.fnOf "_law_heard" "_law_heard" pg bg sg dV kV doc pm an cdv ct), osl⟩ ∧ PySem.W.codeIn X.K cdv "_law_heard" = true ∧
    L2.Binds X.K (PySem.W.fnOf "_law_heard" "_law_heard" pg bg sg dV kV doc pm an cdv ct) ["deed"] [] ∧ FnScope heardN ["deed"] sg ∧ LamX.GivesTo X heardN "_law_heard" sg g cdv bg "deed" (X.env.qual ++ "<lambda>") (TTh P.K P.T) ∧
    LamX.TabB X.base X.mg c Pt ∧ X.env.code = .ref c ∧ (Pt, X.env.qual ++ "<lambda>") ∈ P.T.tabs ∧ ∀ p ∈ P.T.tabs, p.1 = Pt → p.2 = X.env.qual ++ "<lambda>"
structure Ok (tb : Tb) (N : List Str) (G : Gam) (cs : Nat → D) (cl : Nat → Addr) (X : Cx) (P : Pm) (c : Cs) : Prop where
  hK : X.K = P.K
  hN : X.N = N
  nd : N.Nodup
  sc : X.env.scope = c.sc
  fn : X.fn = c.fn
  calm : X.calm = true
  room : Room G.lv X.A
  hcl : P.T.cl = cl
  free : ∀ x ∈ freeNames, X.mg x = none
  con : ∀ g x, tb.cs[g]? = some x → ∃ u v, X.mg x = some u ∧ RelV v u ∧ Rp P.K P.T (fun _ => none) v (cs g)
  conT : ∀ g x, tb.cs[g]? = some x → isSq false (cs g) = true → ConT X P x (cs g)
  call : ∀ d i sh, tb.sh[i]? = some sh → d ≤ G.lv → CallOk X P cl sh (G.lv - d) (G.f d i)
  tk : Takes X fun cc d _ H => EX cl P.XE cc d H
  own : PassesOwn (model X.prog X.w) X.A X.env X.xe
  exc : ∀ n x, tb.ex.lookup n = some x → ExcOk X (cl n) x
  nine : tb.hd = true → Nine X.K cl
  heard : tb.hd = true → c.lm = true → Heard X P
theorem Ok.hu {tb : Tb} {N : List Str} {G : Gam} {cs : Nat → D} {cl : Nat → Addr} {X : Cx} {P : Pm} {c : Cs} (ok : Ok tb N G cs cl X P c) : X.A.units + 200 < cLine := by
  have := ok.room.un
  omega
structure Snd (X : Cx) (P : Pm) (f : Rho → Tw → Res D) (fl : Bool) (e : Expr) : Prop where
  b : PE X e (tB P f)
  d : fl = false → PE X e (tD P f)
  t : PT X e (tT P f)
  w : ∀ op vs pos, e = .BoolOp op vs pos → PW X e (tT P f)
theorem Snd.plain {X : Cx} {P : Pm} {f : Rho → Tw → Res D} {fl : Bool} {e : Expr} (hK : X.K = P.K) (h : PE X e (tD P f)) (he : ∀ whole, isTrue e X.env whole = (do let v ← whole; standAt e.pos; holding [v] (truthy v))) (nw : ∀ op vs pos, e ≠ .BoolOp op vs pos) : Snd X P f fl e :=
  ⟨tB_tD h, fun _ => h, t_plain hK (tB_tD h) he, fun op vs pos z => absurd z (nw op vs pos)⟩
section
variable {tb : Tb} {N : List Str} {G : Gam} {cs : Nat → D} {cl : Nat → Addr} {X : Cx} {P : Pm} {c : Cs}
theorem and2 {a b : Bool} (h : (a && b) = true) : a = true ∧ b = true := Bool.and_eq_true_iff.mp h
theorem nameB_of {x : Str} (h : nameB x = true) : (x == ("__debug__" : Str)) = false ∧ (x == ("__classdict__" : Str)) = false ∧ x ≠ "__name__" := by
  obtain ⟨h1, h3⟩ := and2 h
  obtain ⟨h1, h2⟩ := and2 h1
  exact ⟨by simpa using h1, by simpa using h2, of_decide_eq_true h3⟩
theorem varB_of (ok : Ok tb N G cs cl X P c) {i : Nat} {x : Str} (h : varB N c i x = true) : X.N[i]? = some x ∧ Vis X.env.scope x ∧ (x == ("__debug__" : Str)) = false ∧ (x == ("__classdict__" : Str)) = false := by
  obtain ⟨h1, h3⟩ := and2 h
  obtain ⟨h1, h2⟩ := and2 h1
  obtain ⟨n1, n2, _⟩ := nameB_of h3
  refine ⟨by rw [ok.hN]; exact of_decide_eq_true h1, ?_, n1, n2⟩
  rw [ok.sc]
  unfold visB at h2
  unfold Vis
  split at h2
  · rename_i e
    exact .inl e
  · rename_i e
    exact .inr (.inl e)
  · rename_i e
    exact .inr (.inr e)
  · cases h2
theorem tgtB_of (ok : Ok tb N G cs cl X P c) {i : Nat} {x : Str} (h : tgtB N c i x = true) : X.N[i]? = some x ∧ Loc X.env.scope x ∧ (X.fn x = true ∨ X.env.scope.names.lookup x = some .local) := by
  obtain ⟨h1, h3⟩ := and2 h
  obtain ⟨h1, h2⟩ := and2 h1
  refine ⟨by rw [ok.hN]; exact of_decide_eq_true h1, ?_⟩
  rw [ok.sc, ok.fn]
  unfold locB at h2
  unfold L2.Loc
  split at h2
  · rename_i e
    exact ⟨.inl e, .inr e⟩
  · rename_i e
    exact ⟨.inr e, .inl h2⟩
  · cases h2
theorem glB_of (ok : Ok tb N G cs cl X P c) {x : Str} (h : glB c x = true) : Gl X x ∧ (x == ("__debug__" : Str)) = false ∧ x ≠ "__name__" := by
  obtain ⟨h1, h2⟩ := and2 h
  obtain ⟨n1, n2, n3⟩ := nameB_of h1
  refine ⟨?_, n1, n3⟩
  show X.env.scope.names.lookup x = _
  rw [ok.sc]
  split at h2
  · rename_i e
    exact e
  · cases h2
theorem star_of {e : Expr} {es : List Expr} {env : Env} (h : nStar e = true) : starEach (e :: es) env = (false, eval e env) :: starEach es env := by
  cases e <;> first | rfl | (cases h; done)
theorem plain_of {b : Expr} (h : nSlice b = true) : PlainIx b := by
  intro o i
  cases b <;> first | rfl | (cases h; done)
theorem fold_of {e : Expr} {env : Env} (h : nSet e = true) : ∀ x, foldedSetIterable e env x = pure x := by
  intro x
  cases e <;> first | rfl | (cases h; done)
theorem base_of {e : Expr} {m : Str} {env : Env} (h : nCall e = true) : attributeBase e m env (eval e env) = eval e env := by
  cases e <;> first | rfl | (cases h; done)
/-- in a comprehension's block -/
theorem Ok.blk (ok : Ok tb N G cs cl X P c) (scope : Scope) (s : Shared) (H : Hp) (C : Addr) (cls : List (Str × Addr)) (fp : List Addr) : Ok tb N G cs cl (X.blk s H scope (compEnvC scope cls C X.env) fp) P.nox (blkCs c scope) where
  hK := ok.hK
  hN := ok.hN
  nd := ok.nd
  sc := by
    show relS scope X.env.scope = relS scope c.sc
    rw [ok.sc]
  fn := rfl
  calm := ok.calm
  room := ok.room
  hcl := ok.hcl
  free := ok.free
  con := ok.con
  conT := fun g x e z => ⟨(ok.conT g x e z).ex⟩
  call := fun d i sh e h => by
    obtain ⟨f, fd, ps, Γ, h1⟩ := (ok.call d i sh e h).ex
    exact ⟨f, fd, ps, Γ, h1⟩
  tk := fun u s' ⟨a, B, sI, pins, σ, H, cls, d, e, I, nb, up, sky, na, os, ag, w⟩ => by
    obtain ⟨n, _, _, z⟩ := w
    exact z
  own := PassesOwn.never
  exc := fun n x e => by
    obtain ⟨h1, h2, h3, h4⟩ := ok.exc n x e
    exact ⟨h1, h2, h3, h4⟩
  nine := ok.nine
  heard := fun _ z => by cases z
/-- in a lambda's body -/
theorem Ok.lam (ok : Ok tb N G cs cl X P c) (h2 : 2 ≤ G.lv) (A : Around) (outer : List Env) (s : Shared) (H : Hp) (E : XK) (scope : Scope) (f c' : Addr) (hr : Room (G.lv - 2) (A.deeper (LamX.lamEnv X scope s.heap.objs.size f c'))) (F0 H0 : Hp) :
    Ok tb N G.low cs cl (LamX.lamCx X A outer s H E scope f c') ⟨P.K, P.T, F0, H0, fun n H' => E (.ref (cl n)) none H'⟩ (lamCs scope) where
  hK := ok.hK
  hN := ok.hN
  nd := ok.nd
  sc := rfl
  fn := rfl
  calm := rfl
  room := hr
  hcl := ok.hcl
  free := ok.free
  con := ok.con
  conT := fun g x e z => ⟨(ok.conT g x e z).ex⟩
  call := fun d i sh e h => by
    have h : d ≤ G.lv - 2 := h
    obtain ⟨f, fd, ps, Γ, h1, h2⟩ := (ok.call (d + 2) i sh e (by omega)).ex
    refine ⟨f, fd, ps, Γ, ?_, h2⟩
    have e : G.lv - (d + 2) = G.low.lv - d := by
      show _ = G.lv - 2 - d
      omega
    rw [← e]
    exact h1
  tk := by
    have tk := takes_of (X := LamX.lamCx X A outer s H E scope f c') (E := E) rfl rfl rfl rfl
    exact fun u s' z => tk u s' (by
      obtain ⟨a, B, sI, pins, σ, H, cls, d, e, I, nb, up, sky, na, os, ag, wn⟩ := z
      obtain ⟨n, e1, e2, z⟩ := wn
      exact ⟨a, B, sI, pins, σ, H, cls, d, e, I, nb, up, sky, na, os, ag, by rw [e1, e2]; exact z⟩)
  own := passes_of rfl
  exc := fun n x e => by
    obtain ⟨h1, h2, h3, h4⟩ := ok.exc n x e
    exact ⟨h1, h2, h3, h4⟩
  nine := ok.nine
  heard := fun _ z => by cases z
/-- a lambda was made -/
theorem RelH.lam {K : PySem.W.Frag} {T : Tn} {F0 H0 F H H1 : Hp} {t : Tw} (R : RelH K T F0 H0 F t H) (e : LamX.ExtN H H1) (tb : LamX.Tabs T.tabs H1) : RelH K T F H F t H1 :=
  ⟨fun b o h => e b o (R.sub b o h) (R.nt b o h), fun _ _ h => .inl h, Same.refl F, fun b o h _ _ n => e b o h n, fun b h o z => Classical.byContradiction fun n => h.no (e b o z (fun ps q => n ⟨ps, q⟩)) fun ps q => n ⟨ps, q⟩,
    ⟨e _ _ R.tw.a (by intro _ z; cases z), e _ _ R.tw.b (by intro _ z; cases z), R.tw.ne, R.tw.small⟩, R.tF1, R.tF2, R.sc, tb, R.nt⟩
theorem valsR_val {r : Rho} {i : Nat} {d : D} (h : (valsR r)[i]? = some (.val d)) : r[i]? = some (.val d) := by
  unfold valsR at h
  rw [List.getElem?_map] at h
  obtain ⟨s, e, z⟩ := Option.map_eq_some_iff.mp h
  cases s with
  | un => cases z
  | val x =>
    cases z
    exact e
  | own x => cases z
theorem valsR_own {r : Rho} {i : Nat} {d : D} (h : (valsR r)[i]? = some (.own d)) : False := by
  unfold valsR at h
  rw [List.getElem?_map] at h
  obtain ⟨s, e, z⟩ := Option.map_eq_some_iff.mp h
  cases s <;> cases z
theorem Rel.vals {K : PySem.W.Frag} {T : Tn} {F0 H0 F H : Hp} {r : Rho} {t : Tw} {σ : L2.St} (R : Rel K T F0 H0 F r t σ H) : Rel K T F H F (valsR r) t σ H :=
  ⟨R.toRelH.refl, by unfold valsR; rw [List.length_map]; exact R.len, fun i d h => R.val i d (valsR_val h), fun i d h => (valsR_own h).elim, fun i j d e p h => (valsR_own h).elim⟩
theorem noArgs_of {a : Arguments} (h : noArgs a = true) : a = { posonlyargs := [], args := [], vararg := none, kwonlyargs := [], kw_defaults := [], kwarg := none, defaults := [] } := by
  unfold noArgs at h
  simp only [Bool.and_eq_true, List.isEmpty_iff, Option.isNone_iff_eq_none] at h
  obtain ⟨⟨⟨⟨⟨⟨h1, h2⟩, h3⟩, h4⟩, h5⟩, h6⟩, h7⟩ := h
  obtain ⟨a1, a2, a3, a4, a5, a6, a7⟩ := a
  subst h1 h2 h3 h4 h5 h6 h7
  rfl
theorem s_heard (ok : Ok tb N G cs cl X P c) (hh : Heard X P) (h2 : 2 ≤ G.lv) {p lpos pos : Pos} {params : Arguments} {body : Expr} {scope : Scope} (hg : Gl X "_law_heard") (hn : noArgs params = true) (L : LamX.LamS X.env.scope scope) {f : Rho → Tw → Res D}
    (hbody : ∀ (X' : Cx) (P' : Pm), Ok tb N G.low cs cl X' P' (lamCs scope) → PE X' body (tD P' f)) : PE X (.Call (.Name "_law_heard" p) [.Lambda params body scope lpos] [] pos) (tD P fun r t => heardR (f (valsR r) t)) := by
  obtain ⟨g, c0, Pt, pg, bg, sg, dV, kV, doc, pm, cdv, ct, oc, an, od, osl, hm, hk, lk, hcg, hb, Sg, hG, TB, hcode, hmT, hu⟩ := hh.ex
  obtain rfl := noArgs_of hn
  have hva : Vis sg "deed" := (Sg.par "deed" (by simp)).elim .inl fun z => .inr (.inl z)
  refine peMono (LamX.pe_lamcall (k := G.lv - 2) (t := fun E σ H Q => ∃ F0 H0, tD ⟨P.K, P.T, F0, H0, fun n H' => E (.ref (cl n)) none H'⟩ f σ H Q) hg hm hk lk hcg hb Sg rfl hva hG TB hcode hmT hu (by rw [Nat.sub_add_cancel h2]; exact ok.room) L rfl (fun q cl pm cv ctv => rfl) (fun A outer s H E f' c' hr => ?_)) fun σ H Q ⟨F, r, t, R, h⟩ => ⟨R.tabs, fun H1 e1 tb1 => ?_⟩
  · refine ⟨fun pins s' σ H' Q I ⟨F0, H0, z⟩ => ?_⟩
    exact (hbody _ _ (ok.lam h2 A outer s H E scope f' c' hr F0 H0)).run pins s' σ H' Q I z
  · have b0 := R.toRelH.lam e1 tb1
    have R0 := R.step b0
    refine ⟨F, t, R0.toRelH.refl, fun F1 H2 b1' => ?_⟩
    have b1 := b0.trans b1'
    have R1 := R0.step b1'
    refine ⟨F1, H2, F1, valsR r, t, R1.vals, ?_⟩
    dsimp only at h
    cases e : f (valsR r) t with
    | ok d t' =>
      rw [e] at h
      have h : ∀ v F' H', Kp P.T F H F' H' → RelP P F' r t' σ H' → Rp P.K P.T F' v (.tup [.str "told", d]) → Q v H' := h
      intro v F' H' k R' rv
      have b2 : RelH P.K P.T F1 H2 F' t' H' := R'.toRelH
      exact ⟨F', t', d, R'.toRelH.refl, rv, fun w F2 H3 b3 rw => h w F2 H3 ((Kp.of b1).trans ((Kp.of b2).trans (Kp.of b3))) ((R1.step b2).step b3) rw⟩
    | exc n t' =>
      rw [e] at h
      unfold heardR at h
      dsimp only at h
      split at h
      · rename_i hn
        have hn := of_decide_eq_true hn
        have h : ∀ v F' H', Kp P.T F H F' H' → RelP P F' r t' σ H' → Rp P.K P.T F' v (.tup [.str (hWord n)]) → Q v H' := h
        intro F' H' s2 b2
        have b2 : RelH P.K P.T F1 H2 F' t' H' := b2
        exact ⟨n, F', t', hn, by rw [ok.hcl], rfl, b2.refl, fun v F2 H3 b3 rv => h v F2 H3 ((Kp.of b1).trans ((Kp.of b2).trans (Kp.of b3))) ((R1.step b2).step b3) rv⟩
      · exact h.elim
    | bad =>
      rw [e] at h
      exact h.elim
theorem dsp_of : ∀ {kvs : List (Str × Cst)} {ks : List (Option Expr)} {vs : List Expr}, mDsp kvs ks vs = true → DspIs kvs ks vs
  | [], [], [], _ => .nil
  | (x, k) :: r, some (.Constant (.str y) j q) :: ks, .Constant k' j' q' :: vs, h => by
    obtain ⟨h1, h2⟩ := and2 (show (decide (x = y) && decide (k.k = k') && mDsp r ks vs) = true from h)
    obtain ⟨h3, h4⟩ := and2 h1
    obtain rfl := of_decide_eq_true h3
    obtain rfl := of_decide_eq_true h4
    exact .cons (dsp_of h2)
mutual
theorem sTg (ok : Ok tb N G cs cl X P c) : ∀ {t : Tg} {e : Expr}, mTg N c t e = true → PG X e (gT P t)
  | .name i, .Name x p, h => by
    obtain ⟨h1, h2, h3⟩ := tgtB_of ok (show tgtB N c i x = true from h)
    exact g_name (by rw [ok.hN]; exact ok.nd) h1 h2 h3
  | .tup ts, .Tuple es k p, h => by
    have h : mTgs N c ts es = true := h
    obtain ⟨h1, h2, h3⟩ := sTgs ok h
    exact g_tup ok.hK ok.calm h1 h2 h3
theorem sTgs (ok : Ok tb N G cs cl X P c) : ∀ {ts : Tgs} {es : List Expr}, mTgs N c ts es = true → PGs X es (gTs P ts) ∧ (assignEach es X.env).length = ts.count ∧ (assignEach es X.env).findIdx? (·.1) = none
  | .nil, [], _ => ⟨g_nil, rfl, rfl⟩
  | .cons t ts, e :: es, h => by
    obtain ⟨h1, h2⟩ := and2 (show (nStar e && mTg N c t e && mTgs N c ts es) = true from h)
    obtain ⟨h3, h4⟩ := and2 h1
    obtain ⟨g1, g2, g3⟩ := sTgs ok h2
    have ea : assignEach (e :: es) X.env = (false, assign e X.env) :: assignEach es X.env := by
      cases e <;> first | rfl | (cases h3; done)
    refine ⟨g_cons (sTg ok h4) g1 (by rw [ea]; rfl), ?_, ?_⟩
    · rw [ea, List.length_cons, g2]
      rfl
    · rw [ea, List.findIdx?_cons]
      simp [g3]
end
end
end Fm

namespace Fm
open PySem PySem.Spec PyProof.Rows L2
section
variable {G : Gam} {cs : Nat → D}
theorem ev_cst (k : Cst) : ev G cs (.cst k) = fun _ t => .ok k.d t := by funext r t; rw [ev]
theorem ev_var (i : Nat) : ev G cs (.var i) = fun r t => match r[i]? with
    | some (.val d) => .ok d t
    | _ => .bad := by funext r t; first | (rw [ev]; done) | (rw [ev]; rfl)
theorem ev_bor (i : Nat) : ev G cs (.bor i) = fun r t => match r[i]? with
    | some (.val d) => .ok d t
    | some (.own d) => .ok d t
    | _ => .bad := by funext r t; first | (rw [ev]; done) | (rw [ev]; rfl)
theorem ev_glob (g : Nat) : ev G cs (.glob g) = fun _ t => .ok (cs g) t := by funext r t; rw [ev]
theorem ev_bin (op : Operator) (a b : E) : ev G cs (.bin op a b) = fun r t => (ev G cs a r t).bind fun x t1 => (ev G cs b r t1).bind fun y t2 => lift (binD op x y) t2 := by funext r t; rw [ev]
theorem ev_cat (a b : E) : ev G cs (.cat a b) = fun r t => (ev G cs a r t).bind fun x t1 => (ev G cs b r t1).bind fun y t2 => lift (catD x y) t2 := by funext r t; rw [ev]
theorem ev_neg (a : E) : ev G cs (.neg a) = fun r t => (ev G cs a r t).bind fun x t1 => lift (negD x) t1 := by funext r t; rw [ev]
theorem ev_not (a : E) : ev G cs (.not a) = fun r t => (ev G cs a r t).bind fun x t1 => lift (notD x) t1 := by funext r t; rw [ev]
theorem ev_and (a b : E) : ev G cs (.and a b) = andE (ev G cs a) (ev G cs b) := by funext r t; first | (rw [ev]; done) | (rw [ev]; rfl)
theorem ev_or (a b : E) : ev G cs (.or a b) = orE (ev G cs a) (ev G cs b) := by funext r t; first | (rw [ev]; done) | (rw [ev]; rfl)
theorem ev_ite (k a b : E) : ev G cs (.ite k a b) = iteE (ev G cs k) (ev G cs a) (ev G cs b) := by funext r t; first | (rw [ev]; done) | (rw [ev]; rfl)
theorem ev_cmp (op : CmpOp) (a b : E) : ev G cs (.cmp op a b) = fun r t => (ev G cs a r t).bind fun x t1 => (ev G cs b r t1).bind fun y t2 => lift (cmpD op x y) t2 := by funext r t; rw [ev]
theorem ev_chain (o1 o2 : CmpOp) (a b k : E) : ev G cs (.chain o1 o2 a b k) = chainE o1 o2 (ev G cs a) (ev G cs b) (ev G cs k) := by funext r t; first | (rw [ev]; done) | (rw [ev]; rfl)
theorem ev_ix (a b : E) : ev G cs (.ix a b) = fun r t => (ev G cs a r t).bind fun x t1 => (ev G cs b r t1).bind fun y t2 => lift (ixD x y) t2 := by funext r t; rw [ev]
theorem ev_dix (a b : E) : ev G cs (.dix a b) = fun r t => (ev G cs a r t).bind fun x t1 => (ev G cs b r t1).bind fun y t2 => lift (dixD x y) t2 := by funext r t; rw [ev]
theorem ev_cut (a : E) (lo hi : O) : ev G cs (.cut a lo hi) = cutE (ev G cs a) (evO G cs lo) (evO G cs hi) := by funext r t; first | (rw [ev]; done) | (rw [ev]; rfl)
theorem ev_tup (es : Es) : ev G cs (.tup es) = fun r t => (evs G cs es r t).bind fun xs t1 => if okLen xs.length then .ok (.tup xs) t1 else .bad := by funext r t; rw [ev]
theorem ev_lst (es : Es) : ev G cs (.lst es) = fun r t => (evs G cs es r t).bind fun xs t1 => if okLen xs.length then .ok (.lst xs) t1 else .bad := by funext r t; rw [ev]
theorem ev_call (i : Nat) (es ks : Es) : ev G cs (.call i es ks) = fun r t => (evs G cs es r t).bind fun xs t1 => (evs G cs ks r t1).bind fun ys t2 => G.f 0 i xs ys t2 := by funext r t; rw [ev]
theorem ev_blt (b : Blt) (a : E) : ev G cs (.blt b a) = fun r t => (ev G cs a r t).bind fun x t1 => lift (blt1 b x) t1 := by funext r t; rw [ev]
theorem ev_isa (a : E) (T : Ty) : ev G cs (.isa a T) = fun r t => (ev G cs a r t).bind fun x t1 => lift ((isaD x T).map D.bl) t1 := by funext r t; rw [ev]
theorem ev_comp (own : List (Str × Nat)) (elt : E) (tg : Tg) (it : I) (cd : O) : ev G cs (.comp own elt tg it cd) = compE tg (own.map (·.2)) (evI G cs it) (evO G cs cd) (ev G cs elt) := by funext r t; first | (rw [ev]; done) | (rw [ev]; rfl)
theorem ev_get (a k d : E) : ev G cs (.get a k d) = getE (ev G cs a) (ev G cs k) (ev G cs d) := by funext r t; first | (rw [ev]; done) | (rw [ev]; rfl)
theorem ev_dsp (kvs : List (Str × Cst)) : ev G cs (.dsp kvs) = fun _ t => if decide (kvs.length ≤ 15) then .ok (.dct (mergeD [] (kvs.map fun p => (p.1, p.2.d)))) t else .bad := by funext r t; rw [ev]
theorem ev_rev (a : E) : ev G cs (.rev a) = fun r t => (ev G cs a r t).bind fun x t1 => lift (revD x) t1 := by funext r t; rw [ev]
theorem ev_heard (e : E) : ev G cs (.heard e) = fun r t => if decide (2 ≤ G.lv) then heardR (ev G.low cs e (valsR r) t) else .bad := by funext r t; rw [ev]
theorem ev_isx (a : E) (n : Nat) : ev G cs (.isx a n) = fun r t => (ev G cs a r t).bind fun x t1 => lift (isxD x n) t1 := by funext r t; rw [ev]
theorem ev_isv (a : E) : ev G cs (.isv a) = fun r t => (ev G cs a r t).bind fun x t1 => lift (isvD x) t1 := by funext r t; rw [ev]
/-- expressions, one by one -/
def esF (G : Gam) (cs : Nat → D) : Es → List (Rho → Tw → Res D)
  | .nil => []
  | .cons e es => ev G cs e :: esF G cs es
theorem evs_evL : ∀ es : Es, evs G cs es = evL (esF G cs es)
  | .nil => by funext r t; rw [evs]; rfl
  | .cons e es => by
    funext r t
    rw [evs, evs_evL es]
    rfl
theorem ev_dspE (ks : List Str) (es : Es) : ev G cs (.dspE ks es) = dspEE ks (esF G cs es) := by funext r t; rw [ev, evs_evL]; rfl
theorem evI_keys (a : E) : evI G cs (.keys a) = keysE (ev G cs a) := by funext r t; first | (rw [evI]; done) | (rw [evI]; rfl)
theorem ev_idxG (g : Nat) (b : E) : ev G cs (.idxG g b) = fun r t => if isSq false (cs g) then (ev G cs b r t).bind fun y t1 => lift (idxD false (cs g) y) t1 else .bad := by funext r t; rw [ev]
theorem ev_idx (a b : E) : ev G cs (.idx a b) = idxE (ev G cs a) (ev G cs b) := by funext r t; first | (rw [ev]; done) | (rw [ev]; rfl)
theorem ev_comp2 (own : List (Str × Nat)) (elt : E) (tg : Tg) (it : I) (tg1 : Tg) (it1 : I) : ev G cs (.comp2 own elt tg it tg1 it1) = comp2E tg (own.map (·.2)) (evI G cs it) tg1 (evI G cs it1) (ev G cs elt) := by funext r t; first | (rw [ev]; done) | (rw [ev]; rfl)
theorem evI_enumT (a : E) : evI G cs (.enumT a) = enumTE (ev G cs a) := by funext r t; first | (rw [evI]; done) | (rw [evI]; rfl)
theorem ev_tcount (i : Nat) : ev G cs (.tcount i) = tcountE i := by funext r t; first | (rw [ev]; done) | (rw [ev]; rfl)
theorem ev_tget (i : Nat) (k d : E) : ev G cs (.tget i k d) = tgetE i (ev G cs k) (ev G cs d) := by funext r t; first | (rw [ev]; done) | (rw [ev]; rfl)
theorem evO_none : evO G cs .none = fun _ t => .ok none t := by funext r t; rw [evO]
theorem evO_some (e : E) : evO G cs (.some e) = fun r t => (ev G cs e r t).bind fun x t1 => .ok (some x) t1 := by funext r t; rw [evO]
theorem evs_nil : evs G cs .nil = fun _ t => .ok [] t := by funext r t; rw [evs]
theorem evs_cons (e : E) (es : Es) : evs G cs (.cons e es) = fun r t => (ev G cs e r t).bind fun x t1 => (evs G cs es r t1).bind fun xs t2 => .ok (x :: xs) t2 := by funext r t; rw [evs]
theorem evI_val (e : E) : evI G cs (.val e) = evV (ev G cs e) := by funext r t; first | (rw [evI]; done) | (rw [evI]; rfl)
theorem evI_rng1 (a : E) : evI G cs (.rng1 a) = fun r t => (ev G cs a r t).bind fun x t1 => match x with
    | .int j => if okRng j then .ok (rngD 0 j.toNat) t1 else .bad
    | _ => .bad := by funext r t; first | (rw [evI]; done) | (rw [evI]; rfl)
theorem evI_rng2 (a b : E) : evI G cs (.rng2 a b) = fun r t => (ev G cs a r t).bind fun x t1 => (ev G cs b r t1).bind fun y t2 => match x, y with
    | .int i, .int j => if okRng i && okRng j then .ok (rngD i (j - i).toNat) t2 else .bad
    | _, _ => .bad := by funext r t; first | (rw [evI]; done) | (rw [evI]; rfl)
theorem evI_zip (a b : E) : evI G cs (.zip a b) = zipE (ev G cs a) (ev G cs b) := by funext r t; first | (rw [evI]; done) | (rw [evI]; rfl)
theorem evI_zipN (a b : E) : evI G cs (.zipN a b) = zipNE (ev G cs a) (ev G cs b) := by funext r t; first | (rw [evI]; done) | (rw [evI]; rfl)
theorem evI_enum (a : E) : evI G cs (.enum a) = enumE (ev G cs a) := by funext r t; first | (rw [evI]; done) | (rw [evI]; rfl)
theorem evs_len {xs : List Expr} {tb : Tb} {N : List Str} {c : Cs} : ∀ {es : Es} {xs : List Expr}, mEs tb N c es xs = true → ∀ r t ys t1, evs G cs es r t = .ok ys t1 → ys.length = xs.length
  | .nil, [], _, r, t, ys, t1, e => by
    rw [evs_nil] at e
    cases e
    rfl
  | .cons k es, x :: xs, h, r, t, ys, t1, e => by
    obtain ⟨_, h2⟩ := and2 (show (nStar x && mE tb N c false k x && mEs tb N c es xs) = true from h)
    rw [evs_cons] at e
    cases e1 : ev G cs k r t with
    | ok y t2 =>
      simp only [e1, Res.bind_ok] at e
      cases e2 : evs G cs es r t2 with
      | ok zs t3 =>
        simp only [e2, Res.bind_ok] at e
        cases e
        rw [List.length_cons, List.length_cons, evs_len (xs := xs) h2 r t2 zs _ e2]
      | exc n t3 =>
        simp only [e2] at e
        cases e
      | bad =>
        simp only [e2] at e
        cases e
    | exc n t2 =>
      simp only [e1] at e
      cases e
    | bad =>
      simp only [e1] at e
      cases e
theorem evs_lenK {tb : Tb} {N : List Str} {c : Cs} : ∀ {es : Es} {xs : List Keyword}, mKs tb N c es xs = true → ∀ r t ys t1, evs G cs es r t = .ok ys t1 → ys.length = xs.length
  | .nil, [], _, r, t, ys, t1, e => by
    rw [evs_nil] at e
    cases e
    rfl
  | .cons k es, ⟨nm, x, p⟩ :: xs, h, r, t, ys, t1, e => by
    obtain ⟨_, h2⟩ := and2 (show (mE tb N c false k x && mKs tb N c es xs) = true from h)
    rw [evs_cons] at e
    cases e1 : ev G cs k r t with
    | ok y t2 =>
      simp only [e1, Res.bind_ok] at e
      cases e2 : evs G cs es r t2 with
      | ok zs t3 =>
        simp only [e2, Res.bind_ok] at e
        cases e
        rw [List.length_cons, List.length_cons, evs_lenK h2 r t2 zs _ e2]
      | exc n t3 =>
        simp only [e2] at e
        cases e
      | bad =>
        simp only [e2] at e
        cases e
    | exc n t2 =>
      simp only [e1] at e
      cases e
    | bad =>
      simp only [e1] at e
      cases e
end
/-- a new object is told as nobody's -/
def freshB : E → Bool
  | .lst _ => true
  | .comp _ _ _ _ _ => true
  | .comp2 _ _ _ _ _ _ => true
  | .blt .list _ => true
  | .blt .sorted _ => true
  | .dsp _ => true
  | .dspE _ _ => true
  | .cat _ _ => true
  | _ => false
theorem t_ite {X : Cx} {P : Pm} {a b c : Expr} {pos : Pos} {fa fb fc : Rho → Tw → Res D} (hc : PT X c (tT P fc)) (ha : PT X a (tT P fa)) (hb : PT X b (tT P fb)) : PT X (.IfExp c a b pos) (tT P (iteE fc fa fb)) := by
  refine ⟨fun pins s0 σ H Q I ⟨F, r, t, R, h⟩ => ?_⟩
  show wpAny _ _ (isTrue c X.env (eval c X.env) >>= fun d => if d = true then isTrue a X.env (eval a X.env) else isTrue b X.env (eval b X.env)) _ _ _
  refine wpAny_bind (thn (hc.run pins s0 σ H (fun k H1 => if k = true then tT P fa σ H1 Q else tT P fb σ H1 Q) I ⟨F, r, t, R, h.bind.mono fun d t' h => ?_⟩) fun d s1 ⟨H1, I1, q1⟩ => ?_)
  · cases e : truD d with
    | none =>
      rw [e] at h
      exact h.elim
    | some k =>
      rw [e] at h
      refine ⟨k, rfl, fun F' H' s R' => ?_⟩
      cases k with
      | true => exact ⟨F', r, t', R', ((show Aft P F (fa r t') _ from h).up s.1).mono fun d2 t2 ⟨b2, e2, q⟩ => ⟨b2, e2, fun F2 H2 s2 R2 => q F2 H2 (s.trans s2) R2⟩⟩
      | false => exact ⟨F', r, t', R', ((show Aft P F (fb r t') _ from h).up s.1).mono fun d2 t2 ⟨b2, e2, q⟩ => ⟨b2, e2, fun F2 H2 s2 R2 => q F2 H2 (s.trans s2) R2⟩⟩
  · cases d with
    | true => exact ha.run pins s1 σ H1 Q I1 q1
    | false => exact hb.run pins s1 σ H1 Q I1 q1
section
variable {tb : Tb} {N : List Str} {G : Gam} {cs : Nat → D} {cl : Nat → Addr}
theorem notWord {X : Cx} {P : Pm} {f : Rho → Tw → Res D} {e : Expr} (nw : ∀ op vs pos, e ≠ .BoolOp op vs pos) : ∀ op vs pos, e = .BoolOp op vs pos → PW X e (tT P f) := fun op vs pos z => absurd z (nw op vs pos)
theorem s_callA {X : Cx} {P : Pm} {c : Cs} (ok : Ok tb N G cs cl X P c) {i : Nat} {sh : Sh} {x : Str} {p pos : Pos} {xs : List Expr} {kws : List Keyword} {es ks : Es} (hsh : tb.sh[i]? = some sh) (hx : sh.name = x) (hg : glB c x = true) (hl : xs.length = sh.np)
    (hk : kws.map (·.arg) = sh.ks.map some) (h0 : kws = [] ∨ xs ≠ []) (he : mEs tb N c es xs = true) (hke : mKs tb N c ks kws = true) (pa : PA X xs (tDs P (evs G cs es))) (pk : PK X kws (tDs P (evs G cs ks))) :
    PE X (.Call (.Name x p) xs kws pos) (tD P (ev G cs (.call i es ks))) := by
  subst hx
  obtain ⟨f, fd, ps, Γ, F, hm, hkp, hb0, hb1, hG⟩ := (ok.call 0 i sh hsh (Nat.zero_le _)).ex
  have hr : Room (G.lv - 0) X.A := ok.room
  obtain ⟨g1, g2, g3⟩ := glB_of ok hg
  have lk : kws.length = sh.ks.length := by
    have := congrArg List.length hk
    simpa using this
  have dd : ∀ F, RpL P.K P.T F (sh.dfl.map Cst.v) (sh.dfl.map Cst.d) := fun F => by
    induction sh.dfl with
    | nil => exact .nil
    | cons d r ih => exact .cons d.rp ih
  have ld : (sh.dfl.map Cst.d).length = sh.dfl.length := List.length_map ..
  rw [ev_call]
  by_cases hks : sh.ks = []
  · obtain ⟨ds, hv, hb⟩ := hb0 hks
    rw [hks] at lk F
    have ek : kws = [] := List.length_eq_zero_iff.mp lk
    subst ek
    cases ks with
    | cons _ _ => cases hke
    | nil =>
      cases xs with
      | nil =>
        cases es with
        | cons _ _ => cases he
        | nil =>
          have e : (fun r t => (evs G cs .nil r t).bind fun xs t1 => (evs G cs .nil r t1).bind fun ys t2 => G.f 0 i xs ys t2) = fun (r : Rho) t => Γ (sh.dfl.map Cst.d) t := by
            funext r t
            simp only [evs_nil, Res.bind_ok, hG, List.nil_append]
          rw [e]
          have hl : 0 = sh.np := hl
          exact s_call0 F hr g1 hm hkp hb hv dd ok.tk (by rw [ld, ← hl]; simp) g2
      | cons y ys =>
        have e : (fun r t => (evs G cs es r t).bind fun xs t1 => (evs G cs .nil r t1).bind fun ys t2 => G.f 0 i xs ys t2) = fun (r : Rho) t => (evs G cs es r t).bind fun xs t1 => Γ (xs ++ sh.dfl.map Cst.d) t1 := by
          funext r t
          simp only [evs_nil, Res.bind_ok, hG, List.append_nil]
        rw [e]
        have hst : starEach (y :: ys) X.env = (false, eval y X.env) :: starEach ys X.env := by
          cases es with
          | nil => cases he
          | cons k0 es0 =>
            obtain ⟨h1, _⟩ := and2 (show (nStar y && mE tb N c false k0 y && mEs tb N c es0 ys) = true from he)
            exact star_of (and2 h1).1
        have hpl : ∀ {es0 : Es} {ys : List Expr}, mEs tb N c es0 ys = true → (backTo pos (starEach ys X.env)).any (·.1) = false := by
          intro es0 ys
          induction ys generalizing es0 with
          | nil => intro _; rfl
          | cons z zs ih =>
            intro h
            cases es0 with
            | nil => cases h
            | cons k0 es1 =>
              obtain ⟨h1, h2⟩ := and2 (show (nStar z && mE tb N c false k0 z && mEs tb N c es1 zs) = true from h)
              rw [star_of (and2 h1).1]
              exact ih h2
        have hys : ∃ es0, mEs tb N c es0 ys = true := by
          cases es with
          | nil => cases he
          | cons k0 es0 => exact ⟨es0, (and2 (show (nStar y && mE tb N c false k0 y && mEs tb N c es0 ys) = true from he)).2⟩
        obtain ⟨es0, hys⟩ := hys
        refine s_call F hr g1 hm hkp hb hv dd ok.tk pa (fun r t zs t1 e1 => ?_) g2 hst (hpl hys)
        rw [evs_len (xs := y :: ys) he r t zs t1 e1, ld, hl]
        simp
  · obtain ⟨gg, hb⟩ := hb1 hks
    have kne : kws ≠ [] := fun e => hks (List.length_eq_zero_iff.mp (by rw [← lk, e]; rfl))
    rcases h0 with h0 | h0
    · exact absurd h0 kne
    cases xs with
    | nil => exact absurd rfl h0
    | cons y ys =>
      have hst : starEach (y :: ys) X.env = (false, eval y X.env) :: starEach ys X.env := by
        cases es with
        | nil => cases he
        | cons k0 es0 =>
          obtain ⟨h1, _⟩ := and2 (show (nStar y && mE tb N c false k0 y && mEs tb N c es0 ys) = true from he)
          exact star_of (and2 h1).1
      have hpl : ∀ {es0 : Es} {ys : List Expr}, mEs tb N c es0 ys = true → (backTo pos (starEach ys X.env)).any (·.1) = false := by
        intro es0 ys
        induction ys generalizing es0 with
        | nil => intro _; rfl
        | cons z zs ih =>
          intro h
          cases es0 with
          | nil => cases h
          | cons k0 es1 =>
            obtain ⟨h1, h2⟩ := and2 (show (nStar z && mE tb N c false k0 z && mEs tb N c es1 zs) = true from h)
            rw [star_of (and2 h1).1]
            exact ih h2
      have kwl : ∀ {kws : List Keyword} {l : List Str}, kws.map (·.arg) = l.map some → (backToKw pos (keywordEach kws X.env)).all (·.1.isSome) = true ∧ (backToKw pos (keywordEach kws X.env)).filterMap (·.1) = l ∧ (backToKw pos (keywordEach kws X.env)).any (·.1.isNone) = false := by
        intro kws
        induction kws with
        | nil =>
          intro l h
          cases l with
          | nil => exact ⟨rfl, rfl, rfl⟩
          | cons _ _ => cases h
        | cons k0 kr ih =>
          intro l h
          cases l with
          | nil => cases h
          | cons z zs =>
            obtain ⟨nm, e0, p0⟩ := k0
            simp only [List.map_cons, List.cons.injEq] at h
            obtain ⟨h1, h2⟩ := h
            subst h1
            obtain ⟨i1, i2, i3⟩ := ih h2
            refine ⟨?_, ?_, ?_⟩
            · show (true && (backToKw pos (keywordEach kr X.env)).all (·.1.isSome)) = true
              rw [i1]
              rfl
            · show z :: (backToKw pos (keywordEach kr X.env)).filterMap (·.1) = z :: zs
              rw [i2]
            · show (false || (backToKw pos (keywordEach kr X.env)).any (·.1.isNone)) = false
              rw [i3]
              rfl
      obtain ⟨k1, k2, k3⟩ := kwl hk
      have e : (fun r t => (evs G cs es r t).bind fun xs t1 => (evs G cs ks r t1).bind fun ys t2 => G.f 0 i xs ys t2) = fun (r : Rho) t => (evs G cs es r t).bind fun xs t1 => (evs G cs ks r t1).bind fun ys t2 => Γ (xs ++ ys ++ sh.dfl.map Cst.d) t2 := by
        funext r t
        simp only [hG]
      rw [e]
      refine s_callK F hr g1 hm hkp hb dd ok.tk pa pk (fun r t zs t1 e1 => ?_) (fun r t zs t1 e1 => ?_) (by rw [ld]) k1 k2 g2 hst ?_
      · rw [evs_len (xs := y :: ys) he r t zs t1 e1, hl]
      · rw [evs_lenK hke r t zs t1 e1, lk]
      · rw [hpl he, k3]
        rfl
end
end Fm

namespace Fm
open PySem PySem.Spec PyProof.Rows L2
section
variable {tb : Tb} {N : List Str} {c : Cs} {fl : Bool}
theorem mE_cst {k : Cst} {e : Expr} (h : mE tb N c fl (.cst k) e = true) : ∃ k' j p, e = .Constant k' j p ∧ (decide (k.k = k')) = true := by
  cases e
  all_goals first
    | (cases h; done)
    | exact ⟨_, _, _, rfl, h⟩
theorem mE_var {i : Nat} {e : Expr} (h : mE tb N c fl (.var i) e = true) : ∃ x p, e = .Name x p ∧ (varB N c i x) = true := by
  cases e
  all_goals first
    | (cases h; done)
    | exact ⟨_, _, rfl, h⟩
theorem mE_bor {i : Nat} {e : Expr} (h : mE tb N c fl (.bor i) e = true) : ∃ x p, e = .Name x p ∧ (fl && varB N c i x) = true := by
  cases e
  all_goals first
    | (cases h; done)
    | exact ⟨_, _, rfl, h⟩
theorem mE_glob {g : Nat} {e : Expr} (h : mE tb N c fl (.glob g) e = true) : ∃ x p, e = .Name x p ∧ (decide (tb.cs[g]? = some x) && glB c x) = true := by
  cases e
  all_goals first
    | (cases h; done)
    | exact ⟨_, _, rfl, h⟩
theorem mE_bin {op : Operator} {a b : E} {e : Expr} (h : mE tb N c fl (.bin op a b) e = true) : ∃ ea op' eb p, e = .BinOp ea op' eb p ∧ (decide (op = op') && opB op && mE tb N c true a ea && mE tb N c true b eb) = true := by
  cases e
  all_goals first
    | (cases h; done)
    | exact ⟨_, _, _, _, rfl, h⟩
theorem mE_cat {a b : E} {e : Expr} (h : mE tb N c fl (.cat a b) e = true) : ∃ ea eb p, e = .BinOp ea .Add eb p ∧ (mE tb N c true a ea && mE tb N c true b eb) = true := by
  cases e
  all_goals first
    | (cases h; done)
    | exact ⟨_, _, _, rfl, h⟩
    | (rename_i a1 a2 a3 a4; cases a2 <;> first | (cases h; done) | exact ⟨_, _, _, rfl, h⟩)
theorem mE_neg {a : E} {e : Expr} (h : mE tb N c fl (.neg a) e = true) : ∃ ea p, e = .UnaryOp .USub ea p ∧ (mE tb N c true a ea) = true := by
  cases e
  all_goals first
    | (cases h; done)
    | exact ⟨_, _, rfl, h⟩
    | (rename_i a1 a2 a3; cases a1 <;> first | (cases h; done) | exact ⟨_, _, rfl, h⟩)
theorem mE_not {a : E} {e : Expr} (h : mE tb N c fl (.not a) e = true) : ∃ ea p, e = .UnaryOp .Not ea p ∧ (mE tb N c true a ea) = true := by
  cases e
  all_goals first
    | (cases h; done)
    | exact ⟨_, _, rfl, h⟩
    | (rename_i a1 a2 a3; cases a1 <;> first | (cases h; done) | exact ⟨_, _, rfl, h⟩)
def mAnd (tb : Tb) (N : List Str) (c : Cs) (b : E) (y : Expr) (r : List Expr) (p : Pos) : Bool := match r with
    | [] => mE tb N c false b y
    | z :: r' => mE tb N c false b (.BoolOp .And (y :: z :: r') p)
theorem mE_and {a b : E} {e : Expr} (h : mE tb N c fl (.and a b) e = true) : ∃ x y r p, e = .BoolOp .And (x :: y :: r) p ∧ (mE tb N c false a x && mAnd tb N c b y r p) = true := by
  cases e
  all_goals first
    | (cases h; done)
    | exact ⟨_, _, _, _, rfl, h⟩
    | (rename_i a1 a2 a3; cases a1 <;> first | (cases h; done) | (cases a2 with | nil => (cases h; done) | cons x a2 => cases a2 with | nil => (cases h; done) | cons y r => exact ⟨_, _, _, _, rfl, h⟩))
def mOr (tb : Tb) (N : List Str) (c : Cs) (b : E) (y : Expr) (r : List Expr) (p : Pos) : Bool := match r with
    | [] => mE tb N c false b y
    | z :: r' => mE tb N c false b (.BoolOp .Or (y :: z :: r') p)
theorem mE_or {a b : E} {e : Expr} (h : mE tb N c fl (.or a b) e = true) : ∃ x y r p, e = .BoolOp .Or (x :: y :: r) p ∧ (mE tb N c false a x && mOr tb N c b y r p) = true := by
  cases e
  all_goals first
    | (cases h; done)
    | exact ⟨_, _, _, _, rfl, h⟩
    | (rename_i a1 a2 a3; cases a1 <;> first | (cases h; done) | (cases a2 with | nil => (cases h; done) | cons x a2 => cases a2 with | nil => (cases h; done) | cons y r => exact ⟨_, _, _, _, rfl, h⟩))
theorem mE_ite {k a b : E} {e : Expr} (h : mE tb N c fl (.ite k a b) e = true) : ∃ ek ea eb p, e = .IfExp ek ea eb p ∧ (mE tb N c true k ek && mE tb N c false a ea && mE tb N c false b eb) = true := by
  cases e
  all_goals first
    | (cases h; done)
    | exact ⟨_, _, _, _, rfl, h⟩
theorem mE_cmp {op : CmpOp} {a b : E} {e : Expr} (h : mE tb N c fl (.cmp op a b) e = true) : ∃ ea op' eb p, e = .Compare ea [op'] [eb] p ∧ (decide (op = op') && !behindInMarks op eb && mE tb N c true a ea && mE tb N c true b eb) = true := by
  cases e
  all_goals first
    | (cases h; done)
    | exact ⟨_, _, _, _, rfl, h⟩
    | (rename_i a1 a2 a3 a4; cases a2 with | nil => (cases h; done) | cons o1 a2 => cases a2 with | nil => (cases a3 with | nil => (cases h; done) | cons x a3 => cases a3 with | nil => exact ⟨_, _, _, _, rfl, h⟩ | cons _ _ => (cases h; done)) | cons o2 a2 => cases a2 with | cons _ _ => (cases a3 <;> (cases h; done)) | nil => (cases a3 with | nil => (cases h; done) | cons x a3 => cases a3 with | nil => (cases h; done) | cons y a3 => cases a3 with | nil => (cases h; done) | cons _ _ => (cases h; done)))
theorem mE_chain {o1 o2 : CmpOp} {a b k : E} {e : Expr} (h : mE tb N c fl (.chain o1 o2 a b k) e = true) : ∃ ea o1' o2' eb ek p, e = .Compare ea [o1', o2'] [eb, ek] p ∧ (decide (o1 = o1') && decide (o2 = o2') && !lastMarks [o1, o2] [eb, ek] && mE tb N c true a ea && mE tb N c true b eb && mE tb N c true k ek) = true := by
  cases e
  all_goals first
    | (cases h; done)
    | exact ⟨_, _, _, _, _, _, rfl, h⟩
    | (rename_i a1 a2 a3 a4; cases a2 with | nil => (cases h; done) | cons o1 a2 => cases a2 with | nil => (cases a3 with | nil => (cases h; done) | cons x a3 => cases a3 with | nil => (cases h; done) | cons _ _ => (cases h; done)) | cons o2 a2 => cases a2 with | cons _ _ => (cases a3 <;> (cases h; done)) | nil => (cases a3 with | nil => (cases h; done) | cons x a3 => cases a3 with | nil => (cases h; done) | cons y a3 => cases a3 with | nil => exact ⟨_, _, _, _, _, _, rfl, h⟩ | cons _ _ => (cases h; done)))
theorem mE_cut {a : E} {lo hi : O} {e : Expr} (h : mE tb N c fl (.cut a lo hi) e = true) : ∃ ea l u p2 p, e = .Subscript ea (.Slice l u none p2) p ∧ (mE tb N c true a ea && mO tb N c lo l && mO tb N c hi u) = true := by
  cases e
  all_goals first
    | (cases h; done)
    | exact ⟨_, _, _, _, _, rfl, h⟩
    | (rename_i a1 a2 a3; cases a2 <;> first | (cases h; done) | (rename_i l u st p2; cases st <;> first | (cases h; done) | exact ⟨_, _, _, _, _, rfl, h⟩))
theorem mE_ix {a b : E} {e : Expr} (h : mE tb N c fl (.ix a b) e = true) : ∃ ea eb p, e = .Subscript ea eb p ∧ (nSlice eb && mE tb N c true a ea && mE tb N c true b eb) = true := by
  cases e
  all_goals first
    | (cases h; done)
    | exact ⟨_, _, _, rfl, h⟩
    | (rename_i a1 a2 a3; cases a2 <;> first | exact ⟨_, _, _, rfl, h⟩ | (rename_i l u st p2; cases st <;> first | exact ⟨_, _, _, rfl, h⟩ | (cases h; done)))
theorem mE_dix {a b : E} {e : Expr} (h : mE tb N c fl (.dix a b) e = true) : ∃ ea eb p, e = .Subscript ea eb p ∧ (nSlice eb && mE tb N c true a ea && mE tb N c true b eb) = true := by
  cases e
  all_goals first
    | (cases h; done)
    | exact ⟨_, _, _, rfl, h⟩
    | (rename_i a1 a2 a3; cases a2 <;> first | exact ⟨_, _, _, rfl, h⟩ | (rename_i l u st p2; cases st <;> first | exact ⟨_, _, _, rfl, h⟩ | (cases h; done)))
theorem mE_tup {es : Es} {e : Expr} (h : mE tb N c fl (.tup es) e = true) : ∃ xs k p, e = .Tuple xs k p ∧ (mEs tb N c es xs) = true := by
  cases e
  all_goals first
    | (cases h; done)
    | exact ⟨_, _, _, rfl, h⟩
theorem mE_lst {es : Es} {e : Expr} (h : mE tb N c fl (.lst es) e = true) : ∃ xs p, e = .List xs p ∧ (mEs tb N c es xs) = true := by
  cases e
  all_goals first
    | (cases h; done)
    | exact ⟨_, _, rfl, h⟩
def mCall (tb : Tb) (N : List Str) (c : Cs) (i : Nat) (es ks : Es) (x : Str) (xs : List Expr) (kws : List Keyword) : Bool := match tb.sh[i]? with
    | some sh => decide (sh.name = x) && glB c x && decide (xs.length = sh.np) && decide (kws.map (·.arg) = sh.ks.map some) && (decide (kws = []) || !decide (xs = [])) && mEs tb N c es xs && mKs tb N c ks kws
    | none => false
theorem mE_call {i : Nat} {es ks : Es} {e : Expr} (h : mE tb N c fl (.call i es ks) e = true) : ∃ x q xs kws p, e = .Call (.Name x q) xs kws p ∧ (mCall tb N c i es ks x xs kws) = true := by
  cases e
  all_goals first
    | (cases h; done)
    | exact ⟨_, _, _, _, _, rfl, h⟩
    | (rename_i f0 xs kws p; cases f0 <;> first | (cases h; done) | exact ⟨_, _, _, _, _, rfl, h⟩)
theorem mE_blt {b : Blt} {a : E} {e : Expr} (h : mE tb N c fl (.blt b a) e = true) : ∃ x q ea p, e = .Call (.Name x q) [ea] [] p ∧ (bltB b && decide (b.nm = x) && glB c x && nStar ea && mE tb N c true a ea) = true := by
  cases e
  all_goals first
    | (cases h; done)
    | exact ⟨_, _, _, _, rfl, h⟩
    | (rename_i f0 xs kws p; cases f0 <;> first | (cases h; done) | (cases xs with | nil => (cases h; done) | cons y xs => cases xs with | cons _ _ => (cases h; done) | nil => cases kws with | cons _ _ => (cases h; done) | nil => exact ⟨_, _, _, _, rfl, h⟩))
theorem mE_isa {a : E} {T : Ty} {e : Expr} (h : mE tb N c fl (.isa a T) e = true) : ∃ x q ea y q2 p, e = .Call (.Name x q) [ea, .Name y q2] [] p ∧ (decide (x = "isinstance") && decide (T.nm = y) && glB c x && glB c y && nStar ea && mE tb N c true a ea) = true := by
  cases e
  all_goals first
    | (cases h; done)
    | exact ⟨_, _, _, _, _, _, rfl, h⟩
    | (rename_i f0 xs kws p; cases f0 <;> first | (cases h; done) | (cases xs with | nil => (cases h; done) | cons y xs => cases xs with | nil => (cases h; done) | cons z xs => cases xs with | cons _ _ => (cases z <;> (cases h; done)) | nil => cases kws with | cons _ _ => (cases z <;> (cases h; done)) | nil => (cases z <;> first | (cases h; done) | exact ⟨_, _, _, _, _, _, rfl, h⟩)))
theorem mE_idxG {g : Nat} {b : E} {e : Expr} (h : mE tb N c fl (.idxG g b) e = true) : ∃ x q m q2 eb cp, e = .Call (.Attribute (.Name x q) m q2) [eb] [] cp ∧ (decide (m = "index") && decide (tb.cs[g]? = some x) && glB c x && (q2.endLine == cp.line) && nStar eb && mE tb N c false b eb) = true := by
  cases e
  all_goals first
    | (cases h; done)
    | exact ⟨_, _, _, _, _, _, rfl, h⟩
    | (rename_i f0 xs kws p; cases f0 <;> first | (cases h; done) | (rename_i ob m p1; cases ob <;> first | (cases h; done) | (cases xs with | nil => (cases h; done) | cons y xs => cases xs with | cons _ _ => (cases h; done) | nil => cases kws with | cons _ _ => (cases h; done) | nil => exact ⟨_, _, _, _, _, _, rfl, h⟩)))
theorem mE_idx {a b : E} {e : Expr} (h : mE tb N c fl (.idx a b) e = true) : ∃ ea m q eb cp, e = .Call (.Attribute ea m q) [eb] [] cp ∧ (decide (m = "index") && nCall ea && (q.endLine == cp.line) && nStar eb && mE tb N c true a ea && mE tb N c false b eb) = true := by
  cases e
  all_goals first
    | (cases h; done)
    | exact ⟨_, _, _, _, _, rfl, h⟩
    | (rename_i f0 xs kws p; cases f0 <;> first | (cases h; done) | (cases xs with | nil => (cases h; done) | cons y xs => cases xs with | cons _ _ => (cases h; done) | nil => cases kws with | cons _ _ => (cases h; done) | nil => exact ⟨_, _, _, _, _, rfl, h⟩))
theorem mE_comp2 {own : List (Str × Nat)} {elt : E} {tg : Tg} {it : I} {tg1 : Tg} {it1 : I} {e : Expr} (h : mE tb N c fl (.comp2 own elt tg it tg1 it1) e = true) : ∃ ee et ei z et1 ei1 z1 scope p, e = .ListComp ee [⟨et, ei, [], z⟩, ⟨et1, ei1, [], z1⟩] scope p ∧ (decide (z = 0) && decide (z1 = 0) && blkC N c.sc scope own && (tg.slots.all fun i => (own.map (·.2)).contains i) && (tg1.slots.all fun i => (own.map (·.2)).contains i) && mI tb N c false et it ei && nSet ei && nSet ei1 && mTg N (blkCs c scope) tg et && mI tb N (blkCs c scope) true et1 it1 ei1 && mTg N (blkCs c scope) tg1 et1 && mE tb N (blkCs c scope) false elt ee) = true := by
  cases e
  all_goals first
    | (cases h; done)
    | exact ⟨_, _, _, _, _, _, _, _, _, rfl, h⟩
    | (rename_i ee gs scope p; cases gs with | nil => (cases h; done) | cons g gs => cases g with | mk et ei ifs z => cases ifs with | cons _ _ => (cases gs <;> (cases h; done)) | nil => cases gs with | nil => (cases h; done) | cons g1 gs => cases g1 with | mk et1 ei1 ifs1 z1 => cases ifs1 with | cons _ _ => (cases gs <;> (cases h; done)) | nil => cases gs with | cons _ _ => (cases h; done) | nil => exact ⟨_, _, _, _, _, _, _, _, _, rfl, h⟩)
theorem mE_heard {k : E} {e : Expr} (h : mE tb N c fl (.heard k) e = true) : ∃ x q params body scope lp p, e = .Call (.Name x q) [.Lambda params body scope lp] [] p ∧ (decide (x = "_law_heard") && tb.hd && c.lm && glB c x && noArgs params && LamX.lamSB c.sc scope && mE tb N (lamCs scope) false k body) = true := by
  cases e
  all_goals first
    | (cases h; done)
    | exact ⟨_, _, _, _, _, _, _, rfl, h⟩
    | (rename_i f0 xs kws p; cases f0 <;> first | (cases h; done) | (cases xs with | nil => (cases h; done) | cons y xs => cases xs with | cons _ _ => (cases y <;> (cases h; done)) | nil => cases kws with | cons _ _ => (cases y <;> (cases h; done)) | nil => (cases y <;> first | (cases h; done) | exact ⟨_, _, _, _, _, _, _, rfl, h⟩)))
theorem mE_isx {a : E} {n : Nat} {e : Expr} (h : mE tb N c fl (.isx a n) e = true) : ∃ x q ea y q2 p, e = .Call (.Name x q) [ea, .Name y q2] [] p ∧ (decide (x = "isinstance") && decide (tb.ex.lookup n = some y) && decide (n < 9) && tb.hd && glB c x && glB c y && nStar ea && mE tb N c true a ea) = true := by
  cases e
  all_goals first
    | (cases h; done)
    | exact ⟨_, _, _, _, _, _, rfl, h⟩
    | (rename_i f0 xs kws p; cases f0 <;> first | (cases h; done) | (cases xs with | nil => (cases h; done) | cons y xs => cases xs with | nil => (cases h; done) | cons z xs => cases xs with | cons _ _ => (cases z <;> (cases h; done)) | nil => cases kws with | cons _ _ => (cases z <;> (cases h; done)) | nil => (cases z <;> first | (cases h; done) | exact ⟨_, _, _, _, _, _, rfl, h⟩)))
theorem mE_isv {a : E} {e : Expr} (h : mE tb N c fl (.isv a) e = true) : ∃ x q ea y q2 p, e = .Call (.Name x q) [ea, .Name y q2] [] p ∧ (decide (x = "isinstance") && decide (y = "ValueError") && tb.hd && glB c x && glB c y && nStar ea && mE tb N c true a ea) = true := by
  cases e
  all_goals first
    | (cases h; done)
    | exact ⟨_, _, _, _, _, _, rfl, h⟩
    | (rename_i f0 xs kws p; cases f0 <;> first | (cases h; done) | (cases xs with | nil => (cases h; done) | cons y xs => cases xs with | nil => (cases h; done) | cons z xs => cases xs with | cons _ _ => (cases z <;> (cases h; done)) | nil => cases kws with | cons _ _ => (cases z <;> (cases h; done)) | nil => (cases z <;> first | (cases h; done) | exact ⟨_, _, _, _, _, _, rfl, h⟩)))
theorem mE_dspE {ks : List Str} {es : Es} {e : Expr} (h : mE tb N c fl (.dspE ks es) e = true) : ∃ kes vs p, e = .Dict kes vs p ∧ (keysV ks kes vs && decide (ks.length ≤ 15) && decide (0 < ks.length) && mEs tb N c es vs) = true := by
  cases e
  all_goals first
    | (cases h; done)
    | exact ⟨_, _, _, rfl, h⟩
theorem mE_get {a k d : E} {e : Expr} (h : mE tb N c fl (.get a k d) e = true) : ∃ ea m q ek ed cp, e = .Call (.Attribute ea m q) [ek, ed] [] cp ∧ (decide (m = "get") && nCall ea && (q.endLine == cp.line) && nStar ek && nStar ed && mE tb N c true a ea && mE tb N c true k ek && mE tb N c false d ed) = true := by
  cases e
  all_goals first
    | (cases h; done)
    | exact ⟨_, _, _, _, _, _, rfl, h⟩
    | (rename_i f0 xs kws p; cases f0 <;> first | (cases h; done) | (cases xs with | nil => (cases h; done) | cons y xs => cases xs with | nil => (cases h; done) | cons z xs => cases xs with | cons _ _ => (cases h; done) | nil => cases kws with | cons _ _ => (cases h; done) | nil => exact ⟨_, _, _, _, _, _, rfl, h⟩))
theorem mE_tcount {i : Nat} {e : Expr} (h : mE tb N c fl (.tcount i) e = true) : ∃ y q eb p, e = .Subscript (.Name y q) eb p ∧ (varB N c i y && isStr "count" eb) = true := by
  cases e
  all_goals first
    | (cases h; done)
    | exact ⟨_, _, _, _, rfl, h⟩
    | (rename_i a1 a2 a3; cases a1 <;> first | (cases h; done) | exact ⟨_, _, _, _, rfl, h⟩)
theorem mE_tget {i : Nat} {k d : E} {e : Expr} (h : mE tb N c fl (.tget i k d) e = true) : ∃ y q eb q2 m p ek ed cp, e = .Call (.Attribute (.Subscript (.Name y q) eb q2) m p) [ek, ed] [] cp ∧ (varB N c i y && isStr "rests" eb && decide (m = "get") && (p.endLine == cp.line) && nStar ek && nStar ed && mE tb N c true k ek && mE tb N c false d ed) = true := by
  cases e
  all_goals first
    | (cases h; done)
    | exact ⟨_, _, _, _, _, _, _, _, _, rfl, h⟩
    | (rename_i f0 xs kws p; cases f0 <;> first | (cases h; done) | (rename_i ob m p1; cases ob <;> first | (cases h; done) | (rename_i ob2 eb q2; cases ob2 <;> first | (cases h; done) | (cases xs with | nil => (cases h; done) | cons y xs => cases xs with | nil => (cases h; done) | cons z xs => cases xs with | cons _ _ => (cases h; done) | nil => cases kws with | cons _ _ => (cases h; done) | nil => exact ⟨_, _, _, _, _, _, _, _, _, rfl, h⟩))))
theorem mE_dsp {kvs : List (Str × Cst)} {e : Expr} (h : mE tb N c fl (.dsp kvs) e = true) : ∃ ks vs p, e = .Dict ks vs p ∧ (mDsp kvs ks vs) = true := by
  cases e
  all_goals first
    | (cases h; done)
    | exact ⟨_, _, _, rfl, h⟩
theorem mE_comp {own : List (Str × Nat)} {elt : E} {tg : Tg} {it : I} {cd : O} {e : Expr} (h : mE tb N c fl (.comp own elt tg it cd) e = true) : ∃ ee et ei ifs z scope p, e = .ListComp ee [⟨et, ei, ifs, z⟩] scope p ∧ (decide (z = 0) && blkC N c.sc scope own && (tg.slots.all fun i => (own.map (·.2)).contains i) && mI tb N c false et it ei && nSet ei && mTg N (blkCs c scope) tg et && mCd tb N (blkCs c scope) cd ifs && mE tb N (blkCs c scope) false elt ee) = true := by
  cases e
  all_goals first
    | (cases h; done)
    | exact ⟨_, _, _, _, _, _, _, rfl, h⟩
    | (rename_i ee gs scope p; cases gs with | nil => (cases h; done) | cons g gs => cases g with | mk et ei ifs z => cases gs with | cons _ _ => (cases h; done) | nil => exact ⟨_, _, _, _, _, _, _, rfl, h⟩)
theorem mI_rng1 {a : E} {e : Expr} {fz : Bool} {tg : Expr} (h : mI tb N c fz tg (.rng1 a) e = true) : ∃ x q ea p, e = .Call (.Name x q) [ea] [] p ∧ (decide (x = "range") && glB c x && nStar ea && mE tb N c true a ea) = true := by
  cases e
  all_goals first
    | (cases h; done)
    | exact ⟨_, _, _, _, rfl, h⟩
    | (rename_i f0 xs kws p; cases f0 <;> first | (cases h; done) | (cases xs with | nil => (cases h; done) | cons y xs => cases xs with | cons _ _ => (cases h; done) | nil => cases kws with | cons _ _ => (cases h; done) | nil => exact ⟨_, _, _, _, rfl, h⟩))
theorem mI_rng2 {a b : E} {e : Expr} {fz : Bool} {tg : Expr} (h : mI tb N c fz tg (.rng2 a b) e = true) : ∃ x q ea eb p, e = .Call (.Name x q) [ea, eb] [] p ∧ (decide (x = "range") && glB c x && nStar ea && nStar eb && mE tb N c true a ea && mE tb N c true b eb) = true := by
  cases e
  all_goals first
    | (cases h; done)
    | exact ⟨_, _, _, _, _, rfl, h⟩
    | (rename_i f0 xs kws p; cases f0 <;> first | (cases h; done) | (cases xs with | nil => (cases h; done) | cons y xs => cases xs with | nil => (cases h; done) | cons z xs => cases xs with | cons _ _ => (cases h; done) | nil => cases kws with | cons _ _ => (cases h; done) | nil => exact ⟨_, _, _, _, _, rfl, h⟩))
theorem mI_zip {a b : E} {e : Expr} {fz : Bool} {tg : Expr} (h : mI tb N c fz tg (.zip a b) e = true) : ∃ x q ea eb p, e = .Call (.Name x q) [ea, eb] [] p ∧ (isTupB tg && decide (x = "zip") && glB c x && nStar ea && nStar eb && mE tb N c (!fz) a ea && mE tb N c (!fz) b eb) = true := by
  cases e
  all_goals first
    | (cases h; done)
    | exact ⟨_, _, _, _, _, rfl, h⟩
    | (rename_i f0 xs kws p; cases f0 <;> first | (cases h; done) | (cases xs with | nil => (cases h; done) | cons y xs => cases xs with | nil => (cases h; done) | cons z xs => cases xs with | cons _ _ => (cases h; done) | nil => cases kws with | cons _ _ => (cases h; done) | nil => exact ⟨_, _, _, _, _, rfl, h⟩))
theorem mI_enumT {a : E} {e : Expr} {fz : Bool} {tg : Expr} (h : mI tb N c fz tg (.enumT a) e = true) : ∃ x q ea p, e = .Call (.Name x q) [ea] [] p ∧ (isTupB tg && decide (x = "enumerate") && glB c x && nStar ea && mE tb N c true a ea) = true := by
  cases e
  all_goals first
    | (cases h; done)
    | exact ⟨_, _, _, _, rfl, h⟩
    | (rename_i f0 xs kws p; cases f0 <;> first | (cases h; done) | (cases xs with | nil => (cases h; done) | cons y xs => cases xs with | cons _ _ => (cases h; done) | nil => cases kws with | cons _ _ => (cases h; done) | nil => exact ⟨_, _, _, _, rfl, h⟩))
theorem mI_enum {a : E} {e : Expr} {fz : Bool} {tg : Expr} (h : mI tb N c fz tg (.enum a) e = true) : ∃ x q ea p, e = .Call (.Name x q) [ea] [] p ∧ (isTupB tg && decide (x = "enumerate") && glB c x && nStar ea && mE tb N c (!fz) a ea) = true := by
  cases e
  all_goals first
    | (cases h; done)
    | exact ⟨_, _, _, _, rfl, h⟩
    | (rename_i f0 xs kws p; cases f0 <;> first | (cases h; done) | (cases xs with | nil => (cases h; done) | cons y xs => cases xs with | cons _ _ => (cases h; done) | nil => cases kws with | cons _ _ => (cases h; done) | nil => exact ⟨_, _, _, _, rfl, h⟩))
end
end Fm

/-! ### soundness of expressions, all together -/
namespace Fm
open PySem PySem.Spec PyProof.Rows L2
section
variable {tb : Tb} {N : List Str} {G : Gam} {cs : Nat → D} {cl : Nat → Addr}
theorem s_bin {X : Cx} {P : Pm} {a b : Expr} {pos : Pos} {fa fb : Rho → Tw → Res D} (hK : X.K = P.K) {op : Operator} (h : opB op = true) (ha : PE X a (tB P fa)) (hb : PE X b (tB P fb)) :
    PE X (.BinOp a op b pos) (tD P fun r t => (fa r t).bind fun x t1 => (fb r t1).bind fun y t2 => Fm.lift (binD op x y) t2) := by
  cases op with
  | Add => exact s_add hK ha hb
  | Sub => exact s_sub ha hb
  | Mult => exact s_mul ha hb
  | FloorDiv => exact s_fdiv ha hb
  | Mod => exact s_mod ha hb
  | Pow => exact s_pow ha hb
  | LShift => exact s_shl ha hb
  | _ => cases h
theorem mem_free {x : Str} (h : x ∈ freeNames) : x ∈ freeNames := h
theorem s_blt {X : Cx} {P : Pm} {c : Cs} (ok : Ok tb N G cs cl X P c) {a : Expr} {p1 pos : Pos} {fa : Rho → Tw → Res D} {b : Blt} (hb : bltB b = true) (hg : glB c b.nm = true) (hs : nStar a = true) (ha : PE X a (tB P fa)) :
    PE X (.Call (.Name b.nm p1) [a] [] pos) (tD P fun r t => (fa r t).bind fun x t1 => Fm.lift (blt1 b x) t1) ∧ (freshB (.blt b (.cst .non)) = true → PE X (.Call (.Name b.nm p1) [a] [] pos) (tN P fun r t => (fa r t).bind fun x t1 => Fm.lift (blt1 b x) t1)) := by
  obtain ⟨g1, g2, g3⟩ := glB_of ok hg
  have st := star_of (es := []) (env := X.env) hs
  cases b with
  | len => exact ⟨s_callB (cs_len ok.hK) g1 (ok.free _ (by decide)) PySem.boot_len ha g3 g2 st, fun z => by cases z⟩
  | abs => exact ⟨s_callB cs_abs g1 (ok.free _ (by decide)) PyProof.Rows.boot_abs ha g3 g2 st, fun z => by cases z⟩
  | all => exact ⟨s_callB (cs_all ok.hK ok.calm) g1 (ok.free _ (by decide)) PyProof.Rows.boot_all ha g3 g2 st, fun z => by cases z⟩
  | any => exact ⟨s_callB (cs_any ok.hK ok.calm) g1 (ok.free _ (by decide)) PyProof.Rows.boot_any ha g3 g2 st, fun z => by cases z⟩
  | sum => exact ⟨s_callB (cs_sum ok.hK ok.calm) g1 (ok.free _ (by decide)) PyProof.Rows.boot_sum ha g3 g2 st, fun z => by cases z⟩
  | tuple => exact ⟨s_callT (cs_tuple ok.hK) g1 (ok.free _ (by decide)) PyProof.Rows.boot_tuple ha g3 g2 st, fun z => by cases z⟩
  | list =>
    have h := n_callT (cn_list ok.hK) g1 (ok.free _ (by decide)) PyProof.Rows.boot_list ha g3 g2 st (p1 := p1) (pos := pos)
    exact ⟨tN_tD h, fun _ => h⟩
  | sorted =>
    have h := n_callB (cn_sorted ok.hK ok.calm) g1 (ok.free _ (by decide)) PyProof.Rows.boot_sorted ha g3 g2 st (p1 := p1) (pos := pos)
    exact ⟨tN_tD h, fun _ => h⟩
  | int => cases hb
theorem isTup_of {e : Expr} (h : isTupB e = true) : ∃ elts k p, e = .Tuple elts k p := by
  cases e <;> first | (cases h; done) | exact ⟨_, _, _, rfl⟩
theorem isNm_of {e : Expr} (h : isNmB e = true) : ∃ x p, e = .Name x p := by
  cases e <;> first | (cases h; done) | exact ⟨_, _, rfl⟩
theorem isStr_of {x : Str} {e : Expr} (h : isStr x e = true) : ∃ j p, e = .Constant (.str x) j p := by
  unfold isStr at h
  split at h
  · obtain rfl := of_decide_eq_true h
    exact ⟨_, _, rfl⟩
  · cases h
theorem keysB_of {ks : List Str} {ke : Option Expr} {kes : List (Option Expr)} (h : keysB ks (ke :: kes) = true) : ∃ y ks' j q, ks = y :: ks' ∧ ke = some (.Constant (.str y) j q) ∧ keysB ks' kes = true := by
  unfold keysB at h
  split at h
  · rename_i z
    cases z
  · rename_i x xs y j q ks2 z
    cases z
    obtain ⟨h1, h2⟩ := and2 h
    obtain rfl := of_decide_eq_true h1
    exact ⟨_, _, _, _, rfl, rfl, h2⟩
  · cases h
mutual
theorem sE : ∀ (k : E) {G : Gam} {X : Cx} {P : Pm} {c : Cs} {fl : Bool} {e : Expr}, Ok tb N G cs cl X P c → mE tb N c fl k e = true → Snd X P (ev G cs k) fl e
  | .cst k, G, X, P, c, fl, e, ok, h => by
    obtain ⟨k', j, p, rfl, h⟩ := mE_cst h
    obtain rfl : k.k = k' := of_decide_eq_true h
    rw [ev_cst]
    exact .plain ok.hK s_cst (fun _ => rfl) (fun _ _ _ z => by cases z)
  | .var i, G, X, P, c, fl, e, ok, h => by
    obtain ⟨x, p, rfl, h⟩ := mE_var h
    obtain ⟨h1, h2, h3, h4⟩ := varB_of ok h
    rw [ev_var]
    exact .plain ok.hK (s_var h1 h2 h3 h4) (fun _ => rfl) (fun _ _ _ z => by cases z)
  | .bor i, G, X, P, c, fl, e, ok, h => by
    obtain ⟨x, p, rfl, h⟩ := mE_bor h
    obtain ⟨h0, h⟩ := and2 h
    obtain ⟨h1, h2, h3, h4⟩ := varB_of ok h
    rw [ev_bor]
    have hb := b_var (P := P) (pos := p) h1 h2 h3 h4
    exact ⟨hb, fun z => (by rw [z] at h0; cases h0), t_plain ok.hK hb (fun _ => rfl), notWord (fun _ _ _ z => by cases z)⟩
  | .glob g, G, X, P, c, fl, e, ok, h => by
    obtain ⟨x, p, rfl, h⟩ := mE_glob h
    obtain ⟨h1, h2⟩ := and2 h
    obtain ⟨g1, g2, g3⟩ := glB_of ok h2
    obtain ⟨u, v, m1, m2, m3⟩ := ok.con g x (of_decide_eq_true h1)
    rw [ev_glob]
    exact .plain ok.hK (s_glob g1 m1 m2 m3 g2) (fun _ => rfl) (fun _ _ _ z => by cases z)
  | .bin op a b, G, X, P, c, fl, e, ok, h => by
    obtain ⟨ea, op', eb, p, rfl, h⟩ := mE_bin h
    obtain ⟨h, h4⟩ := and2 h
    obtain ⟨h, h3⟩ := and2 h
    obtain ⟨h1, h2⟩ := and2 h
    obtain rfl := of_decide_eq_true h1
    rw [ev_bin]
    exact .plain ok.hK (s_bin ok.hK h2 (sE a ok h3).b (sE b ok h4).b) (fun _ => rfl) (fun _ _ _ z => by cases z)
  | .cat a b, G, X, P, c, fl, e, ok, h => by
    obtain ⟨ea, eb, p, rfl, h⟩ := mE_cat h
    obtain ⟨h3, h4⟩ := and2 h
    rw [ev_cat]
    exact .plain ok.hK (s_cat (sE a ok h3).b (sE b ok h4).b) (fun _ => rfl) (fun _ _ _ z => by cases z)
  | .neg a, G, X, P, c, fl, e, ok, h => by
    obtain ⟨ea, p, rfl, h⟩ := mE_neg h
    rw [ev_neg]
    exact .plain ok.hK (s_neg (sE a ok h).b) (fun _ => rfl) (fun _ _ _ z => by cases z)
  | .not a, G, X, P, c, fl, e, ok, h => by
    obtain ⟨ea, p, rfl, h⟩ := mE_not h
    have ha := sE a ok h
    rw [ev_not]
    have hd := s_not ok.hK ha.b (pos := p)
    exact ⟨tB_tD hd, fun _ => hd, t_not ha.t, notWord (fun _ _ _ z => by cases z)⟩
  | .and a b, G, X, P, c, fl, e, ok, h => by
    obtain ⟨x, y, r, p, rfl, h⟩ := mE_and h
    obtain ⟨h1, h2⟩ := and2 h
    have ha := sE a ok h1
    rw [ev_and]
    cases r with
    | nil =>
      have hb := sE b ok (show mE tb N c false b y = true from h2)
      have hd := s_and ok.hK (ha.d rfl) (pe_one (op := .And) (pos := p) (hb.d rfl))
      have hw := t_and ha.t (pw_and1 (pos := p) hb.t)
      exact ⟨tB_tD hd, fun _ => hd, hw.pt, fun _ _ _ _ => hw⟩
    | cons z r' =>
      have hb := sE b ok (show mE tb N c false b (.BoolOp .And (y :: z :: r') p) = true from h2)
      have hd := s_and ok.hK (ha.d rfl) (hb.d rfl)
      have hw := t_and ha.t (hb.w _ _ _ rfl)
      exact ⟨tB_tD hd, fun _ => hd, hw.pt, fun _ _ _ _ => hw⟩
  | .or a b, G, X, P, c, fl, e, ok, h => by
    obtain ⟨x, y, r, p, rfl, h⟩ := mE_or h
    obtain ⟨h1, h2⟩ := and2 h
    have ha := sE a ok h1
    rw [ev_or]
    cases r with
    | nil =>
      have hb := sE b ok (show mE tb N c false b y = true from h2)
      have hd := s_or ok.hK (ha.d rfl) (pe_one (op := .Or) (pos := p) (hb.d rfl))
      have hw := t_or ha.t (pw_or1 (pos := p) hb.t)
      exact ⟨tB_tD hd, fun _ => hd, hw.pt, fun _ _ _ _ => hw⟩
    | cons z r' =>
      have hb := sE b ok (show mE tb N c false b (.BoolOp .Or (y :: z :: r') p) = true from h2)
      have hd := s_or ok.hK (ha.d rfl) (hb.d rfl)
      have hw := t_or ha.t (hb.w _ _ _ rfl)
      exact ⟨tB_tD hd, fun _ => hd, hw.pt, fun _ _ _ _ => hw⟩
  | .ite k a b, G, X, P, c, fl, e, ok, h => by
    obtain ⟨ek, ea, eb, p, rfl, h⟩ := mE_ite h
    obtain ⟨h, h3⟩ := and2 h
    obtain ⟨h1, h2⟩ := and2 h
    have hk := sE k ok h1
    have ha := sE a ok h2
    have hb := sE b ok h3
    rw [ev_ite]
    have hd := s_ite hk.t (ha.d rfl) (hb.d rfl) (pos := p)
    exact ⟨tB_tD hd, fun _ => hd, t_ite hk.t ha.t hb.t, notWord (fun _ _ _ z => by cases z)⟩
  | .cmp op a b, G, X, P, c, fl, e, ok, h => by
    obtain ⟨ea, op', eb, p, rfl, h⟩ := mE_cmp h
    obtain ⟨h, h4⟩ := and2 h
    obtain ⟨h, h3⟩ := and2 h
    obtain ⟨h1, h2⟩ := and2 h
    obtain rfl := of_decide_eq_true h1
    have hm : behindInMarks op eb = false := by simpa using h2
    have ha := sE a ok h3
    have hb := sE b ok h4
    rw [ev_cmp]
    have hd := s_cmp ok.hK ok.hu ha.b hb.b hm (pos := p)
    exact ⟨tB_tD hd, fun _ => hd, t_cmp ok.hK ok.hu ha.b hb.b hm, notWord (fun _ _ _ z => by cases z)⟩
  | .chain o1 o2 a b k, G, X, P, c, fl, e, ok, h => by
    obtain ⟨ea, o1', o2', eb, ek, p, rfl, h⟩ := mE_chain h
    obtain ⟨h, h6⟩ := and2 h
    obtain ⟨h, h5⟩ := and2 h
    obtain ⟨h, h4⟩ := and2 h
    obtain ⟨h, h3⟩ := and2 h
    obtain ⟨h1, h2⟩ := and2 h
    obtain rfl := of_decide_eq_true h1
    obtain rfl := of_decide_eq_true h2
    have hm : lastMarks [o1, o2] [eb, ek] = false := by simpa using h3
    have ha := sE a ok h4
    have hb := sE b ok h5
    have hk := sE k ok h6
    rw [ev_chain]
    have hd := s_chain ok.hK ok.hu ha.b hb.b hk.b hm (pos := p)
    exact ⟨tB_tD hd, fun _ => hd, t_chain ok.hK ok.hu ha.b hb.b hk.b hm, notWord (fun _ _ _ z => by cases z)⟩
  | .cut a lo hi, G, X, P, c, fl, e, ok, h => by
    obtain ⟨ea, l, u, p2, p, rfl, h⟩ := mE_cut h
    obtain ⟨h, h3⟩ := and2 h
    obtain ⟨h1, h2⟩ := and2 h
    rw [ev_cut]
    exact .plain ok.hK (s_cut ok.hK (sE a ok h1).b (sO lo ok h2) (sO hi ok h3)) (fun _ => rfl) (fun _ _ _ z => by cases z)
  | .ix a b, G, X, P, c, fl, e, ok, h => by
    obtain ⟨ea, eb, p, rfl, h⟩ := mE_ix h
    obtain ⟨h, h3⟩ := and2 h
    obtain ⟨h1, h2⟩ := and2 h
    rw [ev_ix]
    exact .plain ok.hK (s_ix ok.hK (sE a ok h2).b (sE b ok h3).b (plain_of h1)) (fun _ => rfl) (fun _ _ _ z => by cases z)
  | .dix a b, G, X, P, c, fl, e, ok, h => by
    obtain ⟨ea, eb, p, rfl, h⟩ := mE_dix h
    obtain ⟨h, h3⟩ := and2 h
    obtain ⟨h1, h2⟩ := and2 h
    rw [ev_dix]
    exact .plain ok.hK (s_dix ok.hu (sE a ok h2).b (sE b ok h3).b (plain_of h1)) (fun _ => rfl) (fun _ _ _ z => by cases z)
  | .tup es, G, X, P, c, fl, e, ok, h => by
    obtain ⟨xs, k, p, rfl, h⟩ := mE_tup h
    rw [ev_tup]
    exact .plain ok.hK (s_tup (sEs es ok h)) (fun _ => rfl) (fun _ _ _ z => by cases z)
  | .lst es, G, X, P, c, fl, e, ok, h => by
    obtain ⟨xs, p, rfl, h⟩ := mE_lst h
    rw [ev_lst]
    exact .plain ok.hK (tN_tD (n_lst (sEs es ok h))) (fun _ => rfl) (fun _ _ _ z => by cases z)
  | .call i es ks, G, X, P, c, fl, e, ok, h => by
    obtain ⟨x, q, xs, kws, p, rfl, hc⟩ := mE_call h
    clear h
    have h := hc
    unfold mCall at h
    cases e : tb.sh[i]? with
    | none =>
      rw [e] at h
      cases h
    | some sh =>
      rw [e] at h
      obtain ⟨h, h7⟩ := and2 h
      obtain ⟨h, h6⟩ := and2 h
      obtain ⟨h, h5⟩ := and2 h
      obtain ⟨h, h4⟩ := and2 h
      obtain ⟨h, h3⟩ := and2 h
      obtain ⟨h1, h2⟩ := and2 h
      refine .plain ok.hK (s_callA ok e (of_decide_eq_true h1) h2 (of_decide_eq_true h3) (of_decide_eq_true h4) ?_ h6 h7 (sEs es ok h6) (sKs ks ok h7)) (fun _ => rfl) (fun _ _ _ z => by cases z)
      rcases Bool.or_eq_true_iff.mp h5 with h5 | h5
      · exact .inl (of_decide_eq_true h5)
      · exact .inr (by simpa using h5)
  | .blt b a, G, X, P, c, fl, e, ok, h => by
    obtain ⟨x, q, ea, p, rfl, h⟩ := mE_blt h
    obtain ⟨h, h5⟩ := and2 h
    obtain ⟨h, h4⟩ := and2 h
    obtain ⟨h, h3⟩ := and2 h
    obtain ⟨h1, h2⟩ := and2 h
    obtain rfl := of_decide_eq_true h2
    rw [ev_blt]
    exact .plain ok.hK (s_blt ok h1 h3 h4 (sE a ok h5).b).1 (fun _ => rfl) (fun _ _ _ z => by cases z)
  | .isa a T, G, X, P, c, fl, e, ok, h => by
    obtain ⟨x, q, ea, y, q2, p, rfl, h⟩ := mE_isa h
    obtain ⟨h, h6⟩ := and2 h
    obtain ⟨h, h5⟩ := and2 h
    obtain ⟨h, h4⟩ := and2 h
    obtain ⟨h, h3⟩ := and2 h
    obtain ⟨h1, h2⟩ := and2 h
    obtain rfl := of_decide_eq_true h1
    obtain rfl := of_decide_eq_true h2
    rw [ev_isa]
    have mT : T.nm ∈ freeNames := by cases T <;> decide
    exact .plain ok.hK (s_isa ok.hK (glB_of ok h3).1 (ok.free _ (by decide)) (glB_of ok h4).1 (ok.free _ mT) (sE a ok h6).b (star_of h5)) (fun _ => rfl) (fun _ _ _ z => by cases z)
  | .get a k d, G, X, P, c, fl, e, ok, h => by
    obtain ⟨ea, m, q, ek, ed, cp, rfl, h⟩ := mE_get h
    obtain ⟨h, h8⟩ := and2 h
    obtain ⟨h, h7⟩ := and2 h
    obtain ⟨h, h6⟩ := and2 h
    obtain ⟨h, h5⟩ := and2 h
    obtain ⟨h, h4⟩ := and2 h
    obtain ⟨h, h3⟩ := and2 h
    obtain ⟨h1, h2⟩ := and2 h
    obtain rfl := of_decide_eq_true h1
    rw [ev_get]
    have hst : starEach [ek, ed] X.env = [(false, eval ek X.env), (false, eval ed X.env)] := by
      rw [star_of h4, star_of h5]
      rfl
    have m2 : M2 X ea "get" q ek ed cp := ⟨base_of h2, by rw [hst]; rfl, h3, by rw [hst]; rfl⟩
    exact .plain ok.hK (s_get ok.hu (sE a ok h6).b (sE k ok h7).b ((sE d ok h8).d rfl) m2) (fun _ => rfl) (fun _ _ _ z => by cases z)
  | .tcount i, G, X, P, c, fl, e, ok, h => by
    obtain ⟨y, q, eb, p, rfl, h⟩ := mE_tcount h
    obtain ⟨h1, h2⟩ := and2 h
    obtain ⟨a1, a2, a3, a4⟩ := varB_of ok h1
    obtain ⟨j, q2, rfl⟩ := isStr_of h2
    rw [ev_tcount]
    exact .plain ok.hK (s_tcount ok.hu a1 a2 a3 a4) (fun _ => rfl) (fun _ _ _ z => by cases z)
  | .tget i k d, G, X, P, c, fl, e, ok, h => by
    obtain ⟨y, q, eb, q2, m, p, ek, ed, cp, rfl, h⟩ := mE_tget h
    obtain ⟨h, h8⟩ := and2 h
    obtain ⟨h, h7⟩ := and2 h
    obtain ⟨h, h6⟩ := and2 h
    obtain ⟨h, h5⟩ := and2 h
    obtain ⟨h, h4⟩ := and2 h
    obtain ⟨h, h3⟩ := and2 h
    obtain ⟨h1, h2⟩ := and2 h
    obtain rfl := of_decide_eq_true h3
    obtain ⟨a1, a2, a3, a4⟩ := varB_of ok h1
    obtain ⟨j, q3, rfl⟩ := isStr_of h2
    rw [ev_tget]
    have hst : starEach [ek, ed] X.env = [(false, eval ek X.env), (false, eval ed X.env)] := by
      rw [star_of h5, star_of h6]
      rfl
    exact .plain ok.hK (s_tget ok.hu a1 a2 a3 a4 (sE k ok h7).b ((sE d ok h8).d rfl) ⟨rfl, by rw [hst]; rfl, h4, by rw [hst]; rfl⟩) (fun _ => rfl) (fun _ _ _ z => by cases z)
  | .dsp kvs, G, X, P, c, fl, e, ok, h => by
    obtain ⟨ks, vs, p, rfl, h⟩ := mE_dsp h
    rw [ev_dsp]
    exact .plain ok.hK (tN_tD (n_dsp (dsp_of h))) (fun _ => rfl) (fun _ _ _ z => by cases z)
  | .heard k, G, X, P, c, fl, e, ok, h => by
    obtain ⟨x, q, params, body, scope, lp, p, rfl, h⟩ := mE_heard h
    obtain ⟨h, h7⟩ := and2 h
    obtain ⟨h, h6⟩ := and2 h
    obtain ⟨h, h5⟩ := and2 h
    obtain ⟨h, h4⟩ := and2 h
    obtain ⟨h, h3⟩ := and2 h
    obtain ⟨h1, h2⟩ := and2 h
    obtain rfl := of_decide_eq_true h1
    rw [ev_heard]
    by_cases hl : 2 ≤ G.lv
    · simp only [hl, decide_true, if_true]
      exact .plain ok.hK (s_heard ok (ok.heard h2 h3) hl (glB_of ok h4).1 h5 (by rw [ok.sc]; exact LamX.lamS_by h6) fun X' P' ok' => (sE k ok' h7).d rfl) (fun _ => rfl) (fun _ _ _ z => by cases z)
    · simp only [hl, decide_false]
      exact .plain ok.hK (peMono (t := fun _ _ _ => False) ⟨fun _ _ _ _ _ _ z => False.elim z⟩ fun σ H Q ⟨F, r, t, R, q⟩ => q) (fun _ => rfl) (fun _ _ _ z => by cases z)
  | .isx a n, G, X, P, c, fl, e, ok, h => by
    obtain ⟨x, q, ea, y, q2, p, rfl, h⟩ := mE_isx h
    obtain ⟨h, h8⟩ := and2 h
    obtain ⟨h, h7⟩ := and2 h
    obtain ⟨h, h6⟩ := and2 h
    obtain ⟨h, h5⟩ := and2 h
    obtain ⟨h, h4⟩ := and2 h
    obtain ⟨h, h3⟩ := and2 h
    obtain ⟨h1, h2⟩ := and2 h
    obtain rfl := of_decide_eq_true h1
    have n9 := ok.nine h4
    have eg := (ok.exc n y (of_decide_eq_true h2)).g
    rw [← ok.hcl] at n9 eg
    obtain ⟨g1, g2, g3⟩ := glB_of ok h6
    rw [ev_isx]
    exact .plain ok.hK (s_isx ok.hK n9 (of_decide_eq_true h3) (glB_of ok h5).1 (ok.free _ (by decide)) g1 eg g2 (sE a ok h8).b (star_of h7)) (fun _ => rfl) (fun _ _ _ z => by cases z)
  | .isv a, G, X, P, c, fl, e, ok, h => by
    obtain ⟨x, q, ea, y, q2, p, rfl, h⟩ := mE_isv h
    obtain ⟨h, h8⟩ := and2 h
    obtain ⟨h, h7⟩ := and2 h
    obtain ⟨h, h6⟩ := and2 h
    obtain ⟨h, h5⟩ := and2 h
    obtain ⟨h, h4⟩ := and2 h
    obtain ⟨h1, h2⟩ := and2 h
    obtain rfl := of_decide_eq_true h1
    obtain rfl := of_decide_eq_true h2
    have n9 := ok.nine h4
    rw [← ok.hcl] at n9
    rw [ev_isv]
    exact .plain ok.hK (s_isv ok.hK n9 (glB_of ok h5).1 (ok.free _ (by decide)) (glB_of ok h6).1 (ok.free _ (by decide)) (sE a ok h8).b (star_of h7)) (fun _ => rfl) (fun _ _ _ z => by cases z)
  | .dspE ks es, G, X, P, c, fl, e, ok, h => by
    obtain ⟨kes, vs, p, rfl, h⟩ := mE_dspE h
    obtain ⟨h, h4⟩ := and2 h
    obtain ⟨h, h3⟩ := and2 h
    obtain ⟨h1, h2⟩ := and2 h
    rw [ev_dspE]
    exact .plain ok.hK (tN_tD (n_dspE (sDs es ok (and2 h1).1 (of_decide_eq_true (and2 h1).2) h4) ⟨of_decide_eq_true h2, of_decide_eq_true h3⟩)) (fun _ => rfl) (fun _ _ _ z => by cases z)
  | .idxG g b, G, X, P, c, fl, e, ok, h => by
    obtain ⟨x, q, m, q2, eb, cp, rfl, h⟩ := mE_idxG h
    obtain ⟨h, h6⟩ := and2 h
    obtain ⟨h, h5⟩ := and2 h
    obtain ⟨h, h4⟩ := and2 h
    obtain ⟨h, h3⟩ := and2 h
    obtain ⟨h1, h2⟩ := and2 h
    obtain rfl := of_decide_eq_true h1
    obtain ⟨g1, g2, g3⟩ := glB_of ok h3
    rw [ev_idxG]
    by_cases hz : isSq false (cs g) = true
    · simp only [hz, if_true]
      exact .plain ok.hK (s_idxG g1 (ok.conT g x (of_decide_eq_true h2) hz) g2 ((sE b ok h6).d rfl) h4 (star_of h5)) (fun _ => rfl) (fun _ _ _ z => by cases z)
    · simp only [hz]
      exact .plain ok.hK (peMono (t := fun _ _ _ => False) ⟨fun _ _ _ _ _ _ z => False.elim z⟩ fun σ H Q ⟨F, r, t, R, q⟩ => q) (fun _ => rfl) (fun _ _ _ z => by cases z)
  | .idx a b, G, X, P, c, fl, e, ok, h => by
    obtain ⟨ea, m, q, eb, cp, rfl, h⟩ := mE_idx h
    obtain ⟨h, h6⟩ := and2 h
    obtain ⟨h, h5⟩ := and2 h
    obtain ⟨h, h4⟩ := and2 h
    obtain ⟨h, h3⟩ := and2 h
    obtain ⟨h1, h2⟩ := and2 h
    obtain rfl := of_decide_eq_true h1
    rw [ev_idx]
    exact .plain ok.hK (s_idxL ok.hK ok.hu (sE a ok h5).b ((sE b ok h6).d rfl) (base_of h2) h3 (star_of h4)) (fun _ => rfl) (fun _ _ _ z => by cases z)
  | .comp2 own elt tg it tg1 it1, G, X, P, c, fl, e, ok, h => by
    obtain ⟨ee, et, ei, z, et1, ei1, z1, scope, p, rfl, h⟩ := mE_comp2 h
    obtain ⟨h, h12⟩ := and2 h
    obtain ⟨h, h11⟩ := and2 h
    obtain ⟨h, h10⟩ := and2 h
    obtain ⟨h, h9⟩ := and2 h
    obtain ⟨h, h8⟩ := and2 h
    obtain ⟨h, h7⟩ := and2 h
    obtain ⟨h, h6⟩ := and2 h
    obtain ⟨h, h5⟩ := and2 h
    obtain ⟨h, h4⟩ := and2 h
    obtain ⟨h, h3⟩ := and2 h
    obtain ⟨h1, h2⟩ := and2 h
    obtain rfl := of_decide_eq_true h1
    obtain rfl := of_decide_eq_true h2
    rw [ev_comp2]
    have hsl : ∀ i ∈ tg.slots, i ∈ own.map (·.2) := fun i hi => by
      have := List.all_eq_true.mp h4 i hi
      simpa using this
    have hsl1 : ∀ i ∈ tg1.slots, i ∈ own.map (·.2) := fun i hi => by
      have := List.all_eq_true.mp h5 i hi
      simpa using this
    exact .plain ok.hK (tN_tD (n_comp2 ok.calm (by rw [ok.hN]; exact ok.nd) (sI it ok h6) (by rw [ok.hN, ok.sc]; exact blkOk_by h3) (fun s H C cl' fp => sTg (ok.blk scope s H C cl' fp) h9) (fun s H C cl' fp => sI it1 (ok.blk scope s H C cl' fp) h10) (fun s H C cl' fp => sTg (ok.blk scope s H C cl' fp) h11)
      (fun s H C cl' fp => (sE elt (ok.blk scope s H C cl' fp) h12).d rfl) (fold_of h7) (fun env => fold_of h8) hsl hsl1)) (fun _ => rfl) (fun _ _ _ z => by cases z)
  | .rev a, G, X, P, c, fl, e, ok, h => by
    cases h
  | .comp own elt tg it cd, G, X, P, c, fl, e, ok, h => by
    obtain ⟨ee, et, ei, ifs, z, scope, p, rfl, h⟩ := mE_comp h
    obtain ⟨h, h8⟩ := and2 h
    obtain ⟨h, h7⟩ := and2 h
    obtain ⟨h, h6⟩ := and2 h
    obtain ⟨h, h5⟩ := and2 h
    obtain ⟨h, h4⟩ := and2 h
    obtain ⟨h, h3⟩ := and2 h
    obtain ⟨h1, h2⟩ := and2 h
    obtain rfl := of_decide_eq_true h1
    rw [ev_comp]
    have hsl : ∀ i ∈ tg.slots, i ∈ own.map (·.2) := fun i hi => by
      have := List.all_eq_true.mp h3 i hi
      simpa using this
    refine .plain ok.hK (tN_tD (n_comp ok.calm (by rw [ok.hN]; exact ok.nd) (sI it ok h4) (by rw [ok.hN, ok.sc]; exact blkOk_by h2) (fun s H C cl' fp => sTg (ok.blk scope s H C cl' fp) h6) (fun s H C cl' fp => ?_)
      (fun s H C cl' fp => (sE elt (ok.blk scope s H C cl' fp) h8).d rfl) (fold_of h5) hsl)) (fun _ => rfl) (fun _ _ _ z => by cases z)
    cases cd with
    | none =>
      cases ifs with
      | nil =>
        rw [evO_none]
        exact c_none
      | cons _ _ => cases h7
    | some k =>
      cases ifs with
      | nil => cases h7
      | cons x xs =>
        cases xs with
        | nil =>
          rw [evO_some]
          exact c_some (sE k (ok.blk scope s H C cl' fp) (show mE tb N (blkCs c scope) true k x = true from h7)).t
        | cons _ _ => cases h7
theorem sO : ∀ (o : O) {G : Gam} {X : Cx} {P : Pm} {c : Cs} {e : Option Expr}, Ok tb N G cs cl X P c → mO tb N c o e = true → PO X e (tO P (evO G cs o))
  | .none, G, X, P, c, none, ok, h => by
    rw [evO_none]
    exact s_none
  | .some k, G, X, P, c, some e, ok, h => by
    rw [evO_some]
    exact s_some (sE k ok h).b
theorem sEs : ∀ (es : Es) {G : Gam} {X : Cx} {P : Pm} {c : Cs} {xs : List Expr}, Ok tb N G cs cl X P c → mEs tb N c es xs = true → PA X xs (tDs P (evs G cs es))
  | .nil, G, X, P, c, [], ok, h => by
    rw [evs_nil]
    exact s_nil
  | .cons k es, G, X, P, c, x :: xs, ok, h => by
    obtain ⟨h, h3⟩ := and2 h
    obtain ⟨h1, h2⟩ := and2 h
    rw [evs_cons]
    exact s_cons ((sE k ok h2).d rfl) (sEs es ok h3) (star_of h1)
theorem sDs : ∀ (es : Es) {G : Gam} {X : Cx} {P : Pm} {c : Cs} {ks : List Str} {kes : List (Option Expr)} {xs : List Expr}, Ok tb N G cs cl X P c → keysB ks kes = true → kes.length = xs.length → mEs tb N c es xs = true → DspE X P ks (esF G cs es) kes xs
  | .nil, G, X, P, c, ks, kes, [], ok, hk, hl, h => by
    cases kes with
    | cons _ _ => cases hl
    | nil =>
      cases ks with
      | cons _ _ => cases hk
      | nil => exact .nil
  | .cons k es, G, X, P, c, ks, kes, x :: xs, ok, hk, hl, h => by
    obtain ⟨h, h3⟩ := and2 h
    obtain ⟨h1, h2⟩ := and2 h
    cases kes with
    | nil => cases hl
    | cons ke kes =>
      obtain ⟨y, ks', j, q, rfl, rfl, hk2⟩ := keysB_of hk
      exact .cons ((sE k ok h2).d rfl) (sDs es ok hk2 (by simpa using hl) h3)
theorem sKs : ∀ (es : Es) {G : Gam} {X : Cx} {P : Pm} {c : Cs} {xs : List Keyword}, Ok tb N G cs cl X P c → mKs tb N c es xs = true → PK X xs (tDs P (evs G cs es))
  | .nil, G, X, P, c, [], ok, h => by
    rw [evs_nil]
    exact k_nil
  | .cons k es, G, X, P, c, ⟨nm, x, p⟩ :: xs, ok, h => by
    obtain ⟨h2, h3⟩ := and2 h
    rw [evs_cons]
    exact k_cons ((sE k ok h2).d rfl) (sKs es ok h3)
theorem sI : ∀ (i : I) {G : Gam} {X : Cx} {P : Pm} {c : Cs} {fz : Bool} {tg e : Expr}, Ok tb N G cs cl X P c → mI tb N c fz tg i e = true → PI X tg e (tI P fz (evI G cs i))
  | .val k, G, X, P, c, fz, tg, e, ok, h => by
    have h : mE tb N c (!fz) k e = true := h
    rw [evI_val]
    cases fz with
    | true => exact i_val ok.hK ((sE k ok h).d rfl)
    | false => exact i_bor ok.hK (sE k ok h).b
  | .rng1 a, G, X, P, c, fz, tg, e, ok, h => by
    obtain ⟨x, q, ea, p, rfl, h⟩ := mI_rng1 h
    obtain ⟨h, h4⟩ := and2 h
    obtain ⟨h, h3⟩ := and2 h
    obtain ⟨h1, h2⟩ := and2 h
    obtain rfl := of_decide_eq_true h1
    rw [evI_rng1]
    exact i_rng1 (glB_of ok h2).1 (ok.free _ (by decide)) (sE a ok h4).b (star_of h3)
  | .rng2 a b, G, X, P, c, fz, tg, e, ok, h => by
    obtain ⟨x, q, ea, eb, p, rfl, h⟩ := mI_rng2 h
    obtain ⟨h, h6⟩ := and2 h
    obtain ⟨h, h5⟩ := and2 h
    obtain ⟨h, h4⟩ := and2 h
    obtain ⟨h, h3⟩ := and2 h
    obtain ⟨h1, h2⟩ := and2 h
    obtain rfl := of_decide_eq_true h1
    rw [evI_rng2]
    exact i_rng2 (glB_of ok h2).1 (ok.free _ (by decide)) (sE a ok h5).b (sE b ok h6).b (star_of h3) (star_of h4)
  | .zip a b, G, X, P, c, fz, tg, e, ok, h => by
    obtain ⟨x, q, ea, eb, p, rfl, h⟩ := mI_zip h
    obtain ⟨h, h6⟩ := and2 h
    obtain ⟨h, h5⟩ := and2 h
    obtain ⟨h, h4⟩ := and2 h
    obtain ⟨h, h3⟩ := and2 h
    obtain ⟨h, h2⟩ := and2 h
    obtain ⟨h0, h1⟩ := and2 h
    obtain rfl := of_decide_eq_true h1
    obtain ⟨elts, kk, tpos, rfl⟩ := isTup_of h0
    rw [evI_zip]
    cases fz with
    | true => exact i_zip ok.hK (glB_of ok h2).1 (ok.free _ (by decide)) ((sE a ok h5).d rfl) ((sE b ok h6).d rfl) (star_of h3) (star_of h4)
    | false => exact i_zipB ok.hK (glB_of ok h2).1 (ok.free _ (by decide)) (sE a ok h5).b (sE b ok h6).b (star_of h3) (star_of h4)
  | .zipN a b, G, X, P, c, fz, tg, e, ok, h => by
    cases h
  | .keys a, G, X, P, c, fz, tg, e, ok, h => by
    have h : mE tb N c false a e = true := h
    rw [evI_keys]
    exact i_keys ((sE a ok h).d rfl)
  | .enumT a, G, X, P, c, fz, tg, e, ok, h => by
    obtain ⟨x, q, ea, p, rfl, h⟩ := mI_enumT h
    obtain ⟨h, h5⟩ := and2 h
    obtain ⟨h, h3⟩ := and2 h
    obtain ⟨h, h2⟩ := and2 h
    obtain ⟨h0, h1⟩ := and2 h
    obtain rfl := of_decide_eq_true h1
    obtain ⟨elts, kk, tpos, rfl⟩ := isTup_of h0
    rw [evI_enumT]
    exact i_enumT ok.hK (glB_of ok h2).1 (ok.free _ (by decide)) (sE a ok h5).b (star_of h3)
  | .enum a, G, X, P, c, fz, tg, e, ok, h => by
    obtain ⟨x, q, ea, p, rfl, h⟩ := mI_enum h
    obtain ⟨h, h5⟩ := and2 h
    obtain ⟨h, h3⟩ := and2 h
    obtain ⟨h, h2⟩ := and2 h
    obtain ⟨h0, h1⟩ := and2 h
    obtain rfl := of_decide_eq_true h1
    obtain ⟨elts, kk, tpos, rfl⟩ := isTup_of h0
    rw [evI_enum]
    cases fz with
    | true => exact i_enum ok.hK (glB_of ok h2).1 (ok.free _ (by decide)) ((sE a ok h5).d rfl) (star_of h3)
    | false => exact i_enumB ok.hK (glB_of ok h2).1 (ok.free _ (by decide)) (sE a ok h5).b (star_of h3)
end
end
end Fm

/-! ### statements: the check by computation -/
namespace Fm
open PySem PySem.Spec PyProof.Rows L2
def augB : Operator → Bool
  | .Add => true
  | .Sub => true
  | .Mult => true
  | .FloorDiv => true
  | .Mod => true
  | _ => false
def isComp : E → Bool
  | .comp _ _ _ _ _ => true
  | _ => false
/-- of name = [..]: the name is stored ahead of the block's names' going, or not -/
def swT (c : Cs) (y : Str) (py : Pos) : Expr → Bool
  | .ListComp _ _ scope p => decide (c.sc.kind = .function) && lclB c y && (py.line == p.line) && !(scope.names.any fun (n, k) => n == y && (k == .local || k == .cell))
  | _ => false
def swF (c : Cs) (y : Str) (py : Pos) (v : Expr) : Bool := nComp v || match v with
  | .ListComp _ _ scope p => decide (c.sc.names.lookup y = some .cell) || !(py.line == p.line)
  | _ => false
def nonLoc (c : Cs) : Expr → Bool
  | .Name x _ => !lclB c x
  | _ => true
def noneB (c : Cs) (ts : List Expr) : Expr → Bool
  | .Tuple vs _ _ => !(ts.length == 2 || ts.length == 3) || ts.any (nonLoc c) || vs.all (foldedForSure 8)
  | _ => true
def mAsg (tb : Tb) (N : List Str) (c : Cs) (tg : Tg) (k : E) : Expr → Expr → Bool
  | .Name y py, v => mTg N c tg (.Name y py) && (swF c y py v || (isComp k && swT c y py v)) && mE tb N c false k v
  | .Tuple ts a p, v => mTg N c tg (.Tuple ts a p) && nComp v && noneB c ts v && mE tb N c false k v
  | _, _ => false
def locAt (N : List Str) (c : Cs) (i : Nat) (x : Str) : Bool := decide (N[i]? = some x) && lclB c x
def mPar (tb : Tb) (N : List Str) (c : Cs) (is : List Nat) (es : Es) (ts vs : List Expr) : Bool := decide (c.sc.kind = .function) && !vs.any (fun e => !nStar e) && !vs.all (foldedForSure 8) && !vs.all (constantsAlone 8) && mEs tb N c es vs &&
  (match is, ts, vs with
    | [i, j], [.Name x px, .Name y py], [_, _] => decide (i ≠ j) && locAt N c i x && locAt N c j y && decide (x ≠ y) && (py.line == px.line)
    | [i, j, l], [.Name x px, .Name y py, .Name z pz], [_, _, _] => decide (i ≠ j) && decide (i ≠ l) && decide (j ≠ l) && locAt N c i x && locAt N c j y && locAt N c l z && decide (x ≠ y) && decide (x ≠ z) && decide (y ≠ z) && (py.line == px.line) && (pz.line == px.line)
    | _, _, _ => false)
def nTup : Expr → Bool
  | .Tuple _ _ _ => false
  | _ => true
def mStar (tb : Tb) (N : List Str) (c : Cs) (i j : Nat) (k : E) (t v : Expr) : Bool := match t with
  | .Tuple [.Name x _, .Starred (.Name y _) _] _ _ => tgtB N c i x && tgtB N c j y && nComp v && nTup v && mE tb N c false k v
  | _ => false
def mNew (tb : Tb) (N : List Str) (c : Cs) (i : Nat) (k : E) (t v : Expr) : Bool := match t with
  | .Name y py => freshB k && tgtB N c i y && (swF c y py v || (isComp k && swT c y py v)) && mE tb N c false k v
  | _ => false
def mApp (tb : Tb) (N : List Str) (c : Cs) (i : Nat) (k : E) : Expr → Bool
  | .Call (.Attribute (.Name y _) m p1) [a] [] p2 => decide (m = "append") && varB N c i y && (p1.endLine == p2.line) && nStar a && mE tb N c false k a
  | _ => false
def mUpd (tb : Tb) (N : List Str) (c : Cs) (i : Nat) (k : E) : Expr → Bool
  | .Call (.Attribute (.Name y _) m p1) [a] [] p2 => decide (m = "update") && varB N c i y && (p1.endLine == p2.line) && nStar a && mE tb N c false k a
  | _ => false
def mIns (tb : Tb) (N : List Str) (c : Cs) (i : Nat) (k e : E) : Expr → Bool
  | .Call (.Attribute (.Name y _) m p1) [b, a] [] p2 => decide (m = "insert") && varB N c i y && (p1.endLine == p2.line) && nStar b && nStar a && mE tb N c false k b && mE tb N c false e a
  | _ => false
def mPnl (tb : Tb) (N : List Str) (c : Cs) (b : Bool) (j i : Nat) (e : E) (ts vs : List Expr) : Bool := decide (c.sc.kind = .function) && !vs.any (fun e => !nStar e) && !vs.all (foldedForSure 8) && !vs.all (constantsAlone 8) &&
  (match b, ts, vs with
    | true, [.Name y py, .Name x px], [.List [] _, a] => decide (j ≠ i) && locAt N c j y && locAt N c i x && decide (y ≠ x) && (px.line == py.line) && nStar a && mE tb N c false e a
    | false, [.Name x px, .Name y py], [a, .List [] _] => decide (j ≠ i) && locAt N c i x && locAt N c j y && decide (x ≠ y) && (py.line == px.line) && nStar a && mE tb N c false e a
    | _, _, _ => false)
def mUns (tb : Tb) (N : List Str) (c : Cs) (is : List Nat) (j : Nat) (es : Es) (ts vs : List Expr) : Bool := match is, es, ts, vs with
  | [i1, i2, i3], .cons e1 (.cons e2 (.cons e3 .nil)), [.Name x1 _, .Name x2 _, .Name x3 _, .Name y _], [a1, a2, a3, .List [] _] => tgtB N c i1 x1 && tgtB N c i2 x2 && tgtB N c i3 x3 && tgtB N c j y && nStar a1 && nStar a2 && nStar a3 && mE tb N c false e1 a1 && mE tb N c false e2 a2 && mE tb N c false e3 a3
  | _, _, _, _ => false
def mPut (tb : Tb) (N : List Str) (c : Cs) (i : Nat) (k e : E) (t v : Expr) : Bool := match t with
  | .Subscript (.Name y _) b _ => varB N c i y && nSlice b && nComp v && mE tb N c true k b && mE tb N c false e v
  | _ => false
def mAug (tb : Tb) (N : List Str) (c : Cs) (i : Nat) (op : Operator) (k : E) (t : Expr) (op' : Operator) (v : Expr) : Bool := match t with
  | .Name y _ => decide (op = op') && augB op && tgtB N c i y && mE tb N c true k v
  | _ => false
def mRaise (tb : Tb) (c : Cs) (n : Nat) (m : Str) (a b : Option Expr) : Bool := match a, b with
  | some (.Call (.Name x _) [.Constant (.str m') _ _] [] _), none => decide (m = m') && decide (tb.ex.lookup n = some x) && glB c x
  | _, _ => false
def mTcnt (tb : Tb) (N : List Str) (c : Cs) (i : Nat) (k : E) (t v : Expr) : Bool := match t with
  | .Subscript (.Name y _) eb _ => varB N c i y && isStr "count" eb && nComp v && mE tb N c false k v
  | _ => false
def mTrst (tb : Tb) (N : List Str) (c : Cs) (i : Nat) (k a : E) (t v : Expr) : Bool := match t with
  | .Subscript (.Subscript (.Name y _) eb _) b _ => varB N c i y && isStr "rests" eb && nComp v && mE tb N c true k b && mE tb N c false a v
  | _ => false
def isFrz : S → Option Nat
  | .frz i => some i
  | _ => none
mutual
def mS (tb : Tb) (N : List Str) (c : Cs) : S → Stmt → Bool
  | .asg tg k, .Assign [t] v _ => mAsg tb N c tg k t v
  | .par is es, .Assign [.Tuple ts _ _] (.Tuple vs _ _) _ => mPar tb N c is es ts vs
  | .star i j k, .Assign [t] v _ => mStar tb N c i j k t v
  | .aug i op k, .AugAssign t op' v _ => mAug tb N c i op k t op' v
  | .ret k, .Return (some v) _ => mE tb N c false k v
  | .ite k a b, .If ek sa sb _ => mE tb N c true k ek && mSs tb N c a sa && mSs tb N c b sb
  | .for tg it b, .For et ei sb [] _ => nSet ei && mTg N c tg et && mI tb N c true et it ei && mSs tb N c b sb
  | .while k b, .While ek sb [] _ => mE tb N c true k ek && mSs tb N c b sb
  | .exp k, .Expr v _ => nComp v && mE tb N c false k v
  | .new i k, .Assign [t] v _ => mNew tb N c i k t v
  | .app i k, .Expr v _ => mApp tb N c i k v
  | .upd i k, .Expr v _ => mUpd tb N c i k v
  | .ins i k e, .Expr v _ => mIns tb N c i k e v
  | .uns is j es, .Assign [.Tuple ts _ _] (.Tuple vs _ _) _ => mUns tb N c is j es ts vs
  | .pnl b j i e, .Assign [.Tuple ts _ _] (.Tuple vs _ _) _ => mPnl tb N c b j i e ts vs
  | .put i k e, .Assign [t] v _ => mPut tb N c i k e t v
  | .putL i k e, .Assign [t] v _ => mPut tb N c i k e t v
  | .tcnt i k, .Assign [t] v _ => mTcnt tb N c i k t v
  | .trst i k e, .Assign [t] v _ => mTrst tb N c i k e t v
  | .brk, .Break _ => true
  | .cont, .Continue _ => true
  | .raise n m, .Raise a b _ => mRaise tb c n m a b
  | _, _ => false
def mSs (tb : Tb) (N : List Str) (c : Cs) : Ss → List Stmt → Bool
  | .nil, [] => true
  | .nil, _ :: _ => false
  | .cons s r, ss => match isFrz s with
    | some _ => mSs tb N c r ss
    | none => match ss with
      | st :: rest => mS tb N c s st && mSs tb N c r rest
      | [] => false
end
section
variable {tb : Tb} {N : List Str} {c : Cs}
theorem mS_asg {tg : Tg} {k : E} {e : Stmt} (h : mS tb N c (.asg tg k) e = true) : ∃ t v p, e = .Assign [t] v p ∧ (mAsg tb N c tg k t v) = true := by
  cases e
  all_goals first
    | (cases h; done)
    | exact ⟨_, _, _, rfl, h⟩
    | (rename_i ts v p; cases ts with | nil => (cases h; done) | cons t ts => cases ts with | nil => exact ⟨_, _, _, rfl, h⟩ | cons _ _ => (cases h; done))
theorem mS_star {i j : Nat} {k : E} {e : Stmt} (h : mS tb N c (.star i j k) e = true) : ∃ t v p, e = .Assign [t] v p ∧ (mStar tb N c i j k t v) = true := by
  cases e
  all_goals first
    | (cases h; done)
    | exact ⟨_, _, _, rfl, h⟩
    | (rename_i ts v p; cases ts with | nil => (cases h; done) | cons t ts => cases ts with | nil => exact ⟨_, _, _, rfl, h⟩ | cons _ _ => (cases h; done))
theorem mS_new {i : Nat} {k : E} {e : Stmt} (h : mS tb N c (.new i k) e = true) : ∃ t v p, e = .Assign [t] v p ∧ (mNew tb N c i k t v) = true := by
  cases e
  all_goals first
    | (cases h; done)
    | exact ⟨_, _, _, rfl, h⟩
    | (rename_i ts v p; cases ts with | nil => (cases h; done) | cons t ts => cases ts with | nil => exact ⟨_, _, _, rfl, h⟩ | cons _ _ => (cases h; done))
theorem mS_put {i : Nat} {k a : E} {e : Stmt} (h : mS tb N c (.put i k a) e = true) : ∃ t v p, e = .Assign [t] v p ∧ (mPut tb N c i k a t v) = true := by
  cases e
  all_goals first
    | (cases h; done)
    | exact ⟨_, _, _, rfl, h⟩
    | (rename_i ts v p; cases ts with | nil => (cases h; done) | cons t ts => cases ts with | nil => exact ⟨_, _, _, rfl, h⟩ | cons _ _ => (cases h; done))
theorem mS_putL {i : Nat} {k a : E} {e : Stmt} (h : mS tb N c (.putL i k a) e = true) : ∃ t v p, e = .Assign [t] v p ∧ (mPut tb N c i k a t v) = true := by
  cases e
  all_goals first
    | (cases h; done)
    | exact ⟨_, _, _, rfl, h⟩
    | (rename_i ts v p; cases ts with | nil => (cases h; done) | cons t ts => cases ts with | nil => exact ⟨_, _, _, rfl, h⟩ | cons _ _ => (cases h; done))
theorem mS_tcnt {i : Nat} {k : E} {e : Stmt} (h : mS tb N c (.tcnt i k) e = true) : ∃ t v p, e = .Assign [t] v p ∧ (mTcnt tb N c i k t v) = true := by
  cases e
  all_goals first
    | (cases h; done)
    | exact ⟨_, _, _, rfl, h⟩
    | (rename_i ts v p; cases ts with | nil => (cases h; done) | cons t ts => cases ts with | nil => exact ⟨_, _, _, rfl, h⟩ | cons _ _ => (cases h; done))
theorem mS_trst {i : Nat} {k a : E} {e : Stmt} (h : mS tb N c (.trst i k a) e = true) : ∃ t v p, e = .Assign [t] v p ∧ (mTrst tb N c i k a t v) = true := by
  cases e
  all_goals first
    | (cases h; done)
    | exact ⟨_, _, _, rfl, h⟩
    | (rename_i ts v p; cases ts with | nil => (cases h; done) | cons t ts => cases ts with | nil => exact ⟨_, _, _, rfl, h⟩ | cons _ _ => (cases h; done))
theorem mS_par {is : List Nat} {es : Es} {e : Stmt} (h : mS tb N c (.par is es) e = true) : ∃ ts kt pt vs kv pv p, e = .Assign [.Tuple ts kt pt] (.Tuple vs kv pv) p ∧ (mPar tb N c is es ts vs) = true := by
  cases e
  all_goals first
    | (cases h; done)
    | exact ⟨_, _, _, _, _, _, _, rfl, h⟩
    | (rename_i ts v p; cases ts with | nil => (cases h; done) | cons t ts => cases t <;> first | (cases h; done) | (cases ts with | nil => (cases v <;> first | (cases h; done) | exact ⟨_, _, _, _, _, _, _, rfl, h⟩) | cons _ _ => (cases h; done)))
theorem mS_aug {i : Nat} {op : Operator} {k : E} {e : Stmt} (h : mS tb N c (.aug i op k) e = true) : ∃ t op' v p, e = .AugAssign t op' v p ∧ (mAug tb N c i op k t op' v) = true := by
  cases e
  all_goals first
    | (cases h; done)
    | exact ⟨_, _, _, _, rfl, h⟩
theorem mS_ret {k : E} {e : Stmt} (h : mS tb N c (.ret k) e = true) : ∃ v p, e = .Return (some v) p ∧ (mE tb N c false k v) = true := by
  cases e
  all_goals first
    | (cases h; done)
    | exact ⟨_, _, rfl, h⟩
    | (rename_i v p; cases v with | none => (cases h; done) | some v => exact ⟨_, _, rfl, h⟩)
theorem mS_ite {k : E} {a b : Ss} {e : Stmt} (h : mS tb N c (.ite k a b) e = true) : ∃ ek sa sb p, e = .If ek sa sb p ∧ (mE tb N c true k ek && mSs tb N c a sa && mSs tb N c b sb) = true := by
  cases e
  all_goals first
    | (cases h; done)
    | exact ⟨_, _, _, _, rfl, h⟩
theorem mS_for {tg : Tg} {it : I} {b : Ss} {e : Stmt} (h : mS tb N c (.for tg it b) e = true) : ∃ et ei sb p, e = .For et ei sb [] p ∧ (nSet ei && mTg N c tg et && mI tb N c true et it ei && mSs tb N c b sb) = true := by
  cases e
  all_goals first
    | (cases h; done)
    | exact ⟨_, _, _, _, rfl, h⟩
    | (rename_i et ei sb el p; cases el with | nil => exact ⟨_, _, _, _, rfl, h⟩ | cons _ _ => (cases h; done))
theorem mS_while {k : E} {b : Ss} {e : Stmt} (h : mS tb N c (.while k b) e = true) : ∃ ek sb p, e = .While ek sb [] p ∧ (mE tb N c true k ek && mSs tb N c b sb) = true := by
  cases e
  all_goals first
    | (cases h; done)
    | exact ⟨_, _, _, rfl, h⟩
    | (rename_i ek sb el p; cases el with | nil => exact ⟨_, _, _, rfl, h⟩ | cons _ _ => (cases h; done))
theorem mS_exp {k : E} {e : Stmt} (h : mS tb N c (.exp k) e = true) : ∃ v p, e = .Expr v p ∧ (nComp v && mE tb N c false k v) = true := by
  cases e
  all_goals first
    | (cases h; done)
    | exact ⟨_, _, rfl, h⟩
theorem mS_app {i : Nat} {k : E} {e : Stmt} (h : mS tb N c (.app i k) e = true) : ∃ v p, e = .Expr v p ∧ (mApp tb N c i k v) = true := by
  cases e
  all_goals first
    | (cases h; done)
    | exact ⟨_, _, rfl, h⟩
theorem mS_upd {i : Nat} {k : E} {e : Stmt} (h : mS tb N c (.upd i k) e = true) : ∃ v p, e = .Expr v p ∧ (mUpd tb N c i k v) = true := by
  cases e
  all_goals first
    | (cases h; done)
    | exact ⟨_, _, rfl, h⟩
theorem mS_ins {i : Nat} {k a : E} {e : Stmt} (h : mS tb N c (.ins i k a) e = true) : ∃ v p, e = .Expr v p ∧ (mIns tb N c i k a v) = true := by
  cases e
  all_goals first
    | (cases h; done)
    | exact ⟨_, _, rfl, h⟩
theorem mS_uns {is : List Nat} {j : Nat} {es : Es} {e : Stmt} (h : mS tb N c (.uns is j es) e = true) : ∃ ts kt pt vs kv pv p, e = .Assign [.Tuple ts kt pt] (.Tuple vs kv pv) p ∧ (mUns tb N c is j es ts vs) = true := by
  cases e
  all_goals first
    | (cases h; done)
    | exact ⟨_, _, _, _, _, _, _, rfl, h⟩
    | (rename_i ts v p; cases ts with | nil => (cases h; done) | cons t ts => cases t <;> first | (cases h; done) | (cases ts with | nil => (cases v <;> first | (cases h; done) | exact ⟨_, _, _, _, _, _, _, rfl, h⟩) | cons _ _ => (cases h; done)))
theorem mS_pnl {b : Bool} {j i : Nat} {k : E} {e : Stmt} (h : mS tb N c (.pnl b j i k) e = true) : ∃ ts kt pt vs kv pv p, e = .Assign [.Tuple ts kt pt] (.Tuple vs kv pv) p ∧ (mPnl tb N c b j i k ts vs) = true := by
  cases e
  all_goals first
    | (cases h; done)
    | exact ⟨_, _, _, _, _, _, _, rfl, h⟩
    | (rename_i ts v p; cases ts with | nil => (cases h; done) | cons t ts => cases t <;> first | (cases h; done) | (cases ts with | nil => (cases v <;> first | (cases h; done) | exact ⟨_, _, _, _, _, _, _, rfl, h⟩) | cons _ _ => (cases h; done)))
theorem mS_brk  {e : Stmt} (h : mS tb N c .brk e = true) : ∃ p, e = .Break p ∧ (true) = true := by
  cases e
  all_goals first
    | (cases h; done)
    | exact ⟨_, rfl, h⟩
theorem mS_cont  {e : Stmt} (h : mS tb N c .cont e = true) : ∃ p, e = .Continue p ∧ (true) = true := by
  cases e
  all_goals first
    | (cases h; done)
    | exact ⟨_, rfl, h⟩
theorem mS_raise {n : Nat} {m : Str} {e : Stmt} (h : mS tb N c (.raise n m) e = true) : ∃ a b p, e = .Raise a b p ∧ (mRaise tb c n m a b) = true := by
  cases e
  all_goals first
    | (cases h; done)
    | exact ⟨_, _, _, rfl, h⟩
theorem mSs_frz {i : Nat} {r : Ss} {ss : List Stmt} (h : mSs tb N c (.cons (.frz i) r) ss = true) : mSs tb N c r ss = true := h
theorem mSs_cons {s : S} {r : Ss} {ss : List Stmt} (hf : isFrz s = none) (h : mSs tb N c (.cons s r) ss = true) : ∃ st rest, ss = st :: rest ∧ mS tb N c s st = true ∧ mSs tb N c r rest = true := by
  cases s <;> first | (cases hf; done) | (cases ss with | nil => (cases h; done) | cons st rest => exact ⟨st, rest, rfl, and2 h⟩)
end
end Fm

/-! ### statements: soundness -/
namespace Fm
open PySem PySem.Spec PyProof.Rows L2
section
variable {tb : Tb} {N : List Str} {G : Gam} {cs : Nat → D} {cl : Nat → Addr} {X : Cx} {P : Pm} {c : Cs}
theorem sw_plain {v : Expr} {t : Option Expr} {l : Nat} {env : Env} (h : nComp v = true) : swapsWith v t l env = pure false := by
  cases v <;> first | rfl | (cases h; done)
theorem sw_sole {v t : Expr} {l : Nat} {env : Env} (h : nComp v = true) : swapsWithSole [t] v l env = pure false := sw_plain h
theorem sw_off {elt : Expr} {gs : List Comprehension} {scope : Scope} {pos py : Pos} {y : Str} {l : Nat} {env : Env} (h : env.scope.names.lookup y = some .cell ∨ (py.line == pos.line) = false) : swapsWith (.ListComp elt gs scope pos) (some (.Name y py)) l env = pure false := by
  unfold swapsWith
  rcases h with h | h
  · have ky : env.kindOf y = some .cell := h
    simp only [ky, Expr.pos]
    have : ((some NameKind.cell : Option NameKind) == some NameKind.local) = false := rfl
    simp only [this, Bool.and_false, Bool.false_and]
  · simp only [Expr.pos, h, Bool.and_false, Bool.false_and]
theorem lclB_of {x : Str} (h : lclB c x = true) : c.sc.names.lookup x = some .local := by
  unfold lclB at h
  split at h
  · assumption
  · cases h
theorem swF_of (ok : Ok tb N G cs cl X P c) {y : Str} {py : Pos} {v : Expr} {l : Nat} (h : swF c y py v = true) : swapsWith v (some (.Name y py)) l X.env = pure false := by
  unfold swF at h
  rcases Bool.or_eq_true_iff.mp h with h | h
  · exact sw_plain h
  · split at h
    · refine sw_off ?_
      rw [ok.sc]
      rcases Bool.or_eq_true_iff.mp h with h | h
      · exact .inl (of_decide_eq_true h)
      · exact .inr (by simpa using h)
    · cases h
theorem sCd (ok : Ok tb N G cs cl X P c) {cd : O} {ifs : List Expr} (h7 : mCd tb N c cd ifs = true) : PTs X ifs (tC1 P (evO G cs cd)) := by
  cases cd with
  | none =>
    cases ifs with
    | nil =>
      rw [evO_none]
      exact c_none
    | cons _ _ => cases h7
  | some k =>
    cases ifs with
    | nil => cases h7
    | cons x xs =>
      cases xs with
      | nil =>
        rw [evO_some]
        exact c_some (sE k ok (show mE tb N c true k x = true from h7)).t
      | cons _ _ => cases h7
/-- what is new is told as nobody's -/
theorem sN (ok : Ok tb N G cs cl X P c) {k : E} {v : Expr} (hf : freshB k = true) (hv : mE tb N c false k v = true) : PE X v (tN P (ev G cs k)) := by
  cases k with
  | lst es =>
    obtain ⟨xs, p, rfl, h⟩ := mE_lst hv
    rw [ev_lst]
    exact n_lst (sEs es ok h)
  | dsp kvs =>
    obtain ⟨ks, vs, p, rfl, h⟩ := mE_dsp hv
    rw [ev_dsp]
    exact n_dsp (dsp_of h)
  | dspE ks es =>
    obtain ⟨kes, vs, p, rfl, h⟩ := mE_dspE hv
    obtain ⟨h, h4⟩ := and2 h
    obtain ⟨h, h3⟩ := and2 h
    obtain ⟨h1, h2⟩ := and2 h
    rw [ev_dspE]
    exact n_dspE (sDs es ok (and2 h1).1 (of_decide_eq_true (and2 h1).2) h4) ⟨of_decide_eq_true h2, of_decide_eq_true h3⟩
  | comp own elt tg it cd =>
    obtain ⟨ee, et, ei, ifs, z, scope, p, rfl, h⟩ := mE_comp hv
    obtain ⟨h, h8⟩ := and2 h
    obtain ⟨h, h7⟩ := and2 h
    obtain ⟨h, h6⟩ := and2 h
    obtain ⟨h, h5⟩ := and2 h
    obtain ⟨h, h4⟩ := and2 h
    obtain ⟨h, h3⟩ := and2 h
    obtain ⟨h1, h2⟩ := and2 h
    obtain rfl := of_decide_eq_true h1
    have hsl : ∀ i ∈ tg.slots, i ∈ own.map (·.2) := fun i hi => by
      have := List.all_eq_true.mp h3 i hi
      simpa using this
    rw [ev_comp]
    exact n_comp ok.calm (by rw [ok.hN]; exact ok.nd) (sI it ok h4) (by rw [ok.hN, ok.sc]; exact blkOk_by h2) (fun s H C cl' fp => sTg (ok.blk scope s H C cl' fp) h6) (fun s H C cl' fp => sCd (ok.blk scope s H C cl' fp) h7)
      (fun s H C cl' fp => (sE elt (ok.blk scope s H C cl' fp) h8).d rfl) (fold_of h5) hsl
  | comp2 own elt tg it tg1 it1 =>
    obtain ⟨ee, et, ei, z, et1, ei1, z1, scope, p, rfl, h⟩ := mE_comp2 hv
    obtain ⟨h, h12⟩ := and2 h
    obtain ⟨h, h11⟩ := and2 h
    obtain ⟨h, h10⟩ := and2 h
    obtain ⟨h, h9⟩ := and2 h
    obtain ⟨h, h8⟩ := and2 h
    obtain ⟨h, h7⟩ := and2 h
    obtain ⟨h, h6⟩ := and2 h
    obtain ⟨h, h5⟩ := and2 h
    obtain ⟨h, h4⟩ := and2 h
    obtain ⟨h, h3⟩ := and2 h
    obtain ⟨h1, h2⟩ := and2 h
    obtain rfl := of_decide_eq_true h1
    obtain rfl := of_decide_eq_true h2
    rw [ev_comp2]
    have hsl : ∀ i ∈ tg.slots, i ∈ own.map (·.2) := fun i hi => by
      have := List.all_eq_true.mp h4 i hi
      simpa using this
    have hsl1 : ∀ i ∈ tg1.slots, i ∈ own.map (·.2) := fun i hi => by
      have := List.all_eq_true.mp h5 i hi
      simpa using this
    exact n_comp2 ok.calm (by rw [ok.hN]; exact ok.nd) (sI it ok h6) (by rw [ok.hN, ok.sc]; exact blkOk_by h3) (fun s H C cl' fp => sTg (ok.blk scope s H C cl' fp) h9) (fun s H C cl' fp => sI it1 (ok.blk scope s H C cl' fp) h10) (fun s H C cl' fp => sTg (ok.blk scope s H C cl' fp) h11)
      (fun s H C cl' fp => (sE elt (ok.blk scope s H C cl' fp) h12).d rfl) (fold_of h7) (fun env => fold_of h8) hsl hsl1
  | cat a b =>
    obtain ⟨ea, eb, p, rfl, h⟩ := mE_cat hv
    obtain ⟨h3, h4⟩ := and2 h
    rw [ev_cat]
    exact n_cat (sE a ok h3).b (sE b ok h4).b
  | blt b a =>
    obtain ⟨x, q, ea, p, rfl, h⟩ := mE_blt hv
    obtain ⟨h, h5⟩ := and2 h
    obtain ⟨h, h4⟩ := and2 h
    obtain ⟨h, h3⟩ := and2 h
    obtain ⟨h1, h2⟩ := and2 h
    obtain rfl := of_decide_eq_true h2
    rw [ev_blt]
    exact (s_blt ok h1 h3 h4 (sE a ok h5).b).2 (by cases b <;> first | rfl | (cases hf; done))
  | _ => cases hf
/-- name = value, the value told as it may be -/
theorem asgN (ok : Ok tb N G cs cl X P c) {i : Nat} {y : Str} {py pos : Pos} {k : E} {v : Expr} {te : TE} (ht : tgtB N c i y = true) (hs : swF c y py v = true) (hv : PE X v te) : PS X (.Assign [.Name y py] v pos) (tAsg te (gName i)) := by
  obtain ⟨h1, h2, h3⟩ := tgtB_of ok ht
  exact asg_plain (by rw [ok.hN]; exact ok.nd) h1 h2 hv (swF_of ok hs) h3
theorem asgC (ok : Ok tb N G cs cl X P c) {i : Nat} {y : Str} {py pos : Pos} {k : E} {v : Expr} (ht : tgtB N c i y = true) (hi : isComp k = true) (hs : swT c y py v = true) (hv : mE tb N c false k v = true) : PS X (.Assign [.Name y py] v pos) (tAsg (tN P (ev G cs k)) (gName i)) := by
  obtain ⟨t1, t2, t3⟩ := tgtB_of ok ht
  cases k <;> first | (cases hi; done) | skip
  rename_i own elt tg it cd
  obtain ⟨ee, et, ei, ifs, z, scope, p, rfl, h⟩ := mE_comp hv
  obtain ⟨h, h8⟩ := and2 h
  obtain ⟨h, h7⟩ := and2 h
  obtain ⟨h, h6⟩ := and2 h
  obtain ⟨h, h5⟩ := and2 h
  obtain ⟨h, h4⟩ := and2 h
  obtain ⟨h, h3⟩ := and2 h
  obtain ⟨h1, h2⟩ := and2 h
  obtain rfl := of_decide_eq_true h1
  have hs : (decide (c.sc.kind = .function) && lclB c y && (py.line == p.line) && !(scope.names.any fun (n, k) => n == y && (k == .local || k == .cell))) = true := hs
  obtain ⟨hs, s4⟩ := and2 hs
  obtain ⟨hs, s3⟩ := and2 hs
  obtain ⟨s1, s2⟩ := and2 hs
  have hsl : ∀ i ∈ tg.slots, i ∈ own.map (·.2) := fun i hi => by
    have := List.all_eq_true.mp h3 i hi
    simpa using this
  have hyl : X.env.scope.names.lookup y = some .local := by rw [ok.sc]; exact lclB_of s2
  rw [ev_comp]
  refine psMono (ps_setLc ok.calm (by rw [ok.hN]; exact ok.nd) t1 hyl (sw_true (by rw [ok.sc]; exact of_decide_eq_true s1) hyl s3 (by simpa using s4)) (sI it ok h4) (by rw [ok.hN, ok.sc]; exact blkOk_by h2) (fun s H C cl' fp => sTg (ok.blk scope s H C cl' fp) h6) (fun s H C cl' fp => sCd (ok.blk scope s H C cl' fp) h7)
    (fun s H C cl' fp => (sE elt (ok.blk scope s H C cl' fp) h8).d rfl) (fold_of h5)) fun D σ H h => comp_read hsl σ H _ h
theorem comp_lst {k : E} (hi : isComp k = true) (r : Rho) (t : Tw) (d : D) (t' : Tw) (h : ev G cs k r t = .ok d t') : ∃ xs, d = .lst xs := by
  cases k <;> first | (cases hi; done) | skip
  rw [ev_comp] at h
  unfold compE at h
  rename_i own elt tg it cd
  cases e : evI G cs it r t with
  | ok xs t1 =>
    rw [e] at h
    simp only [Res.bind_ok] at h
    split at h
    · generalize compL _ xs t1 = res at h
      cases res with
      | ok ys t2 =>
        cases h
        exact ⟨_, rfl⟩
      | exc n t2 => cases h
      | bad => cases h
    · cases h
  | exc n t1 =>
    rw [e] at h
    cases h
  | bad =>
    rw [e] at h
    cases h
theorem asgD (ok : Ok tb N G cs cl X P c) {i : Nat} {y : Str} {py pos : Pos} {k : E} {v : Expr} (ht : tgtB N c i y = true) (hs : (swF c y py v || (isComp k && swT c y py v)) = true) (hv : mE tb N c false k v = true) :
    PS X (.Assign [.Name y py] v pos) (tAsg (tD P (ev G cs k)) (gName i)) ∧ (freshB k = true → PS X (.Assign [.Name y py] v pos) (tAsg (tN P (ev G cs k)) (gName i))) := by
  rcases Bool.or_eq_true_iff.mp hs with hs | hs
  · exact ⟨asgN (k := k) ok ht hs ((sE k ok hv).d rfl), fun hf => asgN (k := k) ok ht hs (sN ok hf hv)⟩
  · obtain ⟨h1, h2⟩ := and2 hs
    have h := asgC (pos := pos) ok ht h1 h2 hv
    exact ⟨psMono h fun D σ H q => tNtD_mono (comp_lst h1) σ H _ q, fun _ => h⟩
/-- no stores exchanged -/
theorem none_of (hsc : X.env.scope = c.sc) {ts : List Expr} {v : Expr} {k : Nat} {p : Pos} (h : noneB c ts v = true) : swappedStores [.Tuple ts k p] v X.env = pure none := by
  cases v <;> try rfl
  rename_i vs kv pv
  have h : (!(ts.length == 2 || ts.length == 3) || ts.any (nonLoc c) || vs.all (foldedForSure 8)) = true := h
  unfold swappedStores
  simp only
  by_cases h1 : (!(ts.length == 2 || ts.length == 3) || vs.length != ts.length || X.env.blockKind != .function) = true
  · simp only [h1, if_true]
  · rw [if_neg h1]
    split
    · rfl
    · split
      · rfl
      · rename_i h3
        split
        · rfl
        · rename_i h4
          exfalso
          rcases Bool.or_eq_true_iff.mp h with h | h
          · rcases Bool.or_eq_true_iff.mp h with h | h
            · exact h1 (by rw [h]; rfl)
            · refine h3 (Bool.or_eq_true_iff.mpr (.inl ?_))
              refine bne_iff_ne.mpr fun z => ?_
              have z := List.filterMap_length_eq_length.mp z
              obtain ⟨e, m, q⟩ := List.any_eq_true.mp h
              have z := z e m
              cases e with
              | Name x px =>
                have q : (!lclB c x) = true := q
                simp only at z
                split at z
                · rename_i w
                  have w1 := (and2 w).1
                  have : X.env.kindOf x = some .local := eq_of_beq w1
                  have : X.env.scope.names.lookup x = some .local := this
                  rw [hsc] at this
                  unfold lclB at q
                  rw [this] at q
                  cases q
                · cases z
              | _ => cases z
          · exact h4 h
theorem blk_fn {env : Env} (h : env.scope.kind = .function) : env.blockKind = .function := by
  unfold Env.blockKind
  rw [h]
  rfl
theorem nstar_any {vs : List Expr} (h : (!vs.any fun e => !nStar e) = true) : (vs.any fun | .Starred .. => true | _ => false) = false := by
  induction vs with
  | nil => rfl
  | cons e r ih =>
    simp only [List.any_cons, Bool.not_or, Bool.not_not] at h ⊢
    obtain ⟨h1, h2⟩ := and2 h
    rw [ih h2]
    cases e <;> first | rfl | (cases h1; done)
theorem par2_of (hsc : X.env.scope = c.sc) {x y : Str} {px py : Pos} {a b : Expr} {k k2 : Nat} {p p2 : Pos} (hk : c.sc.kind = .function) (h1 : (!([a, b] : List Expr).any fun e => !nStar e) = true) (h2 : (([a, b] : List Expr).all (foldedForSure 8)) = false) (h3 : (([a, b] : List Expr).all (constantsAlone 8)) = false)
    (hx : c.sc.names.lookup x = some .local) (hy : c.sc.names.lookup y = some .local) (hxy : x ≠ y) (hl : (py.line == px.line) = true) : swappedStores [.Tuple [.Name x px, .Name y py] k p] (.Tuple [a, b] k2 p2) X.env = pure (some [x, y]) := by
  have kx : X.env.kindOf x = some .local := by show X.env.scope.names.lookup x = _; rw [hsc]; exact hx
  have ky : X.env.kindOf y = some .local := by show X.env.scope.names.lookup y = _; rw [hsc]; exact hy
  have hb := blk_fn (env := X.env) (by rw [hsc]; exact hk)
  have s := nstar_any h1
  unfold swappedStores
  simp only [hb, h2, h3, List.head?_cons, Option.map_some, Option.getD_some, Expr.pos, List.filterMap_cons, kx, ky, hl, beq_self_eq_true, Bool.and_self, if_true, List.filterMap_nil]
  have e : ([x, y] : List Str).eraseDups = [x, y] := by
    simp [List.eraseDups_cons, Ne.symm hxy]
  rw [if_neg (by simp)]
  split
  · rename_i z
    exact Bool.noConfusion (s.symm.trans z)
  · simp [e]
theorem par3_of (hsc : X.env.scope = c.sc) {x y z : Str} {px py pz : Pos} {a b d : Expr} {k k2 : Nat} {p p2 : Pos} (hk : c.sc.kind = .function) (h1 : (!([a, b, d] : List Expr).any fun e => !nStar e) = true) (h2 : (([a, b, d] : List Expr).all (foldedForSure 8)) = false) (h3 : (([a, b, d] : List Expr).all (constantsAlone 8)) = false)
    (hx : c.sc.names.lookup x = some .local) (hy : c.sc.names.lookup y = some .local) (hz : c.sc.names.lookup z = some .local) (hxy : x ≠ y) (hxz : x ≠ z) (hyz : y ≠ z) (hl : (py.line == px.line) = true) (hl2 : (pz.line == px.line) = true) : swappedStores [.Tuple [.Name x px, .Name y py, .Name z pz] k p] (.Tuple [a, b, d] k2 p2) X.env = pure (some [x, y, z]) := by
  have kx : X.env.kindOf x = some .local := by show X.env.scope.names.lookup x = _; rw [hsc]; exact hx
  have ky : X.env.kindOf y = some .local := by show X.env.scope.names.lookup y = _; rw [hsc]; exact hy
  have kz : X.env.kindOf z = some .local := by show X.env.scope.names.lookup z = _; rw [hsc]; exact hz
  have hb := blk_fn (env := X.env) (by rw [hsc]; exact hk)
  have s := nstar_any h1
  unfold swappedStores
  simp only [hb, h2, h3, List.head?_cons, Option.map_some, Option.getD_some, Expr.pos, List.filterMap_cons, kx, ky, kz, hl, hl2, beq_self_eq_true, Bool.and_self, if_true, List.filterMap_nil]
  have e : ([x, y, z] : List Str).eraseDups = [x, y, z] := by
    simp [List.eraseDups_cons, Ne.symm hxy, Ne.symm hxz, Ne.symm hyz]
  rw [if_neg (by simp)]
  split
  · rename_i z
    exact Bool.noConfusion (s.symm.trans z)
  · simp [e]
theorem locAt_of (ok : Ok tb N G cs cl X P c) {i : Nat} {x : Str} (h : locAt N c i x = true) : X.N[i]? = some x ∧ X.env.scope.names.lookup x = some .local ∧ c.sc.names.lookup x = some .local := by
  obtain ⟨h1, h2⟩ := and2 h
  exact ⟨by rw [ok.hN]; exact of_decide_eq_true h1, by rw [ok.sc]; exact lclB_of h2, lclB_of h2⟩
theorem sPar (ok : Ok tb N G cs cl X P c) {is : List Nat} {es : Es} {ts vs : List Expr} {kt kv : Nat} {pt pv pos : Pos} (h : mPar tb N c is es ts vs = true) : PS X (.Assign [.Tuple ts kt pt] (.Tuple vs kv pv) pos) (tS P (parE is (evs G cs es))) := by
  unfold mPar at h
  obtain ⟨h, h6⟩ := and2 h
  obtain ⟨h, h5⟩ := and2 h
  obtain ⟨h, h4⟩ := and2 h
  obtain ⟨h, h3⟩ := and2 h
  obtain ⟨h1, h2⟩ := and2 h
  have hk := of_decide_eq_true h1
  have h3 : vs.all (foldedForSure 8) = false := by simpa using h3
  have h4 : vs.all (constantsAlone 8) = false := by simpa using h4
  have nd : X.N.Nodup := by rw [ok.hN]; exact ok.nd
  split at h6
  · obtain ⟨q, q5⟩ := and2 h6
    obtain ⟨q, q4⟩ := and2 q
    obtain ⟨q, q3⟩ := and2 q
    obtain ⟨q1, q2⟩ := and2 q
    obtain ⟨a1, a2, a3⟩ := locAt_of ok q2
    obtain ⟨b1, b2, b3⟩ := locAt_of ok q3
    exact st_par2 ok.calm nd a1 b1 (of_decide_eq_true q1) a2 b2 (sEs es ok h5) (par2_of ok.sc hk h2 h3 h4 a3 b3 (of_decide_eq_true q4) q5)
  · obtain ⟨q, q11⟩ := and2 h6
    obtain ⟨q, q10⟩ := and2 q
    obtain ⟨q, q9⟩ := and2 q
    obtain ⟨q, q8⟩ := and2 q
    obtain ⟨q, q7⟩ := and2 q
    obtain ⟨q, q6⟩ := and2 q
    obtain ⟨q, q5⟩ := and2 q
    obtain ⟨q, q4⟩ := and2 q
    obtain ⟨q, q3⟩ := and2 q
    obtain ⟨q1, q2⟩ := and2 q
    obtain ⟨a1, a2, a3⟩ := locAt_of ok q4
    obtain ⟨b1, b2, b3⟩ := locAt_of ok q5
    obtain ⟨c1, c2, c3⟩ := locAt_of ok q6
    exact st_par3 ok.calm nd a1 b1 c1 (of_decide_eq_true q1) (of_decide_eq_true q2) (of_decide_eq_true q3) a2 b2 c2 (sEs es ok h5) (par3_of ok.sc hk h2 h3 h4 a3 b3 c3 (of_decide_eq_true q7) (of_decide_eq_true q8) (of_decide_eq_true q9) q10 q11)
  · cases h6
theorem sAsg (ok : Ok tb N G cs cl X P c) {tg : Tg} {k : E} {t v : Expr} {pos : Pos} (h : mAsg tb N c tg k t v = true) : PS X (.Assign [t] v pos) (tS P fun r t => (ev G cs k r t).bind fun x t1 => Fm.lift ((setT tg x r).map fun r1 => (.nx, r1)) t1) := by
  unfold mAsg at h
  split at h
  · obtain ⟨h, h3⟩ := and2 h
    obtain ⟨h1, h2⟩ := and2 h
    cases tg with
    | name i => exact st_set (asgD (i := i) ok h1 h2 h3).1
    | tup _ => cases h1
  · obtain ⟨h, h4⟩ := and2 h
    obtain ⟨h, h3⟩ := and2 h
    obtain ⟨h1, h2⟩ := and2 h
    exact st_asg ((sE k ok h4).d rfl) (sTg ok h1) (sw_sole h2) (none_of ok.sc h3) rfl
  · cases h
theorem sStar (ok : Ok tb N G cs cl X P c) {i j : Nat} {k : E} {t v : Expr} {pos : Pos} (h : mStar tb N c i j k t v = true) : PS X (.Assign [t] v pos) (tS P (starE i j (ev G cs k))) := by
  unfold mStar at h
  split at h
  · obtain ⟨h, h5⟩ := and2 h
    obtain ⟨h, h4⟩ := and2 h
    obtain ⟨h, h3⟩ := and2 h
    obtain ⟨h1, h2⟩ := and2 h
    obtain ⟨a1, a2, a3⟩ := tgtB_of ok h1
    obtain ⟨b1, b2, b3⟩ := tgtB_of ok h2
    exact st_star ok.hK ok.calm (by rw [ok.hN]; exact ok.nd) a1 b1 a2 b2 a3 b3 ((sE k ok h5).d rfl) (sw_sole h3) (none_of ok.sc (by cases v <;> first | rfl | (cases h4; done)))
  · cases h
theorem sNew (ok : Ok tb N G cs cl X P c) {i : Nat} {k : E} {t v : Expr} {pos : Pos} (h : mNew tb N c i k t v = true) : PS X (.Assign [t] v pos) (tS P fun r t => (ev G cs k r t).bind fun x t1 => okSet r i (.own x) t1) := by
  unfold mNew at h
  split at h
  · obtain ⟨h, h4⟩ := and2 h
    obtain ⟨h, h3⟩ := and2 h
    obtain ⟨h1, h2⟩ := and2 h
    exact st_new ((asgD ok h2 h3 h4).2 h1)
  · cases h
theorem sApp (ok : Ok tb N G cs cl X P c) {i : Nat} {k : E} {v : Expr} {pos : Pos} (h : mApp tb N c i k v = true) : PS X (.Expr v pos) (tS P (appE i (ev G cs k))) := by
  unfold mApp at h
  split at h
  · obtain ⟨h, h5⟩ := and2 h
    obtain ⟨h, h4⟩ := and2 h
    obtain ⟨h, h3⟩ := and2 h
    obtain ⟨h1, h2⟩ := and2 h
    obtain rfl := of_decide_eq_true h1
    obtain ⟨a1, a2, a3, a4⟩ := varB_of ok h2
    exact st_app ok.hK a1 a2 a3 a4 ((sE k ok h5).d rfl) h3 (star_of h4)
  · cases h
theorem sUpd (ok : Ok tb N G cs cl X P c) {i : Nat} {k : E} {v : Expr} {pos : Pos} (h : mUpd tb N c i k v = true) : PS X (.Expr v pos) (tS P (updE i (ev G cs k))) := by
  unfold mUpd at h
  split at h
  · obtain ⟨h, h5⟩ := and2 h
    obtain ⟨h, h4⟩ := and2 h
    obtain ⟨h, h3⟩ := and2 h
    obtain ⟨h1, h2⟩ := and2 h
    obtain rfl := of_decide_eq_true h1
    obtain ⟨a1, a2, a3, a4⟩ := varB_of ok h2
    exact st_upd a1 a2 a3 a4 ((sE k ok h5).d rfl) h3 (star_of h4)
  · cases h
theorem sIns (ok : Ok tb N G cs cl X P c) {i : Nat} {k a : E} {v : Expr} {pos : Pos} (h : mIns tb N c i k a v = true) : PS X (.Expr v pos) (tS P (insE i (ev G cs k) (ev G cs a))) := by
  unfold mIns at h
  split at h
  · obtain ⟨h, h7⟩ := and2 h
    obtain ⟨h, h6⟩ := and2 h
    obtain ⟨h, h5⟩ := and2 h
    obtain ⟨h, h4⟩ := and2 h
    obtain ⟨h, h3⟩ := and2 h
    obtain ⟨h1, h2⟩ := and2 h
    obtain rfl := of_decide_eq_true h1
    obtain ⟨a1, a2, a3, a4⟩ := varB_of ok h2
    exact st_ins a1 a2 a3 a4 ((sE k ok h6).d rfl) ((sE a ok h7).d rfl) h3 (star_of h4) (star_of h5)
  · cases h
theorem evs3 (e1 e2 e3 : E) : evs G cs (.cons e1 (.cons e2 (.cons e3 .nil))) = fun r t => (ev G cs e1 r t).bind fun x t1 => (ev G cs e2 r t1).bind fun y t2 => (ev G cs e3 r t2).bind fun z t3 => .ok [x, y, z] t3 := by
  funext r t
  simp only [evs_cons, evs_nil]
  cases ev G cs e1 r t with
  | ok x t1 =>
    simp only [Res.bind_ok]
    cases ev G cs e2 r t1 with
    | ok y t2 =>
      simp only [Res.bind_ok]
      cases ev G cs e3 r t2 <;> rfl
    | exc n t2 => rfl
    | bad => rfl
  | exc n t1 => rfl
  | bad => rfl
theorem sUns (ok : Ok tb N G cs cl X P c) {is : List Nat} {j : Nat} {es : Es} {ts vs : List Expr} {kt kv : Nat} {pt pv pos : Pos} (h : mUns tb N c is j es ts vs = true) : PS X (.Assign [.Tuple ts kt pt] (.Tuple vs kv pv) pos) (tS P (unsE is j (evs G cs es))) := by
  unfold mUns at h
  split at h
  · obtain ⟨h, h10⟩ := and2 h
    obtain ⟨h, h9⟩ := and2 h
    obtain ⟨h, h8⟩ := and2 h
    obtain ⟨h, h7⟩ := and2 h
    obtain ⟨h, h6⟩ := and2 h
    obtain ⟨h, h5⟩ := and2 h
    obtain ⟨h, h4⟩ := and2 h
    obtain ⟨h, h3⟩ := and2 h
    obtain ⟨h1, h2⟩ := and2 h
    obtain ⟨a1, a2, a3⟩ := tgtB_of ok h1
    obtain ⟨b1, b2, b3⟩ := tgtB_of ok h2
    obtain ⟨c1, c2, c3⟩ := tgtB_of ok h3
    obtain ⟨d1, d2, d3⟩ := tgtB_of ok h4
    rw [evs3]
    exact st_uns ok.hK ok.calm (by rw [ok.hN]; exact ok.nd) a1 b1 c1 d1 a2 b2 c2 d2 a3 b3 c3 d3 ((sE _ ok h8).d rfl) ((sE _ ok h9).d rfl) ((sE _ ok h10).d rfl) (fun es => star_of h5) (fun es => star_of h6) (fun es => star_of h7) (none_of ok.sc (by simp [noneB]))
  · cases h
theorem sPnl (ok : Ok tb N G cs cl X P c) {b : Bool} {j i : Nat} {k : E} {ts vs : List Expr} {kt kv : Nat} {pt pv pos : Pos} (h : mPnl tb N c b j i k ts vs = true) : PS X (.Assign [.Tuple ts kt pt] (.Tuple vs kv pv) pos) (tS P (pnlE j i (ev G cs k))) := by
  unfold mPnl at h
  obtain ⟨h, h6⟩ := and2 h
  obtain ⟨h, h4⟩ := and2 h
  obtain ⟨h, h3⟩ := and2 h
  obtain ⟨h1, h2⟩ := and2 h
  have hk := of_decide_eq_true h1
  have h3 : vs.all (foldedForSure 8) = false := by simpa using h3
  have h4 : vs.all (constantsAlone 8) = false := by simpa using h4
  have nd : X.N.Nodup := by rw [ok.hN]; exact ok.nd
  split at h6
  · obtain ⟨q, q7⟩ := and2 h6
    obtain ⟨q, q6⟩ := and2 q
    obtain ⟨q, q5⟩ := and2 q
    obtain ⟨q, q4⟩ := and2 q
    obtain ⟨q, q3⟩ := and2 q
    obtain ⟨q1, q2⟩ := and2 q
    obtain ⟨a1, a2, a3⟩ := locAt_of ok q2
    obtain ⟨b1, b2, b3⟩ := locAt_of ok q3
    exact st_pnlT ok.calm nd a1 b1 (of_decide_eq_true q1) a2 b2 ((sE _ ok q7).d rfl) (fun es => star_of q6) (par2_of ok.sc hk h2 h3 h4 a3 b3 (of_decide_eq_true q4) q5)
  · obtain ⟨q, q7⟩ := and2 h6
    obtain ⟨q, q6⟩ := and2 q
    obtain ⟨q, q5⟩ := and2 q
    obtain ⟨q, q4⟩ := and2 q
    obtain ⟨q, q3⟩ := and2 q
    obtain ⟨q1, q2⟩ := and2 q
    obtain ⟨a1, a2, a3⟩ := locAt_of ok q2
    obtain ⟨b1, b2, b3⟩ := locAt_of ok q3
    exact st_pnlF ok.calm nd a1 b1 (of_decide_eq_true q1) a2 b2 ((sE _ ok q7).d rfl) (fun es => star_of q6) (par2_of ok.sc hk h2 h3 h4 a3 b3 (of_decide_eq_true q4) q5)
  · cases h6
theorem sPut (ok : Ok tb N G cs cl X P c) {i : Nat} {k a : E} {t v : Expr} {pos : Pos} (h : mPut tb N c i k a t v = true) : PS X (.Assign [t] v pos) (tS P (putE i (ev G cs k) (ev G cs a))) ∧ PS X (.Assign [t] v pos) (tS P (putLE i (ev G cs k) (ev G cs a))) := by
  unfold mPut at h
  split at h
  · rename_i y q b p
    obtain ⟨h, h5⟩ := and2 h
    obtain ⟨h, h4⟩ := and2 h
    obtain ⟨h, h3⟩ := and2 h
    obtain ⟨h1, h2⟩ := and2 h
    obtain ⟨a1, a2, a3, a4⟩ := varB_of ok h1
    refine ⟨st_put ok.hu a1 a2 a3 a4 (sE k ok h4).b ((sE a ok h5).d rfl) (sw_plain h3), st_putL a1 a2 a3 a4 (sE k ok h4).b ((sE a ok h5).d rfl) ?_ (sw_sole h3) (by cases v <;> rfl)⟩
    intro v
    cases b <;> first | rfl | (cases h2; done)
  · cases h
theorem sTcnt (ok : Ok tb N G cs cl X P c) {i : Nat} {k : E} {t v : Expr} {pos : Pos} (h : mTcnt tb N c i k t v = true) : PS X (.Assign [t] v pos) (tS P (tcntE i (ev G cs k))) := by
  unfold mTcnt at h
  split at h
  · obtain ⟨h, h4⟩ := and2 h
    obtain ⟨h, h3⟩ := and2 h
    obtain ⟨h1, h2⟩ := and2 h
    obtain ⟨a1, a2, a3, a4⟩ := varB_of ok h1
    obtain ⟨j, q2, rfl⟩ := isStr_of h2
    exact st_tcnt ok.hu a1 a2 a3 a4 ((sE k ok h4).d rfl) (sw_plain h3)
  · cases h
theorem sTrst (ok : Ok tb N G cs cl X P c) {i : Nat} {k a : E} {t v : Expr} {pos : Pos} (h : mTrst tb N c i k a t v = true) : PS X (.Assign [t] v pos) (tS P (trstE i (ev G cs k) (ev G cs a))) := by
  unfold mTrst at h
  split at h
  · obtain ⟨h, h5⟩ := and2 h
    obtain ⟨h, h4⟩ := and2 h
    obtain ⟨h, h3⟩ := and2 h
    obtain ⟨h1, h2⟩ := and2 h
    obtain ⟨a1, a2, a3, a4⟩ := varB_of ok h1
    obtain ⟨j, q2, rfl⟩ := isStr_of h2
    exact st_trst ok.hu a1 a2 a3 a4 (sE k ok h4).b ((sE a ok h5).d rfl) (sw_plain h3)
  · cases h
theorem sAug (ok : Ok tb N G cs cl X P c) {i : Nat} {op op' : Operator} {k : E} {t v : Expr} {pos : Pos} (h : mAug tb N c i op k t op' v = true) : PS X (.AugAssign t op' v pos) (tS P (augE i op (ev G cs k))) := by
  unfold mAug at h
  split at h
  · obtain ⟨h, h4⟩ := and2 h
    obtain ⟨h, h3⟩ := and2 h
    obtain ⟨h1, h2⟩ := and2 h
    obtain rfl := of_decide_eq_true h1
    obtain ⟨a1, a2, a3⟩ := tgtB_of ok h3
    refine st_aug (ip_of ?_) (by rw [ok.hN]; exact ok.nd) a1 a2 a3 (sE k ok h4).b
    cases op <;> first | (cases h2; done) | simp
  · cases h
theorem sRaise (ok : Ok tb N G cs cl X P c) {n : Nat} {m : Str} {a b : Option Expr} {pos : Pos} (h : mRaise tb c n m a b = true) : PS X (.Raise a b pos) (tS P fun _ t => .exc n t) := by
  unfold mRaise at h
  split at h
  · obtain ⟨h, h3⟩ := and2 h
    obtain ⟨h1, h2⟩ := and2 h
    obtain ⟨e1, e2, e3, e4⟩ := ok.exc n _ (of_decide_eq_true h2)
    obtain ⟨g1, g2, g3⟩ := glB_of ok h3
    exact st_raise (C := cl n) ok.calm ok.tk PySem.F.excBase_ValueError e1 e2 e3 e4 g1 g2
  · cases h
end
section
variable {G : Gam} {cs : Nat → D}
theorem evS_asg (tg : Tg) (e : E) : evS G cs (.asg tg e) = fun r t => (ev G cs e r t).bind fun x t1 => Fm.lift ((setT tg x r).map fun r1 => (.nx, r1)) t1 := by funext r t; rw [evS]
theorem evS_par (is : List Nat) (es : Es) : evS G cs (.par is es) = parE is (evs G cs es) := by funext r t; first | (rw [evS]; done) | (rw [evS]; rfl)
theorem evS_star (i j : Nat) (e : E) : evS G cs (.star i j e) = starE i j (ev G cs e) := by funext r t; first | (rw [evS]; done) | (rw [evS]; rfl)
theorem evS_aug (i : Nat) (op : Operator) (e : E) : evS G cs (.aug i op e) = augE i op (ev G cs e) := by funext r t; first | (rw [evS]; done) | (rw [evS]; rfl)
theorem evS_ret (e : E) : evS G cs (.ret e) = fun r t => (ev G cs e r t).bind fun x t1 => .ok (.ret x, r) t1 := by funext r t; rw [evS]
theorem evS_ite (k : E) (a b : Ss) : evS G cs (.ite k a b) = iteS (ev G cs k) (evSs G cs a) (evSs G cs b) := by funext r t; first | (rw [evS]; done) | (rw [evS]; rfl)
theorem evS_for (tg : Tg) (it : I) (b : Ss) : evS G cs (.for tg it b) = forE tg (evI G cs it) (evSs G cs b) := by funext r t; first | (rw [evS]; done) | (rw [evS]; rfl)
theorem evS_while (k : E) (b : Ss) : evS G cs (.while k b) = loopW (ev G cs k) (evSs G cs b) := by funext r t; rw [evS]
theorem evS_exp (e : E) : evS G cs (.exp e) = fun r t => (ev G cs e r t).bind fun _ t1 => .ok (.nx, r) t1 := by funext r t; rw [evS]
theorem evS_new (i : Nat) (e : E) : evS G cs (.new i e) = fun r t => (ev G cs e r t).bind fun x t1 => okSet r i (.own x) t1 := by funext r t; rw [evS]
theorem evS_app (i : Nat) (e : E) : evS G cs (.app i e) = appE i (ev G cs e) := by funext r t; first | (rw [evS]; done) | (rw [evS]; rfl)
theorem evS_put (i : Nat) (k e : E) : evS G cs (.put i k e) = putE i (ev G cs k) (ev G cs e) := by funext r t; first | (rw [evS]; done) | (rw [evS]; rfl)
theorem evS_upd (i : Nat) (e : E) : evS G cs (.upd i e) = updE i (ev G cs e) := by funext r t; first | (rw [evS]; done) | (rw [evS]; rfl)
theorem evS_ins (i : Nat) (k e : E) : evS G cs (.ins i k e) = insE i (ev G cs k) (ev G cs e) := by funext r t; first | (rw [evS]; done) | (rw [evS]; rfl)
theorem evS_uns (is : List Nat) (j : Nat) (es : Es) : evS G cs (.uns is j es) = unsE is j (evs G cs es) := by funext r t; first | (rw [evS]; done) | (rw [evS]; rfl)
theorem evS_pnl (b : Bool) (j i : Nat) (e : E) : evS G cs (.pnl b j i e) = pnlE j i (ev G cs e) := by funext r t; first | (rw [evS]; done) | (rw [evS]; rfl)
theorem evS_putL (i : Nat) (k e : E) : evS G cs (.putL i k e) = putLE i (ev G cs k) (ev G cs e) := by funext r t; first | (rw [evS]; done) | (rw [evS]; rfl)
theorem evS_frz (i : Nat) : evS G cs (.frz i) = frzE i := by funext r t; first | (rw [evS]; done) | (rw [evS]; rfl)
theorem evS_tcnt (i : Nat) (e : E) : evS G cs (.tcnt i e) = tcntE i (ev G cs e) := by funext r t; first | (rw [evS]; done) | (rw [evS]; rfl)
theorem evS_trst (i : Nat) (k e : E) : evS G cs (.trst i k e) = trstE i (ev G cs k) (ev G cs e) := by funext r t; first | (rw [evS]; done) | (rw [evS]; rfl)
theorem evS_brk : evS G cs .brk = fun r t => .ok (.brk, r) t := by funext r t; rw [evS]
theorem evS_cont : evS G cs .cont = fun r t => .ok (.cont, r) t := by funext r t; rw [evS]
theorem evS_raise (n : Nat) (x : Str) : evS G cs (.raise n x) = fun _ t => .exc n t := by funext r t; rw [evS]
theorem evSs_nil : evSs G cs .nil = nilE := by funext r t; first | (rw [evSs]; done) | (rw [evSs]; rfl)
theorem evSs_cons (s : S) (r : Ss) : evSs G cs (.cons s r) = consE (evS G cs s) (evSs G cs r) := by funext r t; first | (rw [evSs]; done) | (rw [evSs]; rfl)
end
section
variable {tb : Tb} {N : List Str} {G : Gam} {cs : Nat → D} {cl : Nat → Addr} {X : Cx} {P : Pm} {c : Cs}
mutual
theorem sS (ok : Ok tb N G cs cl X P c) : ∀ (s : S) {st : Stmt}, mS tb N c s st = true → PS X st (tS P (evS G cs s))
  | .asg tg k, st, h => by
    obtain ⟨t, v, p, rfl, h⟩ := mS_asg h
    rw [evS_asg]
    exact sAsg ok h
  | .par is es, st, h => by
    obtain ⟨ts, kt, pt, vs, kv, pv, p, rfl, h⟩ := mS_par h
    rw [evS_par]
    exact sPar ok h
  | .star i j k, st, h => by
    obtain ⟨t, v, p, rfl, h⟩ := mS_star h
    rw [evS_star]
    exact sStar ok h
  | .aug i op k, st, h => by
    obtain ⟨t, op', v, p, rfl, h⟩ := mS_aug h
    rw [evS_aug]
    exact sAug ok h
  | .ret k, st, h => by
    obtain ⟨v, p, rfl, h⟩ := mS_ret h
    rw [evS_ret]
    exact st_ret ((sE k ok h).d rfl)
  | .ite k a b, st, h => by
    obtain ⟨ek, sa, sb, p, rfl, h⟩ := mS_ite h
    obtain ⟨h, h3⟩ := and2 h
    obtain ⟨h1, h2⟩ := and2 h
    rw [evS_ite]
    exact st_ite (sE k ok h1).t (sSs ok a h2) (sSs ok b h3)
  | .for tg it b, st, h => by
    obtain ⟨et, ei, sb, p, rfl, h⟩ := mS_for h
    obtain ⟨h, h4⟩ := and2 h
    obtain ⟨h, h3⟩ := and2 h
    obtain ⟨h1, h2⟩ := and2 h
    rw [evS_for]
    exact st_for ok.own ok.calm (sI it ok h3) (sTg ok h2) (sSs ok b h4) (fold_of h1)
  | .while k b, st, h => by
    obtain ⟨ek, sb, p, rfl, h⟩ := mS_while h
    obtain ⟨h1, h2⟩ := and2 h
    rw [evS_while]
    exact st_while ok.own (sE k ok h1).t (sSs ok b h2)
  | .exp k, st, h => by
    obtain ⟨v, p, rfl, h⟩ := mS_exp h
    obtain ⟨h1, h2⟩ := and2 h
    rw [evS_exp]
    exact st_exp ((sE k ok h2).d rfl) (sw_plain h1)
  | .new i k, st, h => by
    obtain ⟨t, v, p, rfl, h⟩ := mS_new h
    rw [evS_new]
    exact sNew ok h
  | .app i k, st, h => by
    obtain ⟨v, p, rfl, h⟩ := mS_app h
    rw [evS_app]
    exact sApp ok h
  | .put i k a, st, h => by
    obtain ⟨t, v, p, rfl, h⟩ := mS_put h
    rw [evS_put]
    exact (sPut ok h).1
  | .upd i k, st, h => by
    obtain ⟨v, p, rfl, h⟩ := mS_upd h
    rw [evS_upd]
    exact sUpd ok h
  | .ins i k a, st, h => by
    obtain ⟨v, p, rfl, h⟩ := mS_ins h
    rw [evS_ins]
    exact sIns ok h
  | .uns is j es, st, h => by
    obtain ⟨ts, kt, pt, vs, kv, pv, p, rfl, h⟩ := mS_uns h
    rw [evS_uns]
    exact sUns ok h
  | .pnl b j i k, st, h => by
    obtain ⟨ts, kt, pt, vs, kv, pv, p, rfl, h⟩ := mS_pnl h
    rw [evS_pnl]
    exact sPnl ok h
  | .putL i k a, st, h => by
    obtain ⟨t, v, p, rfl, h⟩ := mS_putL h
    rw [evS_putL]
    exact (sPut ok h).2
  | .tcnt i k, st, h => by
    obtain ⟨t, v, p, rfl, h⟩ := mS_tcnt h
    rw [evS_tcnt]
    exact sTcnt ok h
  | .trst i k a, st, h => by
    obtain ⟨t, v, p, rfl, h⟩ := mS_trst h
    rw [evS_trst]
    exact sTrst ok h
  | .brk, st, h => by
    obtain ⟨p, rfl, _⟩ := mS_brk h
    rw [evS_brk]
    exact st_brk
  | .cont, st, h => by
    obtain ⟨p, rfl, _⟩ := mS_cont h
    rw [evS_cont]
    exact st_cont
  | .raise n m, st, h => by
    obtain ⟨a, b, p, rfl, h⟩ := mS_raise h
    rw [evS_raise]
    exact sRaise ok h
  | .frz i, st, h => by cases st <;> cases h
theorem sSs (ok : Ok tb N G cs cl X P c) : ∀ (s : Ss) {ss : List Stmt}, mSs tb N c s ss = true → PSs X ss (tS P (evSs G cs s))
  | .nil, ss, h => by
    cases ss with
    | nil =>
      rw [evSs_nil]
      exact ss_nil
    | cons _ _ => cases h
  | .cons s r, ss, h => by
    rw [evSs_cons]
    cases e : isFrz s with
    | some i =>
      cases s <;> first | (cases e; done) | skip
      rw [evS_frz]
      exact ss_frz (sSs ok r (mSs_frz h))
    | none =>
      obtain ⟨st, rest, rfl, h1, h2⟩ := mSs_cons e h
      exact ss_cons (sS ok s h1) (sSs ok r h2)
end
end
end Fm

/-! ### what the law hears of a deed -/
namespace Fm
open PySem PySem.Spec PyProof.Rows L2
def nineEx : List (Nat × Str) := [(0, "NoRoot"), (1, "NoForm"), (2, "ByNought"), (3, "NoQuotient"), (4, "NoName"), (5, "NoPath"), (6, "Spent"), (7, "BadWord"), (8, "NoText")]
def tbH : Tb := ⟨[], [], nineEx, true⟩
def G0 : Gam := ⟨0, fun _ _ _ _ _ => .bad⟩
def cs0 : Nat → D := fun _ => .non
def two9 (x y : Str) (i j : Nat) : E := .dspE [x, y] (.cons (.isx (.var 1) i) (.cons (.isx (.var 1) j) .nil))
def heardT : Ss :=
  .cons (.ite (.cmp .Is (.var 1) (.cst .non)) (.cons (.ret (.tup (.cons (.cst (.str "told")) (.cons (.var 2) .nil)))) .nil) .nil)
  (.cons (.new 4 (two9 "no root" "no form" 0 1))
  (.cons (.upd 4 (two9 "by nought" "no quotient" 2 3))
  (.cons (.upd 4 (two9 "no name" "no path" 4 5))
  (.cons (.upd 4 (two9 "spent" "bad word" 6 7))
  (.cons (.put 4 (.cst (.str "no text")) (.isx (.var 1) 8))
  (.cons (.frz 4)
  (.cons (.asg (.name 5) (.comp [("word", 6)] (.var 6) (.name 6) (.keys (.var 4)) (.some (.dix (.var 4) (.var 6)))))
  (.cons (.ret (.ite (.and (.cmp .Eq (.blt .len (.var 5)) (.cst (.int 1))) (.isv (.var 1))) (.tup (.cons (.ix (.var 5) (.cst (.int 0))) .nil)) (.tup (.cons (.cst (.str "is wrong")) .nil)))) .nil))))))))
theorem heardT_told (d : D) (t : Tw) : evSs G0 cs0 heardT [.un, .val .non, .val d, .un, .un, .un, .un] t = .ok (.ret (.tup [.str "told", d]), [.un, .val .non, .val d, .un, .un, .un, .un]) t := by
  rfl
theorem heardT_exc (n : Nat) (h : n < 9) (t : Tw) : ∃ r, evSs G0 cs0 heardT [.un, .val (.exc n), .un, .un, .un, .un, .un] t = .ok (.ret (.tup [.str (hWord n)]), r) t := by
  have : n = 0 ∨ n = 1 ∨ n = 2 ∨ n = 3 ∨ n = 4 ∨ n = 5 ∨ n = 6 ∨ n = 7 ∨ n = 8 := by omega
  rcases this with rfl | rfl | rfl | rfl | rfl | rfl | rfl | rfl | rfl
  all_goals exact ⟨_, rfl⟩
/-- what the head tells for it -/
structure HeardK (K : PySem.W.Frag) (mg : Str → Option Value) (cl : Nat → Addr) (CF : Addr) : Prop where
  form : mg "FormError" = some (.ref CF)
  exm : ∀ n, n < 9 → PySem.W.exmOne K (.ref (cl n)) (.ref CF) = some true
def csH (sg : Scope) : Cs := ⟨sg, fun _ => true, false⟩
def mHeard (sg : Scope) : List Stmt → Bool
  | .Assign [.Tuple [.Name a1 _, .Name a2 _] _ _] (.Tuple [.Constant .none _ _, .Constant .none _ _] _ _) _ :: .Try [.Assign [.Name a3 _] (.Call (.Name a4 _) [] [] _) _] [.ExceptHandler (some (.Name a5 _)) (some a6) [.Assign [.Name a7 _] (.Name a8 _) _] _] [] [] _ :: rest =>
    tgtB heardN (csH sg) 1 a1 && tgtB heardN (csH sg) 2 a2 && tgtB heardN (csH sg) 2 a3 && decide (a4 = "deed") && decide (a5 = "FormError") && glB (csH sg) a5 && locAt heardN (csH sg) 3 a6 && tgtB heardN (csH sg) 1 a7 && varB heardN (csH sg) 3 a8 && mSs tbH heardN (csH sg) heardT rest
  | _ => false
theorem heardT_ok {X : Cx} {T : Tn} {cl : Nat → Addr} (hcl : T.cl = cl) (free : ∀ x ∈ freeNames, X.mg x = none) (nine : Nine X.K cl) (exc : ∀ n x, nineEx.lookup n = some x → ExcOk X (cl n) x) {sg : Scope} {g : Addr} {cdg : Value} (S : FnScope heardN ["deed"] sg) (s : Shared) (H : Hp)
    (hr : Room 0 (X.A.deeper (envOfC "_law_heard" sg s.heap.objs.size g cdg))) (F0 H0 : Hp) :
    Ok tbH heardN G0 cs0 cl (cxOf C8.CX0 X.prog X.w X.K X.mg X.base heardN "_law_heard" sg g cdg X.A X.stack s H C8.E0).nox ⟨X.K, T, F0, H0, fun _ _ => False⟩ (csH sg) where
  hK := rfl
  hN := rfl
  nd := S.nd
  sc := rfl
  fn := rfl
  calm := rfl
  room := hr
  hcl := hcl
  free := free
  con := fun g x e => by simp [tbH] at e
  conT := fun g x e => by simp [tbH] at e
  call := fun d i sh e => by simp [tbH] at e
  tk := fun u s' ⟨a, B, sI, pins, σ, H, cls, d, e, I, nb, up, sky, na, os, ag, w⟩ => by
    obtain ⟨n, _, _, z⟩ := w
    exact z.elim
  own := PassesOwn.never
  exc := fun n x e => by
    obtain ⟨h1, h2, h3, h4⟩ := exc n x e
    exact ⟨h1, h2, h3, h4⟩
  nine := fun _ => nine
  heard := fun _ z => by cases z
theorem tail_exc {K : PySem.W.Frag} {T : Tn} {F' H' : Hp} {t' : Tw} {n : Nat} {a : Addr} {σ' : L2.St} {Q : VK} {nx : L2.St → Hp → Prop} (hn : n < 9) (RF : RelH K T F' H' F' t' H') (ha : H' a = none) (hl : σ'.length = 7)
    (hq : ∀ v F2 H2, RelH K T F' H' F2 t' H2 → Rp K T F2 v (.tup [.str (hWord n)]) → Q v H2) :
    tS ⟨K, T, F', H', fun _ _ => False⟩ (evSs G0 cs0 heardT) { nx := nx, rt := Q } (((σ'.set 3 (some (.ref a))).set 1 (some (.ref a))).set 3 none) (L2.upd H' a (ExI (.ref (T.cl n)) a)) := by
  have b2 := RF.newF (o := ExI (.ref (T.cl n)) a) ha (by intro _ z; cases z)
  obtain ⟨r, er⟩ := heardT_exc n hn t'
  refine ⟨_, [.un, .val (.exc n), .un, .un, .un, .un, .un], t', ⟨b2, by simp [hl], fun i d e => ?_, fun i d e => ?_, fun i j d e p e1 => ?_⟩, ?_⟩
  · match i, e with
    | 1, e =>
      cases e
      refine ⟨.ref a, ?_, .exc n upd_same⟩
      rw [List.getElem?_set_ne (by decide), List.getElem?_set_self (by simp [hl])]
    | 0, e => cases e
    | 2, e => cases e
    | 3, e => cases e
    | 4, e => cases e
    | 5, e => cases e
    | 6, e => cases e
    | i + 7, e => simp at e
  · match i, e with
    | 0, e => cases e
    | 1, e => cases e
    | 2, e => cases e
    | 3, e => cases e
    | 4, e => cases e
    | 5, e => cases e
    | 6, e => cases e
    | i + 7, e => simp at e
  · match i, e1 with
    | 0, e => cases e
    | 1, e => cases e
    | 2, e => cases e
    | 3, e => cases e
    | 4, e => cases e
    | 5, e => cases e
    | 6, e => cases e
    | i + 7, e => simp at e
  · rw [er]
    exact fun v F2 H2 _ R' rv => hq v F2 H2 R' rv
theorem tail_told {K : PySem.W.Frag} {T : Tn} {F' H' : Hp} {t' : Tw} {d : D} {v f : V} {Q : VK} {nx : L2.St → Hp → Prop} (RF : RelH K T F' H' F' t' H') (rv : Rp K T F' v d)
    (hq : ∀ w F2 H2, RelH K T F' H' F2 t' H2 → Rp K T F2 w (.tup [.str "told", d]) → Q w H2) :
    tS ⟨K, T, F', H', fun _ _ => False⟩ (evSs G0 cs0 heardT) { nx := nx, rt := Q } ((((L2.start heardN [f]).set 1 (some .non)).set 2 (some .non)).set 2 (some v)) H' := by
  refine ⟨_, [.un, .val .non, .val d, .un, .un, .un, .un], t', ⟨RF, rfl, fun i d' e => ?_, fun i d e => ?_, fun i j d e p e1 => ?_⟩, ?_⟩
  · match i, e with
    | 1, e =>
      cases e
      exact ⟨.non, rfl, .non⟩
    | 2, e =>
      cases e
      exact ⟨v, rfl, rv⟩
    | 0, e => cases e
    | 3, e => cases e
    | 4, e => cases e
    | 5, e => cases e
    | 6, e => cases e
    | i + 7, e => simp at e
  · match i, e with
    | 0, e => cases e
    | 1, e => cases e
    | 2, e => cases e
    | 3, e => cases e
    | 4, e => cases e
    | 5, e => cases e
    | 6, e => cases e
    | i + 7, e => simp at e
  · match i, e1 with
    | 0, e => cases e
    | 1, e => cases e
    | 2, e => cases e
    | 3, e => cases e
    | 4, e => cases e
    | 5, e => cases e
    | 6, e => cases e
    | i + 7, e => simp at e
  · rw [heardT_told]
    exact fun v F2 H2 _ R' rv => hq v F2 H2 R' rv
theorem heard_gives {X : Cx} {T : Tn} {cl : Nat → Addr} {CF : Addr} (hk : HeardK X.K X.mg cl CF) (hcl : T.cl = cl) (free : ∀ x ∈ freeNames, X.mg x = none) (nine : Nine X.K cl) (exc : ∀ n x, nineEx.lookup n = some x → ExcOk X (cl n) x) {sg : Scope} {g : Addr} {cdg : Value} {bg : List Stmt} {q : Str}
    (S : FnScope heardN ["deed"] sg) (hr : Room 1 X.A) (hm : mHeard sg bg = true) : LamX.GivesTo X heardN "_law_heard" sg g cdg bg "deed" q (TTh X.K T) := by
  intro f c' s H Q tl act hc h
  obtain ⟨F, t, R0, h⟩ := h
  have ok := heardT_ok (g := g) (cdg := cdg) hcl free nine exc S s H (hr.deeper _)
  unfold mHeard at hm
  split at hm
  · rename_i a1 q1 a2 q2 k1 q3 j1 q4 j2 q5 k2 q6 q7 a3 q8 a4 q9 q10 q11 a5 q12 a6 a7 q13 a8 q14 q15 q16 q17 rest
    obtain ⟨hm, m10⟩ := and2 hm
    obtain ⟨hm, m9⟩ := and2 hm
    obtain ⟨hm, m8⟩ := and2 hm
    obtain ⟨hm, m7⟩ := and2 hm
    obtain ⟨hm, m6⟩ := and2 hm
    obtain ⟨hm, m5⟩ := and2 hm
    obtain ⟨hm, m4⟩ := and2 hm
    obtain ⟨hm, m3⟩ := and2 hm
    obtain ⟨m1, m2⟩ := and2 hm
    obtain rfl := of_decide_eq_true m4
    obtain rfl := of_decide_eq_true m5
    have ok0 := ok H H
    obtain ⟨n1, l1, f1⟩ := tgtB_of ok0 m1
    obtain ⟨n2, l2, f2⟩ := tgtB_of ok0 m2
    obtain ⟨n3, l3, f3⟩ := tgtB_of ok0 m3
    obtain ⟨n7, l7, f7⟩ := tgtB_of ok0 m8
    obtain ⟨n8, v8, d8, c8⟩ := varB_of ok0 m9
    obtain ⟨n6, l6, _⟩ := locAt_of ok0 m7
    obtain ⟨g5, d5, _⟩ := glB_of ok0 m6
    have nd := S.nd
    have st1 := ps_asg (X := (cxOf C8.CX0 X.prog X.w X.K X.mg X.base heardN "_law_heard" sg g cdg X.A X.stack s H C8.E0).nox) (pos := q7) (pe_tup (x1 := k2) (pos := q6) (pa_cons (pe_non (j := j1) (pos := q4)) (pa_cons (pe_non (j := j2) (pos := q5)) pa_nil rfl) rfl))
      (pg_tup (pos := q3) (k := k1) rfl (pgs_cons (pg_name (pos := q1) nd n1 l1 f1) (pgs_cons (pg_name (pos := q2) nd n2 l2 f2) pgs_nil))) rfl (none_of (c := csH sg) rfl (by simp [noneB]; exact .inr ⟨rfl, rfl⟩)) rfl
    have st2 := ps_try_keep (X := (cxOf C8.CX0 X.prog X.w X.K X.mg X.base heardN "_law_heard" sg g cdg X.A X.stack s H C8.E0).nox) (i := 3) (c := .ref CF) (x := "FormError") (np := q12) (pos := q17) (pos' := q16) (suite := []) (b₀ := .Assign [.Name a7 q13] (.Name a8 q14) q15)
      (tb := fun W D σ H => ∃ (Ech : XK) (Qch : VK), (∀ cls d σ' H', Ech cls d H' → W cls d σ' H') ∧ (∀ v H', Qch v H' → D.nx (σ.set 2 (some v)) H') ∧ σ[0]? = some (some (.ref f)) ∧ H c' = some (LamX.CodeO c' q) ∧ tl Ech H Qch)
      (ts := fun _ _ _ => tAsg (tVar 3) (gName 1)) (body := [.Assign [.Name a3 q8] (.Call (.Name "deed" q9) [] [] q10) q11]) rfl rfl rfl nd n6 l6 ⟨g5, d5, .inl hk.form⟩ (fun W pn xe tk _ => ?_) (fun a oe cls d pn _ _ => pss_one (asg_plain (by exact nd) n7 l7 (pe_var n8 v8 d8 c8) (sw_plain rfl) f7))
    refine ⟨_, pss_cons st1 (pss_cons st2 (u := fun D σ H => ∃ F0 H0, tS ⟨X.K, T, F0, H0, fun _ _ => False⟩ (evSs G0 cs0 heardT) D σ H) ⟨fun pins s1 σ H1 D I ⟨F0, H0, h⟩ => (sSs (ok F0 H0) heardT m10).run pins s1 σ H1 D I h⟩), ?_⟩
    · refine ⟨by decide, fun p hp => ⟨p, _, rfl, .inl (.inl upd_same), rfl, .non, _, rfl, .non, _, rfl, rfl, ?_⟩⟩
      have bF := R0.newF (o := .tup [.non, .non]) hp
      refine ⟨_, _, fun cls d σ' H' z => ?_, fun v H' z => ?_, rfl, by rw [upd_ne (ne_of_none hc hp)]; exact hc, h _ _ bF⟩
      · obtain ⟨n, F', t', hn, rfl, rfl, RF, hq⟩ := z
        rw [hcl]
        refine ⟨rfl, hk.exm n hn, fun hl a ha => ⟨.ref a, ?_, fun ha2 => ?_⟩⟩
        · have hl : σ'.length = 7 := hl
          rw [List.getElem?_set_self (by rw [hl]; decide)]
        · subst hcl
          exact ⟨_, _, tail_exc hn RF ha2 hl hq⟩
      · obtain ⟨F', t', d, RF, rv, hq⟩ := z
        exact ⟨_, _, tail_told RF rv hq⟩
    · refine ⟨fun pins s' σ H' D I h' => ?_⟩
      obtain ⟨Ech, Qch, hW, hQ, h1, h2, h3⟩ := h'
      have hp := act W pn xe Ech q9 q10 tk hW
      have hp2 : PE _ (.Call (.Name "deed" q9) [] [] q10) (fun σZ HZ Q => ∃ Qch : VK, (∀ v H', Qch v H' → Q v H') ∧ σZ[0]? = some (some (.ref f)) ∧ HZ c' = some (LamX.CodeO c' q) ∧ tl Ech HZ Qch) := ⟨fun pins s σ H Q I ⟨Qch, m, z⟩ => thn (hp.run pins s σ H Qch I z) fun u s1 ⟨v, H1, I1, r, w⟩ => ⟨v, H1, I1, r, m v H1 w⟩⟩
      have hq := pss_one (asg_plain (X := (cxOf C8.CX0 X.prog X.w X.K X.mg X.base heardN "_law_heard" sg g cdg X.A X.stack s H C8.E0).tr pn xe) (pos := q11) (py := q8) (i := 2) (by exact nd) n3 l3 hp2 (sw_plain rfl) f3)
      exact hq.run pins s' σ H' D I ⟨Qch, hQ, h1, h2, h3⟩
  · cases hm
end Fm

/-! ### defs: what a call tells, by levels -/
namespace Fm
open PySem PySem.Spec PyProof.Rows L2
structure Fd where
  ps : List Str
  N : List Str
  body : Ss
inductive Fn where
  | df (f : Fd)
  | nat (ps : List Str) (g : List Int → List D → Tw → Res D)
def Fn.ps : Fn → List Str
  | .df f => f.ps
  | .nat ps _ => ps
structure Pg where
  tb : Tb
  fs : List Fn
  cs : Nat → D
def startR (N : List Str) (ds : List D) : Rho := ds.map .val ++ List.replicate (N.length - ds.length) .un
def retD : Res (Fl × Rho) → Res D
  | .ok (.ret d, _) t => .ok d t
  | .ok (.nx, _) t => .ok .non t
  | .ok (.brk, _) _ => .bad
  | .ok (.cont, _) _ => .bad
  | .exc n t => .exc n t
  | .bad => .bad
/-- the levels up to k -/
noncomputable def lev (p : Pg) (ns : List Int) : Nat → Nat → Nat → List D → Tw → Res D
  | 0 => fun _ _ _ _ => .bad
  | k + 1 => fun m i ds t => if m ≤ k then lev p ns k m i ds t else match p.fs[i]? with
    | some (.df f) => retD (evSs ⟨k, fun d j xs ys t => match p.tb.sh[j]? with
      | some sh => lev p ns k (k - d) sh.fn (xs ++ ys ++ sh.dfl.map Cst.d) t
      | none => .bad⟩ p.cs f.body (startR f.N ds) t)
    | some (.nat _ g) => g ns ds t
    | none => .bad
noncomputable def callF (p : Pg) (ns : List Int) (k i : Nat) (ds : List D) (t : Tw) : Res D := lev p ns k k i ds t
theorem lev_le (p : Pg) (ns : List Int) : ∀ (k m : Nat), m ≤ k → lev p ns k m = lev p ns m m
  | 0, m, h => by
    obtain rfl : m = 0 := by omega
    rfl
  | k + 1, m, h => by
    by_cases hm : m ≤ k
    · rw [← lev_le p ns k m hm]
      funext i ds t
      show (if m ≤ k then _ else _) = _
      rw [if_pos hm]
    · obtain rfl : m = k + 1 := by omega
      rfl
/-- what calls tell, of level k -/
noncomputable def gam (p : Pg) (ns : List Int) (k : Nat) : Gam := ⟨k, fun d j xs ys t => match p.tb.sh[j]? with
  | some sh => callF p ns (k - d) sh.fn (xs ++ ys ++ sh.dfl.map Cst.d) t
  | none => .bad⟩
@[simp] theorem gam_low (p : Pg) (ns : List Int) (k : Nat) : (gam p ns k).low = gam p ns (k - 2) := by
  unfold gam Gam.low
  congr 1
  funext d j xs ys t
  simp only [Nat.add_comm d 2, Nat.sub_add_eq]
@[simp] theorem gam_lv (p : Pg) (ns : List Int) (k : Nat) : (gam p ns k).lv = k := rfl
theorem callF_zero {p : Pg} {ns : List Int} {i : Nat} (ds : List D) (t : Tw) : callF p ns 0 i ds t = .bad := rfl
theorem gam_lev (p : Pg) (ns : List Int) (k : Nat) : (⟨k, fun d j xs ys t => match p.tb.sh[j]? with
      | some sh => lev p ns k (k - d) sh.fn (xs ++ ys ++ sh.dfl.map Cst.d) t
      | none => .bad⟩ : Gam) = gam p ns k := by
  unfold gam
  congr 1
  funext d j xs ys t
  unfold callF
  rw [lev_le p ns k (k - d) (Nat.sub_le k d)]
theorem callF_df {p : Pg} {ns : List Int} {k i : Nat} {f : Fd} (h : p.fs[i]? = some (.df f)) (ds : List D) (t : Tw) : callF p ns (k + 1) i ds t = retD (evSs (gam p ns k) p.cs f.body (startR f.N ds) t) := by
  rw [← gam_lev]
  show (if k + 1 ≤ k then _ else _) = _
  rw [if_neg (by omega), h]
theorem callF_nat {p : Pg} {ns : List Int} {k i : Nat} {ps : List Str} {g : List Int → List D → Tw → Res D} (h : p.fs[i]? = some (.nat ps g)) (ds : List D) (t : Tw) : callF p ns (k + 1) i ds t = g ns ds t := by
  show (if k + 1 ≤ k then _ else _) = _
  rw [if_neg (by omega), h]
structure Bnd (K : PySem.W.Frag) (mg : Str → Option Value) (sh : Sh) (fa : Addr) (fd : FuncData) (ps : List Str) : Prop where
  mg : mg sh.name = some (.ref fa)
  kp : PySem.W.keepIn K (.ref fa) = true
  len : sh.np + sh.ks.length + sh.dfl.length = ps.length
  b0 : sh.ks = [] → ∃ ds, Vals (sh.dfl.map Cst.v) ds ∧ Binds K fd ps ds
  b1 : sh.ks ≠ [] → ∃ gg, KBn K fd ps sh.np sh.ks gg (fun vs zs => vs ++ zs ++ sh.dfl.map Cst.v)
structure ExcK (K : PySem.W.Frag) (mg : Str → Option Value) (C : Addr) (x : Str) : Prop where
  q : PySem.W.excIn K C He.veBase "ValueError.__new__" = true
  g : mg x = some (.ref C)
  k : PySem.W.keepIn K (.ref C) = true
  s : PySem.W.subIn K (.ref C) (.type "BaseException") = some true
  t : PySem.W.typeIn K (.ref C) = some (.type "type")
/-- what the head tells -/
structure Hd (p : Pg) (P : Program) (w : World) (K : PySem.W.Frag) (mg : Str → Option Value) (base : Heap) (cl : Nat → Addr) (fad : Nat → Addr) (ffd : Nat → FuncData) : Prop where
  free : ∀ x ∈ freeNames, mg x = none
  con : ∀ (g : Nat) (x : Str), p.tb.cs[g]? = some x → ∃ u v, mg x = some u ∧ RelV v u ∧ ∀ T, Rp K T (fun _ => none) v (p.cs g)
  conT : ∀ (g : Nat) (x : Str), p.tb.cs[g]? = some x → isSq false (p.cs g) = true → ∃ (a : Addr) (o : Obj) (xs : List V) (ds : List D), mg x = some (.ref a) ∧ K.lookup a = some o ∧ o.cls = .type "tuple" ∧ o.dict = none ∧ p.cs g = .tup ds ∧ SqT K (fun _ => none) a xs ∧ ∀ T, RpL K T (fun _ => none) xs ds
  exc : ∀ (n : Nat) (x : Str), p.tb.ex.lookup n = some x → ExcK K mg (cl n) x
  nine : p.tb.hd = true → Nine K cl
  sh : ∀ (j : Nat) (sh : Sh), p.tb.sh[j]? = some sh → ∃ fn : Fn, p.fs[sh.fn]? = some fn ∧ Bnd K mg sh (fad sh.fn) (ffd sh.fn) fn.ps
  df : ∀ (i : Nat) (f : Fd), p.fs[i]? = some (.df f) → ∃ x params body scope dvs kws, FunD K x x params body scope dvs kws (fad i) (ffd i) ∧ FnScope f.N f.ps scope ∧ mSs p.tb f.N ⟨scope, fun _ => true, false⟩ f.body body = true
  nat : ∀ (i : Nat) (ps : List Str) (g : List Int → List D → Tw → Res D), p.fs[i]? = some (.nat ps g) → ∀ T, T.cl = cl → FnOk P w K mg base (CX P w) 1 (fad i) (ffd i) ps (spD K T cl ps.length (g T.ns))
theorem map_get {ds : List D} {n i : Nat} {s : Sl} (h : (ds.map Sl.val ++ List.replicate n Sl.un)[i]? = some s) : (∃ d, s = .val d ∧ ds[i]? = some d) ∨ s = .un := by
  by_cases hi : i < ds.length
  · rw [List.getElem?_append_left (by rw [List.length_map]; exact hi), List.getElem?_map] at h
    obtain ⟨d, e, z⟩ := Option.map_eq_some_iff.mp h
    exact .inl ⟨d, z.symm, e⟩
  · rw [List.getElem?_append_right (by rw [List.length_map]; omega), List.getElem?_replicate] at h
    split at h
    · exact .inr (Option.some.inj h).symm
    · cases h
/-- at a def's entry -/
theorem Rel.start {K : PySem.W.Frag} {T : Tn} {F H : Hp} {t : Tw} {N : List Str} {vs : List V} {ds : List D} (R : RelH K T F H F t H) (rv : RpL K T F vs ds) : Rel K T F H F (startR N ds) t (L2.start N vs) H := by
  refine ⟨R, ?_, fun i d h => ?_, fun i d h => ?_, fun i j d e q h => ?_⟩
  · unfold startR L2.start
    simp [rv.length]
  · rcases map_get h with ⟨d', z, e⟩ | z
    · cases z
      obtain ⟨v, ev, q⟩ := rv.get e
      refine ⟨v, ?_, q⟩
      unfold L2.start
      have hi : i < vs.length := (List.getElem?_eq_some_iff.mp ev).1
      rw [List.getElem?_append_left (by rw [List.length_map]; exact hi), List.getElem?_map, ev]
      rfl
    · cases z
  · rcases map_get h with ⟨d', z, e⟩ | z <;> cases z
  · rcases map_get h with ⟨d', z, e⟩ | z <;> cases z
/-- in a def's body -/
theorem mkOk {p : Pg} {P : Program} {w : World} {K : PySem.W.Frag} {mg : Str → Option Value} {base : Heap} {cl : Nat → Addr} {fad : Nat → Addr} {ffd : Nat → FuncData} (hd : Hd p P w K mg base cl fad ffd) (T : Tn) (hT : T.cl = cl) {k : Nat}
    (ih : ∀ j, j ≤ k → ∀ (i : Nat) (fn : Fn), p.fs[i]? = some fn → FnOk P w K mg base (CX P w) j (fad i) (ffd i) fn.ps (spD K T cl fn.ps.length (callF p T.ns j i)))
    {N ps : List Str} {x : Str} {scope : Scope} {f : Addr} {cdv : Value} {A : Around} {outer : List Env} {s : Shared} {H : Hp} {E : XK} (S : FnScope N ps scope) (hr : Room k (A.deeper (envOfC x scope s.heap.objs.size f cdv))) (F0 H0 : Hp) (lm : Bool)
    (hh : p.tb.hd = true → lm = true → Heard (cxOf (CX P w) P w K mg base N x scope f cdv A outer s H E) ⟨K, T, F0, H0, fun n H' => E (.ref (cl n)) none H'⟩) :
    Ok p.tb N (gam p T.ns k) p.cs cl (cxOf (CX P w) P w K mg base N x scope f cdv A outer s H E) ⟨K, T, F0, H0, fun n H' => E (.ref (cl n)) none H'⟩ ⟨scope, fun _ => true, lm⟩ where
  hK := rfl
  hN := rfl
  nd := S.nd
  sc := rfl
  fn := rfl
  calm := rfl
  room := hr
  hcl := hT
  free := hd.free
  con := fun g x e => by
    obtain ⟨u, v, a, b, c⟩ := hd.con g x e
    exact ⟨u, v, a, b, c T⟩
  conT := fun g x e z => by
    obtain ⟨a, o, xs, ds, h1, h2, h3, h4, h5, h6, h7⟩ := hd.conT g x e z
    exact ⟨a, o, xs, ds, h1, h2, h3, h4, h5, h6, h7 T⟩
  call := fun d j sh e hdk => by
    obtain ⟨fn, e2, b⟩ := hd.sh j sh e
    refine ⟨fad sh.fn, ffd sh.fn, fn.ps, callF p T.ns (k - d) sh.fn, ?_, b.mg, b.kp, b.b0, b.b1, fun xs ys t => ?_⟩
    · have := ih (k - d) (Nat.sub_le k d) sh.fn fn e2
      rw [← b.len] at this
      exact this
    · show (match p.tb.sh[j]? with
        | some sh => _
        | none => _) = _
      rw [e]
  tk := by
    have tk := takes_of (X := cxOf (CX P w) P w K mg base N x scope f cdv A outer s H E) (E := E) rfl rfl rfl rfl
    exact fun u s' z => tk u s' (by
      obtain ⟨a, B, sI, pins, σ, H, cls, d, e, I, nb, up, sky, na, os, ag, wn⟩ := z
      obtain ⟨n, e1, e2, z⟩ := wn
      exact ⟨a, B, sI, pins, σ, H, cls, d, e, I, nb, up, sky, na, os, ag, by rw [e1, e2]; exact z⟩)
  own := passes_of rfl
  exc := fun n x e => by
    obtain ⟨a, b, c, d, e⟩ := hd.exc n x e
    exact ⟨a, b, c, raises_own d e⟩
  nine := hd.nine
  heard := hh
theorem fnOk {p : Pg} {P : Program} {w : World} {K : PySem.W.Frag} {mg : Str → Option Value} {base : Heap} {cl : Nat → Addr} {fad : Nat → Addr} {ffd : Nat → FuncData} (hd : Hd p P w K mg base cl fad ffd) (T : Tn) (hT : T.cl = cl) :
    ∀ (k i : Nat) (fn : Fn), p.fs[i]? = some fn → FnOk P w K mg base (CX P w) k (fad i) (ffd i) fn.ps (spD K T cl fn.ps.length (callF p T.ns k i)) := by
  intro k
  induction k using Nat.strongRecOn with
  | ind k ih =>
  cases k with
  | zero =>
    intro i fn hf
    refine ⟨fun vs H Q E h => ?_, fun A outer s H args us vs Q E _ _ _ _ h => ?_⟩
    · obtain ⟨_, _, _, _, _, _, z⟩ := h
      rw [callF_zero] at z
      exact z.elim
    · obtain ⟨_, _, _, _, _, _, z⟩ := h
      rw [callF_zero] at z
      exact z.elim
  | succ k =>
    intro i fn hf
    cases fn with
    | nat ps g =>
      have e : callF p T.ns (k + 1) i = g T.ns := by
        funext ds t
        exact callF_nat hf ds t
      rw [e]
      exact (hd.nat i ps g hf T hT).mono (by omega)
    | df f =>
      obtain ⟨x, params, body, scope, dvs, kws, F, S, hm⟩ := hd.df i f hf
      refine F.ok S (fun vs H Q E h => ?_) fun cdv A outer s H vs Q E hr h => ?_
      · obtain ⟨_, _, _, _, rv, hl, _⟩ := h
        rw [rv.length, hl]
      · obtain ⟨F0, t, ds, R, rv, hl, q⟩ := h
        rw [callF_df hf] at q
        refine ⟨tS ⟨K, T, F0, H, fun n H' => E (.ref (cl n)) none H'⟩ (evSs (gam p T.ns k) p.cs f.body), ?_, F0, startR f.N ds, t, Rel.start R rv, ?_⟩
        · exact sSs (mkOk hd T hT (fun j hj => ih j (by omega)) S hr F0 H false (fun _ z => by cases z)) f.body hm
        · cases er : evSs (gam p T.ns k) p.cs f.body (startR f.N ds) t with
          | ok r t' =>
            rw [er] at q
            obtain ⟨fl, r⟩ := r
            cases fl with
            | nx => exact fun F' σ' H' _ R' => q .non F' H' R'.toRelH .non
            | ret d => exact fun v F' H' _ R' rv => q v F' H' R' rv
            | brk => exact q.elim
            | cont => exact q.elim
          | exc n t' =>
            rw [er] at q
            exact fun F' H' _ R' => q F' H' R'
          | bad =>
            rw [er] at q
            exact q.elim
end Fm

/-! ### the law's def: the town is made, then data alone -/
namespace Fm
open PySem PySem.Spec PyProof.Rows L2
def isBegun : List Stmt → Bool
  | [.Return (some (.Dict [some k1, some k2] [.Constant (.int z) _ _, .Dict [] [] _] _)) _] => isStr "count" k1 && isStr "rests" k2 && decide (z = 0)
  | _ => false
def spB : Sp := fun vs H Q _ => vs = [] ∧ ∀ a b H', H a = none → H b = none → a ≠ b → H' a = some (.dK [(.inr "count", .int 0), (.inr "rests", .ref b)]) → H' b = some (.dK []) → (∀ c, c ≠ a → c ≠ b → H' c = H c) → Q (.ref a) H'
theorem begun_ok {CX : CXT} {P : Program} {w : World} {K : PySem.W.Frag} {mg : Str → Option Value} {base : Heap} {x : Str} {params : Arguments} {body : List Stmt} {scope : Scope} {f : Addr} {fd : FuncData} (F : FunD K x x params body scope [] [] f fd) (S : FnScope [] [] scope) (hb : isBegun body = true) :
    FnOk P w K mg base CX 1 f fd [] spB := by
  refine F.ok S (fun vs H Q E h => by rw [h.1]; rfl) fun cdv A outer s H vs Q E hr h => ?_
  unfold isBegun at hb
  split at hb
  · rename_i k1 k2 z j1 q1 q2 q3 q4
    obtain ⟨hb, h3⟩ := and2 hb
    obtain ⟨h1, h2⟩ := and2 hb
    obtain ⟨a1, a2, rfl⟩ := isStr_of h1
    obtain ⟨b1, b2, rfl⟩ := isStr_of h2
    obtain rfl := of_decide_eq_true h3
    refine ⟨_, pss_one (ps_ret (pe_disp (pps_cons pe_str pe_int (pps_cons pe_str pe_dnewK pps_nil)) rfl rfl (by simp) (by simp))), ?_⟩
    obtain ⟨rfl, h⟩ := h
    intro p hp b hb
    obtain ⟨hb, hpb⟩ := upd_none hb
    refine ⟨?_, [(.inr "count", .int 0), (.inr "rests", .ref b)], rfl, by simp, ?_⟩
    · rw [upd_ne (Ne.symm hpb), upd_same]
    · refine h p b _ hp hb (Ne.symm hpb) ?_ ?_ fun c n1 n2 => ?_
      · rw [upd_same]
        rfl
      · rw [upd_ne hpb, upd_same]
      · rw [upd_ne n1, upd_ne n2, upd_ne n1]
  · cases hb
def mLaw (tb : Tb) (N : List Str) (c : Cs) (L : Ss) : List Stmt → Bool
  | .Assign [.Name y _] (.Call (.Name b _) [] [] _) _ :: rest => decide (b = "_law_begun") && glB c b && tgtB N c 1 y && mSs tb N c L rest
  | _ => false
def startL (N : List Str) (ns : List Int) : Rho := (startR N [.scr ns]).set 1 (.val .tok)
def spLaw (K : PySem.W.Frag) (tabs : List Addr) : Sp := fun vs H Q _ => ∃ (a : Addr) (ns : List Int), vs = [.ref a] ∧ ns.length ≤ 63 ∧ (∀ z ∈ ns, Builtin.Int.intBits z ≤ 1048576) ∧ SqL K H a (ns.map V.int) ∧ (∀ p ∈ tabs, H p = some (.tbl #[])) ∧ ∀ H', Q (.bl true) H'
/-- the tables left out -/
def noTab (H : Hp) : Hp := fun b => match H b with
  | some (.tbl _) => none
  | o => o
theorem noTab_same (H : Hp) : Same (noTab H) H := fun b o h => by
  unfold noTab at h
  split at h
  · cases h
  · exact h
theorem noTab_nt (H : Hp) (b : Addr) (o : HO) (h : noTab H b = some o) : NT o := fun ps z => by
  unfold noTab at h
  split at h
  · cases h
  · rename_i n
    rw [z] at h
    exact n ps h
theorem noTab_of {H : Hp} {b : Addr} {o : HO} (h : H b = some o) (n : NT o) : noTab H b = some o := by
  unfold noTab
  rw [h]
  cases o <;> first | rfl | exact absurd rfl (n _)
theorem sqL_noTab {K : PySem.W.Frag} {H : Hp} {a : Addr} {xs : List V} (h : SqL K H a xs) : SqL K (noTab H) a xs := by
  rcases h with h | h
  · rcases h with h | ⟨o, h⟩
    · exact .inl (.inl (noTab_of h (by intro _ z; cases z)))
    · exact .inl (.inr ⟨o, noTab_of h (by intro _ z; cases z)⟩)
  · exact .inr h
/-- what the head tells of the def that hears -/
structure HdH (p : Pg) (K : PySem.W.Frag) (mg : Str → Option Value) (cl : Nat → Addr) : Prop where
  ex : ∃ (g CF : Addr) (fd : FuncData) (pg : Arguments) (bg : List Stmt) (sg : Scope), FunD K "_law_heard" "_law_heard" pg bg sg [] [] g fd ∧ Binds K fd ["deed"] [] ∧ FnScope heardN ["deed"] sg ∧ mHeard sg bg = true ∧ mg "_law_heard" = some (.ref g) ∧ HeardK K mg cl CF
  nine : ∀ n x, nineEx.lookup n = some x → p.tb.ex.lookup n = some x
theorem mkHeard {p : Pg} {P : Program} {w : World} {K : PySem.W.Frag} {mg : Str → Option Value} {base : Heap} {cl : Nat → Addr} {fad : Nat → Addr} {ffd : Nat → FuncData} (hd : Hd p P w K mg base cl fad ffd) (hH : HdH p K mg cl) (hh : p.tb.hd = true) {X : Cx} {Q : Pm} {c Pt : Addr} (hp : X.prog = P) (hK : X.K = K) (hK2 : Q.K = K) (hmg : X.mg = mg) (hb : X.base = base) (hcl : Q.T.cl = cl)
    (hr : Room 1 X.A) (TB : LamX.TabB base mg c Pt) (hcode : X.env.code = .ref c) (hm : (Pt, X.env.qual ++ "<lambda>") ∈ Q.T.tabs) (hu : ∀ p ∈ Q.T.tabs, p.1 = Pt → p.2 = X.env.qual ++ "<lambda>") : Heard X Q := by
  subst hp hmg hb
  obtain ⟨g, CF, fd, pg, bg, sg, F, b, S, hm1, hg, hk⟩ := hH.ex
  obtain ⟨oc, od, dV, kV, doc, pm, an, cdv, ct, osl, rfl, lk, hcd, _, _⟩ := F.ex
  subst hK
  refine ⟨g, c, Pt, pg, bg, sg, dV, kV, doc, pm, cdv, ct, oc, an, od, osl, hg, F.kp, lk, hcd, b, S, ?_, TB, hcode, hm, hu⟩
  rw [hK2]
  exact heard_gives hk hcl hd.free (hd.nine hh) (fun n x e => by
    obtain ⟨a, b, c, d, e⟩ := hd.exc n x (hH.nine n x e)
    exact ⟨a, b, c, raises_own d e⟩) S hr hm1
theorem lawOk {p : Pg} {P : Program} {w : World} {K : PySem.W.Frag} {mg : Str → Option Value} {base : Heap} {cl : Nat → Addr} {fad : Nat → Addr} {ffd : Nat → FuncData} (hd : Hd p P w K mg base cl fad ffd) {k : Nat} {f fB : Addr} {fd fdB : FuncData} {params paramsB : Arguments} {body bodyB : List Stmt} {scope scopeB : Scope}
    {x xB : Str} {N : List Str} {L : Ss} {tabs : List Addr} (F : FunD K x x params body scope [] [] f fd) (S : FnScope N ["script"] scope) (hm : mLaw p.tb N ⟨scope, fun _ => true, true⟩ L body = true) (FB : FunD K xB xB paramsB bodyB scopeB [] [] fB fdB) (SB : FnScope [] [] scopeB) (hB : isBegun bodyB = true)
    (bB : Binds K fdB [] []) (gB : mg "_law_begun" = some (.ref fB)) (hk : 1 ≤ k) (hH : p.tb.hd = true → HdH p K mg cl ∧ ∃ Pt ∈ tabs, ∀ c, fd.code = .ref c → LamX.TabB base mg c Pt)
    (hev : ∀ ns : List Int, ns.length ≤ 63 → (∀ z ∈ ns, Builtin.Int.intBits z ≤ 1048576) → ∃ r t, evSs (gam p ns k) p.cs L (startL N ns) ⟨0, []⟩ = .ok (.ret (.bl true), r) t) : FnOk P w K mg base (CX P w) (k + 1) f fd ["script"] (spLaw K tabs) := by
  obtain ⟨oc, od, dV, kV, doc, pm, an, cdv, ct, osl, rfl, lk, hcd, _, _⟩ := F.ex
  obtain ⟨c0, rfl⟩ := He.codeIn_ref hcd
  refine fn_of lk hcd S (fun vs H Q E h => ?_) fun A outer s H vs Q E hr h => ?_
  · obtain ⟨a, ns, rfl, _⟩ := h
    rfl
  · obtain ⟨a, ns, rfl, hns, hbits, hS, htab, hQ⟩ := h
    unfold mLaw at hm
    split at hm
    · rename_i y py b pb q1 q2 rest
      obtain ⟨hm, h4⟩ := and2 hm
      obtain ⟨hm, h3⟩ := and2 hm
      obtain ⟨h1, h2⟩ := and2 hm
      obtain rfl := of_decide_eq_true h1
      have tk := takes_of (X := cxOf (CX P w) P w K mg base N x scope f (.ref c0) A outer s H E) (E := E) rfl rfl rfl rfl
      have ok : ∀ T F0 H0, T.cl = cl → T.ns = ns → T.tabs = tabs.map (fun P => (P, (envOfC x scope s.heap.objs.size f (.ref c0)).qual ++ "<lambda>")) → Ok p.tb N (gam p ns k) p.cs cl (cxOf (CX P w) P w K mg base N x scope f (.ref c0) A outer s H E) ⟨K, T, F0, H0, fun n H' => E (.ref (cl n)) none H'⟩ ⟨scope, fun _ => true, true⟩ := by
        intro T F0 H0 eC eT eB
        subst eT
        refine mkOk hd T eC (fun j _ => fnOk hd T eC j) S hr F0 H0 true fun hh _ => ?_
        obtain ⟨hH, Pt, hPt, TB⟩ := hH hh
        refine mkHeard (Pt := Pt) (c := c0) hd hH hh rfl rfl rfl rfl rfl eC (hr.mono hk) (TB c0 rfl) rfl ?_ ?_
        · show _ ∈ T.tabs
          rw [eB]
          exact List.mem_map.mpr ⟨Pt, hPt, rfl⟩
        · intro p hp e
          have hp : p ∈ T.tabs := hp
          rw [eB] at hp
          obtain ⟨q, _, e⟩ := List.mem_map.mp hp
          rw [← e]
          rfl
      have ok0 := ok ⟨0, 0, 0, ns, _, cl⟩ H H rfl rfl rfl
      obtain ⟨t1, t2, t3⟩ := tgtB_of ok0 h3
      obtain ⟨g1, g2, g3⟩ := glB_of ok0 h2
      have st0 := asg_plain (pos := q2) (py := py) (by rw [ok0.hN]; exact ok0.nd) t1 t2 (pe_call0 (p := pb) (pos := q1) (begun_ok FB SB hB) (hr.mono hk) g1 gB FB.kp bB .nil (passes_call (E := E) tk fun _ _ _ _ h => h) g2) (sw_plain rfl) t3
      refine ⟨_, pss_cons st0 (u := fun D σ H' => ∃ T H0, T.cl = cl ∧ T.ns = ns ∧ T.tabs = tabs.map (fun P => (P, (envOfC x scope s.heap.objs.size f (.ref c0)).qual ++ "<lambda>")) ∧ tS ⟨K, T, noTab H, H0, fun n H' => E (.ref (cl n)) none H'⟩ (evSs (gam p ns k) p.cs L) D σ H') ⟨fun pins s1 σ H1 D I h => ?_⟩, ?_⟩
      · obtain ⟨T, H0, eC, eT, eB, h⟩ := h
        exact (sSs (ok T (noTab H) H0 eC eT eB) L h4).run pins s1 σ H1 D I h
      · refine ⟨rfl, fun ta tb H' ha hb hne e1 e2 e3 => ?_⟩
        refine ⟨⟨ta, tb, a, ns, _, cl⟩, H', rfl, rfl, rfl, noTab H, startL N ns, ⟨0, []⟩, ?_, ?_⟩
        · have fr : ∀ {b : Addr}, H b = none → noTab H b = none := fun {b} h => by
            unfold noTab
            rw [h]
          have R0 : RelH K ⟨ta, tb, a, ns, tabs.map (fun P => (P, (envOfC x scope s.heap.objs.size f (.ref c0)).qual ++ "<lambda>")), cl⟩ (noTab H) H' (noTab H) ⟨0, []⟩ H' := by
            refine ⟨fun c o h => ?_, fun _ _ h => .inl h, Same.refl _, fun _ _ h _ _ _ => h, fun _ h => h, ⟨e1, e2, hne, Nat.zero_le _⟩, fr ha, fr hb, sqL_noTab hS, fun q hq => ?_, noTab_nt H⟩
            · have h := noTab_same H _ _ h
              have n1 : c ≠ ta := fun z => by
                rw [z, ha] at h
                cases h
              have n2 : c ≠ tb := fun z => by
                rw [z, hb] at h
                cases h
              rw [e3 c n1 n2]
              exact h
            · obtain ⟨P0, hP0, rfl⟩ := List.mem_map.mp hq
              have h := htab P0 hP0
              refine LamX.TabS.nil ?_
              have n1 : P0 ≠ ta := fun z => by
                rw [z, ha] at h
                cases h
              have n2 : P0 ≠ tb := fun z => by
                rw [z, hb] at h
                cases h
              show H' P0 = _
              rw [e3 P0 n1 n2]
              exact h
          have hN2 : 1 < N.length := (List.getElem?_eq_some_iff.mp t1).1
          refine ⟨R0, ?_, fun i d h => ?_, fun i d h => ?_, fun i j d e q h => ?_⟩
          · unfold startL startR L2.start
            simp
          · by_cases hi : 1 = i
            · subst hi
              unfold startL at h
              rw [List.getElem?_set_self (by unfold startR; simp; omega)] at h
              cases h
              refine ⟨.ref ta, ?_, .tok⟩
              rw [List.getElem?_set_self (by unfold L2.start; simp; omega)]
            · unfold startL at h
              rw [List.getElem?_set_ne hi] at h
              rw [List.getElem?_set_ne hi]
              rcases map_get h with ⟨d', z, e⟩ | z
              · cases z
                cases i with
                | zero =>
                  cases e
                  exact ⟨.ref a, rfl, .scr⟩
                | succ i => simp at e
              · cases z
          · unfold startL at h
            by_cases hi : 1 = i
            · subst hi
              rw [List.getElem?_set_self (by unfold startR; simp; omega)] at h
              cases h
            · rw [List.getElem?_set_ne hi] at h
              rcases map_get h with ⟨d', z, e⟩ | z <;> cases z
          · unfold startL at h
            by_cases hi : 1 = i
            · subst hi
              rw [List.getElem?_set_self (by unfold startR; simp; omega)] at h
              cases h
            · rw [List.getElem?_set_ne hi] at h
              rcases map_get h with ⟨d', z, e⟩ | z <;> cases z
        · obtain ⟨r, t, er⟩ := hev ns hns hbits
          rw [er]
          intro v F' H2 _ _ rv
          cases rv
          exact hQ H2
    · cases hm
end Fm

/-! ### the head: constants too -/
namespace Fm
open PySem PySem.Spec PyProof.Rows L2
mutual
/-- the value, in the written part, bears the datum -/
def dvB (K : PySem.W.Frag) : D → Value → Bool
  | .non, u => He.relB .non u
  | .bl b, u => He.relB (.bl b) u
  | .int i, u => He.relB (.int i) u
  | .str x, u => He.relB (.str x) u
  | .tup ds, .ref a => (match K.lookup a with
    | some ⟨.type c, none, .seq its _, _⟩ => decide (c = "tuple") && (decide (its.size ≤ sizeLine) && dvsB K ds its.toList)
    | _ => false)
  | _, _ => false
def dvsB (K : PySem.W.Frag) : List D → List Value → Bool
  | [], [] => true
  | d :: ds, u :: us => dvB K d u && dvsB K ds us
  | _, _ => false
end
mutual
theorem dvB_ok {K : PySem.W.Frag} : ∀ (d : D) {u : Value}, dvB K d u = true → ∃ v, RelV v u ∧ ∀ T, Rp K T (fun _ => none) v d
  | .non, u, h => ⟨.non, He.relB_ok (by rw [dvB] at h; exact h), fun _ => .non⟩
  | .bl b, u, h => ⟨.bl b, He.relB_ok (by rw [dvB] at h; exact h), fun _ => .bl b⟩
  | .int i, u, h => ⟨.int i, He.relB_ok (by rw [dvB] at h; exact h), fun _ => .int i⟩
  | .str x, u, h => ⟨.str x, He.relB_ok (by rw [dvB] at h; exact h), fun _ => .str x⟩
  | .tup ds, u, h => by
    cases u with
    | ref a =>
      rw [dvB] at h
      cases q : K.lookup a with
      | none =>
        rw [q] at h
        cases h
      | some o =>
        obtain ⟨oc, od, dt, osl⟩ := o
        rw [q] at h
        cases oc with
        | type c =>
          cases od with
          | some _ => cases dt <;> cases h
          | none =>
          cases dt with
          | seq its n =>
            obtain ⟨h1, h2⟩ := and2 (show (decide (c = "tuple") && (decide (its.size ≤ sizeLine) && dvsB K ds its.toList)) = true from h)
            obtain ⟨h3, h4⟩ := and2 h2
            obtain ⟨vs, r, t⟩ := dvsB_ok ds h4
            refine ⟨.ref a, rfl, fun T => .tup (xs := vs) (.inr ⟨_, its, n, q, congrArg Value.type (of_decide_eq_true h1), rfl, of_decide_eq_true h3, r⟩) ?_ (t T)⟩
            have := r.length
            have h3 := of_decide_eq_true h3
            rw [this]
            simpa using h3
          | _ => cases h
        | _ => cases od <;> cases dt <;> cases h
    | _ => rw [dvB] at h <;> first | cases h | (intros; intro z; cases z)
  | .lst ds, u, h => by cases u <;> (rw [dvB] at h <;> first | cases h | (intros; intro z; cases z))
  | .dct ds, u, h => by cases u <;> (rw [dvB] at h <;> first | cases h | (intros; intro z; cases z))
  | .tok, u, h => by cases u <;> (rw [dvB] at h <;> first | cases h | (intros; intro z; cases z))
  | .scr _, u, h => by cases u <;> (rw [dvB] at h <;> first | cases h | (intros; intro z; cases z))
  | .exc _, u, h => by cases u <;> (rw [dvB] at h <;> first | cases h | (intros; intro z; cases z))
  | .dcn _, u, h => by cases u <;> (rw [dvB] at h <;> first | cases h | (intros; intro z; cases z))
theorem dvsB_ok {K : PySem.W.Frag} : ∀ (ds : List D) {us : List Value}, dvsB K ds us = true → ∃ vs, Vals vs us ∧ ∀ T, RpL K T (fun _ => none) vs ds
  | [], [], _ => ⟨[], .nil, fun _ => .nil⟩
  | [], _ :: _, h => by simp [dvsB] at h
  | _ :: _, [], h => by simp [dvsB] at h
  | d :: ds, u :: us, h => by
    rw [dvsB] at h
    obtain ⟨h1, h2⟩ := and2 h
    obtain ⟨v, r, t⟩ := dvB_ok d h1
    obtain ⟨vs, r2, t2⟩ := dvsB_ok ds h2
    exact ⟨v :: vs, .cons r r2, fun T => .cons (t T) (t2 T)⟩
end
def mgB (K : PySem.W.Frag) (x : Str) (d : D) : Bool := match PySem.W.nsIn K mainGlobals x with
  | some (some u) => dvB K d u
  | _ => false
theorem mgB_ok {K : PySem.W.Frag} {h : Heap} {mg : Str → Option Value} (X : K.In h) (G : h.Ns mainGlobals mg) {x : Str} {d : D} (c : mgB K x d = true) : ∃ u v, mg x = some u ∧ RelV v u ∧ ∀ T, Rp K T (fun _ => none) v d := by
  unfold mgB at c
  cases e : PySem.W.nsIn K mainGlobals x with
  | none =>
    rw [e] at c
    cases c
  | some o =>
    rw [e] at c
    cases o with
    | none => cases c
    | some u =>
      obtain ⟨v, r, t⟩ := dvB_ok d c
      exact ⟨u, v, PySem.W.mg_of X G e, r, t⟩
theorem mgT_ok {K : PySem.W.Frag} {h : Heap} {mg : Str → Option Value} (X : K.In h) (G : h.Ns mainGlobals mg) {x : Str} {ds : List D} (c : mgB K x (.tup ds) = true) :
    ∃ (a : Addr) (o : Obj) (xs : List V), mg x = some (.ref a) ∧ K.lookup a = some o ∧ o.cls = .type "tuple" ∧ o.dict = none ∧ SqT K (fun _ => none) a xs ∧ ∀ T, RpL K T (fun _ => none) xs ds := by
  unfold mgB at c
  cases e : PySem.W.nsIn K mainGlobals x with
  | none =>
    rw [e] at c
    cases c
  | some o =>
    rw [e] at c
    cases o with
    | none => cases c
    | some u =>
      have hm := PySem.W.mg_of X G e
      have c : dvB K (.tup ds) u = true := c
      cases u with
      | ref a =>
        rw [dvB] at c
        cases q : K.lookup a with
        | none =>
          rw [q] at c
          cases c
        | some o =>
          obtain ⟨oc, od, dt, osl⟩ := o
          rw [q] at c
          cases oc with
          | type cc =>
            cases od with
            | some _ => cases dt <;> cases c
            | none =>
            cases dt with
            | seq its n =>
              obtain ⟨h1, h2⟩ := and2 (show (decide (cc = "tuple") && (decide (its.size ≤ sizeLine) && dvsB K ds its.toList)) = true from c)
              obtain ⟨h3, h4⟩ := and2 h2
              obtain ⟨vs, r, t⟩ := dvsB_ok ds h4
              exact ⟨a, _, vs, hm, q, congrArg Value.type (of_decide_eq_true h1), rfl, .inr ⟨_, its, n, q, congrArg Value.type (of_decide_eq_true h1), rfl, of_decide_eq_true h3, r⟩, t⟩
            | _ => cases c
          | _ => cases od <;> cases dt <;> cases c
      | _ => rw [dvB] at c <;> first | cases c | (intros; intro z; cases z)
/-! ### the Hook -/
def clOf (ex : List (Nat × Str)) (K : PySem.W.Frag) (n : Nat) : Addr := match ex.lookup n with
  | some x => He.ga K x
  | none => 0
def isBlt (o : Option (Option Value)) (id : String) : Bool := match o with
  | some (some (.builtin i)) => decide (i = id)
  | _ => false
theorem isBlt_of {o : Option (Option Value)} {id : String} (h : isBlt o id = true) : o = some (some (.builtin id)) := by
  unfold isBlt at h
  split at h
  · rw [of_decide_eq_true h]
  · cases h
def isNo (o : Option (Option Value)) : Bool := match o with
  | some none => true
  | _ => false
theorem isNo_of {o : Option (Option Value)} (h : isNo o = true) : o = some none := by
  unfold isNo at h
  split at h
  · rfl
  · cases h
def excCB (K : PySem.W.Frag) (D : Addr) : Bool := isBlt (PySem.W.findIn K (.ref D) "__getattribute__") "BaseException.__getattribute__" && isNo (PySem.W.findIn K (.ref D) "__getattr__") && decide (PySem.W.subIn K (.ref D) (.type "BaseException") = some true) && PySem.W.hasDictIn K D && isBlt (PySem.W.findIn K (.ref D) "__class__") "object.__class__" &&
  isBlt (PySem.W.specialIn K (.builtin "object.__class__") "__get__") "getset_descriptor.__get__" && decide (PySem.W.takesIn K (.builtin "object.__class__") = some true) && decide (PySem.W.mroIn K D (.type "object") = some true)
theorem excCB_ok {K : PySem.W.Frag} {D : Addr} (h : excCB K D = true) : ExcC K D := by
  unfold excCB at h
  obtain ⟨h, h8⟩ := and2 h
  obtain ⟨h, h7⟩ := and2 h
  obtain ⟨h, h6⟩ := and2 h
  obtain ⟨h, h5⟩ := and2 h
  obtain ⟨h, h4⟩ := and2 h
  obtain ⟨h, h3⟩ := and2 h
  obtain ⟨h1, h2⟩ := and2 h
  exact ⟨isBlt_of h1, isNo_of h2, of_decide_eq_true h3, h4, isBlt_of h5, isBlt_of h6, of_decide_eq_true h7, of_decide_eq_true h8⟩
/-- the nine classes -/
def nineB (ex : List (Nat × Str)) (K : PySem.W.Frag) : Bool := (List.range 9).all fun m => excCB K (clOf ex K m) && decide (PySem.W.kitOne K (.ref (clOf ex K m)) (.type "ValueError") = some true) && decide (PySem.W.exmOne K (.ref (clOf ex K m)) (.ref (He.ga K "FormError")) = some true) &&
  (List.range 9).all fun n => decide (PySem.W.kitOne K (.ref (clOf ex K m)) (.ref (clOf ex K n)) = some (decide (m = n)))
theorem nineB_ok {ex : List (Nat × Str)} {K : PySem.W.Frag} (h : nineB ex K = true) : Nine K (clOf ex K) ∧ ∀ n, n < 9 → PySem.W.exmOne K (.ref (clOf ex K n)) (.ref (He.ga K "FormError")) = some true := by
  have key : ∀ m, m < 9 → _ := fun m hm => List.all_eq_true.mp h m (List.mem_range.mpr hm)
  refine ⟨⟨fun m hm => ?_, fun m n hm hn => ?_, fun m hm => ?_⟩, fun m hm => ?_⟩
  all_goals
    obtain ⟨h, h4⟩ := and2 (key m hm)
    obtain ⟨h, h3⟩ := and2 h
    obtain ⟨h1, h2⟩ := and2 h
  · exact excCB_ok h1
  · exact of_decide_eq_true (List.all_eq_true.mp h4 n (List.mem_range.mpr hn))
  · exact of_decide_eq_true h2
  · exact of_decide_eq_true h3
/-- the head's Bool -/
def exB (hd : Bool) (ex : List (Nat × Str)) (cst : List (Str × D)) (K : PySem.W.Frag) : Bool := (cst.all fun p => mgB K p.1 p.2) && (!hd || nineB ex K)
def tfOf (hd : Bool) : List He.Defn := if hd then [("law", none)] else []
structure SaysC (fa : List He.Fa) (fn : List He.DefD) (cst : List (Str × D)) (K : PySem.W.Frag) : Prop where
  d : He.SaysD fa fn K
  co : (cst.all fun p => mgB K p.1 p.2) = true
theorem SaysC.con {fa : List He.Fa} {fn : List He.DefD} {cst : List (Str × D)} {K : PySem.W.Frag} (c : SaysC fa fn cst K) (i : Nat) {x : Str} {d : D} (h : cst[i]? = some (x, d)) : mgB K x d = true :=
  List.all_eq_true.mp c.co _ (List.mem_of_getElem? h)
/-- the scope's check -/
def scB (N ps : List Str) (sc : Scope) : Bool := decide (sc.kind = .function) && !sc.isCoroutine && !sc.isGenerator && decide N.Nodup && decide (N.take ps.length = ps) && (ps.all fun x => decide (sc.names.lookup x = some .local) || decide (sc.names.lookup x = some .cell)) && sc.names.all fun y => decide (y.2 ≠ .free)
theorem scB_ok {N ps : List Str} {sc : Scope} (h : scB N ps sc = true) : FnScope N ps sc := by
  unfold scB at h
  obtain ⟨h, h7⟩ := and2 h
  obtain ⟨h, h6⟩ := and2 h
  obtain ⟨h, h5⟩ := and2 h
  obtain ⟨h, h4⟩ := and2 h
  obtain ⟨h, h3⟩ := and2 h
  obtain ⟨h1, h2⟩ := and2 h
  refine ⟨of_decide_eq_true h1, by simpa using h2, by simpa using h3, of_decide_eq_true h4, of_decide_eq_true h5, fun x hx => ?_, fun y hy => of_decide_eq_true (List.all_eq_true.mp h7 y hy)⟩
  have := List.all_eq_true.mp h6 x hx
  rcases Bool.or_eq_true_iff.mp this with h | h
  · exact .inl (of_decide_eq_true h)
  · exact .inr (of_decide_eq_true h)
/-- a def's check -/
def fdB (tb : Tb) (f : Fd) (d : He.DefD) : Bool := scB f.N f.ps d.scope && mSs tb f.N ⟨d.scope, fun _ => true, false⟩ f.body d.body && decide (d.name = d.qual)
end Fm

/-! ### the head's facts, all together -/
namespace Fm
open PySem PySem.Spec PyProof.Rows L2
def faOf (fn : List He.DefD) (ex : List (Nat × Str)) (hd : Bool) : List He.Fa := fn.map (fun d => .glo d.name) ++ (ex.map (fun q => .glo q.2) ++ (ex.map (fun q => .exc q.2) ++ (freeNames.map .free ++ (if hd then [.glo "FormError"] else []))))
def fadOf (fn : List He.DefD) (K : PySem.W.Frag) (i : Nat) : Addr := match fn[i]? with
  | some d => He.fAd K d.at_
  | none => 0
abbrev FunAt (K : PySem.W.Frag) (d : He.DefD) (fd : FuncData) : Prop := FunD K d.name d.qual d.params d.body d.scope (d.dvs K) (d.kws K) (He.fAd K d.at_) fd
section
variable {fn : List He.DefD} {ex : List (Nat × Str)} {hd : Bool} {cst : List (Str × D)} {K : PySem.W.Frag} {h : Heap} {mg : Str → Option Value}
theorem fun_all {fa : List He.Fa} (c : SaysC fa fn cst K) {d0 : He.DefD} (h0 : fn[0]? = some d0) : ∃ ffd : Nat → FuncData, ∀ (i : Nat) (d : He.DefD), fn[i]? = some d → FunAt K d (ffd i) := by
  refine Classical.axiomOfChoice (r := fun i fd => ∀ d, fn[i]? = some d → FunAt K d fd) fun i => ?_
  cases e : fn[i]? with
  | none => exact ⟨(c.d.def_ 0 h0).choose, fun d z => by cases z⟩
  | some d =>
    obtain ⟨fd, hf⟩ := c.d.def_ i e
    exact ⟨fd, fun d' z => by cases z; exact hf⟩
theorem fact_of {fa : List He.Fa} (c : SaysC fa fn cst K) {f : He.Fa} (m : f ∈ fa) : f.ok K = true := by
  obtain ⟨i, e⟩ := List.mem_iff_getElem?.mp m
  exact c.d.fact i e
theorem free_all (X : K.In h) (G : h.Ns mainGlobals mg) (c : SaysC (faOf fn ex hd) fn cst K) : ∀ x ∈ freeNames, mg x = none := fun x hx =>
  He.free_ok X G (fact_of c (List.mem_append_right _ (List.mem_append_right _ (List.mem_append_right _ (List.mem_append_left _ (List.mem_map_of_mem hx))))))
theorem glo_all (X : K.In h) (G : h.Ns mainGlobals mg) (c : SaysC (faOf fn ex hd) fn cst K) {i : Nat} {d : He.DefD} (e : fn[i]? = some d) (ha : d.at_ = (d.name, none)) : mg d.name = some (.ref (He.fAd K d.at_)) := by
  have := He.glo_ok X G (fact_of c (List.mem_append_left _ (List.mem_map_of_mem (f := fun d : He.DefD => He.Fa.glo d.name) (List.mem_of_getElem? e))))
  rw [ha]
  exact this
theorem mem_lookup' {l : List (Nat × Str)} {n : Nat} {x : Str} (h : l.lookup n = some x) : (n, x) ∈ l := by
  induction l with
  | nil => cases h
  | cons q r ih =>
    obtain ⟨m, y⟩ := q
    rw [List.lookup_cons] at h
    split at h
    · rename_i z
      cases h
      rw [eq_of_beq z]
      exact List.mem_cons_self
    · exact List.mem_cons_of_mem _ (ih h)
theorem exc_all (X : K.In h) (G : h.Ns mainGlobals mg) (c : SaysC (faOf fn ex hd) fn cst K) (n : Nat) (x : Str) (e : ex.lookup n = some x) : ExcK K mg (clOf ex K n) x := by
  have m : (n, x) ∈ ex := mem_lookup' e
  have h1 := He.glo_ok X G (fact_of c (List.mem_append_right _ (List.mem_append_left _ (List.mem_map_of_mem (f := fun q : Nat × Str => He.Fa.glo q.2) m))))
  obtain ⟨a1, a2, a3, a4⟩ := He.exc_ok (fact_of c (List.mem_append_right _ (List.mem_append_right _ (List.mem_append_left _ (List.mem_map_of_mem (f := fun q : Nat × Str => He.Fa.exc q.2) m)))))
  have e2 : clOf ex K n = He.ga K x := by
    unfold clOf
    rw [e]
  rw [e2]
  exact ⟨a1, h1, a2, a3, a4⟩
def csOf (cst : List (Str × D)) (g : Nat) : D := match cst[g]? with
  | some q => q.2
  | none => .non
theorem con_all {fa : List He.Fa} (X : K.In h) (G : h.Ns mainGlobals mg) (c : SaysC fa fn cst K) (g : Nat) (x : Str) (e : (cst.map (·.1))[g]? = some x) : ∃ u v, mg x = some u ∧ RelV v u ∧ ∀ T, Rp K T (fun _ => none) v (csOf cst g) := by
  rw [List.getElem?_map] at e
  obtain ⟨q, e1, e2⟩ := Option.map_eq_some_iff.mp e
  subst e2
  have e3 : csOf cst g = q.2 := by
    unfold csOf
    rw [e1]
  rw [e3]
  exact mgB_ok X G (c.con g e1)
theorem conT_all {fa : List He.Fa} (X : K.In h) (G : h.Ns mainGlobals mg) (c : SaysC fa fn cst K) (g : Nat) (x : Str) (e : (cst.map (·.1))[g]? = some x) (z : isSq false (csOf cst g) = true) : ∃ (a : Addr) (o : Obj) (xs : List V) (ds : List D), mg x = some (.ref a) ∧ K.lookup a = some o ∧ o.cls = .type "tuple" ∧ o.dict = none ∧ csOf cst g = .tup ds ∧ SqT K (fun _ => none) a xs ∧ ∀ T, RpL K T (fun _ => none) xs ds := by
  rw [List.getElem?_map] at e
  obtain ⟨q, e1, e2⟩ := Option.map_eq_some_iff.mp e
  subst e2
  have e3 : csOf cst g = q.2 := by
    unfold csOf
    rw [e1]
  have hc := c.con g e1
  rw [e3] at z ⊢
  obtain ⟨x, d⟩ := q
  cases d with
  | tup ds =>
    obtain ⟨a, o, xs, h1, h2, h3, h4, h5, h6⟩ := mgT_ok X G hc
    exact ⟨a, o, xs, ds, h1, h2, h3, h4, rfl, h5, h6⟩
  | _ => cases z
/-- the defs' check -/
def okDefs (tb : Tb) (fs : List Fd) (fn : List He.DefD) : Bool := decide (fs.length ≤ fn.length) && (fs.zip fn).all (fun q => fdB tb q.1 q.2) && fn.all fun d => decide (d.at_ = (d.name, none)) && decide (d.name = d.qual)
structure ShOk (p : Pg) (fn : List He.DefD) : Prop where
  sh : ∀ (K : PySem.W.Frag) (mg : Str → Option Value) (ffd : Nat → FuncData), (∀ (i : Nat) (d : He.DefD), fn[i]? = some d → FunAt K d (ffd i)) → (∀ (i : Nat) (d : He.DefD), fn[i]? = some d → mg d.name = some (.ref (He.fAd K d.at_))) →
    ∀ (j : Nat) (sh : Sh), p.tb.sh[j]? = some sh → ∃ f : Fn, p.fs[sh.fn]? = some f ∧ Bnd K mg sh (fadOf fn K sh.fn) (ffd sh.fn) f.ps
theorem mkHd {fs : List Fd} {shs : List Sh} (P : Program) (w : World) (base : Heap) (X : K.In h) (G : h.Ns mainGlobals mg) (c : SaysC (faOf fn ex hd) fn cst K) (ok : okDefs ⟨shs, cst.map (·.1), ex, hd⟩ fs fn = true) (so : ShOk ⟨⟨shs, cst.map (·.1), ex, hd⟩, fs.map .df, csOf cst⟩ fn) (n9 : hd = true → nineB ex K = true)
    {ffd : Nat → FuncData} (hf : ∀ (i : Nat) (d : He.DefD), fn[i]? = some d → FunAt K d (ffd i)) : Hd ⟨⟨shs, cst.map (·.1), ex, hd⟩, fs.map .df, csOf cst⟩ P w K mg base (clOf ex K) (fadOf fn K) ffd := by
  obtain ⟨ok, o3⟩ := and2 ok
  obtain ⟨o1, o2⟩ := and2 ok
  have at_ : ∀ (i : Nat) (d : He.DefD), fn[i]? = some d → d.at_ = (d.name, none) ∧ d.name = d.qual := fun i d e => by
    have := List.all_eq_true.mp o3 d (List.mem_of_getElem? e)
    obtain ⟨a, b⟩ := and2 this
    exact ⟨of_decide_eq_true a, of_decide_eq_true b⟩
  refine ⟨free_all X G c, con_all X G c, conT_all X G c, exc_all X G c, fun z => (nineB_ok (n9 z)).1, so.sh K mg ffd hf fun i d e => glo_all X G c e (at_ i d e).1, fun i f e => ?_, fun i ps g e => ?_⟩
  · have e : (fs.map Fn.df)[i]? = some (.df f) := e
    rw [List.getElem?_map] at e
    obtain ⟨f', e1, e2⟩ := Option.map_eq_some_iff.mp e
    cases e2
    have hi : i < fs.length := (List.getElem?_eq_some_iff.mp e1).1
    have hl := of_decide_eq_true o1
    have e3 : fn[i]? = some fn[i] := List.getElem?_eq_getElem (by omega)
    have hz : (fs.zip fn)[i]? = some (f, fn[i]) := by
      rw [List.getElem?_zip_eq_some]
      exact ⟨e1, e3⟩
    have := List.all_eq_true.mp o2 _ (List.mem_of_getElem? hz)
    obtain ⟨h1, h3⟩ := and2 (show (scB f.N f.ps fn[i].scope && mSs _ f.N ⟨fn[i].scope, fun _ => true, false⟩ f.body fn[i].body && decide (fn[i].name = fn[i].qual)) = true from this)
    obtain ⟨h1, h2⟩ := and2 h1
    have F := hf i _ e3
    have h3 : fn[i].name = fn[i].qual := of_decide_eq_true h3
    have ea : fadOf fn K i = He.fAd K fn[i].at_ := by
      unfold fadOf
      rw [e3]
    have F : FunD K fn[i].name fn[i].qual fn[i].params fn[i].body fn[i].scope (fn[i].dvs K) (fn[i].kws K) (fadOf fn K i) (ffd i) := by
      rw [ea]
      exact F
    refine ⟨fn[i].name, fn[i].params, fn[i].body, fn[i].scope, fn[i].dvs K, fn[i].kws K, ?_, scB_ok h1, h2⟩
    rw [← h3] at F
    exact F
  · have e : (fs.map Fn.df)[i]? = some (.nat ps g) := e
    rw [List.getElem?_map] at e
    obtain ⟨f', e1, e2⟩ := Option.map_eq_some_iff.mp e
    cases e2
end
/-- the law's own check -/
def okLaw (tb : Tb) (N : List Str) (L : Ss) (dL dB : He.DefD) : Bool := scB N ["script"] dL.scope && mLaw tb N ⟨dL.scope, fun _ => true, true⟩ L dL.body && (scB [] [] dB.scope && isBegun dB.body) && (decide (dL.dfl.length = 0) && decide (dL.kwd.length = 0) && decide (dB.dfl.length = 0) && decide (dB.kwd.length = 0)) && (decide (dL.name = dL.qual) && decide (dB.name = dB.qual) && decide (dL.at_ = (dL.name, none)) && decide (dB.at_ = (dB.name, none)) && decide (dL.name = "law") && decide (dB.name = "_law_begun"))
/-- the check of the def that hears -/
def okHeard (dH : He.DefD) (ex : List (Nat × Str)) : Bool := scB heardN ["deed"] dH.scope && mHeard dH.scope dH.body && (decide (dH.dfl.length = 0) && decide (dH.kwd.length = 0)) && (decide (dH.name = dH.qual) && decide (dH.at_ = (dH.name, none)) && decide (dH.name = "_law_heard")) && decide (ex.take 9 = nineEx)
structure HearIs (fn : List He.DefD) (ex : List (Nat × Str)) (dH : He.DefD) (iH : Nat) : Prop where
  at_ : fn[iH]? = some dH
  ok : okHeard dH ex = true
  bn : ∀ (kV doc pm : Value) (an : Option Addr) (cdv ct : Value) (us : List Value), us.length = 1 → bindArgs (PySem.W.fnOf dH.name dH.qual dH.params dH.body dH.scope .none kV doc pm an cdv ct) ⟨us, []⟩ = pure ((["deed"] : List Str).zip us)
theorem lookup_take {ex : List (Nat × Str)} {n : Nat} {x : Str} (h : (ex.take 9).lookup n = some x) : ex.lookup n = some x := by
  rw [← List.take_append_drop 9 ex, List.lookup_append, h]
  rfl
theorem mkHdH {fn : List He.DefD} {ex : List (Nat × Str)} {cst : List (Str × D)} {K : PySem.W.Frag} {h : Heap} {mg : Str → Option Value} {fs : List Fn} {shs : List Sh} {csf : Nat → D} {ffd : Nat → FuncData} {dH : He.DefD} {iH : Nat} (X : K.In h) (G : h.Ns mainGlobals mg) (c : SaysC (faOf fn ex true) fn cst K) (hf : ∀ (i : Nat) (d : He.DefD), fn[i]? = some d → FunAt K d (ffd i))
    (n9 : nineB ex K = true) (Hr : HearIs fn ex dH iH) : HdH ⟨⟨shs, cst.map (·.1), ex, true⟩, fs, csf⟩ K mg (clOf ex K) := by
  have okH := Hr.ok
  unfold okHeard at okH
  obtain ⟨okH, o5⟩ := and2 okH
  obtain ⟨okH, o4⟩ := and2 okH
  obtain ⟨okH, o3⟩ := and2 okH
  obtain ⟨o1, o2⟩ := and2 okH
  obtain ⟨o3a, o3b⟩ := and2 o3
  obtain ⟨o4, o4c⟩ := and2 o4
  obtain ⟨o4a, o4b⟩ := and2 o4
  have F := hf iH dH Hr.at_
  have z1 : dH.dvs K = [] := by
    have := List.length_eq_zero_iff.mp (of_decide_eq_true o3a)
    unfold He.DefD.dvs
    rw [this]
    rfl
  have z2 : dH.kws K = [] := by
    have := List.length_eq_zero_iff.mp (of_decide_eq_true o3b)
    unfold He.DefD.kws
    rw [this]
    rfl
  unfold FunAt at F
  rw [z1, z2] at F
  have b := FunD.bindsN (ps := ["deed"]) F Hr.bn
  have g := glo_all X G c Hr.at_ (of_decide_eq_true o4b)
  have e1 : dH.name = dH.qual := of_decide_eq_true o4a
  have e2 : dH.name = "_law_heard" := of_decide_eq_true o4c
  rw [← e1, e2] at F
  rw [e2] at g
  refine ⟨⟨_, He.ga K "FormError", _, _, _, _, F, b, scB_ok o1, o2, g, ⟨?_, (nineB_ok n9).2⟩⟩, fun n x e => ?_⟩
  · exact He.glo_ok X G (fact_of c (List.mem_append_right _ (List.mem_append_right _ (List.mem_append_right _ (List.mem_append_right _ (by simp))))))
  · show ex.lookup n = some x
    refine lookup_take ?_
    rw [of_decide_eq_true o5]
    exact e
theorem lawFacts {fn : List He.DefD} {ex : List (Nat × Str)} {hd : Bool} {cst : List (Str × D)} {K : PySem.W.Frag} {h : Heap} {mg : Str → Option Value} {fs : List Fd} {shs : List Sh} {P : Program} {w : World} {f : Addr} (X : K.In h) (G : h.Ns mainGlobals mg) (c : SaysC (faOf fn ex hd) fn cst K)
    (ok : okDefs ⟨shs, cst.map (·.1), ex, hd⟩ fs fn = true) (so : ShOk ⟨⟨shs, cst.map (·.1), ex, hd⟩, fs.map .df, csOf cst⟩ fn) (n9 : hd = true → nineB ex K = true) {N : List Str} {L : Ss} {dL dB dH : He.DefD} {iL iB iH k : Nat} (eL : fn[iL]? = some dL) (eB : fn[iB]? = some dB) (eH : hd = true → HearIs fn ex dH iH) {d0 : He.DefD} (e0 : fn[0]? = some d0)
    (okL : okLaw ⟨shs, cst.map (·.1), ex, hd⟩ N L dL dB = true) (hfa : mg ("law" : Str) = some (.ref f))
    (bL : ∀ (kV doc pm : Value) (an : Option Addr) (cdv ct : Value) (us : List Value), us.length = 1 → bindArgs (PySem.W.fnOf dL.name dL.qual dL.params dL.body dL.scope .none kV doc pm an cdv ct) ⟨us, []⟩ = pure ((["script"] : List Str).zip us))
    (bB : ∀ (kV doc pm : Value) (an : Option Addr) (cdv ct : Value) (us : List Value), us.length = 0 → bindArgs (PySem.W.fnOf dB.name dB.qual dB.params dB.body dB.scope .none kV doc pm an cdv ct) ⟨us, []⟩ = pure (([] : List Str).zip us)) (hk : 1 ≤ k)
    (hev : ∀ ns : List Int, ns.length ≤ 63 → (∀ z ∈ ns, Builtin.Int.intBits z ≤ 1048576) → ∃ r t, evSs (gam ⟨⟨shs, cst.map (·.1), ex, hd⟩, fs.map .df, csOf cst⟩ ns k) (csOf cst) L (startL N ns) ⟨0, []⟩ = .ok (.ret (.bl true), r) t) :
    ∃ fd : FuncData, (∀ (s : Shared) (v : Value), BindsTo s fd ⟨[v], []⟩ [("script", v)]) ∧ ∀ base : Heap, K.In base → base.Ns mainGlobals mg → (∀ p ∈ (tfOf hd).map (He.cT K), LamX.TabB base mg p.1 p.2) → FnOk P w K mg base (CX P w) (k + 1) f fd ["script"] (spLaw K (((tfOf hd).map (He.cT K)).map (·.2))) := by
  obtain ⟨ffd, hf⟩ := fun_all c e0
  have FL := hf iL dL eL
  have FB := hf iB dB eB
  unfold okLaw at okL
  obtain ⟨okL, o4⟩ := and2 okL
  obtain ⟨okL, o3⟩ := and2 okL
  obtain ⟨okL, o2⟩ := and2 okL
  obtain ⟨o1a, o1b⟩ := and2 okL
  obtain ⟨o2a, o2b⟩ := and2 o2
  obtain ⟨o3, o3d⟩ := and2 o3
  obtain ⟨o3, o3c⟩ := and2 o3
  obtain ⟨o3a, o3b⟩ := and2 o3
  obtain ⟨o4, n6⟩ := and2 o4
  obtain ⟨o4, n5⟩ := and2 o4
  obtain ⟨o4, n4⟩ := and2 o4
  obtain ⟨o4, n3⟩ := and2 o4
  obtain ⟨n1, n2⟩ := and2 o4
  have z1 : dL.dvs K = [] := by
    have := List.length_eq_zero_iff.mp (of_decide_eq_true o3a)
    unfold He.DefD.dvs
    rw [this]
    rfl
  have z2 : dL.kws K = [] := by
    have := List.length_eq_zero_iff.mp (of_decide_eq_true o3b)
    unfold He.DefD.kws
    rw [this]
    rfl
  have z3 : dB.dvs K = [] := by
    have := List.length_eq_zero_iff.mp (of_decide_eq_true o3c)
    unfold He.DefD.dvs
    rw [this]
    rfl
  have z4 : dB.kws K = [] := by
    have := List.length_eq_zero_iff.mp (of_decide_eq_true o3d)
    unfold He.DefD.kws
    rw [this]
    rfl
  have FL : FunD K dL.name dL.qual dL.params dL.body dL.scope [] [] (He.fAd K dL.at_) (ffd iL) := by
    have FL := FL
    unfold FunAt at FL
    rw [z1, z2] at FL
    exact FL
  have FB : FunD K dB.name dB.qual dB.params dB.body dB.scope [] [] (He.fAd K dB.at_) (ffd iB) := by
    have FB := FB
    unfold FunAt at FB
    rw [z3, z4] at FB
    exact FB
  have gL := glo_all X G c eL (of_decide_eq_true n3)
  have gB := glo_all X G c eB (of_decide_eq_true n4)
  rw [of_decide_eq_true n5, hfa] at gL
  rw [of_decide_eq_true n6] at gB
  have ef : f = He.fAd K dL.at_ := by
    injection gL with q
    injection q
  have b := FunD.bindsA (ps := ["script"]) FL bL
  refine ⟨ffd iL, fun s v => b s [v] rfl, fun base _ _ TB => ?_⟩
  have hd' := mkHd P w base X G c ok so n9 hf
  have atL : dL.at_ = (("law" : Str), none) := by
    have := of_decide_eq_true n3
    rw [of_decide_eq_true n5] at this
    exact this
  obtain ⟨oc, od, dV, kV, doc, pm, an, cdv, ct, osl, efd, lkL, _, _, _⟩ := FL.ex
  have n1 : dL.name = dL.qual := of_decide_eq_true n1
  have n2 : dB.name = dB.qual := of_decide_eq_true n2
  rw [ef]
  rw [← n1] at FL
  have bb := FunD.bindsN (ps := []) FB bB
  rw [← n2] at FB
  refine lawOk hd' FL (scB_ok o1a) o1b FB (scB_ok o2a) o2b bb gB hk (fun z => ?_) hev
  have z : hd = true := z
  subst z
  refine ⟨mkHdH X G c hf (n9 rfl) (eH rfl), (He.cT K (("law" : Str), none)).2, by simp [tfOf], fun c0 hc => ?_⟩
  have := TB (He.cT K (("law" : Str), none)) (by simp [tfOf])
  have e2 : (He.cT K (("law" : Str), none)).1 = c0 := by
    rw [atL] at lkL
    exact He.codeOf_eq lkL hc
  rw [e2] at this
  exact this
/-- the law's promise at the head's heap -/
theorem lawAt {l : PySem.W.OpenLaw} {fn : List He.DefD} {ex : List (Nat × Str)} {hd : Bool} {cst : List (Str × D)} {K : PySem.W.Frag} {h : Heap} {mg : Str → Option Value} {fs : List Fd} {shs : List Sh} {w : World} {f : Addr} (X : K.In h) (G : h.Ns mainGlobals mg) (c : He.SaysX (faOf fn ex hd) fn [] (tfOf hd) (exB hd ex cst) w h K)
    (ok : okDefs ⟨shs, cst.map (·.1), ex, hd⟩ fs fn = true) (so : ShOk ⟨⟨shs, cst.map (·.1), ex, hd⟩, fs.map .df, csOf cst⟩ fn) {N : List Str} {L : Ss} {dL dB dH : He.DefD} {iL iB iH k : Nat} (eL : fn[iL]? = some dL) (eB : fn[iB]? = some dB) (eH : hd = true → HearIs fn ex dH iH) {d0 : He.DefD} (e0 : fn[0]? = some d0)
    (okL : okLaw ⟨shs, cst.map (·.1), ex, hd⟩ N L dL dB = true) (hfa : mg ("law" : Str) = some (.ref f))
    (bL : ∀ (kV doc pm : Value) (an : Option Addr) (cdv ct : Value) (us : List Value), us.length = 1 → bindArgs (PySem.W.fnOf dL.name dL.qual dL.params dL.body dL.scope .none kV doc pm an cdv ct) ⟨us, []⟩ = pure ((["script"] : List Str).zip us))
    (bB : ∀ (kV doc pm : Value) (an : Option Addr) (cdv ct : Value) (us : List Value), us.length = 0 → bindArgs (PySem.W.fnOf dB.name dB.qual dB.params dB.body dB.scope .none kV doc pm an cdv ct) ⟨us, []⟩ = pure (([] : List Str).zip us)) (hk : 1 ≤ k)
    (hev : ∀ ns : List Int, ns.length ≤ 63 → (∀ z ∈ ns, Builtin.Int.intBits z ≤ 1048576) → ∃ r t, evSs (gam ⟨⟨shs, cst.map (·.1), ex, hd⟩, fs.map .df, csOf cst⟩ ns k) (csOf cst) L (startL N ns) ⟨0, []⟩ = .ok (.ret (.bl true), r) t) : LamX.LawAtS l w K (CX l.prog w) (k + 1) 63 "script" mg f h := by
  obtain ⟨m1, m2⟩ := and2 (show ((cst.all fun p => mgB K p.1 p.2) && (!hd || nineB ex K)) = true from c.more)
  obtain ⟨fd, hb, hF⟩ := lawFacts (P := l.prog) (w := w) X G ⟨c.t.d, m1⟩ ok so (fun z => by rw [z] at m2; exact m2) eL eB eH e0 okL hfa bL bB hk hev
  have mem : ∀ {φ : Addr × Addr → Prop}, (∀ q ∈ tfOf hd, φ (He.cT K q)) → ∀ p ∈ (tfOf hd).map (He.cT K), φ p := fun {φ} h p hp => by
    obtain ⟨q, hq, e⟩ := List.mem_map.mp hp
    rw [← e]
    exact h q hq
  refine ⟨fd, (tfOf hd).map (He.cT K), spLaw K (((tfOf hd).map (He.cT K)).map (·.2)), mem c.empty, mem c.out, mem fun q hq => PySem.W.codeHd_of_K X (c.hd q hq), hb, fun H a ns hl hbits hT hS => ⟨a, ns, rfl, hl, hbits, hS, fun p hp => ?_, fun _ => rfl⟩, hF⟩
  obtain ⟨q, hq, e⟩ := List.mem_map.mp hp
  rw [← e]
  exact hT q hq
theorem cx_no {P : Program} {w : World} {H : Hp} {s : Shared} {e : Value} {s' : Shared} (z : CX P w [] H s (fun _ _ _ => False) e s') : False := by
  obtain ⟨_, _, _, _, _, _, _, _, _, _, _, _, z⟩ := z
  exact z
end Fm

/-! ### plain reckoning with the evaluator -/
namespace Fm
open PySem
section
variable {G : Gam} {cs : Nat → D} {r : Rho} {t : Tw}
@[simp] theorem x_ev_cst (k : Cst) : ev G cs (.cst k) r t = (fun _ t => .ok k.d t) r t := by first | (rw [ev_cst]; done) | (rw [ev_cst]; rfl)
@[simp] theorem x_ev_var (i : Nat) : ev G cs (.var i) r t = (fun r t => match r[i]? with
    | some (.val d) => .ok d t
    | _ => .bad) r t := by first | (rw [ev_var]; done) | (rw [ev_var]; rfl)
@[simp] theorem x_ev_bor (i : Nat) : ev G cs (.bor i) r t = (fun r t => match r[i]? with
    | some (.val d) => .ok d t
    | some (.own d) => .ok d t
    | _ => .bad) r t := by first | (rw [ev_bor]; done) | (rw [ev_bor]; rfl)
@[simp] theorem x_ev_glob (g : Nat) : ev G cs (.glob g) r t = (fun _ t => .ok (cs g) t) r t := by first | (rw [ev_glob]; done) | (rw [ev_glob]; rfl)
@[simp] theorem x_ev_bin (op : Operator) (a b : E) : ev G cs (.bin op a b) r t = (fun r t => (ev G cs a r t).bind fun x t1 => (ev G cs b r t1).bind fun y t2 => lift (binD op x y) t2) r t := by first | (rw [ev_bin]; done) | (rw [ev_bin]; rfl)
@[simp] theorem x_ev_cat (a b : E) : ev G cs (.cat a b) r t = (fun r t => (ev G cs a r t).bind fun x t1 => (ev G cs b r t1).bind fun y t2 => lift (catD x y) t2) r t := by first | (rw [ev_cat]; done) | (rw [ev_cat]; rfl)
@[simp] theorem x_ev_neg (a : E) : ev G cs (.neg a) r t = (fun r t => (ev G cs a r t).bind fun x t1 => lift (negD x) t1) r t := by first | (rw [ev_neg]; done) | (rw [ev_neg]; rfl)
@[simp] theorem x_ev_not (a : E) : ev G cs (.not a) r t = (fun r t => (ev G cs a r t).bind fun x t1 => lift (notD x) t1) r t := by first | (rw [ev_not]; done) | (rw [ev_not]; rfl)
@[simp] theorem x_ev_and (a b : E) : ev G cs (.and a b) r t = (andE (ev G cs a) (ev G cs b)) r t := by first | (rw [ev_and]; done) | (rw [ev_and]; rfl)
@[simp] theorem x_ev_or (a b : E) : ev G cs (.or a b) r t = (orE (ev G cs a) (ev G cs b)) r t := by first | (rw [ev_or]; done) | (rw [ev_or]; rfl)
@[simp] theorem x_ev_ite (k a b : E) : ev G cs (.ite k a b) r t = (iteE (ev G cs k) (ev G cs a) (ev G cs b)) r t := by first | (rw [ev_ite]; done) | (rw [ev_ite]; rfl)
@[simp] theorem x_ev_cmp (op : CmpOp) (a b : E) : ev G cs (.cmp op a b) r t = (fun r t => (ev G cs a r t).bind fun x t1 => (ev G cs b r t1).bind fun y t2 => lift (cmpD op x y) t2) r t := by first | (rw [ev_cmp]; done) | (rw [ev_cmp]; rfl)
@[simp] theorem x_ev_chain (o1 o2 : CmpOp) (a b k : E) : ev G cs (.chain o1 o2 a b k) r t = (chainE o1 o2 (ev G cs a) (ev G cs b) (ev G cs k)) r t := by first | (rw [ev_chain]; done) | (rw [ev_chain]; rfl)
@[simp] theorem x_ev_ix (a b : E) : ev G cs (.ix a b) r t = (fun r t => (ev G cs a r t).bind fun x t1 => (ev G cs b r t1).bind fun y t2 => lift (ixD x y) t2) r t := by first | (rw [ev_ix]; done) | (rw [ev_ix]; rfl)
@[simp] theorem x_ev_dix (a b : E) : ev G cs (.dix a b) r t = (fun r t => (ev G cs a r t).bind fun x t1 => (ev G cs b r t1).bind fun y t2 => lift (dixD x y) t2) r t := by first | (rw [ev_dix]; done) | (rw [ev_dix]; rfl)
@[simp] theorem x_ev_cut (a : E) (lo hi : O) : ev G cs (.cut a lo hi) r t = (cutE (ev G cs a) (evO G cs lo) (evO G cs hi)) r t := by first | (rw [ev_cut]; done) | (rw [ev_cut]; rfl)
@[simp] theorem x_ev_tup (es : Es) : ev G cs (.tup es) r t = (fun r t => (evs G cs es r t).bind fun xs t1 => if okLen xs.length then .ok (.tup xs) t1 else .bad) r t := by first | (rw [ev_tup]; done) | (rw [ev_tup]; rfl)
@[simp] theorem x_ev_lst (es : Es) : ev G cs (.lst es) r t = (fun r t => (evs G cs es r t).bind fun xs t1 => if okLen xs.length then .ok (.lst xs) t1 else .bad) r t := by first | (rw [ev_lst]; done) | (rw [ev_lst]; rfl)
@[simp] theorem x_ev_call (i : Nat) (es ks : Es) : ev G cs (.call i es ks) r t = (fun r t => (evs G cs es r t).bind fun xs t1 => (evs G cs ks r t1).bind fun ys t2 => G.f 0 i xs ys t2) r t := by first | (rw [ev_call]; done) | (rw [ev_call]; rfl)
@[simp] theorem x_ev_blt (b : Blt) (a : E) : ev G cs (.blt b a) r t = (fun r t => (ev G cs a r t).bind fun x t1 => lift (blt1 b x) t1) r t := by first | (rw [ev_blt]; done) | (rw [ev_blt]; rfl)
@[simp] theorem x_ev_isa (a : E) (T : Ty) : ev G cs (.isa a T) r t = (fun r t => (ev G cs a r t).bind fun x t1 => lift ((isaD x T).map D.bl) t1) r t := by first | (rw [ev_isa]; done) | (rw [ev_isa]; rfl)
@[simp] theorem x_ev_get (a k d : E) : ev G cs (.get a k d) r t = (getE (ev G cs a) (ev G cs k) (ev G cs d)) r t := by first | (rw [ev_get]; done) | (rw [ev_get]; rfl)
@[simp] theorem x_ev_rev (a : E) : ev G cs (.rev a) r t = (fun r t => (ev G cs a r t).bind fun x t1 => lift (revD x) t1) r t := by first | (rw [ev_rev]; done) | (rw [ev_rev]; rfl)
@[simp] theorem x_ev_heard (e : E) : ev G cs (.heard e) r t = (fun r t => if decide (2 ≤ G.lv) then heardR (ev G.low cs e (valsR r) t) else .bad) r t := by first | (rw [ev_heard]; done) | (rw [ev_heard]; rfl)
@[simp] theorem x_ev_isx (a : E) (n : Nat) : ev G cs (.isx a n) r t = (fun r t => (ev G cs a r t).bind fun x t1 => lift (isxD x n) t1) r t := by first | (rw [ev_isx]; done) | (rw [ev_isx]; rfl)
@[simp] theorem x_ev_isv (a : E) : ev G cs (.isv a) r t = (fun r t => (ev G cs a r t).bind fun x t1 => lift (isvD x) t1) r t := by first | (rw [ev_isv]; done) | (rw [ev_isv]; rfl)
@[simp] theorem x_ev_dspE (ks : List Str) (es : Es) : ev G cs (.dspE ks es) r t = (dspEE ks (esF G cs es)) r t := by first | (rw [ev_dspE]; done) | (rw [ev_dspE]; rfl)
@[simp] theorem x_evI_keys (a : E) : evI G cs (.keys a) r t = (keysE (ev G cs a)) r t := by first | (rw [evI_keys]; done) | (rw [evI_keys]; rfl)
@[simp] theorem x_ev_idxG (g : Nat) (b : E) : ev G cs (.idxG g b) r t = (fun r t => if isSq false (cs g) then (ev G cs b r t).bind fun y t1 => lift (idxD false (cs g) y) t1 else .bad) r t := by first | (rw [ev_idxG]; done) | (rw [ev_idxG]; rfl)
@[simp] theorem x_ev_idx (a b : E) : ev G cs (.idx a b) r t = (idxE (ev G cs a) (ev G cs b)) r t := by first | (rw [ev_idx]; done) | (rw [ev_idx]; rfl)
@[simp] theorem x_evI_enumT (a : E) : evI G cs (.enumT a) r t = (enumTE (ev G cs a)) r t := by first | (rw [evI_enumT]; done) | (rw [evI_enumT]; rfl)
@[simp] theorem x_ev_tcount (i : Nat) : ev G cs (.tcount i) r t = (tcountE i) r t := by first | (rw [ev_tcount]; done) | (rw [ev_tcount]; rfl)
@[simp] theorem x_ev_tget (i : Nat) (k d : E) : ev G cs (.tget i k d) r t = (tgetE i (ev G cs k) (ev G cs d)) r t := by first | (rw [ev_tget]; done) | (rw [ev_tget]; rfl)
@[simp] theorem x_evO_none : evO G cs .none r t = (fun _ t => .ok none t) r t := by first | (rw [evO_none]; done) | (rw [evO_none]; rfl)
@[simp] theorem x_evO_some (e : E) : evO G cs (.some e) r t = (fun r t => (ev G cs e r t).bind fun x t1 => .ok (some x) t1) r t := by first | (rw [evO_some]; done) | (rw [evO_some]; rfl)
@[simp] theorem x_evs_nil : evs G cs .nil r t = (fun _ t => .ok [] t) r t := by first | (rw [evs_nil]; done) | (rw [evs_nil]; rfl)
@[simp] theorem x_evs_cons (e : E) (es : Es) : evs G cs (.cons e es) r t = (fun r t => (ev G cs e r t).bind fun x t1 => (evs G cs es r t1).bind fun xs t2 => .ok (x :: xs) t2) r t := by first | (rw [evs_cons]; done) | (rw [evs_cons]; rfl)
@[simp] theorem x_evI_val (e : E) : evI G cs (.val e) r t = (evV (ev G cs e)) r t := by first | (rw [evI_val]; done) | (rw [evI_val]; rfl)
@[simp] theorem x_evI_rng1 (a : E) : evI G cs (.rng1 a) r t = (fun r t => (ev G cs a r t).bind fun x t1 => match x with
    | .int j => if okRng j then .ok (rngD 0 j.toNat) t1 else .bad
    | _ => .bad) r t := by first | (rw [evI_rng1]; done) | (rw [evI_rng1]; rfl)
@[simp] theorem x_evI_rng2 (a b : E) : evI G cs (.rng2 a b) r t = (fun r t => (ev G cs a r t).bind fun x t1 => (ev G cs b r t1).bind fun y t2 => match x, y with
    | .int i, .int j => if okRng i && okRng j then .ok (rngD i (j - i).toNat) t2 else .bad
    | _, _ => .bad) r t := by first | (rw [evI_rng2]; done) | (rw [evI_rng2]; rfl)
@[simp] theorem x_evI_zip (a b : E) : evI G cs (.zip a b) r t = (zipE (ev G cs a) (ev G cs b)) r t := by first | (rw [evI_zip]; done) | (rw [evI_zip]; rfl)
@[simp] theorem x_evI_zipN (a b : E) : evI G cs (.zipN a b) r t = (zipNE (ev G cs a) (ev G cs b)) r t := by first | (rw [evI_zipN]; done) | (rw [evI_zipN]; rfl)
@[simp] theorem x_evI_enum (a : E) : evI G cs (.enum a) r t = (enumE (ev G cs a)) r t := by first | (rw [evI_enum]; done) | (rw [evI_enum]; rfl)
@[simp] theorem x_evS_asg (tg : Tg) (e : E) : evS G cs (.asg tg e) r t = (fun r t => (ev G cs e r t).bind fun x t1 => Fm.lift ((setT tg x r).map fun r1 => (.nx, r1)) t1) r t := by first | (rw [evS_asg]; done) | (rw [evS_asg]; rfl)
@[simp] theorem x_evS_par (is : List Nat) (es : Es) : evS G cs (.par is es) r t = (parE is (evs G cs es)) r t := by first | (rw [evS_par]; done) | (rw [evS_par]; rfl)
@[simp] theorem x_evS_star (i j : Nat) (e : E) : evS G cs (.star i j e) r t = (starE i j (ev G cs e)) r t := by first | (rw [evS_star]; done) | (rw [evS_star]; rfl)
@[simp] theorem x_evS_aug (i : Nat) (op : Operator) (e : E) : evS G cs (.aug i op e) r t = (augE i op (ev G cs e)) r t := by first | (rw [evS_aug]; done) | (rw [evS_aug]; rfl)
@[simp] theorem x_evS_ret (e : E) : evS G cs (.ret e) r t = (fun r t => (ev G cs e r t).bind fun x t1 => .ok (.ret x, r) t1) r t := by first | (rw [evS_ret]; done) | (rw [evS_ret]; rfl)
@[simp] theorem x_evS_ite (k : E) (a b : Ss) : evS G cs (.ite k a b) r t = (iteS (ev G cs k) (evSs G cs a) (evSs G cs b)) r t := by first | (rw [evS_ite]; done) | (rw [evS_ite]; rfl)
@[simp] theorem x_evS_for (tg : Tg) (it : I) (b : Ss) : evS G cs (.for tg it b) r t = (forE tg (evI G cs it) (evSs G cs b)) r t := by first | (rw [evS_for]; done) | (rw [evS_for]; rfl)
@[simp] theorem x_evS_while (k : E) (b : Ss) : evS G cs (.while k b) r t = (loopW (ev G cs k) (evSs G cs b)) r t := by first | (rw [evS_while]; done) | (rw [evS_while]; rfl)
@[simp] theorem x_evS_exp (e : E) : evS G cs (.exp e) r t = (fun r t => (ev G cs e r t).bind fun _ t1 => .ok (.nx, r) t1) r t := by first | (rw [evS_exp]; done) | (rw [evS_exp]; rfl)
@[simp] theorem x_evS_new (i : Nat) (e : E) : evS G cs (.new i e) r t = (fun r t => (ev G cs e r t).bind fun x t1 => okSet r i (.own x) t1) r t := by first | (rw [evS_new]; done) | (rw [evS_new]; rfl)
@[simp] theorem x_evS_app (i : Nat) (e : E) : evS G cs (.app i e) r t = (appE i (ev G cs e)) r t := by first | (rw [evS_app]; done) | (rw [evS_app]; rfl)
@[simp] theorem x_evS_put (i : Nat) (k e : E) : evS G cs (.put i k e) r t = (putE i (ev G cs k) (ev G cs e)) r t := by first | (rw [evS_put]; done) | (rw [evS_put]; rfl)
@[simp] theorem x_evS_upd (i : Nat) (e : E) : evS G cs (.upd i e) r t = (updE i (ev G cs e)) r t := by first | (rw [evS_upd]; done) | (rw [evS_upd]; rfl)
@[simp] theorem x_evS_ins (i : Nat) (k e : E) : evS G cs (.ins i k e) r t = (insE i (ev G cs k) (ev G cs e)) r t := by first | (rw [evS_ins]; done) | (rw [evS_ins]; rfl)
@[simp] theorem x_evS_uns (is : List Nat) (j : Nat) (es : Es) : evS G cs (.uns is j es) r t = (unsE is j (evs G cs es)) r t := by first | (rw [evS_uns]; done) | (rw [evS_uns]; rfl)
@[simp] theorem x_evS_pnl (b : Bool) (j i : Nat) (e : E) : evS G cs (.pnl b j i e) r t = (pnlE j i (ev G cs e)) r t := by first | (rw [evS_pnl]; done) | (rw [evS_pnl]; rfl)
@[simp] theorem x_evS_putL (i : Nat) (k e : E) : evS G cs (.putL i k e) r t = (putLE i (ev G cs k) (ev G cs e)) r t := by first | (rw [evS_putL]; done) | (rw [evS_putL]; rfl)
@[simp] theorem x_evS_frz (i : Nat) : evS G cs (.frz i) r t = (frzE i) r t := by first | (rw [evS_frz]; done) | (rw [evS_frz]; rfl)
@[simp] theorem x_evS_tcnt (i : Nat) (e : E) : evS G cs (.tcnt i e) r t = (tcntE i (ev G cs e)) r t := by first | (rw [evS_tcnt]; done) | (rw [evS_tcnt]; rfl)
@[simp] theorem x_evS_trst (i : Nat) (k e : E) : evS G cs (.trst i k e) r t = (trstE i (ev G cs k) (ev G cs e)) r t := by first | (rw [evS_trst]; done) | (rw [evS_trst]; rfl)
@[simp] theorem x_evS_brk : evS G cs .brk r t = (fun r t => .ok (.brk, r) t) r t := by first | (rw [evS_brk]; done) | (rw [evS_brk]; rfl)
@[simp] theorem x_evS_cont : evS G cs .cont r t = (fun r t => .ok (.cont, r) t) r t := by first | (rw [evS_cont]; done) | (rw [evS_cont]; rfl)
@[simp] theorem x_evS_raise (n : Nat) (x : Str) : evS G cs (.raise n x) r t = (fun _ t => .exc n t) r t := by first | (rw [evS_raise]; done) | (rw [evS_raise]; rfl)
@[simp] theorem x_evSs_nil : evSs G cs .nil r t = (nilE) r t := by first | (rw [evSs_nil]; done) | (rw [evSs_nil]; rfl)
@[simp] theorem x_evSs_cons (s : S) (q : Ss) : evSs G cs (.cons s q) r t = consE (evS G cs s) (evSs G cs q) r t := by rw [evSs_cons]
end
section
variable {f g : Rho → Tw → Res (Fl × Rho)} {fa fb fc : Rho → Tw → Res D} {fs : Rho → Tw → Res (List D)} {fo fp : Rho → Tw → Res (Option D)} {r : Rho} {t : Tw}
@[simp] theorem x_chainE (o1 o2 : CmpOp) (fa fb fc : Rho → Tw → Res D) (r : Rho) (t : Tw) : chainE o1 o2 fa fb fc r t = ( (fa r t).bind fun x t1 => (fb r t1).bind fun y t2 => match cmpD o1 x y with
    | some (.bl true) => (fc r t2).bind fun z t3 => Fm.lift (cmpD o2 y z) t3
    | some (.bl false) => .ok (.bl false) t2
    | _ => .bad) := rfl
@[simp] theorem x_andE (fa fb : Rho → Tw → Res D) (r : Rho) (t : Tw) : andE fa fb r t = ( (fa r t).bind fun x t1 => match truD x with
    | some true => fb r t1
    | some false => .ok x t1
    | none => .bad) := rfl
@[simp] theorem x_orE (fa fb : Rho → Tw → Res D) (r : Rho) (t : Tw) : orE fa fb r t = ( (fa r t).bind fun x t1 => match truD x with
    | some true => .ok x t1
    | some false => fb r t1
    | none => .bad) := rfl
@[simp] theorem x_iteE (fc fa fb : Rho → Tw → Res D) (r : Rho) (t : Tw) : iteE fc fa fb r t = ( (fc r t).bind fun x t1 => match truD x with
    | some true => fa r t1
    | some false => fb r t1
    | none => .bad) := rfl
@[simp] theorem x_cutE (fa : Rho → Tw → Res D) (fl fh : Rho → Tw → Res (Option D)) (r : Rho) (t : Tw) : cutE fa fl fh r t = ( (fa r t).bind fun x t1 => (fl r t1).bind fun l t2 => (Fm.lift (optI l) t2).bind fun l t2 => (fh r t2).bind fun h t3 => (Fm.lift (optI h) t3).bind fun h t3 => Fm.lift (cutD x l h) t3) := rfl
@[simp] theorem x_getE (fa fb fc : Rho → Tw → Res D) (r : Rho) (t : Tw) : getE fa fb fc r t = ( (fa r t).bind fun x t1 => match x with
    | .dct kvs => (fb r t1).bind fun y t2 => (fc r t2).bind fun z t3 => (match keyD y with
      | some k => .ok ((lookD kvs k).getD z) t3
      | none => .bad)
    | _ => .bad) := rfl
@[simp] theorem x_evV (f : Rho → Tw → Res D) (r : Rho) (t : Tw) : evV f r t = ( (f r t).bind fun x t1 => match x with
    | .tup xs => .ok xs t1
    | .lst xs => .ok xs t1
    | .str x => .ok (strD x) t1
    | _ => .bad) := rfl
@[simp] theorem x_zipE (fa fb : Rho → Tw → Res D) (r : Rho) (t : Tw) : zipE fa fb r t = ( (fa r t).bind fun x t1 => (fb r t1).bind fun y t2 => match x, y with
    | .tup xs, .tup ys => .ok (zipD xs ys) t2
    | .lst xs, .lst ys => .ok (zipD xs ys) t2
    | _, _ => .bad) := rfl
@[simp] theorem x_enumE (fa : Rho → Tw → Res D) (r : Rho) (t : Tw) : enumE fa r t = ( (fa r t).bind fun x t1 => match x with
    | .lst xs => .ok (enumD 0 xs) t1
    | _ => .bad) := rfl
@[simp] theorem x_turnE (tg : Tg) (vs : List Nat) (fc : Rho → Tw → Res (Option D)) (fe : Rho → Tw → Res D) (r : Rho) (d : D) (t : Tw) : turnE tg vs fc fe r d t = ( match setT tg d (wipeR r vs) with
        | some r2 => (fc r2 t).bind fun o t => match o with
          | none => (fe r2 t).bind fun x t => .ok (some x) t
          | some y => match truD y with
            | some true => (fe r2 t).bind fun x t => .ok (some x) t
            | some false => .ok none t
            | none => .bad
        | none => .bad) := rfl
@[simp] theorem x_zipNE (fa fb : Rho → Tw → Res D) (r : Rho) (t : Tw) : zipNE fa fb r t = ( (fa r t).bind fun x t1 => (fb r t1).bind fun y t2 => match x, y with
    | .tup xs, .tup ys => .ok (zipD xs ys) t2
    | _, _ => .bad) := rfl
@[simp] theorem x_compE (tg : Tg) (vs : List Nat) (fi : Rho → Tw → Res (List D)) (fc : Rho → Tw → Res (Option D)) (fe : Rho → Tw → Res D) (r : Rho) (t : Tw) : compE tg vs fi fc fe r t = (
  (fi r t).bind fun xs t1 => if okLen xs.length then (compL (turnE tg vs fc fe r) xs t1).bind fun ys t2 => .ok (.lst ys) t2 else .bad) := rfl
@[simp] theorem x_nilE (r : Rho) (t : Tw) : nilE r t = ( .ok (.nx, r) t) := rfl
@[simp] theorem x_consE (f g : Rho → Tw → Res (Fl × Rho)) (r : Rho) (t : Tw) : consE f g r t = ( (f r t).bind fun p t1 => match p with
    | (.nx, r1) => g r1 t1
    | q => .ok q t1) := rfl
@[simp] theorem x_iteS (fc : Rho → Tw → Res D) (f g : Rho → Tw → Res (Fl × Rho)) (r : Rho) (t : Tw) : iteS fc f g r t = ( (fc r t).bind fun x t1 => match truD x with
    | some true => f r t1
    | some false => g r t1
    | none => .bad) := rfl
@[simp] theorem x_parE (is : List Nat) (fs : Rho → Tw → Res (List D)) (r : Rho) (t : Tw) : parE is fs r t = ( (fs r t).bind fun xs t1 => Fm.lift ((setAll is xs r).map fun r1 => (.nx, r1)) t1) := rfl
@[simp] theorem x_frzE (i : Nat) (r : Rho) (t : Tw) : frzE i r t = ( match r[i]? with
    | some (.own d) => .ok (.nx, r.set i (.val d)) t
    | some (.val _) => .ok (.nx, r) t
    | _ => .bad) := rfl
@[simp] theorem x_appE (i : Nat) (fa : Rho → Tw → Res D) (r : Rho) (t : Tw) : appE i fa r t = ( match r[i]? with
    | some (.own (.lst xs)) => (fa r t).bind fun x t1 => if decide (xs.length < 16777216) then .ok (.nx, r.set i (.own (.lst (xs ++ [x])))) t1 else .bad
    | _ => .bad) := rfl
@[simp] theorem x_putE (i : Nat) (fk fa : Rho → Tw → Res D) (r : Rho) (t : Tw) : putE i fk fa r t = ( match r[i]? with
    | some (.own (.dct kvs)) => (fa r t).bind fun x t1 => (fk r t1).bind fun y t2 => (match keyD y with
      | some k => if decide (kvs.length < 16777216) then .ok (.nx, r.set i (.own (.dct (putD kvs k x)))) t2 else .bad
      | none => .bad)
    | _ => .bad) := rfl
@[simp] theorem x_putLE (i : Nat) (fk fa : Rho → Tw → Res D) (r : Rho) (t : Tw) : putLE i fk fa r t = ( match r[i]? with
    | some (.own (.lst xs)) => (fa r t).bind fun x t1 => (fk r t1).bind fun y t2 => (match y with
      | .int j => (match L2.ixN xs.length j with
        | some n => .ok (.nx, r.set i (.own (.lst (xs.set n x)))) t2
        | none => .bad)
      | _ => .bad)
    | _ => .bad) := rfl
@[simp] theorem x_augE (i : Nat) (op : Operator) (fa : Rho → Tw → Res D) (r : Rho) (t : Tw) : augE i op fa r t = ( match r[i]? with
    | some (.val x) => (fa r t).bind fun y t1 => match x, y with
      | .int _, .int _ => Fm.lift ((binD op x y).map fun z => (.nx, r.set i (.val z))) t1
      | _, _ => .bad
    | _ => .bad) := rfl
@[simp] theorem x_forE (tg : Tg) (fi : Rho → Tw → Res (List D)) (f : Rho → Tw → Res (Fl × Rho)) (r : Rho) (t : Tw) : forE tg fi f r t = ( (fi r t).bind fun xs t1 => loopF (fun d r t => match setT tg d r with
    | some r1 => f r1 t
    | none => .bad) xs r t1) := rfl
@[simp] theorem x_starE (i j : Nat) (fa : Rho → Tw → Res D) (r : Rho) (t : Tw) : starE i j fa r t = ( (fa r t).bind fun x t1 => match x with
    | .tup (y :: ys) => if decide (i < r.length) && decide (j < r.length) && decide (ys.length < 16384) then .ok (.nx, (r.set i (.val y)).set j (.val (.lst ys))) t1 else .bad
    | _ => .bad) := rfl
@[simp] theorem x_tcountE (i : Nat) (r : Rho) (t : Tw) : tcountE i r t = ( match r[i]? with
    | some (.val .tok) => .ok (.int t.count) t
    | _ => .bad) := rfl
@[simp] theorem x_tgetE (i : Nat) (fk fd : Rho → Tw → Res D) (r : Rho) (t : Tw) : tgetE i fk fd r t = ( match r[i]? with
    | some (.val .tok) => (fk r t).bind fun y t1 => (fd r t1).bind fun z t2 => (match y, z with
      | .int a, .int b => .ok (.int ((lkT t2.rests a).getD b)) t2
      | _, _ => .bad)
    | _ => .bad) := rfl
@[simp] theorem x_tcntE (i : Nat) (fa : Rho → Tw → Res D) (r : Rho) (t : Tw) : tcntE i fa r t = ( match r[i]? with
    | some (.val .tok) => (fa r t).bind fun x t1 => (match x with
      | .int c => .ok (.nx, r) { t1 with count := c }
      | _ => .bad)
    | _ => .bad) := rfl
@[simp] theorem x_trstE (i : Nat) (fk fa : Rho → Tw → Res D) (r : Rho) (t : Tw) : trstE i fk fa r t = ( match r[i]? with
    | some (.val .tok) => (fa r t).bind fun x t1 => (fk r t1).bind fun y t2 => (match x, y with
      | .int v, .int a => if decide (t2.rests.length < 1000000) then .ok (.nx, r) { t2 with rests := putT t2.rests a v } else .bad
      | _, _ => .bad)
    | _ => .bad) := rfl
@[simp] theorem x_updE (i : Nat) (fa : Rho → Tw → Res D) (r : Rho) (t : Tw) : updE i fa r t = ( match r[i]? with
    | some (.own (.dct kvs)) => (fa r t).bind fun x t1 => (match x with
      | .dct more => if decide (kvs.length + more.length ≤ 16777216) then .ok (.nx, r.set i (.own (.dct (joinD kvs more)))) t1 else .bad
      | _ => .bad)
    | _ => .bad) := rfl
@[simp] theorem x_dspEE (ks : List Str) (fs : List (Rho → Tw → Res D)) (r : Rho) (t : Tw) : dspEE ks fs r t = ( (evL fs r t).bind fun xs t1 => if decide (xs.length ≤ 15) && decide (xs.length = ks.length) && decide (0 < xs.length) then .ok (.dct (mergeD [] (ks.zip xs))) t1 else .bad) := rfl
@[simp] theorem x_keysE (fa : Rho → Tw → Res D) (r : Rho) (t : Tw) : keysE fa r t = ( (fa r t).bind fun x t1 => match x with
    | .dct kvs => .ok (kvs.map fun p => kD p.1) t1
    | _ => .bad) := rfl
@[simp] theorem x_idxE (fa fb : Rho → Tw → Res D) (r : Rho) (t : Tw) : idxE fa fb r t = ( (fa r t).bind fun x t1 => if isSq true x then (fb r t1).bind fun y t2 => Fm.lift (idxD true x y) t2 else .bad) := rfl
@[simp] theorem x_insE (i : Nat) (fk fa : Rho → Tw → Res D) (r : Rho) (t : Tw) : insE i fk fa r t = ( match r[i]? with
    | some (.own (.lst xs)) => (fk r t).bind fun y t1 => (fa r t1).bind fun x t2 => (match y with
      | .int j => if decide (0 ≤ j) && decide (j < 2 ^ 63) && decide (xs.length < 16777216) then .ok (.nx, r.set i (.own (.lst (xs.take j.toNat ++ [x] ++ xs.drop j.toNat)))) t2 else .bad
      | _ => .bad)
    | _ => .bad) := rfl
@[simp] theorem x_enumTE (fa : Rho → Tw → Res D) (r : Rho) (t : Tw) : enumTE fa r t = ( (fa r t).bind fun x t1 => match x with
    | .tup xs => .ok (enumD 0 xs) t1
    | _ => .bad) := rfl
@[simp] theorem x_unsE (is : List Nat) (j : Nat) (fs : Rho → Tw → Res (List D)) (r : Rho) (t : Tw) : unsE is j fs r t = ( (fs r t).bind fun xs t1 => (match setAll is xs r with
    | some r1 => okSet r1 j (.own (.lst [])) t1
    | none => .bad)) := rfl
@[simp] theorem x_pnlE (j i : Nat) (f : Rho → Tw → Res D) (r : Rho) (t : Tw) : pnlE j i f r t = ( (f r t).bind fun x t1 => if decide (j < r.length) && decide (i < r.length) then .ok (.nx, (r.set j (.own (.lst []))).set i (.val x)) t1 else .bad) := rfl
end
section
variable {i j : Int} {x y : Str} {xs ys : List D} {b : Bool} {d e : D} {kvs : List (Key × D)}
@[simp] theorem x_cst0 : Cst.d .non = .non := rfl
@[simp] theorem x_cst1 : Cst.d (.bl b) = .bl b := rfl
@[simp] theorem x_cst2 : Cst.d (.int i) = .int i := rfl
@[simp] theorem x_cst3 : Cst.d (.str x) = .str x := rfl
@[simp] theorem x_bAdd : binD .Add d e = addD d e := rfl
@[simp] theorem x_bSub : binD .Sub d e = subD d e := rfl
@[simp] theorem x_bMul : binD .Mult d e = mulD d e := rfl
@[simp] theorem x_bDiv : binD .FloorDiv d e = fdivD d e := rfl
@[simp] theorem x_bMod : binD .Mod d e = modD d e := rfl
@[simp] theorem x_bPow : binD .Pow d e = powD d e := rfl
@[simp] theorem x_bShl : binD .LShift d e = shlD d e := rfl
@[simp] theorem x_addi : addD (.int i) (.int j) = some (.int (i + j)) := rfl
@[simp] theorem x_addt : addD (.tup xs) (.tup ys) = if okLen (xs.length + ys.length) then some (.tup (xs ++ ys)) else none := rfl
@[simp] theorem x_adds : addD (.str x) (.str y) = if okLen (x.length + y.length) then some (.str (x ++ y)) else none := rfl
@[simp] theorem x_cat : catD (.lst xs) (.lst ys) = if okLen (xs.length + ys.length) then some (.lst (xs ++ ys)) else none := rfl
@[simp] theorem x_sub : subD (.int i) (.int j) = some (.int (i - j)) := rfl
@[simp] theorem x_mul : mulD (.int i) (.int j) = if okMul i j then some (.int (i * j)) else none := rfl
@[simp] theorem x_fdiv : fdivD (.int i) (.int j) = if okDiv j then some (.int (i.fdiv j)) else none := rfl
@[simp] theorem x_mod : modD (.int i) (.int j) = if j = 0 then none else some (.int (i.fmod j)) := rfl
@[simp] theorem x_pow : powD (.int i) (.int j) = if okPow i j then some (.int (i ^ j.toNat)) else none := rfl
@[simp] theorem x_shl : shlD (.int i) (.int j) = if okPow i j then some (.int (i * 2 ^ j.toNat)) else none := rfl
@[simp] theorem x_neg : negD (.int i) = some (.int (-i)) := rfl
@[simp] theorem x_tru0 : truD .non = some false := rfl
@[simp] theorem x_tru1 : truD (.bl b) = some b := rfl
@[simp] theorem x_tru2 : truD (.int i) = some (i != 0) := rfl
@[simp] theorem x_tru3 : truD (.tup xs) = some (!xs.isEmpty) := rfl
@[simp] theorem x_tru4 : truD (.lst xs) = some (!xs.isEmpty) := rfl
@[simp] theorem x_tru6 : truD (.str x) = if okLen x.length then some ((x.length : Int) != 0) else none := rfl
@[simp] theorem x_not : notD d = (truD d).map fun b => .bl (!b) := rfl
@[simp] theorem x_ceq : cmpD .Eq d e = eqOp d e := rfl
@[simp] theorem x_cne : cmpD .NotEq d e = neOp d e := rfl
@[simp] theorem x_clt : cmpD .Lt d e = ltOp d e := rfl
@[simp] theorem x_cle : cmpD .LtE d e = leOp d e := rfl
@[simp] theorem x_cgt : cmpD .Gt d e = gtOp d e := rfl
@[simp] theorem x_cge : cmpD .GtE d e = geOp d e := rfl
@[simp] theorem x_cis : cmpD .Is d .non = some (.bl (isN d)) := rfl
@[simp] theorem x_cisn : cmpD .IsNot d .non = some (.bl (!isN d)) := rfl
@[simp] theorem x_cin : cmpD .In d e = (inB d e).map .bl := rfl
@[simp] theorem x_cnin : cmpD .NotIn d e = (inB d e).map fun r => .bl (!r) := rfl
@[simp] theorem x_lt : ltOp (.int i) (.int j) = some (.bl (decide (i < j))) := rfl
@[simp] theorem x_le : leOp (.int i) (.int j) = some (.bl (decide (i ≤ j))) := rfl
@[simp] theorem x_gt : gtOp (.int i) (.int j) = some (.bl (decide (j < i))) := rfl
@[simp] theorem x_ge : geOp (.int i) (.int j) = some (.bl (decide (j ≤ i))) := rfl
@[simp] theorem x_isn0 : isN .non = true := rfl
@[simp] theorem x_isn1 : isN (.bl b) = false := rfl
@[simp] theorem x_isn2 : isN (.int i) = false := rfl
@[simp] theorem x_isn3 : isN (.str x) = false := rfl
@[simp] theorem x_isn4 : isN (.tup xs) = false := rfl
@[simp] theorem x_isn5 : isN (.lst xs) = false := rfl
@[simp] theorem x_len1 : blt1 .len (.tup xs) = some (.int xs.length) := rfl
@[simp] theorem x_len2 : blt1 .len (.lst xs) = some (.int xs.length) := rfl
@[simp] theorem x_len3 : blt1 .len (.str x) = if okLen x.length then some (.int x.length) else none := rfl
@[simp] theorem x_tup1 : blt1 .tuple (.lst xs) = some (.tup xs) := rfl
@[simp] theorem x_tup2 : blt1 .tuple (.tup xs) = some (.tup xs) := rfl
@[simp] theorem x_lst1 : blt1 .list (.lst xs) = some (.lst xs) := rfl
@[simp] theorem x_lst2 : blt1 .list (.tup xs) = some (.lst xs) := rfl
@[simp] theorem x_abs1 : blt1 .abs (.int i) = some (.int (if i < 0 then -i else i)) := rfl
@[simp] theorem x_ixt : ixD (.tup xs) (.int i) = L2.atI xs i := rfl
@[simp] theorem x_ixl : ixD (.lst xs) (.int i) = L2.atI xs i := rfl
@[simp] theorem x_ixs : ixD (.str x) (.int i) = if okLen x.length then (L2.atI x.cps.toList i).map fun c => .str ⟨#[c]⟩ else none := rfl
@[simp] theorem x_rev1 : revD (.tup xs) = some (.tup xs.reverse) := rfl
@[simp] theorem x_rev2 : revD (.lst xs) = some (.lst xs.reverse) := rfl
@[simp] theorem x_opt0 : optI none = some none := rfl
@[simp] theorem x_opt1 : optI (some (.int i)) = some (some i) := rfl
@[simp] theorem x_cutt {l h : Option Int} : cutD (.tup xs) l h = some (.tup (cutL xs l h)) := rfl
@[simp] theorem x_cutl {l h : Option Int} : cutD (.lst xs) l h = some (.lst (cutL xs l h)) := rfl
@[simp] theorem x_isa_int_non : isaD .non .int = some false := rfl
@[simp] theorem x_isa_int_bl : isaD (.bl b) .int = some true := rfl
@[simp] theorem x_isa_int_int : isaD (.int i) .int = some true := rfl
@[simp] theorem x_isa_int_str : isaD (.str x) .int = some false := rfl
@[simp] theorem x_isa_int_tup : isaD (.tup xs) .int = some false := rfl
@[simp] theorem x_isa_int_lst : isaD (.lst xs) .int = some false := rfl
@[simp] theorem x_isa_bool_non : isaD .non .bool = some false := rfl
@[simp] theorem x_isa_bool_bl : isaD (.bl b) .bool = some true := rfl
@[simp] theorem x_isa_bool_int : isaD (.int i) .bool = some false := rfl
@[simp] theorem x_isa_bool_str : isaD (.str x) .bool = some false := rfl
@[simp] theorem x_isa_bool_tup : isaD (.tup xs) .bool = some false := rfl
@[simp] theorem x_isa_bool_lst : isaD (.lst xs) .bool = some false := rfl
@[simp] theorem x_isa_str_non : isaD .non .str = some false := rfl
@[simp] theorem x_isa_str_bl : isaD (.bl b) .str = some false := rfl
@[simp] theorem x_isa_str_int : isaD (.int i) .str = some false := rfl
@[simp] theorem x_isa_str_str : isaD (.str x) .str = some true := rfl
@[simp] theorem x_isa_str_tup : isaD (.tup xs) .str = some false := rfl
@[simp] theorem x_isa_str_lst : isaD (.lst xs) .str = some false := rfl
@[simp] theorem x_isa_tuple_non : isaD .non .tuple = some false := rfl
@[simp] theorem x_isa_tuple_bl : isaD (.bl b) .tuple = some false := rfl
@[simp] theorem x_isa_tuple_int : isaD (.int i) .tuple = some false := rfl
@[simp] theorem x_isa_tuple_str : isaD (.str x) .tuple = some false := rfl
@[simp] theorem x_isa_tuple_tup : isaD (.tup xs) .tuple = some true := rfl
@[simp] theorem x_isa_tuple_lst : isaD (.lst xs) .tuple = some false := rfl
@[simp] theorem x_isa_list_non : isaD .non .list = some false := rfl
@[simp] theorem x_isa_list_bl : isaD (.bl b) .list = some false := rfl
@[simp] theorem x_isa_list_int : isaD (.int i) .list = some false := rfl
@[simp] theorem x_isa_list_str : isaD (.str x) .list = some false := rfl
@[simp] theorem x_isa_list_tup : isaD (.tup xs) .list = some false := rfl
@[simp] theorem x_isa_list_lst : isaD (.lst xs) .list = some true := rfl
end
@[simp] theorem x_setN {i : Nat} {d : D} {r : Rho} : setT (.name i) d r = if decide (i < r.length) then some (r.set i (.val d)) else none := rfl
@[simp] theorem x_setT {ts : Tgs} {xs : List D} {r : Rho} : setT (.tup ts) (.tup xs) r = setTs ts xs r := rfl
@[simp] theorem x_set0 {r : Rho} : setTs .nil [] r = some r := rfl
@[simp] theorem x_set1 {t : Tg} {ts : Tgs} {x : D} {xs : List D} {r : Rho} : setTs (.cons t ts) (x :: xs) r = (setT t x r).bind fun r1 => setTs ts xs r1 := rfl
@[simp] theorem x_all0 {r : Rho} : setAll [] [] r = some r := rfl
@[simp] theorem x_all1 {i : Nat} {is : List Nat} {d : D} {ds : List D} {r : Rho} : setAll (i :: is) (d :: ds) r = if decide (i < r.length) then setAll is ds (r.set i (.val d)) else none := rfl
@[simp] theorem x_okSet {r : Rho} {i : Nat} {s : Sl} {t : Tw} : okSet r i s t = if decide (i < r.length) then .ok (.nx, r.set i s) t else .bad := rfl
@[simp] theorem x_startR {N : List Str} {ds : List D} : startR N ds = ds.map .val ++ List.replicate (N.length - ds.length) .un := rfl
@[simp] theorem x_startL {N : List Str} {ns : List Int} : startL N ns = (startR N [.scr ns]).set 1 (.val .tok) := rfl
@[simp] theorem x_ret0 {d : D} {r : Rho} {t : Tw} : retD (.ok (.ret d, r) t) = .ok d t := rfl
@[simp] theorem x_ret1 {r : Rho} {t : Tw} : retD (.ok (.nx, r) t) = .ok .non t := rfl
@[simp] theorem x_ret2 {n : Nat} {t : Tw} : retD (.exc n t) = .exc n t := rfl
@[simp] theorem x_loop0 {f : D → Rho → Tw → Res (Fl × Rho)} {r : Rho} {t : Tw} : loopF f [] r t = .ok (.nx, r) t := rfl
@[simp] theorem x_comp0 {f : D → Tw → Res (Option D)} {t : Tw} : compL f [] t = .ok [] t := rfl
@[simp] theorem x_wipe0 {r : Rho} : wipeR r [] = r := rfl
@[simp] theorem x_wipe1 {r : Rho} {v : Nat} {vs : List Nat} : wipeR r (v :: vs) = (wipeR r vs).set v .un := rfl
@[simp] theorem x_cons0 {xs : List D} : consO none xs = xs := rfl
@[simp] theorem x_cons1 {x : D} {xs : List D} : consO (some x) xs = x :: xs := rfl
@[simp] theorem x_ok0 : okLen 0 = true := rfl
@[simp] theorem x_ok1 : okLen 1 = true := rfl
@[simp] theorem x_ok2 : okLen 2 = true := rfl
@[simp] theorem x_ok3 : okLen 3 = true := rfl
@[simp] theorem x_ok4 : okLen 4 = true := rfl
@[simp] theorem x_ok5 : okLen 5 = true := rfl
@[simp] theorem x_ok6 : okLen 6 = true := rfl
@[simp] theorem x_ok7 : okLen 7 = true := rfl
@[simp] theorem x_ok8 : okLen 8 = true := rfl
@[simp] theorem x_ok9 : okLen 9 = true := rfl
@[simp] theorem x_ok10 : okLen 10 = true := rfl
@[simp] theorem x_ok11 : okLen 11 = true := rfl
@[simp] theorem x_ok12 : okLen 12 = true := rfl
@[simp] theorem x_ok13 : okLen 13 = true := rfl
@[simp] theorem x_ok14 : okLen 14 = true := rfl
@[simp] theorem x_ok15 : okLen 15 = true := rfl
@[simp] theorem x_ok16 : okLen 16 = true := rfl
@[simp] theorem x_ok17 : okLen 17 = true := rfl
@[simp] theorem x_ok18 : okLen 18 = true := rfl
@[simp] theorem x_ok19 : okLen 19 = true := rfl
@[simp] theorem x_ok20 : okLen 20 = true := rfl
@[simp] theorem x_ok21 : okLen 21 = true := rfl
@[simp] theorem x_ok22 : okLen 22 = true := rfl
@[simp] theorem x_ok23 : okLen 23 = true := rfl
@[simp] theorem x_ok24 : okLen 24 = true := rfl
@[simp] theorem x_ok25 : okLen 25 = true := rfl
@[simp] theorem x_ok26 : okLen 26 = true := rfl
@[simp] theorem x_ok27 : okLen 27 = true := rfl
@[simp] theorem x_ok28 : okLen 28 = true := rfl
@[simp] theorem x_ok29 : okLen 29 = true := rfl
@[simp] theorem x_ok30 : okLen 30 = true := rfl
@[simp] theorem x_ok31 : okLen 31 = true := rfl
@[simp] theorem x_ok32 : okLen 32 = true := rfl
@[simp] theorem x_ok33 : okLen 33 = true := rfl
@[simp] theorem x_ok34 : okLen 34 = true := rfl
@[simp] theorem x_ok35 : okLen 35 = true := rfl
@[simp] theorem x_ok36 : okLen 36 = true := rfl
@[simp] theorem x_ok37 : okLen 37 = true := rfl
@[simp] theorem x_ok38 : okLen 38 = true := rfl
@[simp] theorem x_ok39 : okLen 39 = true := rfl
@[simp] theorem x_ok40 : okLen 40 = true := rfl
@[simp] theorem x_ok41 : okLen 41 = true := rfl
@[simp] theorem x_ok42 : okLen 42 = true := rfl
@[simp] theorem x_ok43 : okLen 43 = true := rfl
@[simp] theorem x_ok44 : okLen 44 = true := rfl
@[simp] theorem x_ok45 : okLen 45 = true := rfl
@[simp] theorem x_ok46 : okLen 46 = true := rfl
@[simp] theorem x_ok47 : okLen 47 = true := rfl
@[simp] theorem x_ok48 : okLen 48 = true := rfl
@[simp] theorem x_ok49 : okLen 49 = true := rfl
@[simp] theorem x_ok50 : okLen 50 = true := rfl
@[simp] theorem x_ok51 : okLen 51 = true := rfl
@[simp] theorem x_ok52 : okLen 52 = true := rfl
@[simp] theorem x_ok53 : okLen 53 = true := rfl
@[simp] theorem x_ok54 : okLen 54 = true := rfl
@[simp] theorem x_ok55 : okLen 55 = true := rfl
@[simp] theorem x_ok56 : okLen 56 = true := rfl
@[simp] theorem x_ok57 : okLen 57 = true := rfl
@[simp] theorem x_ok58 : okLen 58 = true := rfl
@[simp] theorem x_ok59 : okLen 59 = true := rfl
@[simp] theorem x_ok60 : okLen 60 = true := rfl
@[simp] theorem x_ok61 : okLen 61 = true := rfl
@[simp] theorem x_ok62 : okLen 62 = true := rfl
@[simp] theorem x_ok63 : okLen 63 = true := rfl
/-- the first part first -/
@[simp ↓] theorem x_bind {α β : Type} (m : Res α) (f : α → Tw → Res β) : m.bind f = match m with
  | .ok a t => f a t
  | .exc n t => .exc n t
  | .bad => .bad := by cases m <;> rfl
/-- calls of a level -/
theorem gam_at {p : Pg} {ns : List Int} {k j : Nat} {sh : Sh} (h : p.tb.sh[j]? = some sh) (xs ys : List D) (t : Tw) : (gam p ns k).f 0 j xs ys t = callF p ns k sh.fn (xs ++ ys ++ sh.dfl.map Cst.d) t := by
  show (match p.tb.sh[j]? with
    | some sh => _
    | none => _) = _
  rw [h]
  rfl

end Fm

/-! ### plain lemmas: equality, loops, comprehensions, draws -/
namespace Fm
open PySem
section
variable {i j : Int} {a b : Bool} {x y : Str}
@[simp] theorem x_eqi : eqOp (.int i) (.int j) = some (.bl (decide (i = j))) := by
  by_cases h : i = j <;> simp [eqOp, okEq, lay, dep, D.py, PyData.canLay0, PyData.depth, eqD, PyData.eqv, h]
@[simp] theorem x_nei : neOp (.int i) (.int j) = some (.bl (!decide (i = j))) := by
  by_cases h : i = j <;> simp [neOp, okEq, lay, dep, D.py, PyData.canLay0, PyData.depth, eqD, PyData.eqv, h]
@[simp] theorem x_eqb : eqOp (.bl a) (.bl b) = some (.bl (a == b)) := by
  simp [eqOp, okEq, lay, dep, D.py, PyData.canLay0, PyData.depth, eqD, PyData.eqv]
@[simp] theorem x_eqD_s : eqD (.str x) (.str y) = (x == y) := by
  simp [eqD, D.py, PyData.eqv]
@[simp] theorem x_lay_s : lay (.str x) = PyData.strOk x := by
  simp [lay, D.py, PyData.canLay0]
@[simp] theorem x_lay_i : lay (.int i) = true := by
  simp [lay, D.py, PyData.canLay0]
@[simp] theorem x_dep_s : dep (.str x) = 0 := by
  simp [dep, D.py, PyData.depth]
theorem x_eqs (h1 : PyData.strOk x = true) (h2 : PyData.strOk y = true) : eqOp (.str x) (.str y) = some (.bl (x == y)) := by
  simp [eqOp, okEq, h1, h2]
theorem x_ins (h : PyData.strOk x = true) {ys : List Str} (h2 : ys.all PyData.strOk = true) : inB (.str x) (.tup (ys.map .str)) = some (ys.any fun z => z == x) := by
  have e : ((ys.map D.str).all lay) = true := by
    rw [List.all_map]
    simpa [Function.comp] using h2
  simp only [inB, x_lay_s, h, e, x_dep_s, List.any_map, Function.comp_def, x_eqD_s]
  simp
end
theorem x_eq0 {xs : List D} (h : lay (.tup xs) = true) : eqOp (.tup xs) (.tup []) = some (.bl xs.isEmpty) := by
  have e : dep (.tup []) = 1 := by simp [dep, D.py, pys, PyData.depth, PyData.depthAll]
  have l : lay (.tup []) = true := by simp [lay, D.py, pys, PyData.canLay0, PyData.canLayAll0]
  have m : min (dep (.tup xs)) 1 ≤ 190 := Nat.le_trans (Nat.min_le_right ..) (by omega)
  simp only [eqOp, okEq, h, l, e, m, decide_true, Bool.and_self, if_true]
  cases xs <;> simp [eqD, D.py, pys, PyData.eqv, PyData.eqvAll]
@[simp] theorem x_ev_dsp {G : Gam} {cs : Nat → D} {r : Rho} {t : Tw} (kvs : List (Str × Cst)) : ev G cs (.dsp kvs) r t = if decide (kvs.length ≤ 15) then .ok (.dct (mergeD [] (kvs.map fun p => (p.1, p.2.d)))) t else .bad := by rw [ev_dsp]
/-! ### loops, comprehensions -/
theorem loopF_inv {f : D → Rho → Tw → Res (Fl × Rho)} (I : Rho → Tw → Prop) : ∀ (xs : List D) (r : Rho) (t : Tw), I r t → (∀ d ∈ xs, ∀ r t, I r t → ∃ r' t', f d r t = .ok (.nx, r') t' ∧ I r' t') → ∃ r' t', loopF f xs r t = .ok (.nx, r') t' ∧ I r' t'
  | [], r, t, h, _ => ⟨r, t, rfl, h⟩
  | d :: ds, r, t, h, hf => by
    obtain ⟨r1, t1, e, h1⟩ := hf d (List.mem_cons_self ..) r t h
    obtain ⟨r2, t2, e2, h2⟩ := loopF_inv I ds r1 t1 h1 fun d' m => hf d' (List.mem_cons_of_mem _ m)
    exact ⟨r2, t2, by rw [loopF, e]; exact e2, h2⟩
theorem compL_map {f : D → Tw → Res (Option D)} (g : D → D) {t : Tw} : ∀ (xs : List D), (∀ d ∈ xs, f d t = .ok (some (g d)) t) → compL f xs t = .ok (xs.map g) t
  | [], _ => rfl
  | d :: ds, h => by
    rw [compL, h d (List.mem_cons_self ..)]
    simp only
    rw [compL_map g ds fun d' m => h d' (List.mem_cons_of_mem _ m)]
    rfl
/-- turns that draw: each gives what Z tells -/
theorem compL_inv {f : D → Tw → Res (Option D)} (I : Nat → Tw → Prop) (Z : D → Prop) : ∀ (xs : List D) (t : Tw) (n : Nat), I (n + xs.length) t → (∀ d ∈ xs, ∀ n t, I (n + 1) t → ∃ x t', f d t = .ok (some x) t' ∧ Z x ∧ I n t') → ∃ ys t', compL f xs t = .ok ys t' ∧ ys.length = xs.length ∧ (∀ y ∈ ys, Z y) ∧ I n t'
  | [], t, n, h, _ => ⟨[], t, rfl, rfl, fun _ m => (List.not_mem_nil m).elim, h⟩
  | d :: ds, t, n, h, hf => by
    obtain ⟨x, t1, e, z, h1⟩ := hf d (List.mem_cons_self ..) (n + ds.length) t (by rw [List.length_cons] at h; exact h)
    obtain ⟨ys, t2, e2, l, z2, h2⟩ := compL_inv I Z ds t1 n h1 fun d' m => hf d' (List.mem_cons_of_mem _ m)
    refine ⟨x :: ys, t2, ?_, by rw [List.length_cons, l, List.length_cons], fun y m => ?_, h2⟩
    · rw [compL, e]
      simp only
      rw [e2]
      rfl
    · rcases List.mem_cons.mp m with rfl | m
      · exact z
      · exact z2 y m
theorem comp_map {G : Gam} {cs : Nat → D} {own : List (Str × Nat)} {elt : E} {tg : Tg} {it : I} {cd : O} {r : Rho} {t : Tw} {xs : List D} (g : D → D) (hi : evI G cs it r t = .ok xs t) (hl : okLen xs.length = true) (h : ∀ d ∈ xs, turnE tg (own.map (·.2)) (evO G cs cd) (ev G cs elt) r d t = .ok (some (g d)) t) : ev G cs (.comp own elt tg it cd) r t = .ok (.lst (xs.map g)) t := by
  rw [ev_comp]
  unfold compE
  rw [hi, Res.bind_ok, hl, if_pos rfl, compL_map g xs h]
  rfl
theorem comp_inv {G : Gam} {cs : Nat → D} {own : List (Str × Nat)} {elt : E} {tg : Tg} {it : I} {cd : O} {r : Rho} {t t1 : Tw} {xs : List D} {n : Nat} (I : Nat → Tw → Prop) (Z : D → Prop) (hi : evI G cs it r t = .ok xs t1) (hl : okLen xs.length = true) (h0 : I (n + xs.length) t1)
    (h : ∀ d ∈ xs, ∀ n t, I (n + 1) t → ∃ x t', turnE tg (own.map (·.2)) (evO G cs cd) (ev G cs elt) r d t = .ok (some x) t' ∧ Z x ∧ I n t') : ∃ ys t', ev G cs (.comp own elt tg it cd) r t = .ok (.lst ys) t' ∧ ys.length = xs.length ∧ (∀ y ∈ ys, Z y) ∧ I n t' := by
  obtain ⟨ys, t', e, q⟩ := compL_inv I Z xs t1 n h0 h
  refine ⟨ys, t', ?_, q⟩
  rw [ev_comp]
  unfold compE
  rw [hi, Res.bind_ok, hl, if_pos rfl, e]
  rfl
theorem bls_map : ∀ (xs : List D) (g : D → Bool), bls (xs.map fun d => .bl (g d)) = some (xs.map g)
  | [], _ => rfl
  | x :: xs, g => by simp [bls, bls_map xs g]
theorem x_all {xs : List D} {g : D → Bool} : blt1 .all (.lst (xs.map fun d => .bl (g d))) = some (.bl (xs.all g)) := by
  simp [blt1, bls_map]
/-! ### sizes -/
theorem log2_lt' {n k : Nat} (h : n < 2 ^ k) (hk : 0 < k) : n.log2 < k := by
  by_cases z : n = 0
  · subst z
    simpa using hk
  · exact (Nat.log2_lt z).mpr h
theorem okMul_of {i j : Int} {k l : Nat} (h1 : i.natAbs < 2 ^ k) (h2 : j.natAbs < 2 ^ l) (hk : 0 < k) (hl : 0 < l) (h : k + l ≤ 1000000) : okMul i j = true := by
  have := log2_lt' h1 hk
  have := log2_lt' h2 hl
  simp only [okMul, decide_eq_true_eq]
  omega
theorem okDiv_of {j : Int} {k : Nat} (h0 : j ≠ 0) (h1 : j.natAbs < 2 ^ k) (hk : 0 < k) (h : k ≤ 9000) : okDiv j = true := by
  have := log2_lt' h1 hk
  simp only [okDiv, Bool.and_eq_true, decide_eq_true_eq]
  omega
theorem fmod_rng {i m : Int} (h : 0 < m) : 0 ≤ i.fmod m ∧ i.fmod m < m := ⟨Int.fmod_nonneg_of_pos _ h, Int.fmod_lt_of_pos _ h⟩
/-! ### draws -/
def goodT (t : Tw) : Prop := 0 ≤ t.count ∧ t.rests.length ≤ t.count.toNat
/-- n draws may be made -/
def rm (n : Nat) (t : Tw) : Prop := goodT t ∧ t.count + n ≤ 900000
theorem rm.le {n m : Nat} {t : Tw} (h : rm n t) (l : m ≤ n) : rm m t := ⟨h.1, by have := h.2; omega⟩
def drawB : Ss := .cons (.tcnt 1 (.bin .Add (.tcount 1) (.cst (.int 1)))) (.cons (.asg (.name 3) (.ite (.var 0) (.bin .Mod (.tcount 1) (.blt .len (.var 0))) (.cst (.int 0)))) (.cons (.asg (.name 4) (.tget 1 (.var 3) (.ite (.var 0) (.ix (.var 0) (.var 3)) (.cst (.int 0))))) (.cons (.ite (.cmp .GtE (.var 4) (.bin .Pow (.cst (.int 10)) (.cst (.int 18)))) (.cons (.trst 1 (.var 3) (.bin .FloorDiv (.var 4) (.var 2))) (.cons (.ret (.bin .Mod (.var 4) (.var 2))) .nil)) .nil) (.cons (.asg (.name 5) (.bin .Mod (.bin .Add (.var 4) (.bin .Mult (.cst (.int 104729)) (.tcount 1))) (.cst (.int 4294967291)))) (.cons (.asg (.name 5) (.bin .Mod (.bin .Pow (.var 5) (.cst (.int 5))) (.cst (.int 4294967279)))) (.cons (.ret (.bin .Mod (.bin .FloorDiv (.bin .Mod (.bin .Add (.bin .Mult (.bin .FloorDiv (.var 5) (.cst (.int 64))) (.cst (.int 69621))) (.var 5)) (.cst (.int 4294967231))) (.cst (.int 8))) (.var 2))) .nil))))))
theorem draw_tail {G : Gam} {cs : Nat → D} {sc : D} {m at_ rest : Int} {t : Tw} {n : Nat} (hm : 0 < m) (hm2 : m < 1048576) (h : goodT t) (hc : t.count + n ≤ 900000) (hr : t.rests.length < t.count.toNat) :
    ∃ v t', retD (evSs G cs (.cons (.ite (.cmp .GtE (.var 4) (.bin .Pow (.cst (.int 10)) (.cst (.int 18)))) (.cons (.trst 1 (.var 3) (.bin .FloorDiv (.var 4) (.var 2))) (.cons (.ret (.bin .Mod (.var 4) (.var 2))) .nil)) .nil) (.cons (.asg (.name 5) (.bin .Mod (.bin .Add (.var 4) (.bin .Mult (.cst (.int 104729)) (.tcount 1))) (.cst (.int 4294967291)))) (.cons (.asg (.name 5) (.bin .Mod (.bin .Pow (.var 5) (.cst (.int 5))) (.cst (.int 4294967279)))) (.cons (.ret (.bin .Mod (.bin .FloorDiv (.bin .Mod (.bin .Add (.bin .Mult (.bin .FloorDiv (.var 5) (.cst (.int 64))) (.cst (.int 69621))) (.var 5)) (.cst (.int 4294967231))) (.cst (.int 8))) (.var 2))) .nil)))) [.val sc, .val .tok, .val (.int m), .val (.int at_), .val (.int rest), .un] t) = .ok (.int v) t' ∧ 0 ≤ v ∧ v < m ∧ rm n t' := by
  obtain ⟨g1, g2⟩ := h
  have p1 : okPow 10 18 = true := by decide
  have e18 : (10 : Int) ^ (18 : Int).toNat = 1000000000000000000 := by decide
  have d1 : okDiv m = true := okDiv_of (k := 20) (by omega) (by omega) (by omega) (by omega)
  have m0 : m ≠ 0 := by omega
  have l1 : t.rests.length < 1000000 := by omega
  have c1 : t.count.natAbs < 2 ^ 20 := by omega
  have k1 : okMul 104729 t.count = true := okMul_of (k := 17) (l := 20) (by decide) c1 (by omega) (by omega) (by omega)
  by_cases hb : 1000000000000000000 ≤ rest
  · refine ⟨rest.fmod m, { t with rests := putT t.rests at_ (rest.fdiv m) }, ?_, (fmod_rng hm).1, (fmod_rng hm).2, ⟨g1, ?_⟩, hc⟩
    · simp [p1, e18, hb, d1, m0, l1]
    · have := putT_len t.rests at_ (rest.fdiv m)
      show (putT t.rests at_ (rest.fdiv m)).length ≤ t.count.toNat
      omega
  · have q1 := fmod_rng (i := rest + 104729 * t.count) (m := 4294967291) (by omega)
    generalize hn1 : (rest + 104729 * t.count).fmod 4294967291 = n1 at q1
    have p2 : okPow n1 5 = true := by
      simp only [okPow, Bool.and_eq_true, decide_eq_true_eq]
      refine ⟨⟨by omega, by omega⟩, ?_⟩
      have : (2 : Nat) ^ 64 = 18446744073709551616 := by decide
      omega
    have q2 := fmod_rng (i := n1 ^ (5 : Int).toNat) (m := 4294967279) (by omega)
    generalize hn2 : (n1 ^ (5 : Int).toNat).fmod 4294967279 = n2 at q2
    have q3 : 0 ≤ n2.fdiv 64 ∧ n2.fdiv 64 < 2 ^ 32 := by
      rw [Int.fdiv_eq_ediv_of_nonneg _ (by omega)]
      omega
    have k2 : okMul (n2.fdiv 64) 69621 = true := okMul_of (k := 32) (l := 17) (by omega) (by decide) (by omega) (by omega) (by omega)
    have d2 : okDiv 64 = true := okDiv_of (k := 20) (by omega) (by omega) (by omega) (by omega)
    have d3 : okDiv 8 = true := okDiv_of (k := 20) (by omega) (by omega) (by omega) (by omega)
    refine ⟨(((n2.fdiv 64 * 69621 + n2).fmod 4294967231).fdiv 8).fmod m, t, ?_, (fmod_rng hm).1, (fmod_rng hm).2, ⟨g1, g2⟩, hc⟩
    · simp [p1, e18, hb, d1, m0, l1, k1, hn1, p2, hn2, k2, d2, d3]
      simp at hn2
      simp [hn2, k2, d3, m0]
theorem draw_ev {G : Gam} {cs : Nat → D} {ns : List Int} {m : Int} {t : Tw} {n : Nat} (hm : 0 < m) (hm2 : m < 1048576) (h : rm (n + 1) t) :
    ∃ v t', retD (evSs G cs drawB [.val (.scr ns), .val .tok, .val (.int m), .un, .un, .un] t) = .ok (.int v) t' ∧ 0 ≤ v ∧ v < m ∧ rm n t' := by
  obtain ⟨⟨g1, g2⟩, g3⟩ := h
  have G' : goodT { t with count := t.count + 1 } := ⟨by show 0 ≤ t.count + 1; omega, by show t.rests.length ≤ (t.count + 1).toNat; omega⟩
  have c' : t.count + 1 + n ≤ 900000 := by omega
  have r' : t.rests.length < (t.count + 1).toNat := by omega
  cases ns with
  | nil =>
    obtain ⟨v, t', e, q⟩ := draw_tail (G := G) (cs := cs) (sc := .scr []) (at_ := 0) (rest := (lkT t.rests 0).getD 0) (t := { t with count := t.count + 1 }) hm hm2 G' c' r'
    refine ⟨v, t', ?_, q⟩
    rw [← e]
    unfold drawB
    rw [x_evSs_cons]
    simp [truD]
  | cons a as =>
    have q := fmod_rng (i := t.count + 1) (m := ((a :: as).length : Int)) (by simp)
    generalize hk : (t.count + 1).fmod ((a :: as).length : Int) = k at q
    obtain ⟨w, ew⟩ : ∃ w, L2.atI (a :: as) k = some w := by
      unfold L2.atI L2.ixN
      rw [if_pos q.1, if_pos q.2]
      exact ⟨_, List.getElem?_eq_getElem (by omega)⟩
    obtain ⟨v, t', e, q2⟩ := draw_tail (G := G) (cs := cs) (sc := .scr (a :: as)) (at_ := k) (rest := (lkT t.rests k).getD w) (t := { t with count := t.count + 1 }) hm hm2 G' c' r'
    refine ⟨v, t', ?_, q2⟩
    rw [← e]
    unfold drawB
    have nz : ((a :: as).length : Int) ≠ 0 := by simp; omega
    rw [x_evSs_cons]
    simp only [List.length_cons, Int.natCast_add, Int.natCast_one] at hk nz
    simp [truD, blt1, lenD, hk, ixD, ew, nz]
end Fm

/-! ### more plain lemmas -/
namespace Fm
open PySem
/-- a comprehension with a test -/
theorem compL_filt {f : D → Tw → Res (Option D)} (c : D → Bool) (g : D → D) {t : Tw} : ∀ (xs : List D), (∀ d ∈ xs, f d t = .ok (if c d then some (g d) else none) t) → compL f xs t = .ok ((xs.filter c).map g) t
  | [], _ => rfl
  | d :: ds, h => by
    rw [compL, h d (List.mem_cons_self ..)]
    simp only
    rw [compL_filt c g ds fun d' m => h d' (List.mem_cons_of_mem _ m)]
    cases e : c d <;> simp [List.filter_cons, e, consO]
theorem comp_filt {G : Gam} {cs : Nat → D} {own : List (Str × Nat)} {elt : E} {tg : Tg} {it : I} {cd : O} {r : Rho} {t : Tw} {xs : List D} (c : D → Bool) (g : D → D) (hi : evI G cs it r t = .ok xs t) (hl : okLen xs.length = true) (h : ∀ d ∈ xs, turnE tg (own.map (·.2)) (evO G cs cd) (ev G cs elt) r d t = .ok (if c d then some (g d) else none) t) : ev G cs (.comp own elt tg it cd) r t = .ok (.lst ((xs.filter c).map g)) t := by
  rw [ev_comp]
  unfold compE
  rw [hi, Res.bind_ok, hl, if_pos rfl, compL_filt c g xs h]
  rfl
/-- a loop that ends at the first item that is not as it must be -/
theorem loopF_find {f : D → Rho → Tw → Res (Fl × Rho)} {t : Tw} {v : D} (P : D → Bool) (I : Rho → Prop) : ∀ (xs : List D) (r : Rho), I r → (∀ d ∈ xs, ∀ r, I r → (P d = true → ∃ r', f d r t = .ok (.nx, r') t ∧ I r') ∧ (P d = false → ∃ r', f d r t = .ok (.ret v, r') t)) →
    (xs.all P = true → ∃ r', loopF f xs r t = .ok (.nx, r') t ∧ I r') ∧ (xs.all P = false → ∃ r', loopF f xs r t = .ok (.ret v, r') t)
  | [], r, h, _ => ⟨fun _ => ⟨r, rfl, h⟩, fun h => by simp at h⟩
  | d :: ds, r, h, hf => by
    obtain ⟨h1, h2⟩ := hf d (List.mem_cons_self ..) r h
    cases e : P d with
    | true =>
      obtain ⟨r1, e1, i1⟩ := h1 e
      obtain ⟨g1, g2⟩ := loopF_find P I ds r1 i1 fun d' m => hf d' (List.mem_cons_of_mem _ m)
      refine ⟨fun ha => ?_, fun ha => ?_⟩
      · obtain ⟨r2, e2, i2⟩ := g1 (by simpa [e] using ha)
        exact ⟨r2, by rw [loopF, e1]; exact e2, i2⟩
      · obtain ⟨r2, e2⟩ := g2 (by simpa [e] using ha)
        exact ⟨r2, by rw [loopF, e1]; exact e2⟩
    | false =>
      obtain ⟨r1, e1⟩ := h2 e
      refine ⟨fun ha => by simp [e] at ha, fun _ => ⟨r1, by rw [loopF, e1]; rfl⟩⟩
/-- turns that draw, whatever they leave -/
theorem loopF_ix {f : D → Rho → Tw → Res (Fl × Rho)} (I : Nat → Rho → Tw → Prop) : ∀ (xs : List D) (r : Rho) (t : Tw) (n : Nat), I (n + xs.length) r t → (∀ d ∈ xs, ∀ n r t, I (n + 1) r t → ∃ r' t', f d r t = .ok (.nx, r') t' ∧ I n r' t') → ∃ r' t', loopF f xs r t = .ok (.nx, r') t' ∧ I n r' t'
  | [], r, t, n, h, _ => ⟨r, t, rfl, h⟩
  | d :: ds, r, t, n, h, hf => by
    obtain ⟨r1, t1, e, h1⟩ := hf d (List.mem_cons_self ..) (n + ds.length) r t (by rw [List.length_cons] at h; exact h)
    obtain ⟨r2, t2, e2, h2⟩ := loopF_ix I ds r1 t1 n h1 fun d' m => hf d' (List.mem_cons_of_mem _ m)
    exact ⟨r2, t2, by rw [loopF, e]; exact e2, h2⟩
theorem seq_nx {G : Gam} {cs : Nat → D} {s : S} {q : Ss} {r r1 : Rho} {t t1 : Tw} (h : evS G cs s r t = .ok (.nx, r1) t1) : evSs G cs (.cons s q) r t = evSs G cs q r1 t1 := by
  rw [x_evSs_cons, x_consE, h]
  rfl
theorem seq_ret {G : Gam} {cs : Nat → D} {s : S} {q : Ss} {r r1 : Rho} {t t1 : Tw} {d : D} (h : evS G cs s r t = .ok (.ret d, r1) t1) : evSs G cs (.cons s q) r t = .ok (.ret d, r1) t1 := by
  rw [x_evSs_cons, x_consE, h]
  rfl
/-! ### == -/
theorem x_eqL0 {xs : List D} (h : lay (.lst xs) = true) : eqOp (.lst xs) (.lst []) = some (.bl xs.isEmpty) := by
  have e : dep (.lst []) = 1 := by simp [dep, D.py, pys, PyData.depth, PyData.depthAll]
  have l : lay (.lst []) = true := by simp [lay, D.py, pys, PyData.canLay0, PyData.canLayAll0]
  have m : min (dep (.lst xs)) 1 ≤ 190 := Nat.le_trans (Nat.min_le_right ..) (by omega)
  simp only [eqOp, okEq, h, l, e, m, decide_true, Bool.and_self, if_true]
  cases xs <;> simp [eqD, D.py, pys, PyData.eqv, PyData.eqvAll]
theorem x_neL0 {xs : List D} (h : lay (.lst xs) = true) : neOp (.lst xs) (.lst []) = some (.bl (!xs.isEmpty)) := by
  have e : dep (.lst []) = 1 := by simp [dep, D.py, pys, PyData.depth, PyData.depthAll]
  have l : lay (.lst []) = true := by simp [lay, D.py, pys, PyData.canLay0, PyData.canLayAll0]
  have m : min (dep (.lst xs)) 1 ≤ 190 := Nat.le_trans (Nat.min_le_right ..) (by omega)
  simp only [neOp, okEq, h, l, e, m, decide_true, Bool.and_self, if_true]
  cases xs <;> simp [eqD, D.py, pys, PyData.eqv, PyData.eqvAll]
theorem x_ne0 {xs : List D} (h : lay (.tup xs) = true) : neOp (.tup xs) (.tup []) = some (.bl (!xs.isEmpty)) := by
  have e : dep (.tup []) = 1 := by simp [dep, D.py, pys, PyData.depth, PyData.depthAll]
  have l : lay (.tup []) = true := by simp [lay, D.py, pys, PyData.canLay0, PyData.canLayAll0]
  have m : min (dep (.tup xs)) 1 ≤ 190 := Nat.le_trans (Nat.min_le_right ..) (by omega)
  simp only [neOp, okEq, h, l, e, m, decide_true, Bool.and_self, if_true]
  cases xs <;> simp [eqD, D.py, pys, PyData.eqv, PyData.eqvAll]
/-- two fractions -/
theorem x_eqf (a b c d : Int) : eqOp (.tup [.int a, .int b]) (.tup [.int c, .int d]) = some (.bl (decide (a = c ∧ b = d))) := by
  simp [eqOp, okEq, lay, dep, D.py, pys, PyData.canLay0, PyData.canLayAll0, PyData.depth, PyData.depthAll, eqD, PyData.eqv, PyData.eqvAll]
  by_cases h : a = c <;> by_cases h2 : b = d <;> simp [h, h2]
theorem x_nef (a b c d : Int) : neOp (.tup [.int a, .int b]) (.tup [.int c, .int d]) = some (.bl (!decide (a = c ∧ b = d))) := by
  simp [neOp, okEq, lay, dep, D.py, pys, PyData.canLay0, PyData.canLayAll0, PyData.depth, PyData.depthAll, eqD, PyData.eqv, PyData.eqvAll]
  by_cases h : a = c <;> by_cases h2 : b = d <;> simp [h, h2]
/-! ### ints in order -/
theorem srtI_strict {xs : List Int} (h : xs.Nodup) : (srtI xs).Pairwise (· < ·) := by
  have h1 := srtI_sorted xs
  have h2 : (srtI xs).Nodup := (srtI_perm xs).nodup_iff.mpr h
  have := List.Pairwise.and h1 h2
  exact this.imp fun ⟨a, b⟩ => by omega
/-! ### dicts -/
theorem putD_len (kvs : List (Key × D)) (k : Key) (d : D) : (putD kvs k d).length ≤ kvs.length + 1 := by
  unfold putD
  split <;> simp
theorem putD_keys (kvs : List (Key × D)) (k : Key) (d : D) : (putD kvs k d).map (·.1) = if kvs.any (fun kv => decide (kv.1 = k)) then kvs.map (·.1) else kvs.map (·.1) ++ [k] := by
  unfold putD
  split
  · rw [List.map_map]
    refine List.map_congr_left fun p _ => ?_
    simp only [Function.comp]
    split <;> rfl
  · simp
theorem putD_nodup {kvs : List (Key × D)} (h : (kvs.map (·.1)).Nodup) (k : Key) (d : D) : ((putD kvs k d).map (·.1)).Nodup := by
  rw [putD_keys]
  split
  · exact h
  · rename_i h2
    refine List.nodup_append.mpr ⟨h, by simp, fun a ha b hb e => ?_⟩
    have hb : b = k := by simpa using hb
    subst e
    subst hb
    obtain ⟨p, hp, e⟩ := List.mem_map.mp ha
    exact h2 (List.any_eq_true.mpr ⟨p, hp, by simp [e]⟩)
theorem putD_mem {kvs : List (Key × D)} {k : Key} {d : D} {p : Key × D} (h : p ∈ putD kvs k d) : p ∈ kvs ∨ p = (k, d) := by
  unfold putD at h
  split at h
  · obtain ⟨q, hq, e⟩ := List.mem_map.mp h
    split at e
    · rename_i e2
      right
      rw [← e, e2]
    · left
      rw [← e]
      exact hq
  · rcases List.mem_append.mp h with h | h
    · exact .inl h
    · exact .inr (by simpa using h)
theorem lookD_some {kvs : List (Key × D)} {k : Key} (h : k ∈ kvs.map (·.1)) : ∃ d, lookD kvs k = some d ∧ (k, d) ∈ kvs := by
  unfold lookD
  obtain ⟨p, hp, e⟩ := List.mem_map.mp h
  have hs : (kvs.find? fun kv => decide (kv.1 = k)).isSome := List.find?_isSome.mpr ⟨p, hp, by simp [e]⟩
  obtain ⟨q, hq⟩ := Option.isSome_iff_exists.mp hs
  refine ⟨q.2, by rw [hq]; rfl, ?_⟩
  have h1 := List.find?_some hq
  have h2 := List.mem_of_find?_eq_some hq
  have h1 : q.1 = k := of_decide_eq_true h1
  rw [← h1]
  exact h2
theorem keysI_map : ∀ {kvs : List (Key × D)} {ns : List Int}, kvs.map (·.1) = ns.map Sum.inl → keysI kvs = some ns
  | [], [], _ => rfl
  | [], _ :: _, h => by cases h
  | _ :: _, [], h => by cases h
  | (k, d) :: kvs, n :: ns, h => by
    simp only [List.map_cons, List.cons.injEq] at h
    obtain ⟨rfl, h2⟩ := h
    simp [keysI, keysI_map h2]
theorem for_ev {G : Gam} {cs : Nat → D} {tg : Tg} {it : I} {b : Ss} {r : Rho} {t t1 : Tw} {xs : List D} (hi : evI G cs it r t = .ok xs t1) : evS G cs (.for tg it b) r t = loopF (fun d r t => match setT tg d r with
    | some r1 => evSs G cs b r1 t
    | none => .bad) xs r t1 := by
  rw [evS_for]
  unfold forE
  rw [hi]
  rfl
end Fm

namespace Lw
open PySem PySem.Spec PyProof.Rows L2 Fm
def top (i : Nat) : Stmt := PySem.Challenge.pw_formclear_k28_whole_one_step_more.main.body.getD i (.Pass ⟨0, 0, 0, 0⟩)
def i_is_whole : Nat := 0
def b_is_whole : Ss := (.cons (.ite (.or (.not (.isa (.var 0) .int)) (.isa (.var 0) .bool)) (.cons (.ret (.cst (.bl false))) .nil) .nil) (.cons (.ret (.or (.cmp .Is (.var 1) (.cst .non)) (.cmp .GtE (.var 0) (.var 1)))) .nil))
def f_is_whole : Fd := ⟨["thing", "least"], ["thing", "least"], b_is_whole⟩
def b_greatest_1 : Ss := (.cons (.par [0, 1] (.cons (.var 1) (.cons (.bin .Mod (.var 0) (.var 1)) .nil))) .nil)
def i_greatest : Nat := 1
def b_greatest : Ss := (.cons (.par [0, 1] (.cons (.blt .abs (.var 0)) (.cons (.blt .abs (.var 1)) .nil))) (.cons (.while (.cmp .Gt (.var 1) (.cst (.int 0))) b_greatest_1) (.cons (.ret (.var 0)) .nil)))
def f_greatest : Fd := ⟨["one", "other"], ["one", "other"], b_greatest⟩
def i_frac : Nat := 2
def b_frac : Ss := (.cons (.asg (.name 2) (.ite (.cmp .Gt (.var 1) (.cst (.int 0))) (.call 0 (.cons (.var 0) (.cons (.var 1) .nil)) .nil) (.neg (.call 0 (.cons (.var 0) (.cons (.var 1) .nil)) .nil)))) (.cons (.ret (.tup (.cons (.bin .FloorDiv (.var 0) (.var 2)) (.cons (.bin .FloorDiv (.var 1) (.var 2)) .nil)))) .nil))
def f_frac : Fd := ⟨["top", "bottom"], ["top", "bottom", "shared"], b_frac⟩
def i_frac_plus : Nat := 3
def b_frac_plus : Ss := (.cons (.ret (.call 1 (.cons (.bin .Add (.bin .Mult (.ix (.var 0) (.cst (.int 0))) (.ix (.var 1) (.cst (.int 1)))) (.bin .Mult (.ix (.var 1) (.cst (.int 0))) (.ix (.var 0) (.cst (.int 1))))) (.cons (.bin .Mult (.ix (.var 0) (.cst (.int 1))) (.ix (.var 1) (.cst (.int 1)))) .nil)) .nil)) .nil)
def f_frac_plus : Fd := ⟨["one", "other"], ["one", "other"], b_frac_plus⟩
def i_frac_times : Nat := 4
def b_frac_times : Ss := (.cons (.ret (.call 1 (.cons (.bin .Mult (.ix (.var 0) (.cst (.int 0))) (.ix (.var 1) (.cst (.int 0)))) (.cons (.bin .Mult (.ix (.var 0) (.cst (.int 1))) (.ix (.var 1) (.cst (.int 1)))) .nil)) .nil)) .nil)
def f_frac_times : Fd := ⟨["one", "other"], ["one", "other"], b_frac_times⟩
def b_frac_power_1 : Ss := (.cons (.asg (.name 2) (.call 2 (.cons (.var 2) (.cons (.var 0) .nil)) .nil)) .nil)
def i_frac_power : Nat := 5
def b_frac_power : Ss := (.cons (.asg (.name 2) (.glob 0)) (.cons (.for (.name 3) (.rng1 (.var 1)) b_frac_power_1) (.cons (.ret (.var 2)) .nil)))
def f_frac_power : Fd := ⟨["one", "times"], ["one", "times", "found", "turn"], b_frac_power⟩
def i_frac_below : Nat := 6
def b_frac_below : Ss := (.cons (.ret (.cmp .Lt (.bin .Mult (.ix (.var 0) (.cst (.int 0))) (.ix (.var 1) (.cst (.int 1)))) (.bin .Mult (.ix (.var 1) (.cst (.int 0))) (.ix (.var 0) (.cst (.int 1)))))) .nil)
def f_frac_below : Fd := ⟨["one", "other"], ["one", "other"], b_frac_below⟩
def i_parts_of : Nat := 7
def b_parts_of : Ss := (.cons (.star 1 2 (.var 0)) (.cons (.ite (.cmp .In (.var 1) (.tup (.cons (.cst (.str "num")) (.cons (.cst (.str "name")) .nil)))) (.cons (.ret (.tup .nil)) .nil) .nil) (.cons (.ite (.cmp .In (.var 1) (.glob 1)) (.cons (.ret (.ix (.var 2) (.cst (.int 0)))) .nil) .nil) (.cons (.ret (.ite (.cmp .Eq (.var 1) (.cst (.str "pow"))) (.tup (.cons (.ix (.var 2) (.cst (.int 0))) .nil)) (.blt .tuple (.var 2)))) .nil))))
def f_parts_of : Fd := ⟨["formula"], ["formula", "word", "rest"], b_parts_of⟩
def i_with_parts : Nat := 8
def b_with_parts : Ss := (.cons (.star 2 3 (.var 0)) (.cons (.ite (.cmp .In (.var 2) (.tup (.cons (.cst (.str "num")) (.cons (.cst (.str "name")) .nil)))) (.cons (.ret (.var 0)) .nil) .nil) (.cons (.ite (.cmp .In (.var 2) (.glob 1)) (.cons (.ret (.tup (.cons (.var 2) (.cons (.var 1) .nil)))) .nil) .nil) (.cons (.ret (.ite (.cmp .Eq (.var 2) (.cst (.str "pow"))) (.tup (.cons (.var 2) (.cons (.ix (.var 1) (.cst (.int 0))) (.cons (.ix (.var 3) (.cst (.int 1))) .nil)))) (.bin .Add (.tup (.cons (.var 2) .nil)) (.var 1)))) .nil))))
def f_with_parts : Fd := ⟨["formula", "parts"], ["formula", "parts", "word", "rest"], b_with_parts⟩
def b_part_at_1 : Ss := (.cons (.asg (.name 3) (.call 3 (.cons (.var 0) .nil) .nil)) (.cons (.ite (.or (.not (.call 4 (.cons (.var 2) .nil) (.cons (.cst (.int 0)) .nil))) (.cmp .GtE (.var 2) (.blt .len (.var 3)))) (.cons (.raise 5 "no such path") .nil) .nil) (.cons (.asg (.name 0) (.ix (.var 3) (.var 2))) .nil)))
def i_part_at : Nat := 9
def b_part_at : Ss := (.cons (.for (.name 2) (.val (.var 1)) b_part_at_1) (.cons (.ret (.var 0)) .nil))
def f_part_at : Fd := ⟨["formula", "path"], ["formula", "path", "step", "some"], b_part_at⟩
def i_with_part : Nat := 10
def b_with_part : Ss := (.cons (.exp (.call 5 (.cons (.var 0) (.cons (.var 1) .nil)) .nil)) (.cons (.ite (.cmp .Eq (.var 1) (.tup .nil)) (.cons (.ret (.var 2)) .nil) .nil) (.cons (.new 3 (.blt .list (.call 3 (.cons (.var 0) .nil) .nil))) (.cons (.putL 3 (.ix (.var 1) (.cst (.int 0))) (.call 6 (.cons (.ix (.bor 3) (.ix (.var 1) (.cst (.int 0)))) (.cons (.cut (.var 1) (.some (.cst (.int 1))) .none) (.cons (.var 2) .nil))) .nil)) (.cons (.ret (.call 7 (.cons (.var 0) (.cons (.blt .tuple (.bor 3)) .nil)) .nil)) .nil)))))
def f_with_part : Fd := ⟨["formula", "path", "other"], ["formula", "path", "other", "some"], b_with_part⟩
def b_comes_ahead_1 : Ss := (.cons (.ite (.cmp .NotEq (.var 4) (.var 5)) (.cons (.ret (.call 9 (.cons (.var 4) (.cons (.var 5) .nil)) .nil)) .nil) .nil) .nil)
def i_comes_ahead : Nat := 11
def b_comes_ahead : Ss := (.cons (.par [2, 3] (.cons (.idxG 2 (.ix (.var 0) (.cst (.int 0)))) (.cons (.idxG 2 (.ix (.var 1) (.cst (.int 0)))) .nil))) (.cons (.ite (.cmp .NotEq (.var 2) (.var 3)) (.cons (.ret (.cmp .Lt (.var 2) (.var 3))) .nil) .nil) (.cons (.ite (.cmp .Eq (.ix (.var 0) (.cst (.int 0))) (.cst (.str "num"))) (.cons (.ret (.call 8 (.cons (.ix (.var 0) (.cst (.int 1))) (.cons (.ix (.var 1) (.cst (.int 1))) .nil)) .nil)) .nil) .nil) (.cons (.ite (.cmp .Eq (.ix (.var 0) (.cst (.int 0))) (.cst (.str "name"))) (.cons (.ret (.cmp .Lt (.ix (.var 0) (.cst (.int 1))) (.ix (.var 1) (.cst (.int 1))))) .nil) .nil) (.cons (.ite (.cmp .Eq (.ix (.var 0) (.cst (.int 0))) (.cst (.str "pow"))) (.cons (.ret (.ite (.cmp .NotEq (.ix (.var 0) (.cst (.int 1))) (.ix (.var 1) (.cst (.int 1)))) (.call 9 (.cons (.ix (.var 0) (.cst (.int 1))) (.cons (.ix (.var 1) (.cst (.int 1))) .nil)) .nil) (.cmp .Lt (.ix (.var 0) (.cst (.int 2))) (.ix (.var 1) (.cst (.int 2)))))) .nil) .nil) (.cons (.for (.tup (.cons (.name 4) (.cons (.name 5) .nil))) (.zip (.ix (.var 0) (.cst (.int 1))) (.ix (.var 1) (.cst (.int 1)))) b_comes_ahead_1) (.cons (.ret (.cmp .Lt (.blt .len (.ix (.var 0) (.cst (.int 1)))) (.blt .len (.ix (.var 1) (.cst (.int 1)))))) .nil)))))))
def f_comes_ahead : Fd := ⟨["one", "other"], ["one", "other", "first", "second", "part", "another"], b_comes_ahead⟩
def wc_in_order_2 : E := (.and (.cmp .Gt (.var 3) (.cst (.int 0))) (.call 9 (.cons (.var 2) (.cons (.ix (.bor 1) (.bin .Sub (.var 3) (.cst (.int 1)))) .nil)) .nil))
def b_in_order_2 : Ss := (.cons (.aug 3 .Sub (.cst (.int 1))) .nil)
def b_in_order_1 : Ss := (.cons (.asg (.name 3) (.blt .len (.bor 1))) (.cons (.while wc_in_order_2 b_in_order_2) (.cons (.ins 1 (.var 3) (.var 2)) .nil)))
def i_in_order : Nat := 12
def b_in_order : Ss := (.cons (.new 1 (.lst .nil)) (.cons (.for (.name 2) (.val (.var 0)) b_in_order_1) (.cons (.ret (.blt .tuple (.bor 1))) .nil)))
def f_in_order : Fd := ⟨["parts"], ["parts", "found", "part", "at"], b_in_order⟩
def i_alone : Nat := 13
def b_alone : Ss := (.cons (.ret (.ite (.cmp .Eq (.blt .len (.var 1)) (.cst (.int 1))) (.ix (.var 1) (.cst (.int 0))) (.tup (.cons (.var 0) (.cons (.blt .tuple (.var 1)) .nil))))) .nil)
def f_alone : Fd := ⟨["word", "parts"], ["word", "parts"], b_alone⟩
def i_flat : Nat := 14
def b_flat : Ss := (.cons (.ite (.not (.blt .any (.comp [("part", 2)] (.cmp .Eq (.ix (.var 2) (.cst (.int 0))) (.var 0)) (.name 2) (.val (.var 1)) .none))) (.cons (.ret (.cst .non)) .nil) .nil) (.cons (.ret (.tup (.cons (.var 0) (.cons (.blt .tuple (.comp2 [("part", 2), ("inner", 3)] (.var 3) (.name 2) (.val (.var 1)) (.name 3) (.val (.ite (.cmp .Eq (.ix (.var 2) (.cst (.int 0))) (.var 0)) (.ix (.var 2) (.cst (.int 1))) (.tup (.cons (.var 2) .nil)))))) .nil)))) .nil))
def f_flat : Fd := ⟨["word", "parts"], ["word", "parts", "part", "inner"], b_flat⟩
def b_fold_1 : Ss := (.cons (.asg (.name 5) (.ite (.cmp .Eq (.var 0) (.cst (.str "add"))) (.call 10 (.cons (.var 5) (.cons (.ix (.ix (.var 1) (.var 3)) (.cst (.int 1))) .nil)) .nil) (.call 2 (.cons (.var 5) (.cons (.ix (.ix (.var 1) (.var 3)) (.cst (.int 1))) .nil)) .nil))) .nil)
def i_fold : Nat := 15
def b_fold : Ss := (.cons (.asg (.name 2) (.comp [("at", 3), ("part", 4)] (.var 3) (.tup (.cons (.name 3) (.cons (.name 4) .nil))) (.enumT (.var 1)) (.some (.cmp .Eq (.ix (.var 4) (.cst (.int 0))) (.cst (.str "num")))))) (.cons (.ite (.cmp .Lt (.blt .len (.var 2)) (.cst (.int 2))) (.cons (.ret (.cst .non)) .nil) .nil) (.cons (.asg (.name 5) (.ite (.cmp .Eq (.var 0) (.cst (.str "add"))) (.glob 3) (.glob 0))) (.cons (.for (.name 3) (.val (.var 2)) b_fold_1) (.cons (.asg (.name 6) (.comp [("at", 3), ("part", 4)] (.ite (.cmp .Eq (.var 3) (.ix (.var 2) (.cst (.int 0)))) (.tup (.cons (.cst (.str "num")) (.cons (.var 5) .nil))) (.var 4)) (.tup (.cons (.name 3) (.cons (.name 4) .nil))) (.enumT (.var 1)) (.some (.cmp .NotIn (.var 3) (.cut (.var 2) (.some (.cst (.int 1))) .none))))) (.cons (.ret (.call 11 (.cons (.var 0) (.cons (.var 6) .nil)) .nil)) .nil))))))
def f_fold : Fd := ⟨["word", "parts"], ["word", "parts", "places", "at", "part", "total", "some"], b_fold⟩
def i_none : Nat := 16
def b_none : Ss := (.cons (.ite (.and (.cmp .Eq (.var 0) (.cst (.str "mul"))) (.cmp .In (.tup (.cons (.cst (.str "num")) (.cons (.glob 3) .nil))) (.var 1))) (.cons (.ret (.tup (.cons (.cst (.str "num")) (.cons (.glob 3) .nil)))) .nil) .nil) (.cons (.asg (.name 2) (.tup (.cons (.cst (.str "num")) (.cons (.ite (.cmp .Eq (.var 0) (.cst (.str "add"))) (.glob 3) (.glob 0)) .nil)))) (.cons (.ite (.cmp .NotIn (.var 2) (.var 1)) (.cons (.ret (.cst .non)) .nil) .nil) (.cons (.asg (.name 3) (.comp [("part", 4)] (.var 4) (.name 4) (.val (.var 1)) (.some (.cmp .NotEq (.var 4) (.var 2))))) (.cons (.ret (.ite (.var 3) (.call 11 (.cons (.var 0) (.cons (.var 3) .nil)) .nil) (.var 2))) .nil)))))
def f_none : Fd := ⟨["word", "parts"], ["word", "parts", "idle", "left", "part"], b_none⟩
def i_powered : Nat := 17
def b_powered : Ss := (.cons (.ite (.cmp .Eq (.var 1) (.cst (.int 0))) (.cons (.ret (.tup (.cons (.cst (.str "num")) (.cons (.glob 0) .nil)))) .nil) .nil) (.cons (.ite (.cmp .Eq (.var 1) (.cst (.int 1))) (.cons (.ret (.var 0)) .nil) .nil) (.cons (.ite (.cmp .Eq (.ix (.var 0) (.cst (.int 0))) (.cst (.str "num"))) (.cons (.ret (.tup (.cons (.cst (.str "num")) (.cons (.call 12 (.cons (.ix (.var 0) (.cst (.int 1))) (.cons (.var 1) .nil)) .nil) .nil)))) .nil) .nil) (.cons (.ite (.cmp .Eq (.ix (.var 0) (.cst (.int 0))) (.cst (.str "pow"))) (.cons (.ret (.tup (.cons (.cst (.str "pow")) (.cons (.ix (.var 0) (.cst (.int 1))) (.cons (.bin .Mult (.ix (.var 0) (.cst (.int 2))) (.var 1)) .nil))))) .nil) .nil) (.cons (.ite (.cmp .Eq (.ix (.var 0) (.cst (.int 0))) (.cst (.str "mul"))) (.cons (.ret (.tup (.cons (.cst (.str "mul")) (.cons (.blt .tuple (.comp [("part", 2)] (.tup (.cons (.cst (.str "pow")) (.cons (.var 2) (.cons (.var 1) .nil)))) (.name 2) (.val (.ix (.var 0) (.cst (.int 1)))) .none)) .nil)))) .nil) .nil) (.cons (.ite (.cmp .Eq (.ix (.var 0) (.cst (.int 0))) (.cst (.str "add"))) (.cons (.ret (.tup (.cons (.cst (.str "mul")) (.cons (.tup (.cons (.var 0) (.cons (.ite (.cmp .Gt (.var 1) (.cst (.int 2))) (.tup (.cons (.cst (.str "pow")) (.cons (.var 0) (.cons (.bin .Sub (.var 1) (.cst (.int 1))) .nil)))) (.var 0)) .nil))) .nil)))) .nil) .nil) (.cons (.ret (.cst .non)) .nil)))))))
def f_powered : Fd := ⟨["inner", "exponent"], ["inner", "exponent", "part"], b_powered⟩
def i_base_of : Nat := 18
def b_base_of : Ss := (.cons (.ite (.cmp .In (.ix (.var 0) (.cst (.int 0))) (.tup (.cons (.cst (.str "num")) (.cons (.cst (.str "add")) .nil)))) (.cons (.ret (.cst .non)) .nil) .nil) (.cons (.ret (.ite (.cmp .Eq (.ix (.var 0) (.cst (.int 0))) (.cst (.str "pow"))) (.tup (.cons (.ix (.var 0) (.cst (.int 1))) (.cons (.ix (.var 0) (.cst (.int 2))) .nil))) (.tup (.cons (.var 0) (.cons (.cst (.int 1)) .nil))))) .nil))
def f_base_of : Fd := ⟨["part"], ["part"], b_base_of⟩
def i_kind_of : Nat := 19
def b_kind_of : Ss := (.cons (.ite (.cmp .In (.ix (.var 0) (.cst (.int 0))) (.tup (.cons (.cst (.str "num")) (.cons (.cst (.str "add")) .nil)))) (.cons (.ret (.cst .non)) .nil) .nil) (.cons (.ite (.and (.cmp .Eq (.ix (.var 0) (.cst (.int 0))) (.cst (.str "mul"))) (.cmp .Eq (.ix (.ix (.ix (.var 0) (.cst (.int 1))) (.cst (.int 0))) (.cst (.int 0))) (.cst (.str "num")))) (.cons (.ret (.tup (.cons (.call 11 (.cons (.cst (.str "mul")) (.cons (.cut (.ix (.var 0) (.cst (.int 1))) (.some (.cst (.int 1))) .none) .nil)) .nil) (.cons (.ix (.ix (.ix (.var 0) (.cst (.int 1))) (.cst (.int 0))) (.cst (.int 1))) .nil)))) .nil) .nil) (.cons (.ret (.tup (.cons (.var 0) (.cons (.glob 0) .nil)))) .nil)))
def f_kind_of : Fd := ⟨["part"], ["part"], b_kind_of⟩
def b_first_pair_2 : Ss := (.cons (.ite (.and (.cmp .IsNot (.var 2) (.cst .non)) (.and (.cmp .IsNot (.ix (.var 0) (.var 3)) (.cst .non)) (.cmp .Eq (.ix (.var 2) (.cst (.int 0))) (.ix (.ix (.var 0) (.var 3)) (.cst (.int 0)))))) (.cons (.ret (.tup (.cons (.var 1) (.cons (.var 3) .nil)))) .nil) .nil) .nil)
def b_first_pair_1 : Ss := (.cons (.for (.name 3) (.rng2 (.bin .Add (.var 1) (.cst (.int 1))) (.blt .len (.var 0))) b_first_pair_2) .nil)
def i_first_pair : Nat := 20
def b_first_pair : Ss := (.cons (.for (.tup (.cons (.name 1) (.cons (.name 2) .nil))) (.enum (.var 0)) b_first_pair_1) (.cons (.ret (.cst .non)) .nil))
def f_first_pair : Fd := ⟨["some"], ["some", "at", "one", "behind"], b_first_pair⟩
def i_merged : Nat := 21
def b_merged : Ss := (.cons (.asg (.name 4) (.comp [("at", 5), ("part", 6)] (.ite (.cmp .Eq (.var 5) (.ix (.var 2) (.cst (.int 0)))) (.var 3) (.var 6)) (.tup (.cons (.name 5) (.cons (.name 6) .nil))) (.enumT (.var 1)) (.some (.cmp .NotEq (.var 5) (.ix (.var 2) (.cst (.int 1))))))) (.cons (.ret (.call 11 (.cons (.var 0) (.cons (.var 4) .nil)) .nil)) .nil))
def f_merged : Fd := ⟨["word", "parts", "pair", "fresh"], ["word", "parts", "pair", "fresh", "some", "at", "part"], b_merged⟩
def i_gather : Nat := 22
def b_gather : Ss := (.cons (.asg (.name 1) (.comp [("part", 2)] (.call 13 (.cons (.var 2) .nil) .nil) (.name 2) (.val (.var 0)) .none)) (.cons (.asg (.name 3) (.call 14 (.cons (.var 1) .nil) .nil)) (.cons (.ite (.cmp .Is (.var 3) (.cst .non)) (.cons (.ret (.cst .non)) .nil) .nil) (.cons (.asg (.tup (.cons (.name 4) (.cons (.name 5) .nil))) (.ix (.var 1) (.ix (.var 3) (.cst (.int 0))))) (.cons (.ret (.call 15 (.cons (.cst (.str "mul")) (.cons (.var 0) (.cons (.var 3) (.cons (.tup (.cons (.cst (.str "pow")) (.cons (.var 4) (.cons (.bin .Add (.var 5) (.ix (.ix (.var 1) (.ix (.var 3) (.cst (.int 1)))) (.cst (.int 1)))) .nil)))) .nil)))) .nil)) .nil)))))
def f_gather : Fd := ⟨["parts"], ["parts", "some", "part", "pair", "base", "exponent"], b_gather⟩
def i_like : Nat := 23
def b_like : Ss := (.cons (.asg (.name 1) (.comp [("part", 2)] (.call 16 (.cons (.var 2) .nil) .nil) (.name 2) (.val (.var 0)) .none)) (.cons (.asg (.name 3) (.call 14 (.cons (.var 1) .nil) .nil)) (.cons (.ite (.cmp .Is (.var 3) (.cst .non)) (.cons (.ret (.cst .non)) .nil) .nil) (.cons (.asg (.tup (.cons (.name 4) (.cons (.name 5) .nil))) (.ix (.var 1) (.ix (.var 3) (.cst (.int 0))))) (.cons (.asg (.name 6) (.tup (.cons (.cst (.str "num")) (.cons (.call 10 (.cons (.var 5) (.cons (.ix (.ix (.var 1) (.ix (.var 3) (.cst (.int 1)))) (.cst (.int 1))) .nil)) .nil) .nil)))) (.cons (.ret (.call 15 (.cons (.cst (.str "add")) (.cons (.var 0) (.cons (.var 3) (.cons (.tup (.cons (.cst (.str "mul")) (.cons (.bin .Add (.tup (.cons (.var 6) .nil)) (.ite (.cmp .Eq (.ix (.var 4) (.cst (.int 0))) (.cst (.str "mul"))) (.ix (.var 4) (.cst (.int 1))) (.tup (.cons (.var 4) .nil)))) .nil))) .nil)))) .nil)) .nil))))))
def f_like : Fd := ⟨["parts"], ["parts", "some", "part", "pair", "rest", "first", "total"], b_like⟩
def i_spread : Nat := 24
def b_spread : Ss := (.cons (.asg (.name 1) (.comp [("at", 2), ("part", 3)] (.var 2) (.tup (.cons (.name 2) (.cons (.name 3) .nil))) (.enumT (.var 0)) (.some (.cmp .Eq (.ix (.var 3) (.cst (.int 0))) (.cst (.str "add")))))) (.cons (.ite (.not (.var 1)) (.cons (.ret (.cst .non)) .nil) .nil) (.cons (.asg (.name 2) (.ix (.var 1) (.cst (.int 0)))) (.cons (.ret (.tup (.cons (.cst (.str "add")) (.cons (.blt .tuple (.comp [("part", 3)] (.tup (.cons (.cst (.str "mul")) (.cons (.bin .Add (.bin .Add (.cut (.var 0) .none (.some (.var 2))) (.tup (.cons (.var 3) .nil))) (.cut (.var 0) (.some (.bin .Add (.var 2) (.cst (.int 1)))) .none)) .nil))) (.name 3) (.val (.ix (.ix (.var 0) (.var 2)) (.cst (.int 1)))) .none)) .nil)))) .nil))))
def f_spread : Fd := ⟨["parts"], ["parts", "places", "at", "part"], b_spread⟩
def i_by_rule : Nat := 25
def b_by_rule : Ss := (.cons (.asg (.name 2) (.ix (.var 1) (.cst (.int 0)))) (.cons (.ite (.cmp .Eq (.var 2) (.cst (.str "pow"))) (.cons (.ret (.ite (.cmp .Eq (.var 0) (.cst (.str "power"))) (.call 17 (.cons (.ix (.var 1) (.cst (.int 1))) (.cons (.ix (.var 1) (.cst (.int 2))) .nil)) .nil) (.cst .non))) .nil) .nil) (.cons (.ite (.cmp .NotIn (.var 2) (.tup (.cons (.cst (.str "add")) (.cons (.cst (.str "mul")) .nil)))) (.cons (.ret (.cst .non)) .nil) .nil) (.cons (.asg (.name 3) (.ix (.var 1) (.cst (.int 1)))) (.cons (.ite (.cmp .In (.var 0) (.tup (.cons (.cst (.str "flat")) (.cons (.cst (.str "fold")) (.cons (.cst (.str "none")) .nil))))) (.cons (.ret (.ite (.cmp .Eq (.var 0) (.cst (.str "flat"))) (.call 18 (.cons (.var 2) (.cons (.var 3) .nil)) .nil) (.ite (.cmp .Eq (.var 0) (.cst (.str "fold"))) (.call 19 (.cons (.var 2) (.cons (.var 3) .nil)) .nil) (.call 20 (.cons (.var 2) (.cons (.var 3) .nil)) .nil)))) .nil) .nil) (.cons (.ite (.cmp .Eq (.var 0) (.cst (.str "order"))) (.cons (.ret (.ite (.cmp .Eq (.call 21 (.cons (.var 3) .nil) .nil) (.var 3)) (.cst .non) (.tup (.cons (.var 2) (.cons (.call 21 (.cons (.var 3) .nil) .nil) .nil))))) .nil) .nil) (.cons (.ite (.cmp .Eq (.var 2) (.cst (.str "mul"))) (.cons (.ret (.ite (.cmp .Eq (.var 0) (.cst (.str "gather"))) (.call 22 (.cons (.var 3) .nil) .nil) (.ite (.cmp .Eq (.var 0) (.cst (.str "spread"))) (.call 23 (.cons (.var 3) .nil) .nil) (.cst .non)))) .nil) .nil) (.cons (.ret (.ite (.cmp .Eq (.var 0) (.cst (.str "like"))) (.call 24 (.cons (.var 3) .nil) .nil) (.cst .non))) .nil))))))))
def f_by_rule : Fd := ⟨["rule", "formula"], ["rule", "formula", "word", "parts"], b_by_rule⟩
def i_results : Nat := 26
def b_results : Ss := (.cons (.asg (.name 2) (.call 5 (.cons (.var 0) (.cons (.var 1) .nil)) .nil)) (.cons (.asg (.name 3) (.comp [("rule", 4)] (.tup (.cons (.var 4) (.cons (.call 25 (.cons (.var 4) (.cons (.var 2) .nil)) .nil) .nil))) (.name 4) (.val (.glob 4)) .none)) (.cons (.ret (.blt .tuple (.comp [("rule", 4), ("fresh", 5)] (.tup (.cons (.var 4) (.cons (.call 6 (.cons (.var 0) (.cons (.var 1) (.cons (.var 5) .nil))) .nil) .nil))) (.tup (.cons (.name 4) (.cons (.name 5) .nil))) (.val (.var 3)) (.some (.cmp .IsNot (.var 5) (.cst .non)))))) .nil)))
def f_results : Fd := ⟨["formula", "path"], ["formula", "path", "part", "told", "rule", "fresh"], b_results⟩
def b_first_place_1 : Ss := (.cons (.asg (.name 3) (.call 26 (.cons (.var 2) .nil) .nil)) (.cons (.ite (.cmp .IsNot (.var 3) (.cst .non)) (.cons (.ret (.bin .Add (.tup (.cons (.var 1) .nil)) (.var 3))) .nil) .nil) .nil))
def i_first_place : Nat := 27
def b_first_place : Ss := (.cons (.for (.tup (.cons (.name 1) (.cons (.name 2) .nil))) (.enumT (.call 3 (.cons (.var 0) .nil) .nil)) b_first_place_1) (.cons (.ret (.ite (.call 27 (.cons (.var 0) (.cons (.tup .nil) .nil)) .nil) (.tup .nil) (.cst .non))) .nil))
def f_first_place : Fd := ⟨["formula"], ["formula", "at", "part", "inner"], b_first_place⟩
def i_next_step : Nat := 28
def b_next_step : Ss := (.cons (.asg (.name 1) (.call 26 (.cons (.var 0) .nil) .nil)) (.cons (.ite (.cmp .Is (.var 1) (.cst .non)) (.cons (.ret (.cst .non)) .nil) .nil) (.cons (.asg (.tup (.cons (.name 2) (.cons (.name 3) .nil))) (.ix (.call 27 (.cons (.var 0) (.cons (.var 1) .nil)) .nil) (.cst (.int 0)))) (.cons (.ret (.tup (.cons (.var 2) (.cons (.var 1) (.cons (.var 3) .nil))))) .nil))))
def f_next_step : Fd := ⟨["formula"], ["formula", "path", "rule", "other"], b_next_step⟩
def b_steps_1 : Ss := (.cons (.ite (.cmp .Eq (.blt .len (.bor 2)) (.var 1)) (.cons (.raise 6 "more steps") .nil) .nil) (.cons (.app 2 (.var 3)) (.cons (.asg (.name 3) (.call 28 (.cons (.ix (.var 3) (.cst (.int 2))) .nil) .nil)) .nil)))
def i_steps : Nat := 29
def b_steps : Ss := (.cons (.pnl true 2 3 (.call 28 (.cons (.var 0) .nil) .nil)) (.cons (.while (.cmp .IsNot (.var 3) (.cst .non)) b_steps_1) (.cons (.ret (.blt .tuple (.bor 2))) .nil)))
def f_steps : Fd := ⟨["formula", "most"], ["formula", "most", "found", "step"], b_steps⟩
def i_simple : Nat := 30
def b_simple : Ss := (.cons (.asg (.name 2) (.call 29 (.cons (.var 0) .nil) (.cons (.var 1) .nil))) (.cons (.ret (.ite (.var 2) (.ix (.ix (.var 2) (.neg (.cst (.int 1)))) (.cst (.int 2))) (.var 0))) .nil))
def f_simple : Fd := ⟨["formula", "most"], ["formula", "most", "found"], b_simple⟩
def i__law_draw : Nat := 31
def b__law_draw : Ss := (.cons (.tcnt 1 (.bin .Add (.tcount 1) (.cst (.int 1)))) (.cons (.asg (.name 3) (.ite (.var 0) (.bin .Mod (.tcount 1) (.blt .len (.var 0))) (.cst (.int 0)))) (.cons (.asg (.name 4) (.tget 1 (.var 3) (.ite (.var 0) (.ix (.var 0) (.var 3)) (.cst (.int 0))))) (.cons (.ite (.cmp .GtE (.var 4) (.bin .Pow (.cst (.int 10)) (.cst (.int 18)))) (.cons (.trst 1 (.var 3) (.bin .FloorDiv (.var 4) (.var 2))) (.cons (.ret (.bin .Mod (.var 4) (.var 2))) .nil)) .nil) (.cons (.asg (.name 5) (.bin .Mod (.bin .Add (.var 4) (.bin .Mult (.cst (.int 104729)) (.tcount 1))) (.cst (.int 4294967291)))) (.cons (.asg (.name 5) (.bin .Mod (.bin .Pow (.var 5) (.cst (.int 5))) (.cst (.int 4294967279)))) (.cons (.ret (.bin .Mod (.bin .FloorDiv (.bin .Mod (.bin .Add (.bin .Mult (.bin .FloorDiv (.var 5) (.cst (.int 64))) (.cst (.int 69621))) (.var 5)) (.cst (.int 4294967231))) (.cst (.int 8))) (.var 2))) .nil)))))))
def f__law_draw : Fd := ⟨["script", "town", "many"], ["script", "town", "many", "at", "rest", "number"], b__law_draw⟩
def b__law_frac_1 : Ss := (.cons (.par [2, 3] (.cons (.var 3) (.cons (.bin .Mod (.var 2) (.var 3)) .nil))) .nil)
def i__law_frac : Nat := 32
def b__law_frac : Ss := (.cons (.par [2, 3] (.cons (.blt .abs (.var 0)) (.cons (.blt .abs (.var 1)) .nil))) (.cons (.while (.cmp .Gt (.var 3) (.cst (.int 0))) b__law_frac_1) (.cons (.asg (.name 2) (.ite (.cmp .Gt (.var 1) (.cst (.int 0))) (.var 2) (.bin .Sub (.cst (.int 0)) (.var 2)))) (.cons (.ret (.tup (.cons (.bin .FloorDiv (.var 0) (.var 2)) (.cons (.bin .FloorDiv (.var 1) (.var 2)) .nil)))) .nil))))
def f__law_frac : Fd := ⟨["top", "bottom"], ["top", "bottom", "one", "other"], b__law_frac⟩
def i__law_a_frac : Nat := 33
def b__law_a_frac : Ss := (.cons (.ret (.call 30 (.cons (.bin .Sub (.call 31 (.cons (.var 0) (.cons (.var 1) (.cons (.bin .Add (.bin .Mult (.cst (.int 2)) (.var 2)) (.cst (.int 1))) .nil))) .nil) (.var 2)) (.cons (.bin .Add (.cst (.int 1)) (.call 31 (.cons (.var 0) (.cons (.var 1) (.cons (.cst (.int 3)) .nil))) .nil)) .nil)) .nil)) .nil)
def f__law_a_frac : Fd := ⟨["script", "town", "size"], ["script", "town", "size"], b__law_a_frac⟩
def i__law_a_formula : Nat := 34
def b__law_a_formula : Ss := (.cons (.ite (.or (.cmp .Eq (.var 2) (.cst (.int 0))) (.cmp .Eq (.call 31 (.cons (.var 0) (.cons (.var 1) (.cons (.cst (.int 5)) .nil))) .nil) (.cst (.int 0)))) (.cons (.asg (.name 4) (.call 31 (.cons (.var 0) (.cons (.var 1) (.cons (.cst (.int 3)) .nil))) .nil)) (.cons (.ite (.cmp .Eq (.var 4) (.cst (.int 0))) (.cons (.ret (.tup (.cons (.cst (.str "num")) (.cons (.call 32 (.cons (.var 0) (.cons (.var 1) (.cons (.cst (.int 4)) .nil))) .nil) .nil)))) .nil) .nil) (.cons (.ret (.tup (.cons (.cst (.str "name")) (.cons (.ix (.cst (.str "xy")) (.bin .Sub (.var 4) (.cst (.int 1)))) .nil)))) .nil))) .nil) (.cons (.asg (.name 5) (.ix (.var 3) (.call 31 (.cons (.var 0) (.cons (.var 1) (.cons (.blt .len (.var 3)) .nil))) .nil))) (.cons (.ite (.cmp .In (.var 5) (.tup (.cons (.cst (.str "add")) (.cons (.cst (.str "mul")) .nil)))) (.cons (.asg (.name 6) (.bin .Add (.cst (.int 2)) (.call 31 (.cons (.var 0) (.cons (.var 1) (.cons (.cst (.int 2)) .nil))) .nil))) (.cons (.ret (.tup (.cons (.var 5) (.cons (.blt .tuple (.comp [("k", 7)] (.call 33 (.cons (.var 0) (.cons (.var 1) (.cons (.bin .Sub (.var 2) (.cst (.int 1))) (.cons (.var 3) .nil)))) .nil) (.name 7) (.rng1 (.var 6)) .none)) .nil)))) .nil)) .nil) (.cons (.asg (.name 8) (.call 33 (.cons (.var 0) (.cons (.var 1) (.cons (.bin .Sub (.var 2) (.cst (.int 1))) (.cons (.var 3) .nil)))) .nil)) (.cons (.ite (.cmp .Eq (.var 5) (.cst (.str "pow"))) (.cons (.ret (.tup (.cons (.cst (.str "pow")) (.cons (.var 8) (.cons (.call 31 (.cons (.var 0) (.cons (.var 1) (.cons (.cst (.int 4)) .nil))) .nil) .nil))))) .nil) .nil) (.cons (.ite (.cmp .Eq (.var 5) (.cst (.str "div"))) (.cons (.ret (.tup (.cons (.cst (.str "div")) (.cons (.var 8) (.cons (.call 33 (.cons (.var 0) (.cons (.var 1) (.cons (.bin .Sub (.var 2) (.cst (.int 1))) (.cons (.var 3) .nil)))) .nil) .nil))))) .nil) .nil) (.cons (.ret (.tup (.cons (.var 5) (.cons (.var 8) .nil)))) .nil)))))))
def f__law_a_formula : Fd := ⟨["script", "town", "deep", "words"], ["script", "town", "deep", "words", "turn", "word", "size", "k", "one"], b__law_a_formula⟩
def i__law_renamed : Nat := 35
def b__law_renamed : Ss := (.cons (.ite (.cmp .Eq (.ix (.var 0) (.cst (.int 0))) (.cst (.str "num"))) (.cons (.ret (.var 0)) .nil) .nil) (.cons (.ite (.cmp .Eq (.ix (.var 0) (.cst (.int 0))) (.cst (.str "name"))) (.cons (.ret (.tup (.cons (.cst (.str "name")) (.cons (.dix (.var 1) (.ix (.var 0) (.cst (.int 1)))) .nil)))) .nil) .nil) (.cons (.ite (.cmp .Eq (.ix (.var 0) (.cst (.int 0))) (.cst (.str "pow"))) (.cons (.ret (.tup (.cons (.cst (.str "pow")) (.cons (.call 34 (.cons (.ix (.var 0) (.cst (.int 1))) (.cons (.var 1) .nil)) .nil) (.cons (.ix (.var 0) (.cst (.int 2))) .nil))))) .nil) .nil) (.cons (.ret (.tup (.cons (.ix (.var 0) (.cst (.int 0))) (.cons (.blt .tuple (.comp [("part", 2)] (.call 34 (.cons (.var 2) (.cons (.var 1) .nil)) .nil) (.name 2) (.val (.ix (.var 0) (.cst (.int 1)))) .none)) .nil)))) .nil))))
def f__law_renamed : Fd := ⟨["formula", "told"], ["formula", "told", "part"], b__law_renamed⟩
def b_law_1 : Ss := (.cons (.asg (.name 13) (.call 28 (.cons (.var 12) .nil) .nil)) (.cons (.ite (.or (.cmp .Is (.var 13) (.cst .non)) (.cmp .NotEq (.cut (.var 13) .none (.some (.cst (.int 2)))) (.tup (.cons (.var 8) (.cons (.bin .Add (.tup (.cons (.cst (.int 0)) .nil)) (.var 9)) .nil))))) (.cons (.ret (.cst (.bl false))) .nil) .nil) (.cons (.asg (.name 12) (.ix (.var 13) (.cst (.int 2)))) .nil)))
def b_law : Ss := (.cons (.asg (.name 2) (.call 33 (.cons (.var 0) (.cons (.var 1) (.cons (.cst (.int 3)) (.cons (.lst (.cons (.cst (.str "add")) (.cons (.cst (.str "mul")) (.cons (.cst (.str "pow")) .nil)))) .nil)))) .nil)) (.cons (.asg (.name 3) (.heard (.call 29 (.cons (.var 2) .nil) (.cons (.cst (.int 120)) .nil)))) (.cons (.ite (.cmp .NotEq (.ix (.var 3) (.cst (.int 0))) (.cst (.str "told"))) (.cons (.ret (.cmp .Eq (.var 3) (.tup (.cons (.cst (.str "spent")) .nil)))) .nil) .nil) (.cons (.asg (.name 4) (.ix (.var 3) (.cst (.int 1)))) (.cons (.ite (.cmp .NotEq (.var 4) (.tup .nil)) (.cons (.ite (.cmp .NotEq (.call 28 (.cons (.var 2) .nil) .nil) (.ix (.var 4) (.cst (.int 0)))) (.cons (.ret (.cst (.bl false))) .nil) .nil) (.cons (.ite (.cmp .NotEq (.call 35 (.cons (.ix (.ix (.var 4) (.cst (.int 0))) (.cst (.int 2))) .nil) .nil) (.cut (.var 4) (.some (.cst (.int 1))) .none)) (.cons (.ret (.cst (.bl false))) .nil) .nil) (.cons (.ite (.cmp .NotEq (.call 36 (.cons (.ix (.ix (.var 4) (.call 31 (.cons (.var 0) (.cons (.var 1) (.cons (.blt .len (.var 4)) .nil))) .nil)) (.cst (.int 2))) .nil) .nil) (.call 36 (.cons (.var 2) .nil) .nil)) (.cons (.ret (.cst (.bl false))) .nil) .nil) .nil))) .nil) (.cons (.asg (.name 5) (.dsp [("x", (.str "mz")), ("y", (.str "pa"))])) (.cons (.asg (.name 6) (.call 34 (.cons (.var 2) (.cons (.var 5) .nil)) .nil)) (.cons (.asg (.name 7) (.blt .tuple (.comp [("rule", 8), ("path", 9), ("fresh", 10)] (.tup (.cons (.var 8) (.cons (.var 9) (.cons (.call 34 (.cons (.var 10) (.cons (.var 5) .nil)) .nil) .nil)))) (.tup (.cons (.name 8) (.cons (.name 9) (.cons (.name 10) .nil)))) (.val (.var 4)) .none))) (.cons (.ite (.or (.cmp .NotEq (.call 35 (.cons (.var 6) .nil) .nil) (.var 7)) (.cmp .NotEq (.call 36 (.cons (.var 6) .nil) .nil) (.call 34 (.cons (.call 36 (.cons (.var 2) .nil) .nil) (.cons (.var 5) .nil)) .nil))) (.cons (.ret (.cst (.bl false))) .nil) .nil) (.cons (.asg (.name 11) (.lst (.cons (.tup (.cons (.cst (.str "pow")) (.cons (.var 2) (.cons (.cst (.int 2)) .nil)))) (.cons (.tup (.cons (.cst (.str "add")) (.cons (.tup (.cons (.var 2) (.cons (.tup (.cons (.cst (.str "name")) (.cons (.cst (.str "z")) .nil))) .nil))) .nil))) (.cons (.tup (.cons (.cst (.str "mul")) (.cons (.tup (.cons (.var 2) (.cons (.tup (.cons (.cst (.str "num")) (.cons (.tup (.cons (.cst (.int 2)) (.cons (.cst (.int 1)) .nil))) .nil))) .nil))) .nil))) .nil))))) (.cons (.asg (.name 12) (.ix (.var 11) (.call 31 (.cons (.var 0) (.cons (.var 1) (.cons (.cst (.int 3)) .nil))) .nil))) (.cons (.for (.tup (.cons (.name 8) (.cons (.name 9) (.cons (.name 10) .nil)))) (.val (.var 4)) b_law_1) (.cons (.ret (.cst (.bl true))) .nil)))))))))))))
def n_law : List Str := ["script", "town", "one", "told", "rows", "names", "other", "due", "rule", "path", "fresh", "others", "wider", "more"]
def s0 : Sh := ⟨"greatest", 2, [], [], 1⟩
def s1 : Sh := ⟨"frac", 2, [], [], 2⟩
def s2 : Sh := ⟨"frac_times", 2, [], [], 4⟩
def s3 : Sh := ⟨"parts_of", 1, [], [], 7⟩
def s4 : Sh := ⟨"is_whole", 1, ["least"], [], 0⟩
def s5 : Sh := ⟨"part_at", 2, [], [], 9⟩
def s6 : Sh := ⟨"with_part", 3, [], [], 10⟩
def s7 : Sh := ⟨"with_parts", 2, [], [], 8⟩
def s8 : Sh := ⟨"frac_below", 2, [], [], 6⟩
def s9 : Sh := ⟨"comes_ahead", 2, [], [], 11⟩
def s10 : Sh := ⟨"frac_plus", 2, [], [], 3⟩
def s11 : Sh := ⟨"alone", 2, [], [], 13⟩
def s12 : Sh := ⟨"frac_power", 2, [], [], 5⟩
def s13 : Sh := ⟨"base_of", 1, [], [], 18⟩
def s14 : Sh := ⟨"first_pair", 1, [], [], 20⟩
def s15 : Sh := ⟨"merged", 4, [], [], 21⟩
def s16 : Sh := ⟨"kind_of", 1, [], [], 19⟩
def s17 : Sh := ⟨"powered", 2, [], [], 17⟩
def s18 : Sh := ⟨"flat", 2, [], [], 14⟩
def s19 : Sh := ⟨"fold", 2, [], [], 15⟩
def s20 : Sh := ⟨"none", 2, [], [], 16⟩
def s21 : Sh := ⟨"in_order", 1, [], [], 12⟩
def s22 : Sh := ⟨"gather", 1, [], [], 22⟩
def s23 : Sh := ⟨"spread", 1, [], [], 24⟩
def s24 : Sh := ⟨"like", 1, [], [], 23⟩
def s25 : Sh := ⟨"by_rule", 2, [], [], 25⟩
def s26 : Sh := ⟨"first_place", 1, [], [], 27⟩
def s27 : Sh := ⟨"results", 2, [], [], 26⟩
def s28 : Sh := ⟨"next_step", 1, [], [], 28⟩
def s29 : Sh := ⟨"steps", 1, ["most"], [], 29⟩
def s30 : Sh := ⟨"_law_frac", 2, [], [], 32⟩
def s31 : Sh := ⟨"_law_draw", 3, [], [], 31⟩
def s32 : Sh := ⟨"_law_a_frac", 3, [], [], 33⟩
def s33 : Sh := ⟨"_law_a_formula", 4, [], [], 34⟩
def s34 : Sh := ⟨"_law_renamed", 2, [], [], 35⟩
def s35 : Sh := ⟨"steps", 1, [], [(.int 2000)], 29⟩
def s36 : Sh := ⟨"simple", 1, [], [(.int 2000)], 30⟩
def shs : List Sh := [s0, s1, s2, s3, s4, s5, s6, s7, s8, s9, s10, s11, s12, s13, s14, s15, s16, s17, s18, s19, s20, s21, s22, s23, s24, s25, s26, s27, s28, s29, s30, s31, s32, s33, s34, s35, s36]
def exs : List (Nat × Str) := [(0, "NoRoot"), (1, "NoForm"), (2, "ByNought"), (3, "NoQuotient"), (4, "NoName"), (5, "NoPath"), (6, "Spent"), (7, "BadWord"), (8, "NoText")]
abbrev hd : Bool := true
def cst : List (Str × D) := [("ONE", (D.tup [(D.int 1), (D.int 1)])), ("MANY", (D.tup [(D.str "add"), (D.str "mul")])), ("RANKS", (D.tup [(D.str "num"), (D.str "name"), (D.str "pow"), (D.str "mul"), (D.str "add")])), ("NOUGHT", (D.tup [(D.int 0), (D.int 1)])), ("RULES", (D.tup [(D.str "flat"), (D.str "fold"), (D.str "none"), (D.str "power"), (D.str "gather"), (D.str "spread"), (D.str "like"), (D.str "order")]))]
def fs : List Fd := [f_is_whole, f_greatest, f_frac, f_frac_plus, f_frac_times, f_frac_power, f_frac_below, f_parts_of, f_with_parts, f_part_at, f_with_part, f_comes_ahead, f_in_order, f_alone, f_flat, f_fold, f_none, f_powered, f_base_of, f_kind_of, f_first_pair, f_merged, f_gather, f_like, f_spread, f_by_rule, f_results, f_first_place, f_next_step, f_steps, f_simple, f__law_draw, f__law_frac, f__law_a_frac, f__law_a_formula, f__law_renamed]
abbrev tb : Tb := ⟨shs, cst.map (·.1), exs, hd⟩
abbrev p : Pg := ⟨tb, fs.map .df, csOf cst⟩
def d_is_whole : He.DefD := ⟨("is_whole", none), "is_whole", "is_whole", defArgs (top 14), defBody (top 14), defScope (top 14), [], [("least", .non)]⟩
def d_greatest : He.DefD := ⟨("greatest", none), "greatest", "greatest", defArgs (top 15), defBody (top 15), defScope (top 15), [], []⟩
def d_frac : He.DefD := ⟨("frac", none), "frac", "frac", defArgs (top 16), defBody (top 16), defScope (top 16), [], []⟩
def d_frac_plus : He.DefD := ⟨("frac_plus", none), "frac_plus", "frac_plus", defArgs (top 17), defBody (top 17), defScope (top 17), [], []⟩
def d_frac_times : He.DefD := ⟨("frac_times", none), "frac_times", "frac_times", defArgs (top 18), defBody (top 18), defScope (top 18), [], []⟩
def d_frac_power : He.DefD := ⟨("frac_power", none), "frac_power", "frac_power", defArgs (top 19), defBody (top 19), defScope (top 19), [], []⟩
def d_frac_below : He.DefD := ⟨("frac_below", none), "frac_below", "frac_below", defArgs (top 20), defBody (top 20), defScope (top 20), [], []⟩
def d_parts_of : He.DefD := ⟨("parts_of", none), "parts_of", "parts_of", defArgs (top 23), defBody (top 23), defScope (top 23), [], []⟩
def d_with_parts : He.DefD := ⟨("with_parts", none), "with_parts", "with_parts", defArgs (top 24), defBody (top 24), defScope (top 24), [], []⟩
def d_part_at : He.DefD := ⟨("part_at", none), "part_at", "part_at", defArgs (top 25), defBody (top 25), defScope (top 25), [], []⟩
def d_with_part : He.DefD := ⟨("with_part", none), "with_part", "with_part", defArgs (top 26), defBody (top 26), defScope (top 26), [], []⟩
def d_comes_ahead : He.DefD := ⟨("comes_ahead", none), "comes_ahead", "comes_ahead", defArgs (top 30), defBody (top 30), defScope (top 30), [], []⟩
def d_in_order : He.DefD := ⟨("in_order", none), "in_order", "in_order", defArgs (top 31), defBody (top 31), defScope (top 31), [], []⟩
def d_alone : He.DefD := ⟨("alone", none), "alone", "alone", defArgs (top 32), defBody (top 32), defScope (top 32), [], []⟩
def d_flat : He.DefD := ⟨("flat", none), "flat", "flat", defArgs (top 33), defBody (top 33), defScope (top 33), [], []⟩
def d_fold : He.DefD := ⟨("fold", none), "fold", "fold", defArgs (top 34), defBody (top 34), defScope (top 34), [], []⟩
def d_none : He.DefD := ⟨("none", none), "none", "none", defArgs (top 35), defBody (top 35), defScope (top 35), [], []⟩
def d_powered : He.DefD := ⟨("powered", none), "powered", "powered", defArgs (top 36), defBody (top 36), defScope (top 36), [], []⟩
def d_base_of : He.DefD := ⟨("base_of", none), "base_of", "base_of", defArgs (top 37), defBody (top 37), defScope (top 37), [], []⟩
def d_kind_of : He.DefD := ⟨("kind_of", none), "kind_of", "kind_of", defArgs (top 38), defBody (top 38), defScope (top 38), [], []⟩
def d_first_pair : He.DefD := ⟨("first_pair", none), "first_pair", "first_pair", defArgs (top 39), defBody (top 39), defScope (top 39), [], []⟩
def d_merged : He.DefD := ⟨("merged", none), "merged", "merged", defArgs (top 40), defBody (top 40), defScope (top 40), [], []⟩
def d_gather : He.DefD := ⟨("gather", none), "gather", "gather", defArgs (top 41), defBody (top 41), defScope (top 41), [], []⟩
def d_like : He.DefD := ⟨("like", none), "like", "like", defArgs (top 42), defBody (top 42), defScope (top 42), [], []⟩
def d_spread : He.DefD := ⟨("spread", none), "spread", "spread", defArgs (top 43), defBody (top 43), defScope (top 43), [], []⟩
def d_by_rule : He.DefD := ⟨("by_rule", none), "by_rule", "by_rule", defArgs (top 44), defBody (top 44), defScope (top 44), [], []⟩
def d_results : He.DefD := ⟨("results", none), "results", "results", defArgs (top 45), defBody (top 45), defScope (top 45), [], []⟩
def d_first_place : He.DefD := ⟨("first_place", none), "first_place", "first_place", defArgs (top 46), defBody (top 46), defScope (top 46), [], []⟩
def d_next_step : He.DefD := ⟨("next_step", none), "next_step", "next_step", defArgs (top 47), defBody (top 47), defScope (top 47), [], []⟩
def d_steps : He.DefD := ⟨("steps", none), "steps", "steps", defArgs (top 48), defBody (top 48), defScope (top 48), [], [("most", (.int 2000))]⟩
def d_simple : He.DefD := ⟨("simple", none), "simple", "simple", defArgs (top 49), defBody (top 49), defScope (top 49), [], [("most", (.int 2000))]⟩
def d__law_draw : He.DefD := ⟨("_law_draw", none), "_law_draw", "_law_draw", defArgs (top 52), defBody (top 52), defScope (top 52), [], []⟩
def d__law_frac : He.DefD := ⟨("_law_frac", none), "_law_frac", "_law_frac", defArgs (top 54), defBody (top 54), defScope (top 54), [], []⟩
def d__law_a_frac : He.DefD := ⟨("_law_a_frac", none), "_law_a_frac", "_law_a_frac", defArgs (top 55), defBody (top 55), defScope (top 55), [], []⟩
def d__law_a_formula : He.DefD := ⟨("_law_a_formula", none), "_law_a_formula", "_law_a_formula", defArgs (top 56), defBody (top 56), defScope (top 56), [], []⟩
def d__law_renamed : He.DefD := ⟨("_law_renamed", none), "_law_renamed", "_law_renamed", defArgs (top 57), defBody (top 57), defScope (top 57), [], []⟩
def d__law_begun : He.DefD := ⟨("_law_begun", none), "_law_begun", "_law_begun", defArgs (top 53), defBody (top 53), defScope (top 53), [], []⟩
def d_law : He.DefD := ⟨("law", none), "law", "law", defArgs (top 58), defBody (top 58), defScope (top 58), [], []⟩
def d__law_heard : He.DefD := ⟨("_law_heard", none), "_law_heard", "_law_heard", defArgs (top 51), defBody (top 51), defScope (top 51), [], []⟩
def fn : List He.DefD := [d_is_whole, d_greatest, d_frac, d_frac_plus, d_frac_times, d_frac_power, d_frac_below, d_parts_of, d_with_parts, d_part_at, d_with_part, d_comes_ahead, d_in_order, d_alone, d_flat, d_fold, d_none, d_powered, d_base_of, d_kind_of, d_first_pair, d_merged, d_gather, d_like, d_spread, d_by_rule, d_results, d_first_place, d_next_step, d_steps, d_simple, d__law_draw, d__law_frac, d__law_a_frac, d__law_a_formula, d__law_renamed, d__law_begun, d_law, d__law_heard]
abbrev fa : List He.Fa := faOf fn exs hd
theorem chk : okDefs tb fs fn = true := by decide +kernel
theorem chkL : okLaw tb n_law b_law d_law d__law_begun = true := by decide +kernel
theorem chkH : okHeard d__law_heard exs = true := by decide +kernel
theorem hear : hd = true → HearIs fn exs d__law_heard 38 := fun _ => ⟨rfl, chkH, fun _ _ _ _ _ _ us hl => match us, hl with | [_], _ => rfl⟩
theorem bn0 {K : PySem.W.Frag} {mg : Str → Option Value} {fd : FuncData} (F : FunD K d_greatest.name d_greatest.qual d_greatest.params d_greatest.body d_greatest.scope (d_greatest.dvs K) (d_greatest.kws K) (He.fAd K d_greatest.at_) fd) (g : mg "greatest" = some (.ref (He.fAd K d_greatest.at_))) : Bnd K mg s0 (He.fAd K d_greatest.at_) fd ["one", "other"] := by
  exact ⟨g, F.kp, rfl, fun _ => ⟨[], .nil, FunD.bindsN (ps := ["one", "other"]) F fun _ _ _ _ _ _ us hl => match us, hl with | [_, _], _ => rfl⟩, fun z => absurd rfl z⟩
theorem bn1 {K : PySem.W.Frag} {mg : Str → Option Value} {fd : FuncData} (F : FunD K d_frac.name d_frac.qual d_frac.params d_frac.body d_frac.scope (d_frac.dvs K) (d_frac.kws K) (He.fAd K d_frac.at_) fd) (g : mg "frac" = some (.ref (He.fAd K d_frac.at_))) : Bnd K mg s1 (He.fAd K d_frac.at_) fd ["top", "bottom"] := by
  exact ⟨g, F.kp, rfl, fun _ => ⟨[], .nil, FunD.bindsN (ps := ["top", "bottom"]) F fun _ _ _ _ _ _ us hl => match us, hl with | [_, _], _ => rfl⟩, fun z => absurd rfl z⟩
theorem bn2 {K : PySem.W.Frag} {mg : Str → Option Value} {fd : FuncData} (F : FunD K d_frac_times.name d_frac_times.qual d_frac_times.params d_frac_times.body d_frac_times.scope (d_frac_times.dvs K) (d_frac_times.kws K) (He.fAd K d_frac_times.at_) fd) (g : mg "frac_times" = some (.ref (He.fAd K d_frac_times.at_))) : Bnd K mg s2 (He.fAd K d_frac_times.at_) fd ["one", "other"] := by
  exact ⟨g, F.kp, rfl, fun _ => ⟨[], .nil, FunD.bindsN (ps := ["one", "other"]) F fun _ _ _ _ _ _ us hl => match us, hl with | [_, _], _ => rfl⟩, fun z => absurd rfl z⟩
theorem bn3 {K : PySem.W.Frag} {mg : Str → Option Value} {fd : FuncData} (F : FunD K d_parts_of.name d_parts_of.qual d_parts_of.params d_parts_of.body d_parts_of.scope (d_parts_of.dvs K) (d_parts_of.kws K) (He.fAd K d_parts_of.at_) fd) (g : mg "parts_of" = some (.ref (He.fAd K d_parts_of.at_))) : Bnd K mg s3 (He.fAd K d_parts_of.at_) fd ["formula"] := by
  exact ⟨g, F.kp, rfl, fun _ => ⟨[], .nil, FunD.bindsN (ps := ["formula"]) F fun _ _ _ _ _ _ us hl => match us, hl with | [_], _ => rfl⟩, fun z => absurd rfl z⟩
theorem bn4 {K : PySem.W.Frag} {mg : Str → Option Value} {fd : FuncData} (F : FunD K d_is_whole.name d_is_whole.qual d_is_whole.params d_is_whole.body d_is_whole.scope (d_is_whole.dvs K) (d_is_whole.kws K) (He.fAd K d_is_whole.at_) fd) (g : mg "is_whole" = some (.ref (He.fAd K d_is_whole.at_))) : Bnd K mg s4 (He.fAd K d_is_whole.at_) fd ["thing", "least"] := by
  refine ⟨g, F.kp, rfl, fun z => absurd z (by decide), fun _ => ?_⟩
  obtain ⟨mv, h⟩ := FunD.kbinds0 (ps := ["thing", "least"]) F 1 ["least"] [] (fun vs _ zs => vs ++ zs ++ []) (by simp [He.DefD.kws, d_is_whole]) (fun q hq => by cases hq) (fun r1 _ r3 => (r1.append r3).append .nil) fun D doc pm an cdv ct us mv ws h1 h2 h3 => match us, mv, ws, h1, h2, h3 with | [_], [], [_], _, _, _ => (by show bindArgs _ _ = pure _; rfl)
  exact ⟨_, h⟩
theorem bn5 {K : PySem.W.Frag} {mg : Str → Option Value} {fd : FuncData} (F : FunD K d_part_at.name d_part_at.qual d_part_at.params d_part_at.body d_part_at.scope (d_part_at.dvs K) (d_part_at.kws K) (He.fAd K d_part_at.at_) fd) (g : mg "part_at" = some (.ref (He.fAd K d_part_at.at_))) : Bnd K mg s5 (He.fAd K d_part_at.at_) fd ["formula", "path"] := by
  exact ⟨g, F.kp, rfl, fun _ => ⟨[], .nil, FunD.bindsN (ps := ["formula", "path"]) F fun _ _ _ _ _ _ us hl => match us, hl with | [_, _], _ => rfl⟩, fun z => absurd rfl z⟩
theorem bn6 {K : PySem.W.Frag} {mg : Str → Option Value} {fd : FuncData} (F : FunD K d_with_part.name d_with_part.qual d_with_part.params d_with_part.body d_with_part.scope (d_with_part.dvs K) (d_with_part.kws K) (He.fAd K d_with_part.at_) fd) (g : mg "with_part" = some (.ref (He.fAd K d_with_part.at_))) : Bnd K mg s6 (He.fAd K d_with_part.at_) fd ["formula", "path", "other"] := by
  exact ⟨g, F.kp, rfl, fun _ => ⟨[], .nil, FunD.bindsN (ps := ["formula", "path", "other"]) F fun _ _ _ _ _ _ us hl => match us, hl with | [_, _, _], _ => rfl⟩, fun z => absurd rfl z⟩
theorem bn7 {K : PySem.W.Frag} {mg : Str → Option Value} {fd : FuncData} (F : FunD K d_with_parts.name d_with_parts.qual d_with_parts.params d_with_parts.body d_with_parts.scope (d_with_parts.dvs K) (d_with_parts.kws K) (He.fAd K d_with_parts.at_) fd) (g : mg "with_parts" = some (.ref (He.fAd K d_with_parts.at_))) : Bnd K mg s7 (He.fAd K d_with_parts.at_) fd ["formula", "parts"] := by
  exact ⟨g, F.kp, rfl, fun _ => ⟨[], .nil, FunD.bindsN (ps := ["formula", "parts"]) F fun _ _ _ _ _ _ us hl => match us, hl with | [_, _], _ => rfl⟩, fun z => absurd rfl z⟩
theorem bn8 {K : PySem.W.Frag} {mg : Str → Option Value} {fd : FuncData} (F : FunD K d_frac_below.name d_frac_below.qual d_frac_below.params d_frac_below.body d_frac_below.scope (d_frac_below.dvs K) (d_frac_below.kws K) (He.fAd K d_frac_below.at_) fd) (g : mg "frac_below" = some (.ref (He.fAd K d_frac_below.at_))) : Bnd K mg s8 (He.fAd K d_frac_below.at_) fd ["one", "other"] := by
  exact ⟨g, F.kp, rfl, fun _ => ⟨[], .nil, FunD.bindsN (ps := ["one", "other"]) F fun _ _ _ _ _ _ us hl => match us, hl with | [_, _], _ => rfl⟩, fun z => absurd rfl z⟩
theorem bn9 {K : PySem.W.Frag} {mg : Str → Option Value} {fd : FuncData} (F : FunD K d_comes_ahead.name d_comes_ahead.qual d_comes_ahead.params d_comes_ahead.body d_comes_ahead.scope (d_comes_ahead.dvs K) (d_comes_ahead.kws K) (He.fAd K d_comes_ahead.at_) fd) (g : mg "comes_ahead" = some (.ref (He.fAd K d_comes_ahead.at_))) : Bnd K mg s9 (He.fAd K d_comes_ahead.at_) fd ["one", "other"] := by
  exact ⟨g, F.kp, rfl, fun _ => ⟨[], .nil, FunD.bindsN (ps := ["one", "other"]) F fun _ _ _ _ _ _ us hl => match us, hl with | [_, _], _ => rfl⟩, fun z => absurd rfl z⟩
theorem bn10 {K : PySem.W.Frag} {mg : Str → Option Value} {fd : FuncData} (F : FunD K d_frac_plus.name d_frac_plus.qual d_frac_plus.params d_frac_plus.body d_frac_plus.scope (d_frac_plus.dvs K) (d_frac_plus.kws K) (He.fAd K d_frac_plus.at_) fd) (g : mg "frac_plus" = some (.ref (He.fAd K d_frac_plus.at_))) : Bnd K mg s10 (He.fAd K d_frac_plus.at_) fd ["one", "other"] := by
  exact ⟨g, F.kp, rfl, fun _ => ⟨[], .nil, FunD.bindsN (ps := ["one", "other"]) F fun _ _ _ _ _ _ us hl => match us, hl with | [_, _], _ => rfl⟩, fun z => absurd rfl z⟩
theorem bn11 {K : PySem.W.Frag} {mg : Str → Option Value} {fd : FuncData} (F : FunD K d_alone.name d_alone.qual d_alone.params d_alone.body d_alone.scope (d_alone.dvs K) (d_alone.kws K) (He.fAd K d_alone.at_) fd) (g : mg "alone" = some (.ref (He.fAd K d_alone.at_))) : Bnd K mg s11 (He.fAd K d_alone.at_) fd ["word", "parts"] := by
  exact ⟨g, F.kp, rfl, fun _ => ⟨[], .nil, FunD.bindsN (ps := ["word", "parts"]) F fun _ _ _ _ _ _ us hl => match us, hl with | [_, _], _ => rfl⟩, fun z => absurd rfl z⟩
theorem bn12 {K : PySem.W.Frag} {mg : Str → Option Value} {fd : FuncData} (F : FunD K d_frac_power.name d_frac_power.qual d_frac_power.params d_frac_power.body d_frac_power.scope (d_frac_power.dvs K) (d_frac_power.kws K) (He.fAd K d_frac_power.at_) fd) (g : mg "frac_power" = some (.ref (He.fAd K d_frac_power.at_))) : Bnd K mg s12 (He.fAd K d_frac_power.at_) fd ["one", "times"] := by
  exact ⟨g, F.kp, rfl, fun _ => ⟨[], .nil, FunD.bindsN (ps := ["one", "times"]) F fun _ _ _ _ _ _ us hl => match us, hl with | [_, _], _ => rfl⟩, fun z => absurd rfl z⟩
theorem bn13 {K : PySem.W.Frag} {mg : Str → Option Value} {fd : FuncData} (F : FunD K d_base_of.name d_base_of.qual d_base_of.params d_base_of.body d_base_of.scope (d_base_of.dvs K) (d_base_of.kws K) (He.fAd K d_base_of.at_) fd) (g : mg "base_of" = some (.ref (He.fAd K d_base_of.at_))) : Bnd K mg s13 (He.fAd K d_base_of.at_) fd ["part"] := by
  exact ⟨g, F.kp, rfl, fun _ => ⟨[], .nil, FunD.bindsN (ps := ["part"]) F fun _ _ _ _ _ _ us hl => match us, hl with | [_], _ => rfl⟩, fun z => absurd rfl z⟩
theorem bn14 {K : PySem.W.Frag} {mg : Str → Option Value} {fd : FuncData} (F : FunD K d_first_pair.name d_first_pair.qual d_first_pair.params d_first_pair.body d_first_pair.scope (d_first_pair.dvs K) (d_first_pair.kws K) (He.fAd K d_first_pair.at_) fd) (g : mg "first_pair" = some (.ref (He.fAd K d_first_pair.at_))) : Bnd K mg s14 (He.fAd K d_first_pair.at_) fd ["some"] := by
  exact ⟨g, F.kp, rfl, fun _ => ⟨[], .nil, FunD.bindsN (ps := ["some"]) F fun _ _ _ _ _ _ us hl => match us, hl with | [_], _ => rfl⟩, fun z => absurd rfl z⟩
theorem bn15 {K : PySem.W.Frag} {mg : Str → Option Value} {fd : FuncData} (F : FunD K d_merged.name d_merged.qual d_merged.params d_merged.body d_merged.scope (d_merged.dvs K) (d_merged.kws K) (He.fAd K d_merged.at_) fd) (g : mg "merged" = some (.ref (He.fAd K d_merged.at_))) : Bnd K mg s15 (He.fAd K d_merged.at_) fd ["word", "parts", "pair", "fresh"] := by
  exact ⟨g, F.kp, rfl, fun _ => ⟨[], .nil, FunD.bindsN (ps := ["word", "parts", "pair", "fresh"]) F fun _ _ _ _ _ _ us hl => match us, hl with | [_, _, _, _], _ => rfl⟩, fun z => absurd rfl z⟩
theorem bn16 {K : PySem.W.Frag} {mg : Str → Option Value} {fd : FuncData} (F : FunD K d_kind_of.name d_kind_of.qual d_kind_of.params d_kind_of.body d_kind_of.scope (d_kind_of.dvs K) (d_kind_of.kws K) (He.fAd K d_kind_of.at_) fd) (g : mg "kind_of" = some (.ref (He.fAd K d_kind_of.at_))) : Bnd K mg s16 (He.fAd K d_kind_of.at_) fd ["part"] := by
  exact ⟨g, F.kp, rfl, fun _ => ⟨[], .nil, FunD.bindsN (ps := ["part"]) F fun _ _ _ _ _ _ us hl => match us, hl with | [_], _ => rfl⟩, fun z => absurd rfl z⟩
theorem bn17 {K : PySem.W.Frag} {mg : Str → Option Value} {fd : FuncData} (F : FunD K d_powered.name d_powered.qual d_powered.params d_powered.body d_powered.scope (d_powered.dvs K) (d_powered.kws K) (He.fAd K d_powered.at_) fd) (g : mg "powered" = some (.ref (He.fAd K d_powered.at_))) : Bnd K mg s17 (He.fAd K d_powered.at_) fd ["inner", "exponent"] := by
  exact ⟨g, F.kp, rfl, fun _ => ⟨[], .nil, FunD.bindsN (ps := ["inner", "exponent"]) F fun _ _ _ _ _ _ us hl => match us, hl with | [_, _], _ => rfl⟩, fun z => absurd rfl z⟩
theorem bn18 {K : PySem.W.Frag} {mg : Str → Option Value} {fd : FuncData} (F : FunD K d_flat.name d_flat.qual d_flat.params d_flat.body d_flat.scope (d_flat.dvs K) (d_flat.kws K) (He.fAd K d_flat.at_) fd) (g : mg "flat" = some (.ref (He.fAd K d_flat.at_))) : Bnd K mg s18 (He.fAd K d_flat.at_) fd ["word", "parts"] := by
  exact ⟨g, F.kp, rfl, fun _ => ⟨[], .nil, FunD.bindsN (ps := ["word", "parts"]) F fun _ _ _ _ _ _ us hl => match us, hl with | [_, _], _ => rfl⟩, fun z => absurd rfl z⟩
theorem bn19 {K : PySem.W.Frag} {mg : Str → Option Value} {fd : FuncData} (F : FunD K d_fold.name d_fold.qual d_fold.params d_fold.body d_fold.scope (d_fold.dvs K) (d_fold.kws K) (He.fAd K d_fold.at_) fd) (g : mg "fold" = some (.ref (He.fAd K d_fold.at_))) : Bnd K mg s19 (He.fAd K d_fold.at_) fd ["word", "parts"] := by
  exact ⟨g, F.kp, rfl, fun _ => ⟨[], .nil, FunD.bindsN (ps := ["word", "parts"]) F fun _ _ _ _ _ _ us hl => match us, hl with | [_, _], _ => rfl⟩, fun z => absurd rfl z⟩
theorem bn20 {K : PySem.W.Frag} {mg : Str → Option Value} {fd : FuncData} (F : FunD K d_none.name d_none.qual d_none.params d_none.body d_none.scope (d_none.dvs K) (d_none.kws K) (He.fAd K d_none.at_) fd) (g : mg "none" = some (.ref (He.fAd K d_none.at_))) : Bnd K mg s20 (He.fAd K d_none.at_) fd ["word", "parts"] := by
  exact ⟨g, F.kp, rfl, fun _ => ⟨[], .nil, FunD.bindsN (ps := ["word", "parts"]) F fun _ _ _ _ _ _ us hl => match us, hl with | [_, _], _ => rfl⟩, fun z => absurd rfl z⟩
theorem bn21 {K : PySem.W.Frag} {mg : Str → Option Value} {fd : FuncData} (F : FunD K d_in_order.name d_in_order.qual d_in_order.params d_in_order.body d_in_order.scope (d_in_order.dvs K) (d_in_order.kws K) (He.fAd K d_in_order.at_) fd) (g : mg "in_order" = some (.ref (He.fAd K d_in_order.at_))) : Bnd K mg s21 (He.fAd K d_in_order.at_) fd ["parts"] := by
  exact ⟨g, F.kp, rfl, fun _ => ⟨[], .nil, FunD.bindsN (ps := ["parts"]) F fun _ _ _ _ _ _ us hl => match us, hl with | [_], _ => rfl⟩, fun z => absurd rfl z⟩
theorem bn22 {K : PySem.W.Frag} {mg : Str → Option Value} {fd : FuncData} (F : FunD K d_gather.name d_gather.qual d_gather.params d_gather.body d_gather.scope (d_gather.dvs K) (d_gather.kws K) (He.fAd K d_gather.at_) fd) (g : mg "gather" = some (.ref (He.fAd K d_gather.at_))) : Bnd K mg s22 (He.fAd K d_gather.at_) fd ["parts"] := by
  exact ⟨g, F.kp, rfl, fun _ => ⟨[], .nil, FunD.bindsN (ps := ["parts"]) F fun _ _ _ _ _ _ us hl => match us, hl with | [_], _ => rfl⟩, fun z => absurd rfl z⟩
theorem bn23 {K : PySem.W.Frag} {mg : Str → Option Value} {fd : FuncData} (F : FunD K d_spread.name d_spread.qual d_spread.params d_spread.body d_spread.scope (d_spread.dvs K) (d_spread.kws K) (He.fAd K d_spread.at_) fd) (g : mg "spread" = some (.ref (He.fAd K d_spread.at_))) : Bnd K mg s23 (He.fAd K d_spread.at_) fd ["parts"] := by
  exact ⟨g, F.kp, rfl, fun _ => ⟨[], .nil, FunD.bindsN (ps := ["parts"]) F fun _ _ _ _ _ _ us hl => match us, hl with | [_], _ => rfl⟩, fun z => absurd rfl z⟩
theorem bn24 {K : PySem.W.Frag} {mg : Str → Option Value} {fd : FuncData} (F : FunD K d_like.name d_like.qual d_like.params d_like.body d_like.scope (d_like.dvs K) (d_like.kws K) (He.fAd K d_like.at_) fd) (g : mg "like" = some (.ref (He.fAd K d_like.at_))) : Bnd K mg s24 (He.fAd K d_like.at_) fd ["parts"] := by
  exact ⟨g, F.kp, rfl, fun _ => ⟨[], .nil, FunD.bindsN (ps := ["parts"]) F fun _ _ _ _ _ _ us hl => match us, hl with | [_], _ => rfl⟩, fun z => absurd rfl z⟩
theorem bn25 {K : PySem.W.Frag} {mg : Str → Option Value} {fd : FuncData} (F : FunD K d_by_rule.name d_by_rule.qual d_by_rule.params d_by_rule.body d_by_rule.scope (d_by_rule.dvs K) (d_by_rule.kws K) (He.fAd K d_by_rule.at_) fd) (g : mg "by_rule" = some (.ref (He.fAd K d_by_rule.at_))) : Bnd K mg s25 (He.fAd K d_by_rule.at_) fd ["rule", "formula"] := by
  exact ⟨g, F.kp, rfl, fun _ => ⟨[], .nil, FunD.bindsN (ps := ["rule", "formula"]) F fun _ _ _ _ _ _ us hl => match us, hl with | [_, _], _ => rfl⟩, fun z => absurd rfl z⟩
theorem bn26 {K : PySem.W.Frag} {mg : Str → Option Value} {fd : FuncData} (F : FunD K d_first_place.name d_first_place.qual d_first_place.params d_first_place.body d_first_place.scope (d_first_place.dvs K) (d_first_place.kws K) (He.fAd K d_first_place.at_) fd) (g : mg "first_place" = some (.ref (He.fAd K d_first_place.at_))) : Bnd K mg s26 (He.fAd K d_first_place.at_) fd ["formula"] := by
  exact ⟨g, F.kp, rfl, fun _ => ⟨[], .nil, FunD.bindsN (ps := ["formula"]) F fun _ _ _ _ _ _ us hl => match us, hl with | [_], _ => rfl⟩, fun z => absurd rfl z⟩
theorem bn27 {K : PySem.W.Frag} {mg : Str → Option Value} {fd : FuncData} (F : FunD K d_results.name d_results.qual d_results.params d_results.body d_results.scope (d_results.dvs K) (d_results.kws K) (He.fAd K d_results.at_) fd) (g : mg "results" = some (.ref (He.fAd K d_results.at_))) : Bnd K mg s27 (He.fAd K d_results.at_) fd ["formula", "path"] := by
  exact ⟨g, F.kp, rfl, fun _ => ⟨[], .nil, FunD.bindsN (ps := ["formula", "path"]) F fun _ _ _ _ _ _ us hl => match us, hl with | [_, _], _ => rfl⟩, fun z => absurd rfl z⟩
theorem bn28 {K : PySem.W.Frag} {mg : Str → Option Value} {fd : FuncData} (F : FunD K d_next_step.name d_next_step.qual d_next_step.params d_next_step.body d_next_step.scope (d_next_step.dvs K) (d_next_step.kws K) (He.fAd K d_next_step.at_) fd) (g : mg "next_step" = some (.ref (He.fAd K d_next_step.at_))) : Bnd K mg s28 (He.fAd K d_next_step.at_) fd ["formula"] := by
  exact ⟨g, F.kp, rfl, fun _ => ⟨[], .nil, FunD.bindsN (ps := ["formula"]) F fun _ _ _ _ _ _ us hl => match us, hl with | [_], _ => rfl⟩, fun z => absurd rfl z⟩
theorem bn29 {K : PySem.W.Frag} {mg : Str → Option Value} {fd : FuncData} (F : FunD K d_steps.name d_steps.qual d_steps.params d_steps.body d_steps.scope (d_steps.dvs K) (d_steps.kws K) (He.fAd K d_steps.at_) fd) (g : mg "steps" = some (.ref (He.fAd K d_steps.at_))) : Bnd K mg s29 (He.fAd K d_steps.at_) fd ["formula", "most"] := by
  refine ⟨g, F.kp, rfl, fun z => absurd z (by decide), fun _ => ?_⟩
  obtain ⟨mv, h⟩ := FunD.kbinds0 (ps := ["formula", "most"]) F 1 ["most"] [] (fun vs _ zs => vs ++ zs ++ []) (by simp [He.DefD.kws, d_steps]) (fun q hq => by cases hq) (fun r1 _ r3 => (r1.append r3).append .nil) fun D doc pm an cdv ct us mv ws h1 h2 h3 => match us, mv, ws, h1, h2, h3 with | [_], [], [_], _, _, _ => (by show bindArgs _ _ = pure _; rfl)
  exact ⟨_, h⟩
theorem bn30 {K : PySem.W.Frag} {mg : Str → Option Value} {fd : FuncData} (F : FunD K d__law_frac.name d__law_frac.qual d__law_frac.params d__law_frac.body d__law_frac.scope (d__law_frac.dvs K) (d__law_frac.kws K) (He.fAd K d__law_frac.at_) fd) (g : mg "_law_frac" = some (.ref (He.fAd K d__law_frac.at_))) : Bnd K mg s30 (He.fAd K d__law_frac.at_) fd ["top", "bottom"] := by
  exact ⟨g, F.kp, rfl, fun _ => ⟨[], .nil, FunD.bindsN (ps := ["top", "bottom"]) F fun _ _ _ _ _ _ us hl => match us, hl with | [_, _], _ => rfl⟩, fun z => absurd rfl z⟩
theorem bn31 {K : PySem.W.Frag} {mg : Str → Option Value} {fd : FuncData} (F : FunD K d__law_draw.name d__law_draw.qual d__law_draw.params d__law_draw.body d__law_draw.scope (d__law_draw.dvs K) (d__law_draw.kws K) (He.fAd K d__law_draw.at_) fd) (g : mg "_law_draw" = some (.ref (He.fAd K d__law_draw.at_))) : Bnd K mg s31 (He.fAd K d__law_draw.at_) fd ["script", "town", "many"] := by
  exact ⟨g, F.kp, rfl, fun _ => ⟨[], .nil, FunD.bindsN (ps := ["script", "town", "many"]) F fun _ _ _ _ _ _ us hl => match us, hl with | [_, _, _], _ => rfl⟩, fun z => absurd rfl z⟩
theorem bn32 {K : PySem.W.Frag} {mg : Str → Option Value} {fd : FuncData} (F : FunD K d__law_a_frac.name d__law_a_frac.qual d__law_a_frac.params d__law_a_frac.body d__law_a_frac.scope (d__law_a_frac.dvs K) (d__law_a_frac.kws K) (He.fAd K d__law_a_frac.at_) fd) (g : mg "_law_a_frac" = some (.ref (He.fAd K d__law_a_frac.at_))) : Bnd K mg s32 (He.fAd K d__law_a_frac.at_) fd ["script", "town", "size"] := by
  exact ⟨g, F.kp, rfl, fun _ => ⟨[], .nil, FunD.bindsN (ps := ["script", "town", "size"]) F fun _ _ _ _ _ _ us hl => match us, hl with | [_, _, _], _ => rfl⟩, fun z => absurd rfl z⟩
theorem bn33 {K : PySem.W.Frag} {mg : Str → Option Value} {fd : FuncData} (F : FunD K d__law_a_formula.name d__law_a_formula.qual d__law_a_formula.params d__law_a_formula.body d__law_a_formula.scope (d__law_a_formula.dvs K) (d__law_a_formula.kws K) (He.fAd K d__law_a_formula.at_) fd) (g : mg "_law_a_formula" = some (.ref (He.fAd K d__law_a_formula.at_))) : Bnd K mg s33 (He.fAd K d__law_a_formula.at_) fd ["script", "town", "deep", "words"] := by
  exact ⟨g, F.kp, rfl, fun _ => ⟨[], .nil, FunD.bindsN (ps := ["script", "town", "deep", "words"]) F fun _ _ _ _ _ _ us hl => match us, hl with | [_, _, _, _], _ => rfl⟩, fun z => absurd rfl z⟩
theorem bn34 {K : PySem.W.Frag} {mg : Str → Option Value} {fd : FuncData} (F : FunD K d__law_renamed.name d__law_renamed.qual d__law_renamed.params d__law_renamed.body d__law_renamed.scope (d__law_renamed.dvs K) (d__law_renamed.kws K) (He.fAd K d__law_renamed.at_) fd) (g : mg "_law_renamed" = some (.ref (He.fAd K d__law_renamed.at_))) : Bnd K mg s34 (He.fAd K d__law_renamed.at_) fd ["formula", "told"] := by
  exact ⟨g, F.kp, rfl, fun _ => ⟨[], .nil, FunD.bindsN (ps := ["formula", "told"]) F fun _ _ _ _ _ _ us hl => match us, hl with | [_, _], _ => rfl⟩, fun z => absurd rfl z⟩
theorem bn35 {K : PySem.W.Frag} {mg : Str → Option Value} {fd : FuncData} (F : FunD K d_steps.name d_steps.qual d_steps.params d_steps.body d_steps.scope (d_steps.dvs K) (d_steps.kws K) (He.fAd K d_steps.at_) fd) (g : mg "steps" = some (.ref (He.fAd K d_steps.at_))) : Bnd K mg s35 (He.fAd K d_steps.at_) fd ["formula", "most"] := by
  refine ⟨g, F.kp, rfl, fun _ => ?_, fun z => absurd rfl z⟩
  exact FunD.binds0 (ps := ["formula", "most"]) F 1 (by simp [He.DefD.kws, d_steps]) rfl fun D doc pm an cdv ct us ks h1 h2 => match us, ks, h1, h2 with | [_], [_], _, _ => ⟨_, _, _, _, _, _, rfl, rfl, rfl⟩
theorem bn36 {K : PySem.W.Frag} {mg : Str → Option Value} {fd : FuncData} (F : FunD K d_simple.name d_simple.qual d_simple.params d_simple.body d_simple.scope (d_simple.dvs K) (d_simple.kws K) (He.fAd K d_simple.at_) fd) (g : mg "simple" = some (.ref (He.fAd K d_simple.at_))) : Bnd K mg s36 (He.fAd K d_simple.at_) fd ["formula", "most"] := by
  refine ⟨g, F.kp, rfl, fun _ => ?_, fun z => absurd rfl z⟩
  exact FunD.binds0 (ps := ["formula", "most"]) F 1 (by simp [He.DefD.kws, d_simple]) rfl fun D doc pm an cdv ct us ks h1 h2 => match us, ks, h1, h2 with | [_], [_], _, _ => ⟨_, _, _, _, _, _, rfl, rfl, rfl⟩
@[simp] theorem g0 {ns : List Int} {k : Nat} (xs ys : List D) (t : Tw) : (gam p ns k).f 0 0 xs ys t = callF p ns k i_greatest (xs ++ ys ++ []) t := gam_at (sh := s0) rfl xs ys t
@[simp] theorem g1 {ns : List Int} {k : Nat} (xs ys : List D) (t : Tw) : (gam p ns k).f 0 1 xs ys t = callF p ns k i_frac (xs ++ ys ++ []) t := gam_at (sh := s1) rfl xs ys t
@[simp] theorem g2 {ns : List Int} {k : Nat} (xs ys : List D) (t : Tw) : (gam p ns k).f 0 2 xs ys t = callF p ns k i_frac_times (xs ++ ys ++ []) t := gam_at (sh := s2) rfl xs ys t
@[simp] theorem g3 {ns : List Int} {k : Nat} (xs ys : List D) (t : Tw) : (gam p ns k).f 0 3 xs ys t = callF p ns k i_parts_of (xs ++ ys ++ []) t := gam_at (sh := s3) rfl xs ys t
@[simp] theorem g4 {ns : List Int} {k : Nat} (xs ys : List D) (t : Tw) : (gam p ns k).f 0 4 xs ys t = callF p ns k i_is_whole (xs ++ ys ++ []) t := gam_at (sh := s4) rfl xs ys t
@[simp] theorem g5 {ns : List Int} {k : Nat} (xs ys : List D) (t : Tw) : (gam p ns k).f 0 5 xs ys t = callF p ns k i_part_at (xs ++ ys ++ []) t := gam_at (sh := s5) rfl xs ys t
@[simp] theorem g6 {ns : List Int} {k : Nat} (xs ys : List D) (t : Tw) : (gam p ns k).f 0 6 xs ys t = callF p ns k i_with_part (xs ++ ys ++ []) t := gam_at (sh := s6) rfl xs ys t
@[simp] theorem g7 {ns : List Int} {k : Nat} (xs ys : List D) (t : Tw) : (gam p ns k).f 0 7 xs ys t = callF p ns k i_with_parts (xs ++ ys ++ []) t := gam_at (sh := s7) rfl xs ys t
@[simp] theorem g8 {ns : List Int} {k : Nat} (xs ys : List D) (t : Tw) : (gam p ns k).f 0 8 xs ys t = callF p ns k i_frac_below (xs ++ ys ++ []) t := gam_at (sh := s8) rfl xs ys t
@[simp] theorem g9 {ns : List Int} {k : Nat} (xs ys : List D) (t : Tw) : (gam p ns k).f 0 9 xs ys t = callF p ns k i_comes_ahead (xs ++ ys ++ []) t := gam_at (sh := s9) rfl xs ys t
@[simp] theorem g10 {ns : List Int} {k : Nat} (xs ys : List D) (t : Tw) : (gam p ns k).f 0 10 xs ys t = callF p ns k i_frac_plus (xs ++ ys ++ []) t := gam_at (sh := s10) rfl xs ys t
@[simp] theorem g11 {ns : List Int} {k : Nat} (xs ys : List D) (t : Tw) : (gam p ns k).f 0 11 xs ys t = callF p ns k i_alone (xs ++ ys ++ []) t := gam_at (sh := s11) rfl xs ys t
@[simp] theorem g12 {ns : List Int} {k : Nat} (xs ys : List D) (t : Tw) : (gam p ns k).f 0 12 xs ys t = callF p ns k i_frac_power (xs ++ ys ++ []) t := gam_at (sh := s12) rfl xs ys t
@[simp] theorem g13 {ns : List Int} {k : Nat} (xs ys : List D) (t : Tw) : (gam p ns k).f 0 13 xs ys t = callF p ns k i_base_of (xs ++ ys ++ []) t := gam_at (sh := s13) rfl xs ys t
@[simp] theorem g14 {ns : List Int} {k : Nat} (xs ys : List D) (t : Tw) : (gam p ns k).f 0 14 xs ys t = callF p ns k i_first_pair (xs ++ ys ++ []) t := gam_at (sh := s14) rfl xs ys t
@[simp] theorem g15 {ns : List Int} {k : Nat} (xs ys : List D) (t : Tw) : (gam p ns k).f 0 15 xs ys t = callF p ns k i_merged (xs ++ ys ++ []) t := gam_at (sh := s15) rfl xs ys t
@[simp] theorem g16 {ns : List Int} {k : Nat} (xs ys : List D) (t : Tw) : (gam p ns k).f 0 16 xs ys t = callF p ns k i_kind_of (xs ++ ys ++ []) t := gam_at (sh := s16) rfl xs ys t
@[simp] theorem g17 {ns : List Int} {k : Nat} (xs ys : List D) (t : Tw) : (gam p ns k).f 0 17 xs ys t = callF p ns k i_powered (xs ++ ys ++ []) t := gam_at (sh := s17) rfl xs ys t
@[simp] theorem g18 {ns : List Int} {k : Nat} (xs ys : List D) (t : Tw) : (gam p ns k).f 0 18 xs ys t = callF p ns k i_flat (xs ++ ys ++ []) t := gam_at (sh := s18) rfl xs ys t
@[simp] theorem g19 {ns : List Int} {k : Nat} (xs ys : List D) (t : Tw) : (gam p ns k).f 0 19 xs ys t = callF p ns k i_fold (xs ++ ys ++ []) t := gam_at (sh := s19) rfl xs ys t
@[simp] theorem g20 {ns : List Int} {k : Nat} (xs ys : List D) (t : Tw) : (gam p ns k).f 0 20 xs ys t = callF p ns k i_none (xs ++ ys ++ []) t := gam_at (sh := s20) rfl xs ys t
@[simp] theorem g21 {ns : List Int} {k : Nat} (xs ys : List D) (t : Tw) : (gam p ns k).f 0 21 xs ys t = callF p ns k i_in_order (xs ++ ys ++ []) t := gam_at (sh := s21) rfl xs ys t
@[simp] theorem g22 {ns : List Int} {k : Nat} (xs ys : List D) (t : Tw) : (gam p ns k).f 0 22 xs ys t = callF p ns k i_gather (xs ++ ys ++ []) t := gam_at (sh := s22) rfl xs ys t
@[simp] theorem g23 {ns : List Int} {k : Nat} (xs ys : List D) (t : Tw) : (gam p ns k).f 0 23 xs ys t = callF p ns k i_spread (xs ++ ys ++ []) t := gam_at (sh := s23) rfl xs ys t
@[simp] theorem g24 {ns : List Int} {k : Nat} (xs ys : List D) (t : Tw) : (gam p ns k).f 0 24 xs ys t = callF p ns k i_like (xs ++ ys ++ []) t := gam_at (sh := s24) rfl xs ys t
@[simp] theorem g25 {ns : List Int} {k : Nat} (xs ys : List D) (t : Tw) : (gam p ns k).f 0 25 xs ys t = callF p ns k i_by_rule (xs ++ ys ++ []) t := gam_at (sh := s25) rfl xs ys t
@[simp] theorem g26 {ns : List Int} {k : Nat} (xs ys : List D) (t : Tw) : (gam p ns k).f 0 26 xs ys t = callF p ns k i_first_place (xs ++ ys ++ []) t := gam_at (sh := s26) rfl xs ys t
@[simp] theorem g27 {ns : List Int} {k : Nat} (xs ys : List D) (t : Tw) : (gam p ns k).f 0 27 xs ys t = callF p ns k i_results (xs ++ ys ++ []) t := gam_at (sh := s27) rfl xs ys t
@[simp] theorem g28 {ns : List Int} {k : Nat} (xs ys : List D) (t : Tw) : (gam p ns k).f 0 28 xs ys t = callF p ns k i_next_step (xs ++ ys ++ []) t := gam_at (sh := s28) rfl xs ys t
@[simp] theorem g29 {ns : List Int} {k : Nat} (xs ys : List D) (t : Tw) : (gam p ns k).f 0 29 xs ys t = callF p ns k i_steps (xs ++ ys ++ []) t := gam_at (sh := s29) rfl xs ys t
@[simp] theorem g30 {ns : List Int} {k : Nat} (xs ys : List D) (t : Tw) : (gam p ns k).f 0 30 xs ys t = callF p ns k i__law_frac (xs ++ ys ++ []) t := gam_at (sh := s30) rfl xs ys t
@[simp] theorem g31 {ns : List Int} {k : Nat} (xs ys : List D) (t : Tw) : (gam p ns k).f 0 31 xs ys t = callF p ns k i__law_draw (xs ++ ys ++ []) t := gam_at (sh := s31) rfl xs ys t
@[simp] theorem g32 {ns : List Int} {k : Nat} (xs ys : List D) (t : Tw) : (gam p ns k).f 0 32 xs ys t = callF p ns k i__law_a_frac (xs ++ ys ++ []) t := gam_at (sh := s32) rfl xs ys t
@[simp] theorem g33 {ns : List Int} {k : Nat} (xs ys : List D) (t : Tw) : (gam p ns k).f 0 33 xs ys t = callF p ns k i__law_a_formula (xs ++ ys ++ []) t := gam_at (sh := s33) rfl xs ys t
@[simp] theorem g34 {ns : List Int} {k : Nat} (xs ys : List D) (t : Tw) : (gam p ns k).f 0 34 xs ys t = callF p ns k i__law_renamed (xs ++ ys ++ []) t := gam_at (sh := s34) rfl xs ys t
@[simp] theorem g35 {ns : List Int} {k : Nat} (xs ys : List D) (t : Tw) : (gam p ns k).f 0 35 xs ys t = callF p ns k i_steps (xs ++ ys ++ [(D.int 2000)]) t := gam_at (sh := s35) rfl xs ys t
@[simp] theorem g36 {ns : List Int} {k : Nat} (xs ys : List D) (t : Tw) : (gam p ns k).f 0 36 xs ys t = callF p ns k i_simple (xs ++ ys ++ [(D.int 2000)]) t := gam_at (sh := s36) rfl xs ys t
theorem u_is_whole {ns : List Int} {k : Nat} (ds : List D) (t : Tw) : callF p ns (k + 1) i_is_whole ds t = retD (evSs (gam p ns k) (csOf cst) b_is_whole (startR ["thing", "least"] ds) t) := callF_df (i := 0) (f := f_is_whole) rfl ds t
theorem u_greatest {ns : List Int} {k : Nat} (ds : List D) (t : Tw) : callF p ns (k + 1) i_greatest ds t = retD (evSs (gam p ns k) (csOf cst) b_greatest (startR ["one", "other"] ds) t) := callF_df (i := 1) (f := f_greatest) rfl ds t
theorem u_frac {ns : List Int} {k : Nat} (ds : List D) (t : Tw) : callF p ns (k + 1) i_frac ds t = retD (evSs (gam p ns k) (csOf cst) b_frac (startR ["top", "bottom", "shared"] ds) t) := callF_df (i := 2) (f := f_frac) rfl ds t
theorem u_frac_plus {ns : List Int} {k : Nat} (ds : List D) (t : Tw) : callF p ns (k + 1) i_frac_plus ds t = retD (evSs (gam p ns k) (csOf cst) b_frac_plus (startR ["one", "other"] ds) t) := callF_df (i := 3) (f := f_frac_plus) rfl ds t
theorem u_frac_times {ns : List Int} {k : Nat} (ds : List D) (t : Tw) : callF p ns (k + 1) i_frac_times ds t = retD (evSs (gam p ns k) (csOf cst) b_frac_times (startR ["one", "other"] ds) t) := callF_df (i := 4) (f := f_frac_times) rfl ds t
theorem u_frac_power {ns : List Int} {k : Nat} (ds : List D) (t : Tw) : callF p ns (k + 1) i_frac_power ds t = retD (evSs (gam p ns k) (csOf cst) b_frac_power (startR ["one", "times", "found", "turn"] ds) t) := callF_df (i := 5) (f := f_frac_power) rfl ds t
theorem u_frac_below {ns : List Int} {k : Nat} (ds : List D) (t : Tw) : callF p ns (k + 1) i_frac_below ds t = retD (evSs (gam p ns k) (csOf cst) b_frac_below (startR ["one", "other"] ds) t) := callF_df (i := 6) (f := f_frac_below) rfl ds t
theorem u_parts_of {ns : List Int} {k : Nat} (ds : List D) (t : Tw) : callF p ns (k + 1) i_parts_of ds t = retD (evSs (gam p ns k) (csOf cst) b_parts_of (startR ["formula", "word", "rest"] ds) t) := callF_df (i := 7) (f := f_parts_of) rfl ds t
theorem u_with_parts {ns : List Int} {k : Nat} (ds : List D) (t : Tw) : callF p ns (k + 1) i_with_parts ds t = retD (evSs (gam p ns k) (csOf cst) b_with_parts (startR ["formula", "parts", "word", "rest"] ds) t) := callF_df (i := 8) (f := f_with_parts) rfl ds t
theorem u_part_at {ns : List Int} {k : Nat} (ds : List D) (t : Tw) : callF p ns (k + 1) i_part_at ds t = retD (evSs (gam p ns k) (csOf cst) b_part_at (startR ["formula", "path", "step", "some"] ds) t) := callF_df (i := 9) (f := f_part_at) rfl ds t
theorem u_with_part {ns : List Int} {k : Nat} (ds : List D) (t : Tw) : callF p ns (k + 1) i_with_part ds t = retD (evSs (gam p ns k) (csOf cst) b_with_part (startR ["formula", "path", "other", "some"] ds) t) := callF_df (i := 10) (f := f_with_part) rfl ds t
theorem u_comes_ahead {ns : List Int} {k : Nat} (ds : List D) (t : Tw) : callF p ns (k + 1) i_comes_ahead ds t = retD (evSs (gam p ns k) (csOf cst) b_comes_ahead (startR ["one", "other", "first", "second", "part", "another"] ds) t) := callF_df (i := 11) (f := f_comes_ahead) rfl ds t
theorem u_in_order {ns : List Int} {k : Nat} (ds : List D) (t : Tw) : callF p ns (k + 1) i_in_order ds t = retD (evSs (gam p ns k) (csOf cst) b_in_order (startR ["parts", "found", "part", "at"] ds) t) := callF_df (i := 12) (f := f_in_order) rfl ds t
theorem u_alone {ns : List Int} {k : Nat} (ds : List D) (t : Tw) : callF p ns (k + 1) i_alone ds t = retD (evSs (gam p ns k) (csOf cst) b_alone (startR ["word", "parts"] ds) t) := callF_df (i := 13) (f := f_alone) rfl ds t
theorem u_flat {ns : List Int} {k : Nat} (ds : List D) (t : Tw) : callF p ns (k + 1) i_flat ds t = retD (evSs (gam p ns k) (csOf cst) b_flat (startR ["word", "parts", "part", "inner"] ds) t) := callF_df (i := 14) (f := f_flat) rfl ds t
theorem u_fold {ns : List Int} {k : Nat} (ds : List D) (t : Tw) : callF p ns (k + 1) i_fold ds t = retD (evSs (gam p ns k) (csOf cst) b_fold (startR ["word", "parts", "places", "at", "part", "total", "some"] ds) t) := callF_df (i := 15) (f := f_fold) rfl ds t
theorem u_none {ns : List Int} {k : Nat} (ds : List D) (t : Tw) : callF p ns (k + 1) i_none ds t = retD (evSs (gam p ns k) (csOf cst) b_none (startR ["word", "parts", "idle", "left", "part"] ds) t) := callF_df (i := 16) (f := f_none) rfl ds t
theorem u_powered {ns : List Int} {k : Nat} (ds : List D) (t : Tw) : callF p ns (k + 1) i_powered ds t = retD (evSs (gam p ns k) (csOf cst) b_powered (startR ["inner", "exponent", "part"] ds) t) := callF_df (i := 17) (f := f_powered) rfl ds t
theorem u_base_of {ns : List Int} {k : Nat} (ds : List D) (t : Tw) : callF p ns (k + 1) i_base_of ds t = retD (evSs (gam p ns k) (csOf cst) b_base_of (startR ["part"] ds) t) := callF_df (i := 18) (f := f_base_of) rfl ds t
theorem u_kind_of {ns : List Int} {k : Nat} (ds : List D) (t : Tw) : callF p ns (k + 1) i_kind_of ds t = retD (evSs (gam p ns k) (csOf cst) b_kind_of (startR ["part"] ds) t) := callF_df (i := 19) (f := f_kind_of) rfl ds t
theorem u_first_pair {ns : List Int} {k : Nat} (ds : List D) (t : Tw) : callF p ns (k + 1) i_first_pair ds t = retD (evSs (gam p ns k) (csOf cst) b_first_pair (startR ["some", "at", "one", "behind"] ds) t) := callF_df (i := 20) (f := f_first_pair) rfl ds t
theorem u_merged {ns : List Int} {k : Nat} (ds : List D) (t : Tw) : callF p ns (k + 1) i_merged ds t = retD (evSs (gam p ns k) (csOf cst) b_merged (startR ["word", "parts", "pair", "fresh", "some", "at", "part"] ds) t) := callF_df (i := 21) (f := f_merged) rfl ds t
theorem u_gather {ns : List Int} {k : Nat} (ds : List D) (t : Tw) : callF p ns (k + 1) i_gather ds t = retD (evSs (gam p ns k) (csOf cst) b_gather (startR ["parts", "some", "part", "pair", "base", "exponent"] ds) t) := callF_df (i := 22) (f := f_gather) rfl ds t
theorem u_like {ns : List Int} {k : Nat} (ds : List D) (t : Tw) : callF p ns (k + 1) i_like ds t = retD (evSs (gam p ns k) (csOf cst) b_like (startR ["parts", "some", "part", "pair", "rest", "first", "total"] ds) t) := callF_df (i := 23) (f := f_like) rfl ds t
theorem u_spread {ns : List Int} {k : Nat} (ds : List D) (t : Tw) : callF p ns (k + 1) i_spread ds t = retD (evSs (gam p ns k) (csOf cst) b_spread (startR ["parts", "places", "at", "part"] ds) t) := callF_df (i := 24) (f := f_spread) rfl ds t
theorem u_by_rule {ns : List Int} {k : Nat} (ds : List D) (t : Tw) : callF p ns (k + 1) i_by_rule ds t = retD (evSs (gam p ns k) (csOf cst) b_by_rule (startR ["rule", "formula", "word", "parts"] ds) t) := callF_df (i := 25) (f := f_by_rule) rfl ds t
theorem u_results {ns : List Int} {k : Nat} (ds : List D) (t : Tw) : callF p ns (k + 1) i_results ds t = retD (evSs (gam p ns k) (csOf cst) b_results (startR ["formula", "path", "part", "told", "rule", "fresh"] ds) t) := callF_df (i := 26) (f := f_results) rfl ds t
theorem u_first_place {ns : List Int} {k : Nat} (ds : List D) (t : Tw) : callF p ns (k + 1) i_first_place ds t = retD (evSs (gam p ns k) (csOf cst) b_first_place (startR ["formula", "at", "part", "inner"] ds) t) := callF_df (i := 27) (f := f_first_place) rfl ds t
theorem u_next_step {ns : List Int} {k : Nat} (ds : List D) (t : Tw) : callF p ns (k + 1) i_next_step ds t = retD (evSs (gam p ns k) (csOf cst) b_next_step (startR ["formula", "path", "rule", "other"] ds) t) := callF_df (i := 28) (f := f_next_step) rfl ds t
theorem u_steps {ns : List Int} {k : Nat} (ds : List D) (t : Tw) : callF p ns (k + 1) i_steps ds t = retD (evSs (gam p ns k) (csOf cst) b_steps (startR ["formula", "most", "found", "step"] ds) t) := callF_df (i := 29) (f := f_steps) rfl ds t
theorem u_simple {ns : List Int} {k : Nat} (ds : List D) (t : Tw) : callF p ns (k + 1) i_simple ds t = retD (evSs (gam p ns k) (csOf cst) b_simple (startR ["formula", "most", "found"] ds) t) := callF_df (i := 30) (f := f_simple) rfl ds t
theorem u__law_draw {ns : List Int} {k : Nat} (ds : List D) (t : Tw) : callF p ns (k + 1) i__law_draw ds t = retD (evSs (gam p ns k) (csOf cst) b__law_draw (startR ["script", "town", "many", "at", "rest", "number"] ds) t) := callF_df (i := 31) (f := f__law_draw) rfl ds t
theorem u__law_frac {ns : List Int} {k : Nat} (ds : List D) (t : Tw) : callF p ns (k + 1) i__law_frac ds t = retD (evSs (gam p ns k) (csOf cst) b__law_frac (startR ["top", "bottom", "one", "other"] ds) t) := callF_df (i := 32) (f := f__law_frac) rfl ds t
theorem u__law_a_frac {ns : List Int} {k : Nat} (ds : List D) (t : Tw) : callF p ns (k + 1) i__law_a_frac ds t = retD (evSs (gam p ns k) (csOf cst) b__law_a_frac (startR ["script", "town", "size"] ds) t) := callF_df (i := 33) (f := f__law_a_frac) rfl ds t
theorem u__law_a_formula {ns : List Int} {k : Nat} (ds : List D) (t : Tw) : callF p ns (k + 1) i__law_a_formula ds t = retD (evSs (gam p ns k) (csOf cst) b__law_a_formula (startR ["script", "town", "deep", "words", "turn", "word", "size", "k", "one"] ds) t) := callF_df (i := 34) (f := f__law_a_formula) rfl ds t
theorem u__law_renamed {ns : List Int} {k : Nat} (ds : List D) (t : Tw) : callF p ns (k + 1) i__law_renamed ds t = retD (evSs (gam p ns k) (csOf cst) b__law_renamed (startR ["formula", "told", "part"] ds) t) := callF_df (i := 35) (f := f__law_renamed) rfl ds t
@[simp] theorem c_ONE : csOf cst 0 = (D.tup [(D.int 1), (D.int 1)]) := rfl
@[simp] theorem c_MANY : csOf cst 1 = (D.tup [(D.str "add"), (D.str "mul")]) := rfl
@[simp] theorem c_RANKS : csOf cst 2 = (D.tup [(D.str "num"), (D.str "name"), (D.str "pow"), (D.str "mul"), (D.str "add")]) := rfl
@[simp] theorem c_NOUGHT : csOf cst 3 = (D.tup [(D.int 0), (D.int 1)]) := rfl
@[simp] theorem c_RULES : csOf cst 4 = (D.tup [(D.str "flat"), (D.str "fold"), (D.str "none"), (D.str "power"), (D.str "gather"), (D.str "spread"), (D.str "like"), (D.str "order")]) := rfl
theorem so : ShOk p fn := by
  refine ⟨fun K mg ffd hf hg j sh e => ?_⟩
  match j, e with
  | 0, e =>
    cases e
    exact ⟨.df f_greatest, rfl, bn0 (hf 1 d_greatest rfl) (hg 1 d_greatest rfl)⟩
  | 1, e =>
    cases e
    exact ⟨.df f_frac, rfl, bn1 (hf 2 d_frac rfl) (hg 2 d_frac rfl)⟩
  | 2, e =>
    cases e
    exact ⟨.df f_frac_times, rfl, bn2 (hf 4 d_frac_times rfl) (hg 4 d_frac_times rfl)⟩
  | 3, e =>
    cases e
    exact ⟨.df f_parts_of, rfl, bn3 (hf 7 d_parts_of rfl) (hg 7 d_parts_of rfl)⟩
  | 4, e =>
    cases e
    exact ⟨.df f_is_whole, rfl, bn4 (hf 0 d_is_whole rfl) (hg 0 d_is_whole rfl)⟩
  | 5, e =>
    cases e
    exact ⟨.df f_part_at, rfl, bn5 (hf 9 d_part_at rfl) (hg 9 d_part_at rfl)⟩
  | 6, e =>
    cases e
    exact ⟨.df f_with_part, rfl, bn6 (hf 10 d_with_part rfl) (hg 10 d_with_part rfl)⟩
  | 7, e =>
    cases e
    exact ⟨.df f_with_parts, rfl, bn7 (hf 8 d_with_parts rfl) (hg 8 d_with_parts rfl)⟩
  | 8, e =>
    cases e
    exact ⟨.df f_frac_below, rfl, bn8 (hf 6 d_frac_below rfl) (hg 6 d_frac_below rfl)⟩
  | 9, e =>
    cases e
    exact ⟨.df f_comes_ahead, rfl, bn9 (hf 11 d_comes_ahead rfl) (hg 11 d_comes_ahead rfl)⟩
  | 10, e =>
    cases e
    exact ⟨.df f_frac_plus, rfl, bn10 (hf 3 d_frac_plus rfl) (hg 3 d_frac_plus rfl)⟩
  | 11, e =>
    cases e
    exact ⟨.df f_alone, rfl, bn11 (hf 13 d_alone rfl) (hg 13 d_alone rfl)⟩
  | 12, e =>
    cases e
    exact ⟨.df f_frac_power, rfl, bn12 (hf 5 d_frac_power rfl) (hg 5 d_frac_power rfl)⟩
  | 13, e =>
    cases e
    exact ⟨.df f_base_of, rfl, bn13 (hf 18 d_base_of rfl) (hg 18 d_base_of rfl)⟩
  | 14, e =>
    cases e
    exact ⟨.df f_first_pair, rfl, bn14 (hf 20 d_first_pair rfl) (hg 20 d_first_pair rfl)⟩
  | 15, e =>
    cases e
    exact ⟨.df f_merged, rfl, bn15 (hf 21 d_merged rfl) (hg 21 d_merged rfl)⟩
  | 16, e =>
    cases e
    exact ⟨.df f_kind_of, rfl, bn16 (hf 19 d_kind_of rfl) (hg 19 d_kind_of rfl)⟩
  | 17, e =>
    cases e
    exact ⟨.df f_powered, rfl, bn17 (hf 17 d_powered rfl) (hg 17 d_powered rfl)⟩
  | 18, e =>
    cases e
    exact ⟨.df f_flat, rfl, bn18 (hf 14 d_flat rfl) (hg 14 d_flat rfl)⟩
  | 19, e =>
    cases e
    exact ⟨.df f_fold, rfl, bn19 (hf 15 d_fold rfl) (hg 15 d_fold rfl)⟩
  | 20, e =>
    cases e
    exact ⟨.df f_none, rfl, bn20 (hf 16 d_none rfl) (hg 16 d_none rfl)⟩
  | 21, e =>
    cases e
    exact ⟨.df f_in_order, rfl, bn21 (hf 12 d_in_order rfl) (hg 12 d_in_order rfl)⟩
  | 22, e =>
    cases e
    exact ⟨.df f_gather, rfl, bn22 (hf 22 d_gather rfl) (hg 22 d_gather rfl)⟩
  | 23, e =>
    cases e
    exact ⟨.df f_spread, rfl, bn23 (hf 24 d_spread rfl) (hg 24 d_spread rfl)⟩
  | 24, e =>
    cases e
    exact ⟨.df f_like, rfl, bn24 (hf 23 d_like rfl) (hg 23 d_like rfl)⟩
  | 25, e =>
    cases e
    exact ⟨.df f_by_rule, rfl, bn25 (hf 25 d_by_rule rfl) (hg 25 d_by_rule rfl)⟩
  | 26, e =>
    cases e
    exact ⟨.df f_first_place, rfl, bn26 (hf 27 d_first_place rfl) (hg 27 d_first_place rfl)⟩
  | 27, e =>
    cases e
    exact ⟨.df f_results, rfl, bn27 (hf 26 d_results rfl) (hg 26 d_results rfl)⟩
  | 28, e =>
    cases e
    exact ⟨.df f_next_step, rfl, bn28 (hf 28 d_next_step rfl) (hg 28 d_next_step rfl)⟩
  | 29, e =>
    cases e
    exact ⟨.df f_steps, rfl, bn29 (hf 29 d_steps rfl) (hg 29 d_steps rfl)⟩
  | 30, e =>
    cases e
    exact ⟨.df f__law_frac, rfl, bn30 (hf 32 d__law_frac rfl) (hg 32 d__law_frac rfl)⟩
  | 31, e =>
    cases e
    exact ⟨.df f__law_draw, rfl, bn31 (hf 31 d__law_draw rfl) (hg 31 d__law_draw rfl)⟩
  | 32, e =>
    cases e
    exact ⟨.df f__law_a_frac, rfl, bn32 (hf 33 d__law_a_frac rfl) (hg 33 d__law_a_frac rfl)⟩
  | 33, e =>
    cases e
    exact ⟨.df f__law_a_formula, rfl, bn33 (hf 34 d__law_a_formula rfl) (hg 34 d__law_a_formula rfl)⟩
  | 34, e =>
    cases e
    exact ⟨.df f__law_renamed, rfl, bn34 (hf 35 d__law_renamed rfl) (hg 35 d__law_renamed rfl)⟩
  | 35, e =>
    cases e
    exact ⟨.df f_steps, rfl, bn35 (hf 29 d_steps rfl) (hg 29 d_steps rfl)⟩
  | 36, e =>
    cases e
    exact ⟨.df f_simple, rfl, bn36 (hf 30 d_simple rfl) (hg 30 d_simple rfl)⟩
  | n + 37, e => simp [shs] at e
abbrev R : PySem.W.OpenRow := PySem.W.OpenLaw.row PySem.Challenge.rw_formclear_k28_whole_one_step_more
abbrev hk : PySem.W.Hook := He.hookX 6 fa fn [] (tfOf hd) (exB hd exs cst)
def ob (s : PySem.W.SharedT) : He.AlX := He.obsX 6 fa fn [] (tfOf hd) (exB hd exs cst) (HandSHeadRun.getT s)
def loose : List Str := (["FormError", "NoRoot", "NoForm", "ByNought", "NoQuotient", "NoName", "NoPath", "Spent", "BadWord", "NoText", "NOUGHT", "ONE", "is_whole", "greatest", "frac", "frac_plus", "frac_times", "frac_power", "frac_below", "MANY"] : List Str) ++ (["parts_of", "with_parts", "part_at", "with_part", "RANKS", "RULES", "comes_ahead", "in_order", "alone", "flat", "fold", "none", "powered", "base_of", "kind_of", "first_pair", "merged", "gather", "like", "spread"] : List Str) ++ (["by_rule", "results", "first_place", "next_step", "steps", "simple", "_law_heard", "_law_draw", "_law_begun", "_law_frac", "_law_a_frac", "_law_a_formula", "_law_renamed"] : List Str)
theorem ob_eq (s : PySem.W.SharedT) : ob s = hk.obs s.abs := He.obsX_eq (HandSHeadRun.getT_eq s)
theorem run (w : World) : HandSHeadRun.RunEq R (PySem.W.view R.prog [58]) hk ob 4000 loose w := by
  intro os
  kernel_rfl
theorem fin (k : Nat) (hk1 : 1 ≤ k) (hk2 : k + 1 ≤ 230) (hev : ∀ ns : List Int, ns.length ≤ 63 → (∀ z ∈ ns, Builtin.Int.intBits z ≤ 1048576) → ∃ r t, evSs (gam p ns k) (csOf cst) b_law (startL n_law ns) ⟨0, []⟩ = .ok (.ret (.bl true), r) t) : PySem.Challenge.rw_formclear_k28_whole_one_step_more.Holds := by
  open PySem PySem.W PySem.Calls in
  w_on; o_law
  refine HandSHeadRun.head_any (r := R) (q := view R.prog [58]) (H := hk) (ob := ob) (M := 4000) (loose := loose) (d := HandSHeadRun.topDef R.prog 58) (kwd := []) ob_eq
    (by kernel_rfl) (fun s => by kernel_rfl) run (by kernel_rfl) (by kernel_rfl) (by kernel_rfl) (by rfl) (by first | assumption | decide +kernel) (by decide +kernel) ⟨rfl, rfl, rfl, rfl, rfl, by decide +kernel⟩ ?hw ?hc
  case hw => w_witness2
  case hc =>
    refine LamX.walk_ofTsE (l := PySem.Challenge.rw_formclear_k28_whole_one_step_more) (n := 63) (k := k + 1) (x := "script") (CX := fun w => CX (PySem.Challenge.rw_formclear_k28_whole_one_step_more).prog w) rfl (by decide) (by kernel_rfl) ((show Room 230 callerA from ⟨rfl, by decide, by decide⟩).mono hk2) ?F (fun w H s e s' z => cx_no z)
    intro w mg f h Y G hmg0
    obtain ⟨K, KX, c⟩ := Y
    have hmg : mg ("law" : PySem.Str) = some (.ref f) := by
      have e : (HandSHeadRun.topDef R.prog 58).name = ("law" : PySem.Str) := by kernel_rfl
      rw [← e]
      exact hmg0
    exact ⟨K, KX, lawAt KX G c chk so (iL := 37) (iB := 36) (dL := d_law) (dB := d__law_begun) rfl rfl hear (d0 := fn.headD d_law) rfl chkL hmg (fun _ _ _ _ _ _ us hl => match us, hl with | [_], _ => rfl) (fun _ _ _ _ _ _ us hl => match us, hl with | [], _ => rfl) hk1 hev⟩
end Lw

/-! ### whole numbers, fractions, draws: what the defs tell -/
namespace Lw
open PySem Fm
section
variable {ns : List Int} {t : Tw} {k : Nat}
theorem up1 (h : 1 ≤ k) : ∃ j, k = j + 1 := ⟨k - 1, by omega⟩
def isW : D → Bool
  | .int _ => true
  | _ => false
/-- data with no town, no script at the top -/
def pla : D → Bool
  | .tok => false
  | .scr _ => false
  | .dct _ => false
  | .dcn _ => false
  | .exc _ => false
  | _ => true
theorem e_is_whole (hk : 1 ≤ k) (x : D) (h : pla x = true) : callF p ns k i_is_whole [x, .non] t = .ok (.bl (isW x)) t := by
  obtain ⟨k, rfl⟩ := up1 hk
  rw [u_is_whole]
  cases x <;> first | (cases h; done) | simp [b_is_whole, isW]
def isWL (l : Int) : D → Bool
  | .int i => decide (l ≤ i)
  | _ => false
theorem e_is_wholeL (hk : 1 ≤ k) (x : D) (l : Int) (h : pla x = true) : callF p ns k i_is_whole [x, .int l] t = .ok (.bl (isWL l x)) t := by
  obtain ⟨k, rfl⟩ := up1 hk
  rw [u_is_whole]
  cases x <;> first | (cases h; done) | simp [b_is_whole, isWL]
theorem gcd_mod (a b : Int) : Int.gcd b (a % b) = Int.gcd a b := by
  have h := Int.gcd_add_mul_left_right b (a % b) (a / b)
  rw [Int.emod_add_mul_ediv] at h
  rw [← h, Int.gcd_comm]
/-- one, other = other, one % other, while there is an other -/
theorem gr_loop {c : Rho → Tw → Res D} {f : Rho → Tw → Res (Fl × Rho)} (mk : Int → Int → Rho) (hc : ∀ a b : Int, c (mk a b) t = .ok (.bl (decide (0 < b))) t)
    (hf : ∀ a b : Int, 0 < b → f (mk a b) t = .ok (.nx, mk b (a.fmod b)) t) :
    ∀ (n : Nat) (a b : Int), 0 ≤ a → 0 ≤ b → b.toNat ≤ n → loopW c f (mk a b) t = .ok (.nx, mk (Int.gcd a b) 0) t := by
  intro n
  induction n with
  | zero =>
    intro a b ha hb hn
    obtain rfl : b = 0 := by omega
    rw [loopW_eq, hc]
    have : (a.natAbs : Int) = a := by omega
    simp [this]
  | succ n ih =>
    intro a b ha hb hn
    rw [loopW_eq, hc]
    by_cases h : 0 < b
    · simp [h, hf a b h]
      have h1 := fmod_rng (i := a) h
      rw [ih b (a.fmod b) hb h1.1 (by omega)]
      have : Int.gcd b (a.fmod b) = Int.gcd a b := by
        rw [Int.fmod_eq_emod_of_nonneg a hb]
        exact gcd_mod a b
      rw [this]
    · obtain rfl : b = 0 := by omega
      have : (a.natAbs : Int) = a := by omega
      simp [this]
theorem abs_ite (a : Int) : (if a < 0 then -a else a) = (a.natAbs : Int) := by
  split <;> omega
theorem e_greatest (hk : 1 ≤ k) (a b : Int) : callF p ns k i_greatest [.int a, .int b] t = .ok (.int (Int.gcd a b)) t := by
  obtain ⟨k, rfl⟩ := up1 hk
  rw [u_greatest]
  simp [b_greatest, abs_ite]
  have hl := gr_loop (t := t) (c := ev (gam p ns k) (csOf cst) (.cmp .Gt (.var 1) (.cst (.int 0)))) (f := evSs (gam p ns k) (csOf cst) b_greatest_1) (fun a b => [.val (.int a), .val (.int b)]) (fun a b => by simp) (fun a b h => by
    have : b ≠ 0 := by omega
    simp [b_greatest_1, this]) b.natAbs a.natAbs b.natAbs (by omega) (by omega) (by omega)
  rw [hl]
  simp [Int.gcd]
mutual
/-- good data -/
def gd : D → Bool
  | .non => true
  | .bl _ => true
  | .int _ => true
  | .str x => PyData.strOk x && decide (x.length ≤ 1000)
  | .tup xs => decide (xs.length ≤ 1000) && gds xs
  | .lst xs => decide (xs.length ≤ 1000) && gds xs
  | _ => false
def gds : List D → Bool
  | [] => true
  | x :: xs => gd x && gds xs
end
theorem gd_pla {x : D} (h : gd x = true) : pla x = true := by
  cases x <;> first | rfl | (simp [gd] at h)
mutual
theorem gd_lay : ∀ {x : D}, gd x = true → lay x = true
  | .non, _ => by simp [lay, D.py, PyData.canLay0]
  | .bl _, _ => by simp [lay, D.py, PyData.canLay0]
  | .int _, _ => by simp [lay, D.py, PyData.canLay0]
  | .str x, h => by
    simp [gd] at h
    simp [lay, D.py, PyData.canLay0, h.1]
  | .tup xs, h => by
    simp only [gd, Bool.and_eq_true] at h
    have := gds_lay h.2
    simp [lay, D.py, PyData.canLay0, this]
  | .lst xs, h => by
    simp only [gd, Bool.and_eq_true] at h
    have := gds_lay h.2
    simp [lay, D.py, PyData.canLay0, this]
  | .dct _, h => by simp [gd] at h
  | .tok, h => by simp [gd] at h
  | .scr _, h => by simp [gd] at h
  | .exc _, h => by simp [gd] at h
  | .dcn _, h => by simp [gd] at h
theorem gds_lay : ∀ {xs : List D}, gds xs = true → PyData.canLayAll0 (pys xs) = true
  | [], _ => by simp [pys, PyData.canLayAll0]
  | x :: xs, h => by
    simp only [gds, Bool.and_eq_true] at h
    have h1 := gd_lay h.1
    have h2 := gds_lay h.2
    unfold lay at h1
    simp [pys, PyData.canLayAll0, h1, h2]
end
theorem gds_mem : ∀ {xs : List D}, gds xs = true → ∀ x ∈ xs, gd x = true
  | [], _, _, m => (List.not_mem_nil m).elim
  | x :: xs, h, y, m => by
    simp only [gds, Bool.and_eq_true] at h
    rcases List.mem_cons.mp m with rfl | m
    · exact h.1
    · exact gds_mem h.2 y m
theorem gds_of : ∀ {ps : List D}, (∀ x ∈ ps, gd x = true) → gds ps = true
  | [], _ => rfl
  | x :: ps, h => by
    simp only [gds, Bool.and_eq_true]
    exact ⟨h x List.mem_cons_self, gds_of fun y hy => h y (List.mem_cons_of_mem _ hy)⟩
theorem dep_mem : ∀ {xs : List D} {x : D}, x ∈ xs → dep x ≤ PyData.depthAll (pys xs)
  | [], _, m => (List.not_mem_nil m).elim
  | y :: ys, x, m => by
    simp only [pys, PyData.depthAll]
    rcases List.mem_cons.mp m with rfl | m
    · exact Nat.le_max_left ..
    · exact Nat.le_trans (dep_mem m) (Nat.le_max_right ..)
theorem dep_all : ∀ {ps : List D} {n : Nat}, (∀ x ∈ ps, dep x ≤ n) → PyData.depthAll (pys ps) ≤ n
  | [], n, _ => by simp [pys, PyData.depthAll]
  | x :: ps, n, h => by
    simp only [pys, PyData.depthAll]
    exact Nat.max_le.mpr ⟨h x List.mem_cons_self, dep_all fun y hy => h y (List.mem_cons_of_mem _ hy)⟩
theorem dep_tup {xs : List D} : dep (.tup xs) = PyData.depthAll (pys xs) + 1 := by
  simp [dep, D.py, PyData.depth]
theorem dep_lst {xs : List D} : dep (.lst xs) = PyData.depthAll (pys xs) + 1 := by
  simp [dep, D.py, PyData.depth]
theorem dep_int (i : Int) : dep (.int i) = 0 := by simp [dep, D.py, PyData.depth]
def isFr : D → Bool
  | .tup [.int a, .int b] => decide (1 ≤ b) && (Int.gcd a b == 1)
  | _ => false
@[simp] theorem at0 {α : Type} (x : α) (xs : List α) : L2.atI (x :: xs) 0 = some x := by
  simp [L2.atI, L2.ixN]
@[simp] theorem at1 {α : Type} (x y : α) (xs : List α) : L2.atI (x :: y :: xs) 1 = some y := by
  unfold L2.atI L2.ixN
  rw [if_pos (by omega), if_pos (by simp only [List.length_cons]; omega)]
  rfl
variable {sc : List Int} {n : Nat}
theorem e_draw (hk : 1 ≤ k) (m : Int) (hm : 0 < m) (hm2 : m < 1048576) (h : rm (n + 1) t) : ∃ v t', callF p ns k i__law_draw [.scr sc, .tok, .int m] t = .ok (.int v) t' ∧ 0 ≤ v ∧ v < m ∧ rm n t' := by
  obtain ⟨k, rfl⟩ := up1 hk
  obtain ⟨v, t', e, q⟩ := draw_ev (G := gam p ns k) (cs := csOf cst) (ns := sc) hm hm2 h
  refine ⟨v, t', ?_, q⟩
  rw [u__law_draw]
  exact e
/-- a fraction's two numbers -/
abbrev fr (a b : Int) : D := .tup [.int a, .int b]
theorem e_frac (hk : 1 ≤ k) (a b : Int) (hb : 1 ≤ b) (hb2 : b < 2 ^ 8999) : callF p ns k i__law_frac [.int a, .int b] t = .ok (fr (a / Int.gcd a b) (b / Int.gcd a b)) t := by
  obtain ⟨k, rfl⟩ := up1 hk
  have hg : 0 < Int.gcd a b := Int.gcd_pos_of_ne_zero_right a (by omega)
  have hgb : (Int.gcd a b : Int) ≤ b := Int.le_of_dvd (by omega) (Int.gcd_dvd_right _ _)
  rw [u__law_frac]
  have hl := gr_loop (t := t) (c := ev (gam p ns k) (csOf cst) (.cmp .Gt (.var 3) (.cst (.int 0)))) (f := evSs (gam p ns k) (csOf cst) b__law_frac_1) (fun x y => [.val (.int a), .val (.int b), .val (.int x), .val (.int y)]) (fun a b => by simp) (fun a b h => by
    have : b ≠ 0 := by omega
    simp [b__law_frac_1, this]) b.natAbs a.natAbs b.natAbs (by omega) (by omega) (by omega)
  have hgg : Int.gcd (a.natAbs : Int) (b.natAbs : Int) = Int.gcd a b := by simp [Int.gcd]
  rw [hgg] at hl
  have hd : okDiv (Int.gcd a b : Int) = true := okDiv_of (k := 8999) (by omega) (by
    have : ((Int.gcd a b : Int).natAbs : Int) < ((2 ^ 8999 : Nat) : Int) := by
      rw [Int.natAbs_natCast]
      exact Int.lt_of_le_of_lt hgb (by simpa using hb2)
    exact_mod_cast this) (by omega) (by omega)
  have h0 : 0 < b := by omega
  simp only [b__law_frac, x_startR, x_evSs_cons, x_consE]
  simp [abs_ite, hl, h0, hd, Int.fdiv_eq_ediv_of_nonneg]
/-- a small fraction -/
structure SmF (s x y : Int) : Prop where
  g : Int.gcd x y = 1
  lo : 1 ≤ y
  hi : y ≤ 3
  num : -s ≤ x ∧ x ≤ s
theorem SmF.isFr {s x y : Int} (h : SmF s x y) : isFr (fr x y) = true := by
  simp [Lw.isFr, h.g, h.lo]
theorem smF_of {s a b : Int} (ha : -s ≤ a ∧ a ≤ s) (hb : 1 ≤ b ∧ b ≤ 3) : SmF s (a / Int.gcd a b) (b / Int.gcd a b) := by
  have hg : 0 < Int.gcd a b := Int.gcd_pos_of_ne_zero_right a (by omega)
  have hg' : (0 : Int) < Int.gcd a b := by omega
  have hgb : (Int.gcd a b : Int) ≤ b := Int.le_of_dvd (by omega) (Int.gcd_dvd_right _ _)
  obtain ⟨q, hq⟩ := Int.gcd_dvd_left a b
  have e : a / Int.gcd a b = q := by
    have : a = q * (Int.gcd a b : Int) := by rw [Int.mul_comm]; exact hq
    calc a / (Int.gcd a b : Int) = (q * (Int.gcd a b : Int)) / (Int.gcd a b : Int) := by rw [← this]
      _ = q := Int.mul_ediv_cancel _ (by omega)
  refine ⟨Int.gcd_ediv_gcd_ediv_gcd hg, Int.le_ediv_of_mul_le (by omega) (by omega), ?_, ?_⟩
  · have := Int.ediv_le_self (a := b) (Int.gcd a b : Int) (by omega)
    omega
  · rw [e]
    have hq : a = (Int.gcd a b : Int) * q := hq
    generalize (Int.gcd a b : Int) = g at *
    constructor
    · by_cases h : q < 0
      · have : g * q ≤ 1 * q := Int.mul_le_mul_of_nonpos_right (by omega) (by omega)
        omega
      · omega
    · by_cases h : 0 < q
      · have : 1 * q ≤ g * q := Int.mul_le_mul_of_nonneg_right (by omega) (by omega)
        omega
      · omega
theorem e_a_frac (hk : 2 ≤ k) (s : Int) (hs : 0 ≤ s ∧ s ≤ 1000) (h : rm (n + 2) t) : ∃ x y t', callF p ns k i__law_a_frac [.scr sc, .tok, .int s] t = .ok (fr x y) t' ∧ SmF s x y ∧ rm n t' := by
  obtain ⟨k, rfl⟩ := up1 (show 1 ≤ k by omega)
  have hk : 1 ≤ k := by omega
  obtain ⟨v, t1, e1, a1, b1, h1⟩ := e_draw (ns := ns) (sc := sc) hk (2 * s + 1) (by omega) (by omega) (show rm (n + 1 + 1) t from h)
  obtain ⟨u, t2, e2, a2, b2, h2⟩ := e_draw (ns := ns) (sc := sc) hk 3 (by omega) (by omega) h1
  have e3 := e_frac (ns := ns) (t := t2) hk (v - s) (1 + u) (by omega) (by
    have : (1 + u : Int) < 2 ^ 3 := by omega
    exact Int.lt_of_lt_of_le this (by exact_mod_cast Nat.pow_le_pow_right (n := 2) (by omega) (show 3 ≤ 8999 by omega)))
  refine ⟨_, _, t2, ?_, smF_of (s := s) (a := v - s) (b := 1 + u) (by omega) (by omega), h2⟩
  have om : okMul 2 s = true := okMul_of (k := 2) (l := 10) (by decide) (by omega) (by omega) (by omega) (by omega)
  rw [u__law_a_frac]
  simp [b__law_a_frac, om, e1, e2, e3]
end
end Lw

/-! ### fractions as rational numbers -/
namespace Lw
open PySem Fm
section
variable {ns : List Int} {t : Tw} {k : Nat}
/-- a fraction as data -/
def qd (q : Rat) : D := .tup [.int q.num, .int (q.den : Int)]
theorem qd_inj {p q : Rat} : qd p = qd q ↔ p = q := by
  constructor
  · intro h
    simp only [qd, D.tup.injEq, List.cons.injEq, D.int.injEq, and_true] at h
    exact Rat.ext h.1 (by omega)
  · rintro rfl; rfl
theorem gd_qd (q : Rat) : gd (qd q) = true := by simp [qd, gd, gds]
theorem qd_isFr (q : Rat) : isFr (qd q) = true := by
  simp only [qd, isFr, Bool.and_eq_true, decide_eq_true_eq, beq_iff_eq]
  refine ⟨by have := q.den_pos; omega, ?_⟩
  rw [Int.gcd, Int.natAbs_natCast]
  exact q.reduced
/-- numbers of at most so many bits -/
def qs (n : Nat) (q : Rat) : Prop := q.num.natAbs < 2 ^ n ∧ q.den < 2 ^ n
theorem qs.le {n m : Nat} {q : Rat} (h : qs n q) (l : n ≤ m) : qs m q := ⟨Nat.lt_of_lt_of_le h.1 (Nat.pow_le_pow_right (by omega) l), Nat.lt_of_lt_of_le h.2 (Nat.pow_le_pow_right (by omega) l)⟩
theorem natAbs_lt_mul {a b : Int} {n m : Nat} (h1 : a.natAbs < 2 ^ n) (h2 : b.natAbs < 2 ^ m) : (a * b).natAbs < 2 ^ (n + m) := by
  rw [Int.natAbs_mul, Nat.pow_add]
  exact Nat.mul_lt_mul'' h1 h2
/-- what divInt tells, by the gcd -/
theorem qd_divInt {a b : Int} (hb : b ≠ 0) : qd (Rat.divInt a b) = .tup [.int (b.sign * a / (Int.gcd a b)), .int (b.sign * b / (Int.gcd a b))] := by
  have h1 := Rat.num_divInt a b
  have h2 := Rat.den_divInt a b
  rw [if_neg hb] at h2
  unfold qd
  rw [h1, h2, Int.gcd_comm]
  congr 3
  rw [show b.sign * b = (b.natAbs : Int) by rcases Int.lt_trichotomy b 0 with h | h | h <;> simp [Int.sign_eq_neg_one_of_neg, Int.sign_eq_one_of_pos, h] <;> omega]
  simp
theorem divInt_pos {a b : Int} (hb : 0 < b) : qd (Rat.divInt a b) = .tup [.int (a / (Int.gcd a b)), .int (b / (Int.gcd a b))] := by
  rw [qd_divInt (by omega), Int.sign_eq_one_of_pos hb]
  simp
theorem fdiv_gcd {a : Int} {g : Nat} (h : (g : Int) ∣ a) : a.fdiv g = a / (g : Int) := Int.fdiv_eq_ediv_of_nonneg _ (by omega)
theorem fdiv_neg_gcd {a : Int} {g : Nat} (h : (g : Int) ∣ a) : a.fdiv (-(g : Int)) = -a / (g : Int) := by
  obtain ⟨c, rfl⟩ := h
  by_cases z : (g : Int) = 0
  · rw [z]; simp
  · have h1 : (g : Int) * c = (-c) * (-(g : Int)) := by grind
    have h2 : -((g : Int) * c) = (-c) * g := by grind
    rw [h2, Int.mul_ediv_cancel _ z, h1, Int.mul_fdiv_cancel _ (by omega)]
theorem gcd_okDiv {a b : Int} (hb : b ≠ 0) (h : b.natAbs < 2 ^ 8999) : okDiv (Int.gcd a b : Int) = true ∧ okDiv (-(Int.gcd a b : Int)) = true := by
  have hg : 0 < Int.gcd a b := Int.gcd_pos_of_ne_zero_right a hb
  have hl : Int.gcd a b ≤ b.natAbs := Nat.le_of_dvd (by omega) (by rw [Int.gcd]; exact Nat.gcd_dvd_right _ _)
  refine ⟨okDiv_of (k := 8999) (by omega) ?_ (by omega) (by omega), okDiv_of (k := 8999) (by omega) ?_ (by omega) (by omega)⟩
  · simp only [Int.natAbs_natCast]; omega
  · simp only [Int.natAbs_neg, Int.natAbs_natCast]; omega
theorem e__law_frac (hk : 1 ≤ k) {a b : Int} (hb : b ≠ 0) (h : b.natAbs < 2 ^ 8999) : callF p ns k i__law_frac [.int a, .int b] t = .ok (qd (Rat.divInt a b)) t := by
  obtain ⟨k, rfl⟩ := up1 hk
  obtain ⟨d1, d2⟩ := gcd_okDiv (a := a) hb h
  rw [u__law_frac, qd_divInt hb]
  have hl := gr_loop (t := t) (c := ev (gam p ns k) (csOf cst) (.cmp .Gt (.var 3) (.cst (.int 0)))) (f := evSs (gam p ns k) (csOf cst) b__law_frac_1) (fun x y => [.val (.int a), .val (.int b), .val (.int x), .val (.int y)]) (fun a b => by simp) (fun a b h => by
    have : b ≠ 0 := by omega
    simp [b__law_frac_1, this]) b.natAbs a.natAbs b.natAbs (by omega) (by omega) (by omega)
  have hgg : Int.gcd (a.natAbs : Int) (b.natAbs : Int) = Int.gcd a b := by simp [Int.gcd]
  rw [hgg] at hl
  simp only [b__law_frac, x_startR, x_evSs_cons, x_consE]
  by_cases h0 : 0 < b
  · simp [abs_ite, hl, h0, d1, fdiv_gcd (Int.gcd_dvd_left a b), fdiv_gcd (Int.gcd_dvd_right a b), Int.sign_eq_one_of_pos h0]
  · have : b.sign = -1 := Int.sign_eq_neg_one_of_neg (by omega)
    simp [abs_ite, hl, h0, d2, fdiv_neg_gcd (Int.gcd_dvd_left a b), fdiv_neg_gcd (Int.gcd_dvd_right a b), this]
theorem e_frac' (hk : 2 ≤ k) {a b : Int} (hb : b ≠ 0) (h : b.natAbs < 2 ^ 8999) : callF p ns k i_frac [.int a, .int b] t = .ok (qd (Rat.divInt a b)) t := by
  obtain ⟨k, rfl⟩ := up1 (show 1 ≤ k by omega)
  obtain ⟨d1, d2⟩ := gcd_okDiv (a := a) hb h
  have e := e_greatest (ns := ns) (t := t) (show 1 ≤ k by omega) a b
  rw [u_frac, qd_divInt hb]
  by_cases h0 : 0 < b
  · simp [b_frac, e, h0, d1, fdiv_gcd (Int.gcd_dvd_left a b), fdiv_gcd (Int.gcd_dvd_right a b), Int.sign_eq_one_of_pos h0]
  · have : b.sign = -1 := Int.sign_eq_neg_one_of_neg (by omega)
    simp [b_frac, e, h0, d2, fdiv_neg_gcd (Int.gcd_dvd_left a b), fdiv_neg_gcd (Int.gcd_dvd_right a b), this]
/-- sizes: bits of numbers that are multiplied -/
theorem qs.okm {n m : Nat} {a b : Int} (h1 : a.natAbs < 2 ^ n) (h2 : b.natAbs < 2 ^ m) (h : n + m ≤ 999998) : okMul a b = true :=
  okMul_of (k := n + 1) (l := m + 1) (Nat.lt_trans h1 (Nat.pow_lt_pow_right (by omega) (by omega))) (Nat.lt_trans h2 (Nat.pow_lt_pow_right (by omega) (by omega))) (by omega) (by omega) (by omega)
theorem qs.dn {n : Nat} {q : Rat} (h : qs n q) : ((q.den : Int)).natAbs < 2 ^ n := by simpa using h.2
theorem add_divInt (p q : Rat) : p + q = Rat.divInt (p.num * q.den + q.num * p.den) (p.den * q.den) := by
  have : (p.den * q.den : Int) = ((p.den * q.den : Nat) : Int) := by simp
  rw [this, Rat.divInt_ofNat]
  exact Rat.add_def' p q
theorem mul_divInt (p q : Rat) : p * q = Rat.divInt (p.num * q.num) (p.den * q.den) := by
  have : (p.den * q.den : Int) = ((p.den * q.den : Nat) : Int) := by simp
  rw [this, Rat.divInt_ofNat]
  exact Rat.mul_def' p q
theorem dd_ne (p q : Rat) : (p.den : Int) * (q.den : Int) ≠ 0 := by
  have h1 := p.den_pos
  have h2 := q.den_pos
  have := Int.mul_pos (show (0 : Int) < p.den by omega) (show (0 : Int) < q.den by omega)
  omega
theorem dd_lt {p q : Rat} {n m : Nat} (h1 : qs n p) (h2 : qs m q) (h : n + m ≤ 8999) : ((p.den : Int) * (q.den : Int)).natAbs < 2 ^ 8999 :=
  Nat.lt_of_lt_of_le (natAbs_lt_mul h1.dn h2.dn) (Nat.pow_le_pow_right (by omega) h)
theorem e_frac_plus (hk : 3 ≤ k) {p q : Rat} {n m : Nat} (h1 : qs n p) (h2 : qs m q) (h : n + m ≤ 8999) : callF Lw.p ns k i_frac_plus [qd p, qd q] t = .ok (qd (p + q)) t := by
  obtain ⟨k, rfl⟩ := up1 (show 1 ≤ k by omega)
  have e := e_frac' (ns := ns) (t := t) (show 2 ≤ k by omega) (a := p.num * q.den + q.num * p.den) (dd_ne p q) (dd_lt h1 h2 h)
  have o1 := qs.okm h1.1 h2.dn (by omega)
  have o2 := qs.okm h2.1 h1.dn (by omega)
  have o3 := qs.okm h1.dn h2.dn (by omega)
  rw [u_frac_plus, add_divInt]
  simp [b_frac_plus, qd, o1, o2, o3, e]
theorem e_frac_times (hk : 3 ≤ k) {p q : Rat} {n m : Nat} (h1 : qs n p) (h2 : qs m q) (h : n + m ≤ 8999) : callF Lw.p ns k i_frac_times [qd p, qd q] t = .ok (qd (p * q)) t := by
  obtain ⟨k, rfl⟩ := up1 (show 1 ≤ k by omega)
  have e := e_frac' (ns := ns) (t := t) (show 2 ≤ k by omega) (a := p.num * q.num) (dd_ne p q) (dd_lt h1 h2 h)
  have o1 := qs.okm h1.1 h2.1 (by omega)
  have o3 := qs.okm h1.dn h2.dn (by omega)
  rw [u_frac_times, mul_divInt]
  simp [b_frac_times, qd, o1, o3, e]
theorem e_frac_below (hk : 1 ≤ k) {p q : Rat} {n m : Nat} (h1 : qs n p) (h2 : qs m q) (h : n + m ≤ 8999) : callF Lw.p ns k i_frac_below [qd p, qd q] t = .ok (.bl (decide (p < q))) t := by
  obtain ⟨k, rfl⟩ := up1 (show 1 ≤ k by omega)
  have o1 := qs.okm h1.1 h2.dn (by omega)
  have o2 := qs.okm h2.1 h1.dn (by omega)
  rw [u_frac_below]
  simp [b_frac_below, qd, o1, o2, Rat.lt_iff]
theorem pow_loop (hk : 3 ≤ k) {q : Rat} {N : Nat} (hN : ∀ j, j ≤ N → qs 4000 (q ^ j)) (b : Sl) : ∀ (m i : Nat) (c : Sl), i + m ≤ N → qs 4000 q → ∃ c', loopF (fun d r t => match setT (.name 3) d r with
    | some r1 => evSs (gam p ns k) (csOf cst) b_frac_power_1 r1 t
    | none => .bad) (rngD i m) [.val (qd q), b, .val (qd (q ^ i)), c] t = .ok (.nx, [.val (qd q), b, .val (qd (q ^ (i + m))), c']) t
  | 0, i, c, _, _ => ⟨c, rfl⟩
  | m + 1, i, c, hm, hq => by
    have e := e_frac_times (ns := ns) (t := t) hk (hN i (by omega)) hq (by omega)
    obtain ⟨c', e2⟩ := pow_loop hk hN b m (i + 1) (.val (.int (i : Nat))) (by omega) hq
    refine ⟨c', ?_⟩
    have er : rngD (i : Nat) (m + 1) = .int (i : Nat) :: rngD ((i + 1 : Nat) : Int) m := by
      unfold rngD
      rw [List.range_succ_eq_map, List.map_cons, List.map_map]
      simp only [Int.natCast_zero, Int.add_zero, List.cons.injEq, true_and]
      refine List.map_congr_left fun j _ => ?_
      simp only [Function.comp, D.int.injEq]
      omega
    rw [er, loopF]
    have e3 : evSs (gam p ns k) (csOf cst) b_frac_power_1 [.val (qd q), b, .val (qd (q ^ i)), .val (.int (i : Nat))] t = .ok (.nx, [.val (qd q), b, .val (qd (q ^ (i + 1))), .val (.int (i : Nat))]) t := by
      rw [Rat.pow_succ]
      simp [b_frac_power_1, e]
    have es : setT (.name 3) (.int (i : Nat)) [.val (qd q), b, .val (qd (q ^ i)), c] = some [.val (qd q), b, .val (qd (q ^ i)), .val (.int (i : Nat))] := rfl
    simp only [es, e3, Res.bind_ok]
    rw [show i + (m + 1) = i + 1 + m by omega]
    exact e2
theorem e_frac_power (hk : 4 ≤ k) {q : Rat} {n : Nat} (hn : n < 2 ^ 60) (hq : qs 4000 q) (hN : ∀ j, j ≤ n → qs 4000 (q ^ j)) : callF Lw.p ns k i_frac_power [qd q, .int n] t = .ok (qd (q ^ n)) t := by
  obtain ⟨k, rfl⟩ := up1 (show 1 ≤ k by omega)
  rw [u_frac_power]
  obtain ⟨c', e⟩ := pow_loop (ns := ns) (t := t) (k := k) (by omega) hN (.val (.int n)) n 0 .un (by omega) hq
  have hr : okRng (n : Int) = true := by
    simp only [okRng, Bool.and_eq_true, decide_eq_true_eq]
    omega
  have e1 : evS (gam p ns k) (csOf cst) (.for (.name 3) (.rng1 (.var 1)) b_frac_power_1) [.val (qd q), .val (.int n), .val (qd 1), .un] t = .ok (.nx, [.val (qd q), .val (.int n), .val (qd (q ^ n)), c']) t := by
    rw [for_ev (xs := rngD 0 n) (t1 := t) (by simp [hr])]
    rw [Nat.zero_add, Rat.pow_zero] at e
    exact e
  show retD (evSs (gam p ns k) (csOf cst) (.cons (.asg (.name 2) _) (.cons (.for (.name 3) (.rng1 (.var 1)) b_frac_power_1) (.cons (.ret (.var 2)) .nil))) [.val (qd q), .val (.int n), .un, .un] t) = _
  rw [seq_nx (r1 := [.val (qd q), .val (.int n), .val (qd 1), .un]) (t1 := t) (by simp [qd]), seq_nx e1]
  simp
end
end Lw

/-! ### whole formulas: plain -/
namespace Lw
open PySem Fm
/-- a whole formula; m: a mul -/
inductive W where
  | num (q : Rat)
  | nam (x : Str)
  | many (m : Bool) (ps : List W)
  | pow (f : W) (e : Nat)
instance : Inhabited W := ⟨.num 0⟩
def wM (m : Bool) : Str := if m then "mul" else "add"
mutual
def W.d : W → D
  | .num q => .tup [.str "num", qd q]
  | .nam x => .tup [.str "name", .str x]
  | .many m ps => .tup [.str (wM m), .tup (Ws.d ps)]
  | .pow f e => .tup [.str "pow", f.d, .int (e : Nat)]
def Ws.d : List W → List D
  | [] => []
  | f :: fs => f.d :: Ws.d fs
end
@[simp] theorem Ws_d : ∀ ps : List W, Ws.d ps = ps.map W.d
  | [] => rfl
  | f :: fs => by rw [Ws.d, Ws_d fs, List.map_cons]
mutual
def W.beq : W → W → Bool
  | .num p, .num q => decide (p = q)
  | .nam x, .nam y => decide (x = y)
  | .many m ps, .many n qs => (m == n) && Ws.beq ps qs
  | .pow f a, .pow g b => W.beq f g && decide (a = b)
  | _, _ => false
def Ws.beq : List W → List W → Bool
  | [], [] => true
  | f :: fs, g :: gs => W.beq f g && Ws.beq fs gs
  | _, _ => false
end
mutual
theorem W.beq_eq : ∀ f g : W, f.beq g = true → f = g
  | .num p, .num q, h => by rw [of_decide_eq_true (h : decide (p = q) = true)]
  | .nam x, .nam y, h => by rw [of_decide_eq_true (h : decide (x = y) = true)]
  | .many m ps, .many n qs, h => by
    simp only [W.beq, Bool.and_eq_true, beq_iff_eq] at h
    rw [h.1, Ws.beq_eq ps qs h.2]
  | .pow f a, .pow g b, h => by
    simp only [W.beq, Bool.and_eq_true, decide_eq_true_eq] at h
    rw [W.beq_eq f g h.1, h.2]
  | .num _, .nam _, h | .num _, .many _ _, h | .num _, .pow _ _, h => by simp [W.beq] at h
  | .nam _, .num _, h | .nam _, .many _ _, h | .nam _, .pow _ _, h => by simp [W.beq] at h
  | .many _ _, .num _, h | .many _ _, .nam _, h | .many _ _, .pow _ _, h => by simp [W.beq] at h
  | .pow _ _, .num _, h | .pow _ _, .nam _, h | .pow _ _, .many _ _, h => by simp [W.beq] at h
theorem Ws.beq_eq : ∀ fs gs : List W, Ws.beq fs gs = true → fs = gs
  | [], [], _ => rfl
  | f :: fs, g :: gs, h => by
    simp only [Ws.beq, Bool.and_eq_true] at h
    rw [W.beq_eq f g h.1, Ws.beq_eq fs gs h.2]
  | [], _ :: _, h => by simp [Ws.beq] at h
  | _ :: _, [], h => by simp [Ws.beq] at h
end
mutual
theorem W.beq_self : ∀ f : W, f.beq f = true
  | .num p => by simp [W.beq]
  | .nam x => by simp [W.beq]
  | .many m ps => by simp [W.beq, Ws.beq_self ps]
  | .pow f a => by simp [W.beq, W.beq_self f]
theorem Ws.beq_self : ∀ fs : List W, Ws.beq fs fs = true
  | [] => rfl
  | f :: fs => by simp [Ws.beq, W.beq_self f, Ws.beq_self fs]
end
instance : DecidableEq W := fun f g => if h : f.beq g = true then .isTrue (W.beq_eq f g h) else .isFalse fun e => h (e ▸ W.beq_self f)
/-! ### an induction over formulas and lists of them -/
theorem W.ind {φ : W → Prop} (h1 : ∀ q, φ (.num q)) (h2 : ∀ x, φ (.nam x)) (h3 : ∀ m ps, (∀ f ∈ ps, φ f) → φ (.many m ps)) (h4 : ∀ f e, φ f → φ (.pow f e)) : ∀ f, φ f :=
  W.rec (motive_1 := φ) (motive_2 := fun ps => ∀ f ∈ ps, φ f) h1 h2 (fun m ps h => h3 m ps h) (fun f e h => h4 f e h) (fun _ m => (List.not_mem_nil m).elim) (fun f fs h hs g m => by
    rcases List.mem_cons.mp m with rfl | m
    · exact h
    · exact hs g m)
/-! ### good ones: texts, lengths, numbers -/
def okN (x : Str) : Prop := PyData.strOk x = true ∧ x.length ≤ 100
mutual
def W.ok : W → Prop
  | .num q => qs 4000 q
  | .nam x => okN x
  | .many _ ps => ps.length ≤ 1000000 ∧ Ws.ok ps
  | .pow f e => f.ok ∧ e < 2 ^ 60
def Ws.ok : List W → Prop
  | [] => True
  | f :: fs => f.ok ∧ Ws.ok fs
end
theorem Ws_ok : ∀ {ps : List W}, Ws.ok ps ↔ ∀ f ∈ ps, f.ok
  | [] => by simp [Ws.ok]
  | f :: fs => by simp [Ws.ok, Ws_ok (ps := fs)]
mutual
def W.h : W → Nat
  | .num _ => 0
  | .nam _ => 0
  | .many _ ps => Ws.h ps + 1
  | .pow f _ => f.h + 1
def Ws.h : List W → Nat
  | [] => 0
  | f :: fs => max f.h (Ws.h fs)
end
theorem Ws_h : ∀ {ps : List W} {f : W}, f ∈ ps → f.h ≤ Ws.h ps
  | [], _, m => (List.not_mem_nil m).elim
  | g :: gs, f, m => by
    simp only [Ws.h]
    rcases List.mem_cons.mp m with rfl | m
    · exact Nat.le_max_left ..
    · exact Nat.le_trans (Ws_h m) (Nat.le_max_right ..)
theorem Ws_h_le : ∀ {ps : List W} {n : Nat}, (∀ f ∈ ps, f.h ≤ n) → Ws.h ps ≤ n
  | [], n, _ => Nat.zero_le _
  | g :: gs, n, h => by
    simp only [Ws.h]
    exact Nat.max_le.mpr ⟨h g List.mem_cons_self, Ws_h_le fun f m => h f (List.mem_cons_of_mem _ m)⟩
theorem okM (m : Bool) : PyData.strOk (wM m) = true := by cases m <;> decide +kernel
theorem okWd : PyData.strOk "num" = true ∧ PyData.strOk "name" = true ∧ PyData.strOk "pow" = true := by decide +kernel
theorem lay_tup {xs : List D} : lay (.tup xs) = true ↔ ∀ x ∈ xs, lay x = true := by
  simp only [lay, D.py, PyData.canLay0]
  induction xs with
  | nil => simp [pys, PyData.canLayAll0]
  | cons x xs ih => simp [pys, PyData.canLayAll0, ih]
theorem lay_lst {xs : List D} : lay (.lst xs) = true ↔ ∀ x ∈ xs, lay x = true := by
  simp only [lay, D.py, PyData.canLay0]
  induction xs with
  | nil => simp [pys, PyData.canLayAll0]
  | cons x xs ih => simp [pys, PyData.canLayAll0, ih]
theorem lay_qd (q : Rat) : lay (qd q) = true := gd_lay (gd_qd q)
theorem layW : ∀ {f : W}, f.ok → lay f.d = true := by
  intro f
  refine W.ind (φ := fun f => f.ok → lay f.d = true) (fun q _ => ?_) (fun x h => ?_) (fun m ps ih h => ?_) (fun f e ih h => ?_) f
  · simp [W.d, lay_tup, okWd, lay_qd]
  · simp [W.d, lay_tup, okWd, h.1]
  · simp only [W.d, lay_tup, List.mem_cons, List.not_mem_nil, or_false, forall_eq_or_imp, forall_eq, x_lay_s, okM, Ws_d, true_and]
    intro x hx
    obtain ⟨f, hf, rfl⟩ := List.mem_map.mp hx
    exact ih f hf (Ws_ok.mp h.2 f hf)
  · simp [W.d, lay_tup, okWd, ih h.1]
theorem dep_tup_le {xs : List D} {n : Nat} (h : ∀ x ∈ xs, dep x ≤ n) : dep (.tup xs) ≤ n + 1 := by
  rw [dep_tup]
  have := dep_all h
  omega
theorem dep_lst_le {xs : List D} {n : Nat} (h : ∀ x ∈ xs, dep x ≤ n) : dep (.lst xs) ≤ n + 1 := by
  rw [dep_lst]
  have := dep_all h
  omega
theorem dep_qd (q : Rat) : dep (qd q) ≤ 1 := dep_tup_le fun x hx => by
  simp only [List.mem_cons, List.not_mem_nil, or_false] at hx
  rcases hx with rfl | rfl <;> rw [dep_int] <;> omega
theorem depW : ∀ f : W, dep f.d ≤ 2 * f.h + 2 := by
  refine W.ind (fun q => ?_) (fun x => ?_) (fun m ps ih => ?_) (fun f e ih => ?_)
  · refine dep_tup_le fun x hx => ?_
    simp only [List.mem_cons, List.not_mem_nil, or_false] at hx
    rcases hx with rfl | rfl
    · simp
    · exact Nat.le_trans (dep_qd q) (by simp [W.h])
  · refine dep_tup_le fun y hy => ?_
    simp only [List.mem_cons, List.not_mem_nil, or_false] at hy
    rcases hy with rfl | rfl <;> simp
  · refine Nat.le_trans (dep_tup_le (n := 2 * Ws.h ps + 3) fun x hx => ?_) (by simp only [W.h]; omega)
    simp only [List.mem_cons, List.not_mem_nil, or_false] at hx
    rcases hx with rfl | rfl
    · simp
    · refine dep_tup_le fun y hy => ?_
      rw [Ws_d] at hy
      obtain ⟨f, hf, rfl⟩ := List.mem_map.mp hy
      have := ih f hf
      have := Ws_h hf
      omega
  · refine Nat.le_trans (dep_tup_le (n := 2 * f.h + 2) fun x hx => ?_) (by simp only [W.h]; omega)
    simp only [List.mem_cons, List.not_mem_nil, or_false] at hx
    rcases hx with rfl | rfl | rfl
    · simp
    · exact ih
    · rw [dep_int]; omega
/-! ### == of formulas -/
def eqDs : List D → List D → Bool
  | [], [] => true
  | x :: xs, y :: ys => eqD x y && eqDs xs ys
  | _, _ => false
theorem eqvAll_eq : ∀ xs ys : List D, PyData.eqvAll (pys xs) (pys ys) = eqDs xs ys
  | [], [] => by simp [pys, PyData.eqvAll, eqDs]
  | x :: xs, y :: ys => by simp [pys, PyData.eqvAll, eqDs, eqvAll_eq xs ys, eqD]
  | [], _ :: _ => by simp [pys, PyData.eqvAll, eqDs]
  | _ :: _, [] => by simp [pys, PyData.eqvAll, eqDs]
theorem eqD_tup (xs ys : List D) : eqD (.tup xs) (.tup ys) = eqDs xs ys := by
  simp only [eqD, D.py, PyData.eqv]
  exact eqvAll_eq xs ys
theorem eqD_lst (xs ys : List D) : eqD (.lst xs) (.lst ys) = eqDs xs ys := by
  simp only [eqD, D.py, PyData.eqv]
  exact eqvAll_eq xs ys
@[simp] theorem eqD_int (i j : Int) : eqD (.int i) (.int j) = decide (i = j) := by
  simp only [eqD, D.py, PyData.eqv, Bool.beq_eq_decide_eq]
theorem eqD_qd (p q : Rat) : eqD (qd p) (qd q) = decide (p = q) := by
  have h := qd_inj (p := p) (q := q)
  simp only [qd, D.tup.injEq, List.cons.injEq, D.int.injEq, and_true] at h
  simp only [qd, eqD_tup, eqDs, eqD_int, Bool.and_true]
  rw [Bool.eq_iff_iff]
  simpa using h
theorem eqDs_map {α : Type} (d : α → D) : ∀ (xs ys : List α), (∀ x ∈ xs, ∀ y ∈ ys, (eqD (d x) (d y) = true ↔ x = y)) → (eqDs (xs.map d) (ys.map d) = true ↔ xs = ys)
  | [], [], _ => by simp [eqDs]
  | x :: xs, y :: ys, h => by
    have h1 := h x List.mem_cons_self y List.mem_cons_self
    have h2 := eqDs_map d xs ys fun a ha b hb => h a (List.mem_cons_of_mem _ ha) b (List.mem_cons_of_mem _ hb)
    simp [eqDs, h1, h2]
  | [], _ :: _, _ => by simp [eqDs]
  | _ :: _, [], _ => by simp [eqDs]
theorem wd_ne : (("num" : Str) == "name") = false ∧ (("name" : Str) == "num") = false ∧ (∀ m, (wM m == "num") = false ∧ ("num" == wM m) = false ∧ (wM m == "name") = false ∧ ("name" == wM m) = false) ∧ ∀ m n, (wM m == wM n) = (m == n) := by
  refine ⟨by decide +kernel, by decide +kernel, fun m => ?_, fun m n => ?_⟩
  · cases m <;> decide +kernel
  · cases m <;> cases n <;> decide +kernel
theorem eqW' : ∀ f g : W, eqD f.d g.d = true ↔ f = g := by
  obtain ⟨w1, w2, w3, w4⟩ := wd_ne
  refine W.ind (fun q g => ?_) (fun x g => ?_) (fun m ps ih g => ?_) (fun f e ih g => ?_)
  · cases g <;> simp [W.d, eqD_tup, eqDs, w1, w2, w3, eqD_qd]
  · cases g <;> simp [W.d, eqD_tup, eqDs, w1, w2, w3]
  · cases g with
    | many n qs =>
      have := eqDs_map W.d ps qs fun x hx y _ => ih x hx y
      simp [W.d, eqD_tup, eqDs, w4, this]
    | _ => simp [W.d, eqD_tup, eqDs, w1, w2, w3]
  · cases g with
    | pow g b =>
      have := ih g
      simp [W.d, eqD_tup, eqDs, this]
      intro _
      omega
    | _ => simp [W.d, eqD_tup, eqDs, w1, w2, w3]
theorem eqW (f g : W) : eqD f.d g.d = decide (f = g) := by
  rw [Bool.eq_iff_iff, eqW']
  simp
theorem okEqW {f g : W} (h1 : f.ok) (h2 : g.ok) (h3 : f.h ≤ 90) : okEq f.d g.d = true := by
  have := depW f
  simp only [okEq, layW h1, layW h2, Bool.and_eq_true, decide_eq_true_eq, true_and, and_self]
  omega
theorem eqOpW {f g : W} (h1 : f.ok) (h2 : g.ok) (h3 : f.h ≤ 90) : eqOp f.d g.d = some (.bl (decide (f = g))) := by
  rw [eqOp, okEqW h1 h2 h3, if_pos rfl, eqW]
theorem neOpW {f g : W} (h1 : f.ok) (h2 : g.ok) (h3 : f.h ≤ 90) : neOp f.d g.d = some (.bl (!decide (f = g))) := by
  rw [neOp, okEqW h1 h2 h3, if_pos rfl, eqW]
end Lw

/-! ### steps of whole formulas: plain -/
namespace Lw
open PySem Fm
def W.rank : W → Nat
  | .num _ => 0
  | .nam _ => 1
  | .pow _ _ => 2
  | .many true _ => 3
  | .many false _ => 4
def strLt (x y : Str) : Bool := decide (x.cps.toList < y.cps.toList)
mutual
def W.ahead : W → W → Bool
  | .num p, g => match g with
    | .num q => decide (p < q)
    | g => decide (0 < g.rank)
  | .nam x, g => match g with
    | .nam y => strLt x y
    | g => decide (1 < g.rank)
  | .pow f a, g => match g with
    | .pow g b => if f = g then decide (a < b) else W.ahead f g
    | g => decide (2 < g.rank)
  | .many m ps, g => match g with
    | .many n qs => if m = n then Ws.ahead ps qs else m
    | _ => false
def Ws.ahead : List W → List W → Bool
  | [], qs => decide (0 < qs.length)
  | p :: ps, qs => match qs with
    | [] => false
    | q :: qs => if p = q then Ws.ahead ps qs else W.ahead p q
end
/-- where a formula goes among those in order -/
def posF (x : W) (L : List W) : Nat → Nat
  | 0 => 0
  | n + 1 => if W.ahead x (L.getD n default) then posF x L n else n + 1
def insF (L : List W) (x : W) : List W := L.take (posF x L L.length) ++ [x] ++ L.drop (posF x L L.length)
def inOrder (ps : List W) : List W := ps.foldl insF []
def alone (m : Bool) (ps : List W) : W := match ps with
  | [p] => p
  | ps => .many m ps
def W.isMany (m : Bool) : W → Bool
  | .many n _ => m == n
  | _ => false
def W.isNum : W → Bool
  | .num _ => true
  | _ => false
def flatP (m : Bool) : W → List W
  | .many n qs => if n = m then qs else [.many n qs]
  | f => [f]
def flatF (m : Bool) (ps : List W) : Option W := if ps.any (W.isMany m) then some (.many m (ps.flatMap (flatP m))) else none
def W.q : W → Rat
  | .num q => q
  | _ => 0
def total (m : Bool) (ps : List W) : Rat := (ps.filter W.isNum).foldl (fun a f => if m then a * f.q else a + f.q) (if m then 1 else 0)
/-- the first num becomes another one, the others go -/
def repl (q : Rat) : List W → List W
  | [] => []
  | p :: ps => if p.isNum then .num q :: ps.filter (fun f => !f.isNum) else p :: repl q ps
def foldF (m : Bool) (ps : List W) : Option W := if (ps.filter W.isNum).length < 2 then none else some (alone m (repl (total m ps) ps))
def idle (m : Bool) : W := .num (if m then 1 else 0)
def noneF (m : Bool) (ps : List W) : Option W :=
  if m && decide (W.num 0 ∈ ps) then some (.num 0)
  else if idle m ∈ ps then (if ps.filter (· ≠ idle m) = [] then some (idle m) else some (alone m (ps.filter (· ≠ idle m)))) else none
def powF (f : W) (e : Nat) : Option W :=
  if e = 0 then some (.num 1) else if e = 1 then some f else match f with
    | .num q => some (.num (q ^ e))
    | .pow g a => some (.pow g (a * e))
    | .many true ps => some (.many true (ps.map fun p => .pow p e))
    | .many false ps => some (.many true [.many false ps, if 2 < e then .pow (.many false ps) (e - 1) else .many false ps])
    | .nam _ => none
def baseOf : W → Option (W × Nat)
  | .num _ => none
  | .many false _ => none
  | .pow g a => some (g, a)
  | f => some (f, 1)
def kindOf : W → Option (W × Rat)
  | .num _ => none
  | .many false _ => none
  | .many true (.num q :: ps) => some (alone true ps, q)
  | f => some (f, 1)
/-- the first place behind at which the same stands -/
def pairB {α : Type} (x : W × α) (i : Nat) : List (Option (W × α)) → Option Nat
  | [] => none
  | none :: r => pairB x (i + 1) r
  | some y :: r => if x.1 = y.1 then some i else pairB x (i + 1) r
def pairF {α : Type} (i : Nat) : List (Option (W × α)) → Option (Nat × Nat)
  | [] => none
  | none :: r => pairF (i + 1) r
  | some x :: r => match pairB x (i + 1) r with
    | some j => some (i, j)
    | none => pairF (i + 1) r
def mergeF (ps : List W) (i j : Nat) (f : W) : List W := ((ps.zipIdx).filter fun p => p.2 ≠ j).map fun p => if p.2 = i then f else p.1
def gatherF (ps : List W) : Option W := match pairF 0 (ps.map baseOf) with
  | none => none
  | some (i, j) => match baseOf (ps.getD i default), baseOf (ps.getD j default) with
    | some (b, a), some (_, c) => some (alone true (mergeF ps i j (.pow b (a + c))))
    | _, _ => none
def restP (f : W) : List W := match f with
  | .many true ps => ps
  | f => [f]
def likeF (ps : List W) : Option W := match pairF 0 (ps.map kindOf) with
  | none => none
  | some (i, j) => match kindOf (ps.getD i default), kindOf (ps.getD j default) with
    | some (b, a), some (_, c) => some (alone false (mergeF ps i j (.many true (.num (a + c) :: restP b))))
    | _, _ => none
def spreadP : List W → Option (List W × List W × List W)
  | [] => none
  | .many false qs :: r => some ([], qs, r)
  | p :: r => match spreadP r with
    | some (a, b, c) => some (p :: a, b, c)
    | none => none
def spreadF (ps : List W) : Option W := match spreadP ps with
  | some (a, b, c) => some (.many false (b.map fun x => .many true (a ++ [x] ++ c)))
  | none => none
def orderF (m : Bool) (ps : List W) : Option W := if inOrder ps = ps then none else some (.many m (inOrder ps))
/-- the rules, by their number -/
def ruleN : List Str := ["flat", "fold", "none", "power", "gather", "spread", "like", "order"]
def byRule (r : Fin 8) (f : W) : Option W := match f with
  | .num _ => none
  | .nam _ => none
  | .pow g e => if r = 3 then powF g e else none
  | .many m ps => match r with
    | 0 => flatF m ps
    | 1 => foldF m ps
    | 2 => noneF m ps
    | 3 => none
    | 4 => if m then gatherF ps else none
    | 5 => if m then spreadF ps else none
    | 6 => if m then none else likeF ps
    | 7 => orderF m ps
/-! ### parts -/
def W.kids : W → List W
  | .many _ ps => ps
  | .pow f _ => [f]
  | _ => []
def W.set : W → Nat → W → W
  | .many m ps, i, o => .many m (ps.set i o)
  | .pow f e, i, o => if i = 0 then .pow o e else .pow f e
  | f, _, _ => f
def W.kid (f : W) (s : Int) : Option W := if 0 ≤ s then f.kids[s.toNat]? else none
def W.at? : List Int → W → Option W
  | [], f => some f
  | s :: p, f => match f.kid s with
    | some g => W.at? p g
    | none => none
def W.put : List Int → W → W → W
  | [], _, o => o
  | s :: p, f, o => match f.kid s with
    | some g => f.set s.toNat (W.put p g o)
    | none => f
/-- what comes of a formula by each rule at a place -/
def resultsF (f : W) (q : List Int) : List (Fin 8 × W) := match W.at? q f with
  | none => []
  | some g => (List.finRange 8).filterMap fun r => (byRule r g).map fun o => (r, W.put q f o)
end Lw

/-! ### words: closed facts -/
namespace Lw
open PySem Fm
@[simp] theorem wM_t : wM true = "mul" := rfl
@[simp] theorem wM_f : wM false = "add" := rfl
@[simp] theorem we1 : eqOp (.str "num") (.str "num") = some (.bl true) := by kernel_rfl
@[simp] theorem we2 : eqOp (.str "num") (.str "name") = some (.bl false) := by kernel_rfl
@[simp] theorem we3 : eqOp (.str "num") (.str "add") = some (.bl false) := by kernel_rfl
@[simp] theorem we4 : eqOp (.str "num") (.str "mul") = some (.bl false) := by kernel_rfl
@[simp] theorem we5 : eqOp (.str "num") (.str "pow") = some (.bl false) := by kernel_rfl
@[simp] theorem we6 : eqOp (.str "name") (.str "num") = some (.bl false) := by kernel_rfl
@[simp] theorem we7 : eqOp (.str "name") (.str "name") = some (.bl true) := by kernel_rfl
@[simp] theorem we8 : eqOp (.str "name") (.str "add") = some (.bl false) := by kernel_rfl
@[simp] theorem we9 : eqOp (.str "name") (.str "mul") = some (.bl false) := by kernel_rfl
@[simp] theorem we10 : eqOp (.str "name") (.str "pow") = some (.bl false) := by kernel_rfl
@[simp] theorem we11 : eqOp (.str "add") (.str "num") = some (.bl false) := by kernel_rfl
@[simp] theorem we12 : eqOp (.str "add") (.str "name") = some (.bl false) := by kernel_rfl
@[simp] theorem we13 : eqOp (.str "add") (.str "add") = some (.bl true) := by kernel_rfl
@[simp] theorem we14 : eqOp (.str "add") (.str "mul") = some (.bl false) := by kernel_rfl
@[simp] theorem we15 : eqOp (.str "add") (.str "pow") = some (.bl false) := by kernel_rfl
@[simp] theorem we16 : eqOp (.str "mul") (.str "num") = some (.bl false) := by kernel_rfl
@[simp] theorem we17 : eqOp (.str "mul") (.str "name") = some (.bl false) := by kernel_rfl
@[simp] theorem we18 : eqOp (.str "mul") (.str "add") = some (.bl false) := by kernel_rfl
@[simp] theorem we19 : eqOp (.str "mul") (.str "mul") = some (.bl true) := by kernel_rfl
@[simp] theorem we20 : eqOp (.str "mul") (.str "pow") = some (.bl false) := by kernel_rfl
@[simp] theorem we21 : eqOp (.str "pow") (.str "num") = some (.bl false) := by kernel_rfl
@[simp] theorem we22 : eqOp (.str "pow") (.str "name") = some (.bl false) := by kernel_rfl
@[simp] theorem we23 : eqOp (.str "pow") (.str "add") = some (.bl false) := by kernel_rfl
@[simp] theorem we24 : eqOp (.str "pow") (.str "mul") = some (.bl false) := by kernel_rfl
@[simp] theorem we25 : eqOp (.str "pow") (.str "pow") = some (.bl true) := by kernel_rfl
@[simp] theorem we26 : eqOp (.str "flat") (.str "flat") = some (.bl true) := by kernel_rfl
@[simp] theorem we27 : eqOp (.str "flat") (.str "fold") = some (.bl false) := by kernel_rfl
@[simp] theorem we28 : eqOp (.str "flat") (.str "none") = some (.bl false) := by kernel_rfl
@[simp] theorem we29 : eqOp (.str "flat") (.str "power") = some (.bl false) := by kernel_rfl
@[simp] theorem we30 : eqOp (.str "flat") (.str "gather") = some (.bl false) := by kernel_rfl
@[simp] theorem we31 : eqOp (.str "flat") (.str "spread") = some (.bl false) := by kernel_rfl
@[simp] theorem we32 : eqOp (.str "flat") (.str "like") = some (.bl false) := by kernel_rfl
@[simp] theorem we33 : eqOp (.str "flat") (.str "order") = some (.bl false) := by kernel_rfl
@[simp] theorem we34 : eqOp (.str "fold") (.str "flat") = some (.bl false) := by kernel_rfl
@[simp] theorem we35 : eqOp (.str "fold") (.str "fold") = some (.bl true) := by kernel_rfl
@[simp] theorem we36 : eqOp (.str "fold") (.str "none") = some (.bl false) := by kernel_rfl
@[simp] theorem we37 : eqOp (.str "fold") (.str "power") = some (.bl false) := by kernel_rfl
@[simp] theorem we38 : eqOp (.str "fold") (.str "gather") = some (.bl false) := by kernel_rfl
@[simp] theorem we39 : eqOp (.str "fold") (.str "spread") = some (.bl false) := by kernel_rfl
@[simp] theorem we40 : eqOp (.str "fold") (.str "like") = some (.bl false) := by kernel_rfl
@[simp] theorem we41 : eqOp (.str "fold") (.str "order") = some (.bl false) := by kernel_rfl
@[simp] theorem we42 : eqOp (.str "none") (.str "flat") = some (.bl false) := by kernel_rfl
@[simp] theorem we43 : eqOp (.str "none") (.str "fold") = some (.bl false) := by kernel_rfl
@[simp] theorem we44 : eqOp (.str "none") (.str "none") = some (.bl true) := by kernel_rfl
@[simp] theorem we45 : eqOp (.str "none") (.str "power") = some (.bl false) := by kernel_rfl
@[simp] theorem we46 : eqOp (.str "none") (.str "gather") = some (.bl false) := by kernel_rfl
@[simp] theorem we47 : eqOp (.str "none") (.str "spread") = some (.bl false) := by kernel_rfl
@[simp] theorem we48 : eqOp (.str "none") (.str "like") = some (.bl false) := by kernel_rfl
@[simp] theorem we49 : eqOp (.str "none") (.str "order") = some (.bl false) := by kernel_rfl
@[simp] theorem we50 : eqOp (.str "power") (.str "flat") = some (.bl false) := by kernel_rfl
@[simp] theorem we51 : eqOp (.str "power") (.str "fold") = some (.bl false) := by kernel_rfl
@[simp] theorem we52 : eqOp (.str "power") (.str "none") = some (.bl false) := by kernel_rfl
@[simp] theorem we53 : eqOp (.str "power") (.str "power") = some (.bl true) := by kernel_rfl
@[simp] theorem we54 : eqOp (.str "power") (.str "gather") = some (.bl false) := by kernel_rfl
@[simp] theorem we55 : eqOp (.str "power") (.str "spread") = some (.bl false) := by kernel_rfl
@[simp] theorem we56 : eqOp (.str "power") (.str "like") = some (.bl false) := by kernel_rfl
@[simp] theorem we57 : eqOp (.str "power") (.str "order") = some (.bl false) := by kernel_rfl
@[simp] theorem we58 : eqOp (.str "gather") (.str "flat") = some (.bl false) := by kernel_rfl
@[simp] theorem we59 : eqOp (.str "gather") (.str "fold") = some (.bl false) := by kernel_rfl
@[simp] theorem we60 : eqOp (.str "gather") (.str "none") = some (.bl false) := by kernel_rfl
@[simp] theorem we61 : eqOp (.str "gather") (.str "power") = some (.bl false) := by kernel_rfl
@[simp] theorem we62 : eqOp (.str "gather") (.str "gather") = some (.bl true) := by kernel_rfl
@[simp] theorem we63 : eqOp (.str "gather") (.str "spread") = some (.bl false) := by kernel_rfl
@[simp] theorem we64 : eqOp (.str "gather") (.str "like") = some (.bl false) := by kernel_rfl
@[simp] theorem we65 : eqOp (.str "gather") (.str "order") = some (.bl false) := by kernel_rfl
@[simp] theorem we66 : eqOp (.str "spread") (.str "flat") = some (.bl false) := by kernel_rfl
@[simp] theorem we67 : eqOp (.str "spread") (.str "fold") = some (.bl false) := by kernel_rfl
@[simp] theorem we68 : eqOp (.str "spread") (.str "none") = some (.bl false) := by kernel_rfl
@[simp] theorem we69 : eqOp (.str "spread") (.str "power") = some (.bl false) := by kernel_rfl
@[simp] theorem we70 : eqOp (.str "spread") (.str "gather") = some (.bl false) := by kernel_rfl
@[simp] theorem we71 : eqOp (.str "spread") (.str "spread") = some (.bl true) := by kernel_rfl
@[simp] theorem we72 : eqOp (.str "spread") (.str "like") = some (.bl false) := by kernel_rfl
@[simp] theorem we73 : eqOp (.str "spread") (.str "order") = some (.bl false) := by kernel_rfl
@[simp] theorem we74 : eqOp (.str "like") (.str "flat") = some (.bl false) := by kernel_rfl
@[simp] theorem we75 : eqOp (.str "like") (.str "fold") = some (.bl false) := by kernel_rfl
@[simp] theorem we76 : eqOp (.str "like") (.str "none") = some (.bl false) := by kernel_rfl
@[simp] theorem we77 : eqOp (.str "like") (.str "power") = some (.bl false) := by kernel_rfl
@[simp] theorem we78 : eqOp (.str "like") (.str "gather") = some (.bl false) := by kernel_rfl
@[simp] theorem we79 : eqOp (.str "like") (.str "spread") = some (.bl false) := by kernel_rfl
@[simp] theorem we80 : eqOp (.str "like") (.str "like") = some (.bl true) := by kernel_rfl
@[simp] theorem we81 : eqOp (.str "like") (.str "order") = some (.bl false) := by kernel_rfl
@[simp] theorem we82 : eqOp (.str "order") (.str "flat") = some (.bl false) := by kernel_rfl
@[simp] theorem we83 : eqOp (.str "order") (.str "fold") = some (.bl false) := by kernel_rfl
@[simp] theorem we84 : eqOp (.str "order") (.str "none") = some (.bl false) := by kernel_rfl
@[simp] theorem we85 : eqOp (.str "order") (.str "power") = some (.bl false) := by kernel_rfl
@[simp] theorem we86 : eqOp (.str "order") (.str "gather") = some (.bl false) := by kernel_rfl
@[simp] theorem we87 : eqOp (.str "order") (.str "spread") = some (.bl false) := by kernel_rfl
@[simp] theorem we88 : eqOp (.str "order") (.str "like") = some (.bl false) := by kernel_rfl
@[simp] theorem we89 : eqOp (.str "order") (.str "order") = some (.bl true) := by kernel_rfl
@[simp] theorem wi90 : inB (.str "num") (.tup [.str "num", .str "name"]) = some true := by kernel_rfl
@[simp] theorem wi91 : inB (.str "num") (.tup [.str "add", .str "mul"]) = some false := by kernel_rfl
@[simp] theorem wi92 : inB (.str "num") (.tup [.str "num", .str "add"]) = some true := by kernel_rfl
@[simp] theorem wi93 : inB (.str "name") (.tup [.str "num", .str "name"]) = some true := by kernel_rfl
@[simp] theorem wi94 : inB (.str "name") (.tup [.str "add", .str "mul"]) = some false := by kernel_rfl
@[simp] theorem wi95 : inB (.str "name") (.tup [.str "num", .str "add"]) = some false := by kernel_rfl
@[simp] theorem wi96 : inB (.str "add") (.tup [.str "num", .str "name"]) = some false := by kernel_rfl
@[simp] theorem wi97 : inB (.str "add") (.tup [.str "add", .str "mul"]) = some true := by kernel_rfl
@[simp] theorem wi98 : inB (.str "add") (.tup [.str "num", .str "add"]) = some true := by kernel_rfl
@[simp] theorem wi99 : inB (.str "mul") (.tup [.str "num", .str "name"]) = some false := by kernel_rfl
@[simp] theorem wi100 : inB (.str "mul") (.tup [.str "add", .str "mul"]) = some true := by kernel_rfl
@[simp] theorem wi101 : inB (.str "mul") (.tup [.str "num", .str "add"]) = some false := by kernel_rfl
@[simp] theorem wi102 : inB (.str "pow") (.tup [.str "num", .str "name"]) = some false := by kernel_rfl
@[simp] theorem wi103 : inB (.str "pow") (.tup [.str "add", .str "mul"]) = some false := by kernel_rfl
@[simp] theorem wi104 : inB (.str "pow") (.tup [.str "num", .str "add"]) = some false := by kernel_rfl
@[simp] theorem wi105 : inB (.str "flat") (.tup [.str "flat", .str "fold", .str "none"]) = some true := by kernel_rfl
@[simp] theorem wi106 : inB (.str "fold") (.tup [.str "flat", .str "fold", .str "none"]) = some true := by kernel_rfl
@[simp] theorem wi107 : inB (.str "none") (.tup [.str "flat", .str "fold", .str "none"]) = some true := by kernel_rfl
@[simp] theorem wi108 : inB (.str "power") (.tup [.str "flat", .str "fold", .str "none"]) = some false := by kernel_rfl
@[simp] theorem wi109 : inB (.str "gather") (.tup [.str "flat", .str "fold", .str "none"]) = some false := by kernel_rfl
@[simp] theorem wi110 : inB (.str "spread") (.tup [.str "flat", .str "fold", .str "none"]) = some false := by kernel_rfl
@[simp] theorem wi111 : inB (.str "like") (.tup [.str "flat", .str "fold", .str "none"]) = some false := by kernel_rfl
@[simp] theorem wi112 : inB (.str "order") (.tup [.str "flat", .str "fold", .str "none"]) = some false := by kernel_rfl
@[simp] theorem wr0 : idxD false (.tup [.str "num", .str "name", .str "pow", .str "mul", .str "add"]) (.str "num") = some (.int 0) := by kernel_rfl
@[simp] theorem wr1 : idxD false (.tup [.str "num", .str "name", .str "pow", .str "mul", .str "add"]) (.str "name") = some (.int 1) := by kernel_rfl
@[simp] theorem wr2 : idxD false (.tup [.str "num", .str "name", .str "pow", .str "mul", .str "add"]) (.str "pow") = some (.int 2) := by kernel_rfl
@[simp] theorem wr3 : idxD false (.tup [.str "num", .str "name", .str "pow", .str "mul", .str "add"]) (.str "mul") = some (.int 3) := by kernel_rfl
@[simp] theorem wr4 : idxD false (.tup [.str "num", .str "name", .str "pow", .str "mul", .str "add"]) (.str "add") = some (.int 4) := by kernel_rfl
@[simp] theorem wsq : isSq false (.tup [.str "num", .str "name", .str "pow", .str "mul", .str "add"]) = true := rfl
end Lw

/-! ### steps: what the defs tell, first part -/
namespace Lw
open PySem Fm
section
variable {ns : List Int} {t : Tw} {k : Nat}
/-- one turn of a for -/
noncomputable def lp (ns : List Int) (k : Nat) (tg : Tg) (b : Ss) : D → Rho → Tw → Res (Fl × Rho) := fun d r t => match setT tg d r with
  | some r1 => evSs (gam p ns k) (csOf cst) b r1 t
  | none => .bad
theorem for_lp {tg : Tg} {it : I} {b : Ss} {r : Rho} {t1 : Tw} {xs : List D} (hi : evI (gam p ns k) (csOf cst) it r t = .ok xs t1) : evS (gam p ns k) (csOf cst) (.for tg it b) r t = loopF (lp ns k tg b) xs r t1 := for_ev hi
@[simp high] theorem y_for {tg : Tg} {it : I} {b : Ss} {r : Rho} : evS (gam p ns k) (csOf cst) (.for tg it b) r t = (evI (gam p ns k) (csOf cst) it r t).bind fun xs t1 => loopF (lp ns k tg b) xs r t1 := by
  rw [evS_for]; rfl
theorem lp_eq {tg : Tg} {b : Ss} {d : D} {r r1 : Rho} (h : setT tg d r = some r1) : lp ns k tg b d r t = evSs (gam p ns k) (csOf cst) b r1 t := by
  unfold lp; rw [h]
theorem okS {n : Nat} (h : n ≤ 16777216 := by decide) : okLen n = true := by
  simp only [okLen, decide_eq_true_eq]
  exact h
theorem cut1 {α : Type} (x : α) (xs : List α) : cutL (x :: xs) (some 1) none = xs := by
  unfold cutL HT.sIx
  simp
@[simp] theorem at2 {α : Type} (x y z : α) (xs : List α) : L2.atI (x :: y :: z :: xs) 2 = some z := by
  unfold L2.atI L2.ixN
  rw [if_pos (by omega), if_pos (by simp only [List.length_cons]; omega)]
  rfl
theorem atN {α : Type} {xs : List α} {n : Nat} (h : n < xs.length) : L2.atI xs (n : Int) = some xs[n] := by
  unfold L2.atI L2.ixN
  rw [if_pos (by omega), if_pos (by omega)]
  show xs[(n : Int).toNat]? = _
  simp [h]
theorem bls_any (xs : List D) (g : D → Bool) : blt1 .any (.lst (xs.map fun d => .bl (g d))) = some (.bl (xs.any g)) := by
  simp [blt1, bls_map]
theorem x_ltw (x y : Str) : ltOp (.str x) (.str y) = some (.bl (strLt x y)) := rfl
/-! ### comes_ahead -/
def firstD : List W → List W → Option (W × W)
  | p :: ps, q :: qs => if p = q then firstD ps qs else some (p, q)
  | _, _ => none
theorem ahead_first : ∀ ps qs : List W, Ws.ahead ps qs = match firstD ps qs with
    | some (p, q) => W.ahead p q
    | none => decide (ps.length < qs.length)
  | [], qs => by cases qs <;> simp [Ws.ahead, firstD]
  | p :: ps, [] => by simp [Ws.ahead, firstD]
  | p :: ps, q :: qs => by
    simp only [Ws.ahead, firstD]
    by_cases h : p = q
    · simp only [h, if_true]
      rw [ahead_first ps qs]
      simp
    · simp [h]
theorem ca_loop {x y : D} {a0 b0 : Sl} : ∀ (ps qs : List W) (a b : Sl), (∀ f ∈ ps, f.ok ∧ f.h ≤ 60) → (∀ f ∈ qs, f.ok) → (∀ f ∈ ps, ∀ g ∈ qs, callF p ns k i_comes_ahead [f.d, g.d] t = .ok (.bl (W.ahead f g)) t) →
    match firstD ps qs with
    | some (f, g) => ∃ r, loopF (lp ns k (.tup (.cons (.name 4) (.cons (.name 5) .nil))) b_comes_ahead_1) (zipD (ps.map W.d) (qs.map W.d)) [.val x, .val y, a0, b0, a, b] t = .ok (.ret (.bl (W.ahead f g)), r) t
    | none => ∃ a' b', loopF (lp ns k (.tup (.cons (.name 4) (.cons (.name 5) .nil))) b_comes_ahead_1) (zipD (ps.map W.d) (qs.map W.d)) [.val x, .val y, a0, b0, a, b] t = .ok (.nx, [.val x, .val y, a0, b0, a', b']) t
  | [], qs, a, b, _, _, _ => by cases qs <;> exact ⟨a, b, rfl⟩
  | f :: ps, [], a, b, _, _, _ => ⟨a, b, rfl⟩
  | f :: ps, g :: qs, a, b, h1, h2, h3 => by
    have o1 := h1 f List.mem_cons_self
    have o2 := h2 g List.mem_cons_self
    have e1 := neOpW o1.1 o2 (by omega)
    have e2 := h3 f List.mem_cons_self g List.mem_cons_self
    have ih := ca_loop (x := x) (y := y) (a0 := a0) (b0 := b0) ps qs (.val f.d) (.val g.d) (fun q m => h1 q (List.mem_cons_of_mem _ m)) (fun q m => h2 q (List.mem_cons_of_mem _ m)) (fun q m q' m' => h3 q (List.mem_cons_of_mem _ m) q' (List.mem_cons_of_mem _ m'))
    simp only [firstD]
    by_cases h : f = g
    · have e3 : evSs (gam p ns k) (csOf cst) b_comes_ahead_1 [.val x, .val y, a0, b0, .val f.d, .val g.d] t = .ok (.nx, [.val x, .val y, a0, b0, .val f.d, .val g.d]) t := by
        simp [b_comes_ahead_1, e1, h]
        rw [neOpW o2 o2 (by have := o1.2; rw [h] at this; omega)]
        simp
      rw [if_pos h]
      have e4 : loopF (lp ns k (.tup (.cons (.name 4) (.cons (.name 5) .nil))) b_comes_ahead_1) (zipD ((f :: ps).map W.d) ((g :: qs).map W.d)) [.val x, .val y, a0, b0, a, b] t = loopF (lp ns k (.tup (.cons (.name 4) (.cons (.name 5) .nil))) b_comes_ahead_1) (zipD (ps.map W.d) (qs.map W.d)) [.val x, .val y, a0, b0, .val f.d, .val g.d] t := by
        show loopF _ (.tup [f.d, g.d] :: zipD (ps.map W.d) (qs.map W.d)) _ t = _
        rw [loopF]
        rw [lp_eq (r1 := [.val x, .val y, a0, b0, .val f.d, .val g.d]) rfl, e3]
        rfl
      rw [e4]
      exact ih
    · rw [if_neg h]
      refine ⟨[.val x, .val y, a0, b0, .val f.d, .val g.d], ?_⟩
      show loopF _ (.tup [f.d, g.d] :: zipD (ps.map W.d) (qs.map W.d)) _ t = _
      rw [loopF]
      have e3 : evSs (gam p ns k) (csOf cst) b_comes_ahead_1 [.val x, .val y, a0, b0, .val f.d, .val g.d] t = .ok (.ret (.bl (W.ahead f g)), [.val x, .val y, a0, b0, .val f.d, .val g.d]) t := by
        simp [b_comes_ahead_1, e1, h, e2]
      rw [lp_eq (r1 := [.val x, .val y, a0, b0, .val f.d, .val g.d]) rfl, e3]
      rfl
theorem e_comes_ahead : ∀ (f g : W) (k : Nat), f.h + 3 ≤ k → f.ok → g.ok → f.h ≤ 60 → callF p ns k i_comes_ahead [f.d, g.d] t = .ok (.bl (W.ahead f g)) t := by
  refine W.ind (fun q g k hk o1 o2 hh => ?_) (fun x g k hk o1 o2 hh => ?_) (fun m ps ih g k hk o1 o2 hh => ?_) (fun f e ih g k hk o1 o2 hh => ?_)
  · obtain ⟨k, rfl⟩ := up1 (show 1 ≤ k by omega)
    rw [u_comes_ahead]
    cases g with
    | num q' =>
      have e := e_frac_below (ns := ns) (t := t) (k := k) (by simp only [W.h] at hk; omega) (show qs 4000 q from o1) (show qs 4000 q' from o2) (by omega)
      simp [b_comes_ahead, W.d, e, W.ahead]
    | many n qs => cases n <;> simp [b_comes_ahead, W.d, W.ahead, W.rank]
    | _ => simp [b_comes_ahead, W.d, W.ahead, W.rank]
  · obtain ⟨k, rfl⟩ := up1 (show 1 ≤ k by omega)
    rw [u_comes_ahead]
    cases g with
    | many n qs => cases n <;> simp [b_comes_ahead, W.d, W.ahead, W.rank]
    | nam y => simp [b_comes_ahead, W.d, W.ahead, W.rank, x_ltw]
    | _ => simp [b_comes_ahead, W.d, W.ahead, W.rank]
  · obtain ⟨k, rfl⟩ := up1 (show 1 ≤ k by omega)
    rw [u_comes_ahead]
    simp only [W.h] at hk hh
    cases g with
    | many n qs =>
      by_cases hmn : m = n
      · subst hmn
        have o1' := o1
        have o2' := o2
        simp only [W.ok, Ws_ok] at o1' o2'
        obtain ⟨w, hw⟩ : ∃ w, (W.rank (.many m ps) : Int) = w := ⟨_, rfl⟩
        have hl := ca_loop (ns := ns) (t := t) (k := k) (x := (W.many m ps).d) (y := (W.many m qs).d) (a0 := .val (.int w)) (b0 := .val (.int w)) ps qs .un .un (fun f hf => ⟨o1'.2 f hf, by have := Ws_h hf; omega⟩) o2'.2 (fun f hf g hg => ih f hf g k (by have := Ws_h hf; omega) (o1'.2 f hf) (o2'.2 g hg) (by have := Ws_h hf; omega))
        simp only [W.ahead, if_true]
        rw [ahead_first]
        cases hd : firstD ps qs with
        | none =>
          rw [hd] at hl
          obtain ⟨a', b', hl⟩ := hl
          cases m <;> (subst hw; simp [b_comes_ahead, W.d, W.rank] at hl ⊢; rw [hl]; simp)
        | some pq =>
          obtain ⟨f, g⟩ := pq
          rw [hd] at hl
          obtain ⟨r, hl⟩ := hl
          cases m <;> (subst hw; simp [b_comes_ahead, W.d, W.rank] at hl ⊢; rw [hl]; simp)
      · cases m <;> cases n <;> first | (exact absurd rfl hmn) | simp [b_comes_ahead, W.d, W.ahead, W.rank]
    | _ => cases m <;> simp [b_comes_ahead, W.d, W.ahead, W.rank]
  · obtain ⟨k, rfl⟩ := up1 (show 1 ≤ k by omega)
    rw [u_comes_ahead]
    simp only [W.h] at hk hh
    cases g with
    | many n qs => cases n <;> simp [b_comes_ahead, W.d, W.ahead, W.rank]
    | pow g b =>
      have e1 := neOpW o1.1 o2.1 (by omega)
      have e2 := ih g k (by omega) o1.1 o2.1 (by omega)
      by_cases h : f = g
      · subst h
        simp at e1
        simp [b_comes_ahead, W.d, W.ahead, W.rank, e1]
      · simp [b_comes_ahead, W.d, W.ahead, W.rank, e1, e2, h]
    | _ => simp [b_comes_ahead, W.d, W.ahead, W.rank]
end
end Lw

/-! ### steps: what the defs tell, second part -/
namespace Lw
open PySem Fm
section
variable {ns : List Int} {t : Tw} {k : Nat}
/-- a comprehension over typed things -/
theorem comp_fm {α : Type} (d : α → D) (xs : List α) (c : α → Bool) (g : α → D) {G : Gam} {cs : Nat → D} {own : List (Str × Nat)} {elt : E} {tg : Tg} {it : I} {cd : O} {r : Rho} (hi : evI G cs it r t = .ok (xs.map d) t) (hl : xs.length ≤ 16777216)
    (h : ∀ a ∈ xs, turnE tg (own.map (·.2)) (evO G cs cd) (ev G cs elt) r (d a) t = .ok (if c a then some (g a) else none) t) : ev G cs (.comp own elt tg it cd) r t = .ok (.lst ((xs.filter c).map g)) t := by
  rw [ev_comp]
  unfold compE
  rw [hi, Res.bind_ok, okS (by simpa using hl), if_pos rfl]
  have : compL (turnE tg (own.map (·.2)) (evO G cs cd) (ev G cs elt) r) (xs.map d) t = .ok ((xs.filter c).map g) t := by
    clear hi hl
    induction xs with
    | nil => rfl
    | cons x xs ih =>
      rw [List.map_cons, compL, h x List.mem_cons_self]
      simp only
      rw [ih fun a m => h a (List.mem_cons_of_mem _ m)]
      cases e : c x <;> simp [List.filter_cons, e, consO]
  rw [this]
  rfl
theorem comp_mp {α : Type} (d : α → D) (xs : List α) (g : α → D) {G : Gam} {cs : Nat → D} {own : List (Str × Nat)} {elt : E} {tg : Tg} {it : I} {cd : O} {r : Rho} (hi : evI G cs it r t = .ok (xs.map d) t) (hl : xs.length ≤ 16777216)
    (h : ∀ a ∈ xs, turnE tg (own.map (·.2)) (evO G cs cd) (ev G cs elt) r (d a) t = .ok (some (g a)) t) : ev G cs (.comp own elt tg it cd) r t = .ok (.lst (xs.map g)) t := by
  have := comp_fm d xs (fun _ => true) g hi hl (fun a m => by rw [h a m]; rfl)
  rwa [List.filter_eq_self.mpr (fun _ _ => rfl)] at this
/-- .. of two fors -/
theorem comp2_fm {α : Type} (d : α → D) (xs : List α) (g : α → List D) {G : Gam} {cs : Nat → D} {own : List (Str × Nat)} {elt : E} {tg tg1 : Tg} {it it1 : I} {r : Rho} (hi : evI G cs it r t = .ok (xs.map d) t) (hl : xs.length ≤ 16777216) (hl2 : (xs.flatMap g).length ≤ 16777216)
    (h : ∀ a ∈ xs, ∃ r2, setT tg (d a) (wipeR r (own.map (·.2))) = some r2 ∧ evI G cs it1 r2 t = .ok (g a) t ∧ ∀ y ∈ g a, ∃ r3, setT tg1 y (wipeR r2 tg1.slots) = some r3 ∧ ev G cs elt r3 t = .ok y t) : ev G cs (.comp2 own elt tg it tg1 it1) r t = .ok (.lst (xs.flatMap g)) t := by
  have hc : ∀ (r2 : Rho) (ys : List D), (∀ y ∈ ys, ∃ r3, setT tg1 y (wipeR r2 tg1.slots) = some r3 ∧ ev G cs elt r3 t = .ok y t) → compL (fun d t => match setT tg1 d (wipeR r2 tg1.slots) with
            | some r3 => (ev G cs elt r3 t).bind fun x t => .ok (some x) t
            | none => .bad) ys t = .ok ys t := by
    intro r2 ys
    induction ys with
    | nil => intro _; rfl
    | cons y ys ih =>
      intro h
      obtain ⟨r3, e1, e2⟩ := h y List.mem_cons_self
      rw [compL]
      simp only [e1, e2, Res.bind_ok]
      rw [ih fun z m => h z (List.mem_cons_of_mem _ m)]
      rfl
  have hb : ∀ a ∈ xs, (g a).length ≤ 16777216 := fun a m => by
    refine Nat.le_trans ?_ hl2
    clear hi hl hl2 h
    induction xs with
    | nil => cases m
    | cons x xs ih =>
      rw [List.flatMap_cons, List.length_append]
      rcases List.mem_cons.mp m with rfl | m
      · omega
      · have := ih m
        omega
  rw [ev]
  rw [hi, Res.bind_ok, okS (by simpa using hl), if_pos rfl]
  have key : comp2L (fun d t => match setT tg d (wipeR r (own.map (·.2))) with
        | some r2 => (match evI G cs it1 r2 t with
          | .ok es t1 => if okLen es.length then compL (fun d t => match setT tg1 d (wipeR r2 tg1.slots) with
            | some r3 => (ev G cs elt r3 t).bind fun x t => .ok (some x) t
            | none => .bad) es t1 else .bad
          | _ => .bad)
        | none => .bad) (xs.map d) t = .ok (xs.flatMap g) t := by
    clear hi hl hl2
    induction xs with
    | nil => rfl
    | cons x xs ih =>
      obtain ⟨r2, e1, e2, e3⟩ := h x List.mem_cons_self
      rw [List.map_cons, comp2L]
      simp only [e1, e2, okS (hb x List.mem_cons_self), if_true]
      rw [hc r2 _ e3]
      simp only
      rw [ih (fun a m => h a (List.mem_cons_of_mem _ m)) fun a m => hb a (List.mem_cons_of_mem _ m)]
      rfl
  refine Eq.trans (congrArg (fun z : Res (List D) => z.bind fun ys t2 => if okLen ys.length = true then Res.ok (D.lst ys) t2 else Res.bad) key) ?_
  show (if okLen (xs.flatMap g).length = true then _ else _) = _
  rw [okS hl2, if_pos rfl]
theorem enum_zip {α : Type} (d : α → D) : ∀ (xs : List α) (i : Nat), enumD i (xs.map d) = (xs.zipIdx i).map fun p => .tup [.int (p.2 : Nat), d p.1]
  | [], _ => rfl
  | x :: xs, i => by
    rw [List.map_cons, enumD, List.zipIdx_cons, List.map_cons, enum_zip d xs (i + 1)]
theorem evI_v {G : Gam} {cs : Nat → D} {r : Rho} {i : Nat} {xs : List D} (h : r[i]? = some (.val (.tup xs))) : evI G cs (.val (.var i)) r t = .ok xs t := by
  simp [h]
theorem evI_vl {G : Gam} {cs : Nat → D} {r : Rho} {i : Nat} {xs : List D} (h : r[i]? = some (.val (.lst xs))) : evI G cs (.val (.var i)) r t = .ok xs t := by
  simp [h]
theorem inB_map {α : Type} (d : α → D) (P : α → Bool) (a : D) (xs : List α) (ha : lay a = true) (hd : dep a ≤ 190) (hx : ∀ x ∈ xs, lay (d x) = true) (he : ∀ x ∈ xs, eqD (d x) a = P x) : inB a (.tup (xs.map d)) = some (xs.any P) ∧ inB a (.lst (xs.map d)) = some (xs.any P) := by
  have h1 : (xs.map d).all lay = true := by
    rw [List.all_map]
    exact List.all_eq_true.mpr hx
  have h2 : ((xs.map d).any fun z => eqD z a) = xs.any P := by
    rw [List.any_map, Bool.eq_iff_iff]
    simp only [List.any_eq_true, Function.comp_apply]
    constructor
    · rintro ⟨x, m, e⟩
      exact ⟨x, m, by rw [← he x m]; exact e⟩
    · rintro ⟨x, m, e⟩
      exact ⟨x, m, by rw [he x m]; exact e⟩
  constructor <;> simp only [inB, ha, h1, hd, h2, decide_true, Bool.and_self, if_true]
/-! ### in_order -/
theorem posF_le (x : W) (L : List W) : ∀ n, posF x L n ≤ n
  | 0 => Nat.le_refl _
  | n + 1 => by
    have := posF_le x L n
    simp only [posF]
    split <;> omega
theorem io_while {x : W} {L : List W} {d0 : D} (hk : x.h + 3 ≤ k) (ox : x.ok) (hx : x.h ≤ 60) (oL : ∀ f ∈ L, f.ok) : ∀ n : Nat, n ≤ L.length →
    loopW (ev (gam p ns k) (csOf cst) wc_in_order_2) (evSs (gam p ns k) (csOf cst) b_in_order_2) [.val d0, .own (.lst (L.map W.d)), .val x.d, .val (.int n)] t = .ok (.nx, [.val d0, .own (.lst (L.map W.d)), .val x.d, .val (.int (posF x L n))]) t
  | 0, _ => by
    rw [loopW_eq]
    simp [posF, wc_in_order_2]
  | n + 1, hn => by
    have ih := io_while (d0 := d0) hk ox hx oL n (by omega)
    have e := e_comes_ahead (ns := ns) (t := t) x L[n] k hk ox (oL _ (List.getElem_mem _)) hx
    have hat : L2.atI (L.map W.d) (n : Int) = some L[n].d := by
      rw [atN (by rw [List.length_map]; omega)]
      simp
    have hg : L.getD n default = L[n] := by
      rw [List.getD_eq_getElem?_getD, List.getElem?_eq_getElem (by omega)]
      rfl
    have e0 : ((n : Int) + 1 - 1) = n := by omega
    have e1 : (0 : Int) < n + 1 := by omega
    have e2 : evSs (gam p ns k) (csOf cst) b_in_order_2 [.val d0, .own (.lst (L.map W.d)), .val x.d, .val (.int ((n + 1 : Nat) : Int))] t = .ok (.nx, [.val d0, .own (.lst (L.map W.d)), .val x.d, .val (.int n)]) t := by
      simp [b_in_order_2, e0]
    have e3 : ev (gam p ns k) (csOf cst) wc_in_order_2 [.val d0, .own (.lst (L.map W.d)), .val x.d, .val (.int ((n + 1 : Nat) : Int))] t = .ok (.bl (W.ahead x L[n])) t := by
      simp [wc_in_order_2, e0, e1, hat, e]
    rw [loopW_eq, e3]
    simp only [posF, hg]
    cases ha : W.ahead x L[n] with
    | true =>
      simp only [Res.bind_ok, x_tru1, e2, if_true]
      exact ih
    | false => rfl
theorem insF_len (L : List W) (x : W) : (insF L x).length = L.length + 1 := by
  have := posF_le x L L.length
  simp [insF]
  omega
theorem a63 {n : Nat} (hn : n < 16777216) : (n : Int) < 2 ^ 63 := Int.lt_of_lt_of_le (b := 16777216) (by omega) (by decide)
theorem a64 {n l : Nat} (hn : n < 16777216) (hl : l < 16777216): (decide (0 ≤ (n : Int)) && decide ((n : Int) < 2 ^ 63) && decide (l < 16777216)) = true := by
    rw [Bool.and_eq_true, Bool.and_eq_true]
    exact ⟨⟨decide_eq_true (by omega), decide_eq_true (a63 hn)⟩, decide_eq_true hl⟩
theorem bind_of {α β : Type} {a : Res α} {x : α} {t : Tw} {f : α → Tw → Res β} (h : a = .ok x t) : a.bind f = f x t := by rw [h]; rfl
theorem ins_ev {G : Gam} {cs : Nat → D} {i n : Nat} {ek e : E} {r : Rho} {xs : List D} {x : D} (h : r[i]? = some (.own (.lst xs))) (hk : ev G cs ek r t = .ok (.int (n : Nat)) t) (he : ev G cs e r t = .ok x t) (hn : n < 16777216) (hl : xs.length < 16777216) : evS G cs (.ins i ek e) r t = .ok (.nx, r.set i (.own (.lst (xs.take n ++ [x] ++ xs.drop n)))) t := by
  rw [x_evS_ins, x_insE, h]
  refine (bind_of hk).trans ?_
  refine (bind_of he).trans ?_
  exact if_pos (a64 hn hl)
theorem io_turn {d0 : D} {x : W} {L : List W} (b : Sl) (o1 : x.ok) (o2 : x.h ≤ 60) (o3 : x.h + 3 ≤ k) (hL : ∀ f ∈ L, f.ok) (hl : L.length < 1000000) : evSs (gam p ns k) (csOf cst) b_in_order_1 [.val d0, .own (.lst (L.map W.d)), .val x.d, b] t = .ok (.nx, [.val d0, .own (.lst ((insF L x).map W.d)), .val x.d, .val (.int (posF x L L.length))]) t := by
  have hw := io_while (ns := ns) (t := t) (d0 := d0) o3 o1 o2 hL L.length (Nat.le_refl _)
  have pl := posF_le x L L.length
  generalize hn : posF x L L.length = n at *
  unfold b_in_order_1
  rw [seq_nx (r1 := [.val d0, .own (.lst (L.map W.d)), .val x.d, .val (.int L.length)]) (t1 := t) (by simp)]
  rw [seq_nx (r1 := [.val d0, .own (.lst (L.map W.d)), .val x.d, .val (.int n)]) (t1 := t) (by rw [x_evS_while]; exact hw)]
  have hi := ins_ev (t := t) (G := gam p ns k) (cs := csOf cst) (i := 1) (n := n) (ek := .var 3) (e := .var 2) (r := [.val d0, .own (.lst (L.map W.d)), .val x.d, .val (.int n)]) (xs := L.map W.d) (x := x.d) rfl (by simp) (by simp) (by omega) (by rw [List.length_map]; omega)
  rw [seq_nx hi, x_evSs_nil, x_nilE, insF, hn]
  simp
theorem io_loop {d0 : D} : ∀ (ps L : List W) (a b : Sl), (∀ f ∈ ps, f.ok ∧ f.h ≤ 60 ∧ f.h + 3 ≤ k) → (∀ f ∈ L, f.ok) → L.length + ps.length ≤ 1000000 → ∃ a' b', loopF (lp ns k (.name 2) b_in_order_1) (ps.map W.d) [.val d0, .own (.lst (L.map W.d)), a, b] t = .ok (.nx, [.val d0, .own (.lst ((ps.foldl insF L).map W.d)), a', b']) t := by
  intro ps
  induction ps with
  | nil => intro L a b _ _ _; exact ⟨a, b, rfl⟩
  | cons x ps ih =>
    intro L a b h hL hl
    obtain ⟨o1, o2, o3⟩ := h x List.mem_cons_self
    have hL' : ∀ f ∈ insF L x, f.ok := by
      intro f hf
      simp only [insF, List.mem_append, List.mem_cons, List.not_mem_nil, or_false] at hf
      rcases hf with (hf | rfl) | hf
      · exact hL f (List.mem_of_mem_take hf)
      · exact o1
      · exact hL f (List.mem_of_mem_drop hf)
    simp only [List.length_cons] at hl
    obtain ⟨a', b', ih⟩ := ih (insF L x) (.val x.d) (.val (.int (posF x L L.length))) (fun f m => h f (List.mem_cons_of_mem _ m)) hL' (by rw [insF_len]; omega)
    refine ⟨a', b', ?_⟩
    rw [List.map_cons, loopF, lp_eq (r1 := [.val d0, .own (.lst (L.map W.d)), .val x.d, b]) rfl, io_turn b o1 o2 o3 hL (by omega), Res.bind_ok]
    exact ih
theorem inOrder_mem {ps : List W} {f : W} : f ∈ inOrder ps ↔ f ∈ ps := by
  have : ∀ (ps L : List W), f ∈ ps.foldl insF L ↔ f ∈ L ∨ f ∈ ps := by
    intro ps
    induction ps with
    | nil => intro L; simp
    | cons x ps ih =>
      intro L
      rw [List.foldl_cons, ih]
      have : f ∈ insF L x ↔ f ∈ L ∨ f = x := by
        simp only [insF, List.mem_append, List.mem_cons, List.not_mem_nil, or_false]
        constructor
        · rintro ((h | h) | h)
          · exact .inl (List.mem_of_mem_take h)
          · exact .inr h
          · exact .inl (List.mem_of_mem_drop h)
        · rintro (h | h)
          · rw [← List.take_append_drop (posF x L L.length) L] at h
            rcases List.mem_append.mp h with h | h
            · exact .inl (.inl h)
            · exact .inr h
          · exact .inl (.inr h)
      rw [this, List.mem_cons]
      constructor
      · rintro ((h | h) | h)
        · exact .inl h
        · exact .inr (.inl h)
        · exact .inr (.inr h)
      · rintro (h | h | h)
        · exact .inl (.inl h)
        · exact .inl (.inr h)
        · exact .inr h
  have := this ps []
  simp only [List.not_mem_nil, false_or] at this
  exact this
theorem inOrder_len (ps : List W) : (inOrder ps).length = ps.length := by
  have : ∀ (ps L : List W), (ps.foldl insF L).length = L.length + ps.length := by
    intro ps
    induction ps with
    | nil => intro L; simp
    | cons x ps ih => intro L; rw [List.foldl_cons, ih, insF_len, List.length_cons]; omega
  have := this ps []
  simp only [List.length_nil, Nat.zero_add] at this
  exact this
theorem e_in_order {ps : List W} (hk : 1 ≤ k) (h : ∀ f ∈ ps, f.ok ∧ f.h ≤ 60 ∧ f.h + 4 ≤ k) (hl : ps.length ≤ 1000000) : callF p ns k i_in_order [.tup (ps.map W.d)] t = .ok (.tup ((inOrder ps).map W.d)) t := by
  obtain ⟨k, rfl⟩ := up1 hk
  obtain ⟨a', b', e⟩ := io_loop (ns := ns) (t := t) (k := k) (d0 := .tup (ps.map W.d)) ps [] .un .un (fun f m => ⟨(h f m).1, (h f m).2.1, by have := (h f m).2.2; omega⟩) (fun f m => by cases m) (by simpa using hl)
  rw [u_in_order]
  simp at e
  simp [b_in_order, okLen, e, inOrder]
end
end Lw

/-! ### steps: what the defs tell, third part -/
namespace Lw
open PySem Fm
section
variable {ns : List Int} {t : Tw} {k : Nat}
theorem wd0 (f : W) : ∃ w xs, f.d = .tup (.str w :: xs) := by cases f <;> exact ⟨_, _, rfl⟩
/-- the word of a formula -/
def W.wd : W → Str
  | .num _ => "num"
  | .nam _ => "name"
  | .many m _ => wM m
  | .pow _ _ => "pow"
theorem ix0 (f : W) : ixD f.d (.int 0) = some (.str f.wd) := by cases f <;> simp [W.d, W.wd]
theorem eq_wM (f : W) (m : Bool) : eqOp (.str f.wd) (.str (wM m)) = some (.bl (f.isMany m)) := by
  cases f with
  | many n ps => cases m <;> cases n <;> simp [W.wd, W.isMany]
  | _ => cases m <;> simp [W.wd, W.isMany]
theorem eq_num (f : W) : eqOp (.str f.wd) (.str "num") = some (.bl f.isNum) := by
  cases f with
  | many n ps => cases n <;> simp [W.wd, W.isNum]
  | _ => simp [W.wd, W.isNum]
theorem eq_add (f : W) : eqOp (.str f.wd) (.str "add") = some (.bl (f.isMany false)) := eq_wM f false
theorem eq_mul (f : W) : eqOp (.str f.wd) (.str "mul") = some (.bl (f.isMany true)) := eq_wM f true
theorem wM_add (m : Bool) : eqOp (.str (wM m)) (.str "add") = some (.bl (!m)) := by cases m <;> simp
theorem wM_mul (m : Bool) : eqOp (.str (wM m)) (.str "mul") = some (.bl m) := by cases m <;> simp
theorem qd0 : D.tup [.int 0, .int 1] = qd 0 := rfl
theorem qd1 : D.tup [.int 1, .int 1] = qd 1 := rfl
theorem num_d (q : Rat) : D.tup [.str "num", qd q] = (W.num q).d := by simp [W.d]
/-- formulas that a rule works upon -/
def okPs (ps : List W) : Prop := ps.length ≤ 1000000 ∧ ∀ f ∈ ps, f.ok ∧ f.h ≤ 60
theorem inW {g : W} {ps : List W} (hg : g.ok) (hh : g.h ≤ 60) (h : okPs ps) : inB g.d (.tup (ps.map W.d)) = some (decide (g ∈ ps)) := by
  have := (inB_map W.d (fun f => decide (f = g)) g.d ps (layW hg) (by have := depW g; omega) (fun f m => layW (h.2 f m).1) (fun f _ => eqW f g)).1
  rw [this]
  congr 1
  rw [Bool.eq_iff_iff]
  simp
theorem e_alone (hk : 1 ≤ k) (m : Bool) {ps : List W} (h : ps ≠ []) : callF p ns k i_alone [.str (wM m), .lst (ps.map W.d)] t = .ok (alone m ps).d t ∧ callF p ns k i_alone [.str (wM m), .tup (ps.map W.d)] t = .ok (alone m ps).d t := by
  obtain ⟨k, rfl⟩ := up1 hk
  rw [u_alone, u_alone]
  match ps, h with
  | [x], _ => constructor <;> simp [b_alone, alone]
  | x :: y :: r, _ =>
    have : ¬ ((r.length : Int) + 1 + 1 = 1) := by omega
    constructor <;> simp [b_alone, alone, this, okLen, W.d]
theorem flat_len {ps : List W} {m : Bool} : ∀ {n : Nat}, (∀ f ∈ ps, (flatP m f).length ≤ n) → (ps.flatMap (flatP m)).length ≤ ps.length * n := by
  induction ps with
  | nil => intro n _; simp
  | cons x ps ih =>
    intro n h
    have h1 := h x List.mem_cons_self
    have h2 := ih fun f m => h f (List.mem_cons_of_mem _ m)
    rw [List.flatMap_cons, List.length_append, List.length_cons, Nat.add_mul]
    omega
theorem e_flat (hk : 1 ≤ k) (m : Bool) {ps : List W} (h : okPs ps) (hl : (ps.flatMap (flatP m)).length ≤ 1000000) : callF p ns k i_flat [.str (wM m), .tup (ps.map W.d)] t = .ok (((flatF m ps).map W.d).getD .non) t := by
  obtain ⟨k, rfl⟩ := up1 hk
  have e : ∀ f : W, ixD f.d (.int 0) = some (.str f.wd) := ix0
  rw [u_flat]
  simp only [b_flat, x_evSs_cons, x_consE]
  simp
  rw [comp_mp W.d ps (fun f => .bl (f.isMany m)) (by simp) (by have := h.1; omega) (fun f _ => by simp [e, eq_wM])]
  have ea : blt1 .any (.lst (ps.map fun f => .bl (f.isMany m))) = some (.bl (ps.any (W.isMany m))) := by
    simp only [blt1]
    have hb : bls (ps.map fun f => D.bl (f.isMany m)) = some (ps.map (W.isMany m)) := by
      clear h hl
      induction ps with
      | nil => rfl
      | cons x ps ih => simp [bls, ih]
    rw [hb]
    simp [List.any_map]
  simp only [ea, flatF]
  cases hany : ps.any (W.isMany m) with
  | false => simp
  | true =>
    simp
    have hf : (ps.flatMap fun f => (flatP m f).map W.d) = (ps.flatMap (flatP m)).map W.d := by
      rw [List.map_flatMap]
    rw [comp2_fm W.d ps (fun f => (flatP m f).map W.d) (by simp) (by have := h.1; omega) (by rw [hf, List.length_map]; omega) (fun f hf => by
      refine ⟨_, rfl, ?_, fun y hy => ⟨_, rfl, by simp [Tg.slots]⟩⟩
      simp [e, eq_wM]
      cases f with
      | many n qs => cases m <;> cases n <;> simp [W.isMany, flatP, W.d, okLen]
      | _ => cases m <;> simp [W.isMany, flatP, W.d, okLen])]
    rw [hf]
    simp [W.d, okLen]
def baseD : Option (W × Nat) → D
  | some (f, a) => .tup [f.d, .int (a : Nat)]
  | none => .non
theorem e_base_of (hk : 1 ≤ k) (f : W) : callF p ns k i_base_of [f.d] t = .ok (baseD (baseOf f)) t := by
  obtain ⟨k, rfl⟩ := up1 hk
  rw [u_base_of]
  cases f with
  | many n qs => cases n <;> simp [b_base_of, W.d, baseOf, baseD, okLen]
  | _ => simp [b_base_of, W.d, baseOf, baseD, okLen]
def kindD : Option (W × Rat) → D
  | some (f, a) => .tup [f.d, qd a]
  | none => .non
theorem e_kind_of (hk : 2 ≤ k) (f : W) (hf : ∀ m ps, f = .many m ps → 2 ≤ ps.length) : callF p ns k i_kind_of [f.d] t = .ok (kindD (kindOf f)) t := by
  obtain ⟨k, rfl⟩ := up1 (show 1 ≤ k by omega)
  rw [u_kind_of]
  cases f with
  | many n qs =>
    cases n with
    | false => simp [b_kind_of, W.d, kindOf, kindD, okLen]
    | true =>
      match qs, hf true qs rfl with
      | x :: y :: r, _ =>
        have e := (e_alone (ns := ns) (t := t) (k := k) (by omega) true (ps := y :: r) (by simp)).2
        simp at e
        cases x with
        | num q => simp [b_kind_of, W.d, kindOf, kindD, okLen, cut1, e]
        | many n' qs' => cases n' <;> simp [b_kind_of, W.d, kindOf, kindD, okLen, qd1]
        | _ => simp [b_kind_of, W.d, kindOf, kindD, okLen, qd1]
  | _ => simp [b_kind_of, W.d, kindOf, kindD, okLen, qd1]
def tl1 : Ss → Ss
  | .cons _ q => q
  | q => q
theorem none_tail (hk : 1 ≤ k) (m : Bool) {ps : List W} (h : okPs ps) : retD (evSs (gam p ns k) (csOf cst) (tl1 (tl1 b_none)) [.val (.str (wM m)), .val (.tup (ps.map W.d)), .val (idle m).d, .un, .un] t) = .ok ((if idle m ∈ ps then (if ps.filter (· ≠ idle m) = [] then (idle m).d else (alone m (ps.filter (· ≠ idle m))).d) else .non)) t := by
  have o0 : (W.num 0).ok := ⟨by decide, by decide⟩
  have o1 : (W.num 1).ok := ⟨by decide, by decide⟩
  have oi : (idle m).ok := by cases m <;> assumption
  have ii := inW oi (by simp [W.h, idle]) h
  have hfl : ps.filter (fun f => !decide (f = idle m)) = ps.filter (· ≠ idle m) := List.filter_congr fun x _ => by simp
  generalize ps.filter (· ≠ idle m) = L at hfl ⊢
  simp [b_none, tl1, ii]
  by_cases hi : idle m ∈ ps
  · simp [hi]
    rw [comp_fm W.d ps (fun f => !decide (f = idle m)) W.d (by simp) (by have := h.1; omega) fun f hf => by
      have hn := neOpW (h.2 f hf).1 oi (by have := (h.2 f hf).2; omega)
      simp [hn]
      by_cases hz : f = idle m <;> simp [hz]]
    rw [hfl]
    clear hfl
    cases L with
    | nil => simp
    | cons x r =>
      have ea := (e_alone (ns := ns) (t := t) (k := k) (by omega) m (ps := x :: r) (by simp)).1
      have hl2 : ¬ (r.length + 1 + 1 < 2) := by omega
      simp at ea
      simp [ea, hl2]
  · simp [hi]
theorem e_none (hk : 2 ≤ k) (m : Bool) {ps : List W} (h : okPs ps) : callF p ns k i_none [.str (wM m), .tup (ps.map W.d)] t = .ok (((noneF m ps).map W.d).getD .non) t := by
  obtain ⟨k, rfl⟩ := up1 (show 1 ≤ k by omega)
  have o0 : (W.num 0).ok := ⟨by decide, by decide⟩
  have i0 := inW o0 (by simp [W.h]) h
  rw [show (W.num 0).d = .tup [.str "num", qd 0] from rfl] at i0
  have ht := none_tail (ns := ns) (t := t) (k := k) (by omega) m h
  rw [u_none]
  have hf : ((if idle m ∈ ps then (if ps.filter (· ≠ idle m) = [] then (idle m).d else (alone m (ps.filter (· ≠ idle m))).d) else .non)) = (((if idle m ∈ ps then (if ps.filter (· ≠ idle m) = [] then some (idle m) else some (alone m (ps.filter (· ≠ idle m)))) else none) : Option W).map W.d).getD .non := by
    split
    · split <;> rfl
    · rfl
  rw [hf] at ht
  unfold noneF
  show retD (evSs (gam p ns k) (csOf cst) b_none [.val (.str (wM m)), .val (.tup (ps.map W.d)), .un, .un, .un] t) = _
  cases m with
  | true =>
    by_cases hz : W.num 0 ∈ ps
    · simp [b_none, qd0, i0, hz, okLen, W.d]
    · simp only [hz, decide_false, Bool.and_false, Bool.false_eq_true, if_false]
      rw [← ht]
      congr 1
      show evSs (gam p ns k) (csOf cst) (.cons _ (.cons _ (tl1 (tl1 b_none)))) _ t = _
      rw [seq_nx (r1 := [.val (.str (wM true)), .val (.tup (ps.map W.d)), .un, .un, .un]) (t1 := t) (by simp [qd0, i0, hz, okLen])]
      rw [seq_nx (r1 := [.val (.str (wM true)), .val (.tup (ps.map W.d)), .val (idle true).d, .un, .un]) (t1 := t) (by simp [qd0, qd1, okLen, idle, W.d])]
  | false =>
    simp only [Bool.false_and, Bool.false_eq_true, if_false]
    rw [← ht]
    congr 1
    show evSs (gam p ns k) (csOf cst) (.cons _ (.cons _ (tl1 (tl1 b_none)))) _ t = _
    rw [seq_nx (r1 := [.val (.str (wM false)), .val (.tup (ps.map W.d)), .un, .un, .un]) (t1 := t) (by simp)]
    rw [seq_nx (r1 := [.val (.str (wM false)), .val (.tup (ps.map W.d)), .val (idle false).d, .un, .un]) (t1 := t) (by simp [qd0, qd1, okLen, idle, W.d])]
def okPow2 (f : W) (e : Nat) : Prop := ∀ q, f = .num q → ∀ j, j ≤ e → qs 4000 (q ^ j)
theorem e_powered (hk : 5 ≤ k) {f : W} {e : Nat} (hf : f.ok) (he : e < 2 ^ 60) (hp : okPow2 f e) : callF p ns k i_powered [f.d, .int (e : Nat)] t = .ok (((powF f e).map W.d).getD .non) t := by
  obtain ⟨k, rfl⟩ := up1 (show 1 ≤ k by omega)
  rw [u_powered]
  by_cases h0 : e = 0
  · subst h0
    simp [b_powered, powF, W.d, okLen, qd1]
  by_cases h1 : e = 1
  · subst h1
    simp [b_powered, powF, W.d]
  have h0' : ¬ ((e : Int) = 0) := by omega
  have h1' : ¬ ((e : Int) = 1) := by omega
  cases f with
  | num q =>
    have ep := e_frac_power (ns := ns) (t := t) (k := k) (by omega) he hf (hp q rfl)
    simp [b_powered, powF, W.d, h0, h1, h0', h1', ep, okLen]
  | nam x => simp [b_powered, powF, W.d, h0, h1, h0', h1']
  | pow g a =>
    have om : okMul (a : Int) (e : Int) = true := okMul_of (k := 60) (l := 60) (by have := hf.2; omega) (by omega) (by omega) (by omega) (by omega)
    simp [b_powered, powF, W.d, h0, h1, h0', h1', om, okLen]
  | many m ps =>
    cases m with
    | true =>
      simp [b_powered, powF, W.d, h0, h1, h0', h1']
      rw [comp_mp W.d ps (fun f => (W.pow f e).d) (by simp) (by have := hf.1; omega) (fun f _ => by simp [okLen, W.d])]
      simp [okLen, W.d]
    | false =>
      by_cases h2 : 2 < e
      · have h2' : (2 : Int) < e := by omega
        have h3 : (e : Int) - 1 = ((e - 1 : Nat) : Int) := by omega
        simp [b_powered, powF, W.d, h0, h1, h0', h1', h2, h2', h3, okLen]
      · have h2' : ¬ ((2 : Int) < e) := by omega
        simp [b_powered, powF, W.d, h0, h1, h0', h1', h2, h2', okLen]
theorem fold_repl (q : Rat) : ∀ (ps : List W) (i : Nat) (a : Nat) (rest : List Nat), ((ps.zipIdx i).filter (fun p => p.1.isNum)).map (·.2) = a :: rest →
    ((ps.zipIdx i).filter (fun p => !decide (p.2 ∈ rest))).map (fun p => if p.2 = a then W.num q else p.1) = repl q ps
  | [], i, a, rest, h => by simp at h
  | x :: ps, i, a, rest, h => by
    have idx : ∀ p ∈ ps.zipIdx (i + 1), i + 1 ≤ p.2 := fun p hp => (List.mem_zipIdx hp).1
    rw [List.zipIdx_cons] at h ⊢
    by_cases hx : x.isNum = true
    · rw [List.filter_cons, if_pos hx, List.map_cons] at h
      obtain ⟨rfl, hr⟩ := List.cons.inj h
      have hi : ¬ (i ∈ rest) := by
        rw [← hr]
        intro hm
        obtain ⟨p, hp, e⟩ := List.mem_map.mp hm
        have := idx p (List.mem_filter.mp hp).1
        omega
      rw [List.filter_cons, if_pos (by simpa using hi), List.map_cons]
      simp only [if_true, repl, hx]
      congr 1
      have h1 : (ps.zipIdx (i + 1)).filter (fun p => !decide (p.2 ∈ rest)) = (ps.zipIdx (i + 1)).filter (fun p => !p.1.isNum) := by
        refine List.filter_congr fun p hp => ?_
        congr 1
        rw [Bool.eq_iff_iff, decide_eq_true_eq, ← hr]
        constructor
        · intro hm
          obtain ⟨p', hp', e⟩ := List.mem_map.mp hm
          obtain ⟨hp1, hp2⟩ := List.mem_filter.mp hp'
          have e1 := List.mem_zipIdx hp
          have e2 := List.mem_zipIdx hp1
          have : p.1 = p'.1 := by
            rw [e1.2.2, e2.2.2]
            congr 1
            omega
          rw [this]
          exact hp2
        · intro hn
          exact List.mem_map.mpr ⟨p, List.mem_filter.mpr ⟨hp, hn⟩, rfl⟩
      rw [h1]
      have h2 : ((ps.zipIdx (i + 1)).filter (fun p => !p.1.isNum)).map (fun p => if p.2 = i then W.num q else p.1) = ((ps.zipIdx (i + 1)).filter (fun p => !p.1.isNum)).map (·.1) := by
        refine List.map_congr_left fun p hp => ?_
        have := idx p (List.mem_filter.mp hp).1
        rw [if_neg (by omega)]
      rw [h2]
      have h3 : ((ps.zipIdx (i + 1)).filter (fun p => !p.1.isNum)).map (·.1) = ((ps.zipIdx (i + 1)).map (·.1)).filter (fun f => !f.isNum) := by
        rw [List.filter_map]
        rfl
      rw [h3, List.zipIdx_map_fst]
    · have hx' : x.isNum = false := by simpa using hx
      rw [List.filter_cons, if_neg hx] at h
      have ha : i + 1 ≤ a ∧ ∀ b ∈ rest, i + 1 ≤ b := by
        have : ∀ b ∈ a :: rest, i + 1 ≤ b := by
          rw [← h]
          intro b hb
          obtain ⟨p, hp, rfl⟩ := List.mem_map.mp hb
          exact idx p (List.mem_filter.mp hp).1
        exact ⟨this a List.mem_cons_self, fun b hb => this b (List.mem_cons_of_mem _ hb)⟩
      have hi : ¬ (i ∈ rest) := fun hm => by have := ha.2 i hm; omega
      rw [List.filter_cons, if_pos (by simpa using hi), List.map_cons]
      simp only [repl, hx', Bool.false_eq_true, if_false]
      rw [if_neg (by omega), fold_repl q ps (i + 1) a rest h]
/-- what the loop over nums tells -/
def totL (m : Bool) (ns : List W) : Rat := ns.foldl (fun a f => if m then a * f.q else a + f.q) (if m then 1 else 0)
def okTot (m : Bool) (ps : List W) : Prop := ∀ n, qs 4000 (totL m ((ps.filter W.isNum).take n))
theorem totL_snoc (m : Bool) (ns : List W) (f : W) : totL m (ns ++ [f]) = if m then totL m ns * f.q else totL m ns + f.q := by
  simp [totL]
theorem fold_loop (hk : 3 ≤ k) (m : Bool) {ps : List W} (hp : okPs ps) {pl : D} {c6 : Sl} : ∀ (N M : List (W × Nat)) (c3 c4 : Sl), (∀ n, qs 4000 (totL m (((M ++ N).map (·.1)).take n))) → (∀ p ∈ N, ps[p.2]? = some p.1 ∧ p.1.isNum = true) →
    ∃ c3', loopF (lp ns k (.name 3) b_fold_1) (N.map fun p => .int (p.2 : Nat)) [.val (.str (wM m)), .val (.tup (ps.map W.d)), .val pl, c3, c4, .val (qd (totL m (M.map (·.1)))), c6] t = .ok (.nx, [.val (.str (wM m)), .val (.tup (ps.map W.d)), .val pl, c3', c4, .val (qd (totL m ((M ++ N).map (·.1)))), c6]) t := by
  intro N
  induction N with
  | nil => intro M c3 c4 _ _; exact ⟨c3, by simp⟩
  | cons x N ih =>
    intro M c3 c4 hq hN
    obtain ⟨hx, hn⟩ := hN x List.mem_cons_self
    obtain ⟨w, i⟩ := x
    simp only at hx hn
    obtain ⟨q, rfl⟩ : ∃ q, w = .num q := by
      cases w with
      | num q => exact ⟨q, rfl⟩
      | _ => simp [W.isNum] at hn
    have hlt := (List.getElem?_eq_some_iff.mp hx).1
    have hat : L2.atI (ps.map W.d) (i : Int) = some (W.num q).d := by
      rw [atN (by rw [List.length_map]; exact hlt)]
      have := (List.getElem?_eq_some_iff.mp hx).2
      simp [this]
    have oq : qs 4000 q := (hp.2 (.num q) (List.mem_of_getElem? hx)).1
    have oM : qs 4000 (totL m (M.map (·.1))) := by
      have := hq M.length
      rw [List.map_append, List.take_append_of_le_length (by simp), List.take_of_length_le (by simp)] at this
      exact this
    have e1 := e_frac_plus (ns := ns) (t := t) hk oM oq (by omega)
    have e2 := e_frac_times (ns := ns) (t := t) hk oM oq (by omega)
    obtain ⟨c3', e⟩ := ih (M ++ [(.num q, i)]) (.val (.int (i : Nat))) c4 (by simpa using hq) (fun p hp => hN p (List.mem_cons_of_mem _ hp))
    refine ⟨c3', ?_⟩
    rw [List.map_cons, loopF, lp_eq (r1 := [.val (.str (wM m)), .val (.tup (ps.map W.d)), .val pl, .val (.int (i : Nat)), c4, .val (qd (totL m (M.map (·.1)))), c6]) rfl]
    have et : evSs (gam p ns k) (csOf cst) b_fold_1 [.val (.str (wM m)), .val (.tup (ps.map W.d)), .val pl, .val (.int (i : Nat)), c4, .val (qd (totL m (M.map (·.1)))), c6] t = .ok (.nx, [.val (.str (wM m)), .val (.tup (ps.map W.d)), .val pl, .val (.int (i : Nat)), c4, .val (qd (totL m ((M ++ [(W.num q, i)]).map (fun z : W × Nat => z.1)))), c6]) t := by
      rw [List.map_append, List.map_cons, List.map_nil, totL_snoc]
      cases m <;> simp [b_fold_1, hat, W.d, W.q, e1, e2]
    rw [et, Res.bind_ok]
    simpa using e
theorem zi_fst (ps : List W) (c : W → Bool) (i : Nat) : ((ps.zipIdx i).filter (fun p => c p.1)).map (·.1) = ps.filter c := by
  have h3 : ((ps.zipIdx i).filter (fun p => c p.1)).map (·.1) = ((ps.zipIdx i).map (·.1)).filter c := by
    rw [List.filter_map]
    rfl
  rw [h3, List.zipIdx_map_fst]
theorem inNat (a : Nat) (xs : List Nat) : inB (.int (a : Nat)) (.lst (xs.map fun n => .int (n : Nat))) = some (decide (a ∈ xs)) := by
  have := (inB_map (fun n : Nat => D.int (n : Nat)) (fun n => decide (n = a)) (.int (a : Nat)) xs (by simp) (by rw [dep_int]; omega) (fun _ _ => by simp) (fun n _ => by simp; omega)).2
  rw [this]
  congr 1
  rw [Bool.eq_iff_iff]
  simp
theorem repl_ne {q : Rat} {ps : List W} (h : ps ≠ []) : repl q ps ≠ [] := by
  cases ps with
  | nil => exact absurd rfl h
  | cons x ps => rw [repl]; split <;> simp
theorem e_fold (hk : 4 ≤ k) (m : Bool) {ps : List W} (h : okPs ps) (ht : okTot m ps) : callF p ns k i_fold [.str (wM m), .tup (ps.map W.d)] t = .ok (((foldF m ps).map W.d).getD .non) t := by
  obtain ⟨k, rfl⟩ := up1 (show 1 ≤ k by omega)
  have e : ∀ f : W, ixD f.d (.int 0) = some (.str f.wd) := ix0
  have hl := h.1
  have hN := zi_fst ps W.isNum 0
  rw [u_fold]
  simp only [b_fold, x_evSs_cons, x_consE]
  simp
  rw [comp_fm (fun p : W × Nat => D.tup [.int (p.2 : Nat), p.1.d]) (ps.zipIdx 0) (fun p => p.1.isNum) (fun p => .int (p.2 : Nat)) (by simp [enum_zip]) (by rw [List.length_zipIdx]; omega) (fun p _ => by
    simp [e, eq_num]
    cases p.1.isNum <;> simp)]
  have hidx : ∀ p ∈ (ps.zipIdx 0).filter (fun p => p.1.isNum), ps[p.2]? = some p.1 ∧ p.1.isNum = true := fun p hp => by
    obtain ⟨h1, h2⟩ := List.mem_filter.mp hp
    obtain ⟨a, b, c⟩ := List.mem_zipIdx h1
    refine ⟨?_, h2⟩
    rw [List.getElem?_eq_getElem (by omega), c]
    rfl
  unfold foldF
  rw [show ps.filter W.isNum = ((ps.zipIdx 0).filter (fun p => p.1.isNum)).map (·.1) from hN.symm, List.length_map]
  have hr := fold_repl (total m ps) ps 0
  have htot : total m ps = totL m (((ps.zipIdx 0).filter (fun p => p.1.isNum)).map (·.1)) := by rw [hN]; rfl
  have ht' : ∀ n, qs 4000 (totL m (((([] : List (W × Nat)) ++ (ps.zipIdx 0).filter (fun p => p.1.isNum)).map (·.1)).take n)) := by
    intro n
    rw [List.nil_append, hN]
    exact ht n
  generalize hNN : (ps.zipIdx 0).filter (fun p => p.1.isNum) = N at hidx hr htot ht' ⊢
  match N, hidx, hr, htot, ht' with
  | [], _, _, _, _ => simp
  | [x], _, _, _, _ => simp
  | x :: y :: r, hidx, hr, htot, ht' =>
    obtain ⟨c3', el⟩ := fold_loop (ns := ns) (t := t) (k := k) (by omega) m h (pl := .lst ((x :: y :: r).map fun p => .int (p.2 : Nat))) (c6 := .un) (x :: y :: r) [] .un .un ht' hidx
    have hr := hr x.2 ((y :: r).map (·.2)) rfl
    have hlen : ¬ ((r.length : Int) + 1 + 1 < 2) := by omega
    have hq0 : totL m ([] : List W) = if m then 1 else 0 := rfl
    rw [List.nil_append, ← htot] at el
    simp only [List.map_nil, hq0] at el
    have ho1 : ps.length ≤ 1000000 := h.1
    have hne : repl (total m ps) ps ≠ [] := repl_ne (by
      rintro rfl
      simp at hNN)
    have ea := (e_alone (ns := ns) (t := t) (k := k) (by omega) m hne).1
    simp only [List.map_cons] at el
    cases m with
    | true =>
      simp [hlen, qd1, qd0]
      simp at el
      rw [el]
      simp
      rw [comp_fm (fun p : W × Nat => D.tup [.int (p.2 : Nat), p.1.d]) (ps.zipIdx 0) (fun p => !decide (p.2 ∈ (y :: r).map (·.2))) (fun p => (if p.2 = x.2 then W.num (total true ps) else p.1).d) (by simp [enum_zip]) (by rw [List.length_zipIdx]; omega) (fun p _ => by
        have hin := inNat p.2 ((y :: r).map (·.2))
        simp [Function.comp_def] at hin
        simp [cut1, hin, num_d, okLen]
        generalize decide (p.2 ∈ (y :: r).map (fun x => x.2)) = b
        by_cases hp : p.2 = x.2
        · cases b <;> simp [hp]
        · have hp' : ¬ ((p.2 : Int) = (x.2 : Int)) := by omega
          cases b <;> simp [hp, hp'])]
      have hmap : ((ps.zipIdx 0).filter (fun p => !decide (p.2 ∈ (y :: r).map (·.2)))).map (fun p => (if p.2 = x.2 then W.num (total true ps) else p.1).d) = (repl (total true ps) ps).map W.d := by
        rw [← hr, List.map_map]
        rfl
      rw [hmap]
      have hl2 : ¬ (r.length + 1 + 1 < 2) := by omega
      simp at ea
      simp [ea, hl2]
    | false =>
      simp [hlen, qd1, qd0]
      simp at el
      rw [el]
      simp
      rw [comp_fm (fun p : W × Nat => D.tup [.int (p.2 : Nat), p.1.d]) (ps.zipIdx 0) (fun p => !decide (p.2 ∈ (y :: r).map (·.2))) (fun p => (if p.2 = x.2 then W.num (total false ps) else p.1).d) (by simp [enum_zip]) (by rw [List.length_zipIdx]; omega) (fun p _ => by
        have hin := inNat p.2 ((y :: r).map (·.2))
        simp [Function.comp_def] at hin
        simp [cut1, hin, num_d, okLen]
        generalize decide (p.2 ∈ (y :: r).map (fun x => x.2)) = b
        by_cases hp : p.2 = x.2
        · cases b <;> simp [hp]
        · have hp' : ¬ ((p.2 : Int) = (x.2 : Int)) := by omega
          cases b <;> simp [hp, hp'])]
      have hmap : ((ps.zipIdx 0).filter (fun p => !decide (p.2 ∈ (y :: r).map (·.2)))).map (fun p => (if p.2 = x.2 then W.num (total false ps) else p.1).d) = (repl (total false ps) ps).map W.d := by
        rw [← hr, List.map_map]
        rfl
      rw [hmap]
      have hl2 : ¬ (r.length + 1 + 1 < 2) := by omega
      simp at ea
      simp [ea, hl2]
theorem rng_cons (i m : Nat) : rngD (i : Nat) (m + 1) = .int (i : Nat) :: rngD ((i + 1 : Nat) : Int) m := by
  unfold rngD
  rw [List.range_succ_eq_map, List.map_cons, List.map_map]
  simp only [Int.natCast_zero, Int.add_zero, List.cons.injEq, true_and]
  refine List.map_congr_left fun j _ => ?_
  simp only [Function.comp, D.int.injEq]
  omega
/-- a pair that may be lacking -/
def oD {α : Type} (e : α → D) : Option (W × α) → D
  | some (f, a) => .tup [f.d, e a]
  | none => .non
theorem fp_inner {α : Type} {e : α → D} {S : List (Option (W × α))} (hS : ∀ f a, some (f, a) ∈ S → f.ok ∧ f.h ≤ 60) {one : Option (W × α)} (h1 : one ∈ S) {i : Nat} : ∀ (r : List (Option (W × α))) (j : Nat) (c : Sl), S.drop j = r →
    (∀ j', (one.bind fun x => pairB x j r) = some j' → ∃ r', loopF (lp ns k (.name 3) b_first_pair_2) (rngD (j : Nat) r.length) [.val (.lst (S.map (oD e))), .val (.int (i : Nat)), .val (oD e one), c] t = .ok (.ret (.tup [.int (i : Nat), .int (j' : Nat)]), r') t) ∧
    ((one.bind fun x => pairB x j r) = none → ∃ c', loopF (lp ns k (.name 3) b_first_pair_2) (rngD (j : Nat) r.length) [.val (.lst (S.map (oD e))), .val (.int (i : Nat)), .val (oD e one), c] t = .ok (.nx, [.val (.lst (S.map (oD e))), .val (.int (i : Nat)), .val (oD e one), c']) t) := by
  intro r
  induction r with
  | nil =>
    intro j c _
    refine ⟨fun j' h => ?_, fun _ => ⟨c, rfl⟩⟩
    cases one <;> simp [pairB] at h
  | cons y r ih =>
    intro j c hj
    have hlt : j < S.length := by
      have := congrArg List.length hj
      simp at this
      omega
    have hy : S[j] = y := by
      have := List.drop_eq_getElem_cons hlt
      rw [hj] at this
      exact (List.cons.inj this).1.symm
    have hj' : S.drop (j + 1) = r := by
      have := List.drop_eq_getElem_cons hlt
      rw [hj] at this
      exact (List.cons.inj this).2.symm
    have hat : L2.atI (S.map (oD e)) (j : Int) = some (oD e y) := by
      rw [atN (by rw [List.length_map]; exact hlt)]
      simp [hy]
    obtain ⟨ih1, ih2⟩ := ih (j + 1) (.val (.int (j : Nat))) hj'
    have hym : y ∈ S := by rw [← hy]; exact List.getElem_mem _
    rw [List.length_cons, rng_cons, loopF, lp_eq (r1 := [.val (.lst (S.map (oD e))), .val (.int (i : Nat)), .val (oD e one), .val (.int (j : Nat))]) rfl]
    cases one with
    | none =>
      have et : evSs (gam p ns k) (csOf cst) b_first_pair_2 [.val (.lst (S.map (oD e))), .val (.int (i : Nat)), .val (oD e none), .val (.int (j : Nat))] t = .ok (.nx, [.val (.lst (S.map (oD e))), .val (.int (i : Nat)), .val (oD e none), .val (.int (j : Nat))]) t := by
        simp [b_first_pair_2, oD]
      rw [et]
      exact ⟨fun j' h => by simp at h, fun _ => ih2 rfl⟩
    | some x =>
      obtain ⟨f, a⟩ := x
      cases y with
      | none =>
        have et : evSs (gam p ns k) (csOf cst) b_first_pair_2 [.val (.lst (S.map (oD e))), .val (.int (i : Nat)), .val (oD e (some (f, a))), .val (.int (j : Nat))] t = .ok (.nx, [.val (.lst (S.map (oD e))), .val (.int (i : Nat)), .val (oD e (some (f, a))), .val (.int (j : Nat))]) t := by
          simp [b_first_pair_2, oD] at hat ⊢
          simp [hat]
        rw [et]
        exact ⟨fun j' h => ih1 j' h, fun h => ih2 h⟩
      | some y =>
        obtain ⟨g, b⟩ := y
        have o1 := hS f a h1
        have o2 := hS g b hym
        have eq := eqOpW o1.1 o2.1 (by omega)
        have et : evSs (gam p ns k) (csOf cst) b_first_pair_2 [.val (.lst (S.map (oD e))), .val (.int (i : Nat)), .val (oD e (some (f, a))), .val (.int (j : Nat))] t = if f = g then .ok (.ret (.tup [.int (i : Nat), .int (j : Nat)]), [.val (.lst (S.map (oD e))), .val (.int (i : Nat)), .val (oD e (some (f, a))), .val (.int (j : Nat))]) t else .ok (.nx, [.val (.lst (S.map (oD e))), .val (.int (i : Nat)), .val (oD e (some (f, a))), .val (.int (j : Nat))]) t := by
          simp [b_first_pair_2, oD] at hat ⊢
          by_cases hfg : f = g
          · subst hfg
            simp at eq
            simp [hat, eq, okLen]
          · simp [hat, eq, hfg]
        rw [et]
        simp only [Option.bind_some, pairB]
        by_cases hfg : f = g
        · rw [if_pos hfg, if_pos hfg]
          exact ⟨fun j' h => ⟨_, (by cases h; rfl)⟩, fun h => (by cases h)⟩
        · rw [if_neg hfg, if_neg hfg]
          exact ⟨fun j' h => ih1 j' h, fun h => ih2 h⟩
theorem fp_outer {α : Type} {e : α → D} {S : List (Option (W × α))} (hl : S.length ≤ 1000000) (hS : ∀ f a, some (f, a) ∈ S → f.ok ∧ f.h ≤ 60) : ∀ (r : List (Option (W × α))) (i : Nat) (c1 c2 c3 : Sl), S.drop i = r →
    (∀ z, pairF i r = some z → ∃ r', loopF (lp ns k (.tup (.cons (.name 1) (.cons (.name 2) .nil))) b_first_pair_1) (enumD i (r.map (oD e))) [.val (.lst (S.map (oD e))), c1, c2, c3] t = .ok (.ret (.tup [.int (z.1 : Nat), .int (z.2 : Nat)]), r') t) ∧
    (pairF i r = none → ∃ c1' c2' c3', loopF (lp ns k (.tup (.cons (.name 1) (.cons (.name 2) .nil))) b_first_pair_1) (enumD i (r.map (oD e))) [.val (.lst (S.map (oD e))), c1, c2, c3] t = .ok (.nx, [.val (.lst (S.map (oD e))), c1', c2', c3']) t) := by
  intro r
  induction r with
  | nil => intro i c1 c2 c3 _; exact ⟨fun z h => (by cases h), fun _ => ⟨_, _, _, rfl⟩⟩
  | cons y r ih =>
    intro i c1 c2 c3 hi
    have hlt : i < S.length := by
      have := congrArg List.length hi
      simp at this
      omega
    have hd := List.drop_eq_getElem_cons hlt
    rw [hi] at hd
    have hy := (List.cons.inj hd).1
    have hi' := (List.cons.inj hd).2.symm
    have hym : y ∈ S := by rw [hy]; exact List.getElem_mem _
    have hr : r.length = S.length - (i + 1) := by rw [← hi', List.length_drop]
    obtain ⟨in1, in2⟩ := fp_inner (ns := ns) (t := t) (k := k) (e := e) hS hym (i := i) r (i + 1) c3 hi'
    rw [List.map_cons, enumD, loopF, lp_eq (r1 := [.val (.lst (S.map (oD e))), .val (.int (i : Nat)), .val (oD e y), c3]) rfl]
    have ok1 : okRng ((i : Int) + 1) = true := by simp only [okRng, Bool.and_eq_true, decide_eq_true_eq]; omega
    have ok2 : okRng (S.length : Int) = true := by simp only [okRng, Bool.and_eq_true, decide_eq_true_eq]; omega
    have hto : ((S.length : Int) - ((i : Int) + 1)).toNat = r.length := by omega
    have hrn : rngD ((i : Int) + 1) r.length = rngD ((i + 1 : Nat) : Int) r.length := by simp
    have et : evSs (gam p ns k) (csOf cst) b_first_pair_1 [.val (.lst (S.map (oD e))), .val (.int (i : Nat)), .val (oD e y), c3] t = (loopF (lp ns k (.name 3) b_first_pair_2) (rngD ((i + 1 : Nat) : Int) r.length) [.val (.lst (S.map (oD e))), .val (.int (i : Nat)), .val (oD e y), c3] t).bind fun p t1 => match p with
        | (.nx, r1) => .ok (.nx, r1) t1
        | q => .ok q t1 := by
      unfold b_first_pair_1
      rw [x_evSs_cons, x_consE, for_lp (xs := rngD ((i + 1 : Nat) : Int) r.length) (t1 := t) (by simp [ok1, ok2, hto])]
      rfl
    rw [et]
    cases hb : (y.bind fun x => pairB x (i + 1) r) with
    | some j' =>
      obtain ⟨r', e1⟩ := in1 j' hb
      have hp : pairF i (y :: r) = some (i, j') := by
        cases y with
        | none => simp at hb
        | some x =>
          simp only [Option.bind_some] at hb
          simp [pairF, hb]
      rw [hp, e1]
      exact ⟨fun z h => (by cases h; exact ⟨_, rfl⟩), fun h => (by cases h)⟩
    | none =>
      obtain ⟨c', e1⟩ := in2 hb
      have hp : pairF i (y :: r) = pairF (i + 1) r := by
        cases y with
        | none => simp [pairF]
        | some x =>
          simp only [Option.bind_some] at hb
          simp [pairF, hb]
      rw [hp, e1]
      exact ih (i + 1) _ _ _ hi'
theorem e_first_pair {α : Type} {e : α → D} {S : List (Option (W × α))} (hk : 1 ≤ k) (hl : S.length ≤ 1000000) (hS : ∀ f a, some (f, a) ∈ S → f.ok ∧ f.h ≤ 60) : callF p ns k i_first_pair [.lst (S.map (oD e))] t = .ok (match pairF 0 S with
    | some z => .tup [.int (z.1 : Nat), .int (z.2 : Nat)]
    | none => .non) t := by
  obtain ⟨k, rfl⟩ := up1 hk
  obtain ⟨h1, h2⟩ := fp_outer (ns := ns) (t := t) (k := k) (e := e) hl hS S 0 .un .un .un rfl
  rw [u_first_pair]
  cases hp : pairF 0 S with
  | some z =>
    obtain ⟨r', e1⟩ := h1 z hp
    simp [b_first_pair, e1]
  | none =>
    obtain ⟨a, b, c, e1⟩ := h2 hp
    simp [b_first_pair, e1]
end
end Lw

/-! ### steps: what the defs tell, fourth part -/
namespace Lw
open PySem Fm
section
variable {ns : List Int} {t : Tw} {k : Nat}
theorem pairB_lt {α : Type} {x : W × α} : ∀ {r : List (Option (W × α))} {i j : Nat}, pairB x i r = some j → i ≤ j ∧ j < i + r.length ∧ ∃ y, r[j - i]? = some (some y) ∧ x.1 = y.1
  | [], _, _, h => by cases h
  | none :: r, i, j, h => by
    obtain ⟨h1, h2, y, h3, h4⟩ := pairB_lt (r := r) h
    refine ⟨by omega, by simp; omega, y, ?_, h4⟩
    rw [show j - i = (j - (i + 1)) + 1 by omega]
    simpa using h3
  | some y :: r, i, j, h => by
    simp only [pairB] at h
    split at h
    · rename_i hx
      cases h
      exact ⟨Nat.le_refl _, by simp, y, by simp, hx⟩
    · obtain ⟨h1, h2, y', h3, h4⟩ := pairB_lt (r := r) h
      refine ⟨by omega, by simp; omega, y', ?_, h4⟩
      rw [show j - i = (j - (i + 1)) + 1 by omega]
      simpa using h3
/-- what a pair tells -/
theorem pairF_lt {α : Type} : ∀ {r : List (Option (W × α))} {i : Nat} {z : Nat × Nat}, pairF i r = some z → i ≤ z.1 ∧ z.1 < z.2 ∧ z.2 < i + r.length ∧ ∃ x y, r[z.1 - i]? = some (some x) ∧ r[z.2 - i]? = some (some y) ∧ x.1 = y.1
  | [], _, _, h => by cases h
  | none :: r, i, z, h => by
    obtain ⟨h1, h2, h3, x, y, h4, h5, h6⟩ := pairF_lt (r := r) h
    refine ⟨by omega, h2, by simp; omega, x, y, ?_, ?_, h6⟩
    · rw [show z.1 - i = (z.1 - (i + 1)) + 1 by omega]; simpa using h4
    · rw [show z.2 - i = (z.2 - (i + 1)) + 1 by omega]; simpa using h5
  | some x :: r, i, z, h => by
    simp only [pairF] at h
    cases hb : pairB x (i + 1) r with
    | some j =>
      rw [hb] at h
      cases h
      obtain ⟨h1, h2, y, h3, h4⟩ := pairB_lt hb
      refine ⟨Nat.le_refl _, by omega, by simp; omega, x, y, by simp, ?_, h4⟩
      rw [show j - i = (j - (i + 1)) + 1 by omega]; simpa using h3
    | none =>
      rw [hb] at h
      obtain ⟨h1, h2, h3, x', y, h4, h5, h6⟩ := pairF_lt (r := r) h
      refine ⟨by omega, h2, by simp; omega, x', y, ?_, ?_, h6⟩
      · rw [show z.1 - i = (z.1 - (i + 1)) + 1 by omega]; simpa using h4
      · rw [show z.2 - i = (z.2 - (i + 1)) + 1 by omega]; simpa using h5
theorem getD_of {ps : List W} {i : Nat} {f : W} (h : ps[i]? = some f) : ps.getD i default = f := by
  rw [List.getD_eq_getElem?_getD, h]
  rfl
theorem merge_ne {ps : List W} {i j : Nat} {f : W} (h1 : i < j) (h2 : j < ps.length) : mergeF ps i j f ≠ [] := by
  unfold mergeF
  intro h
  have h := List.map_eq_nil_iff.mp h
  have := List.filter_eq_nil_iff.mp h (ps[i], i) (by
    rw [List.mk_mem_zipIdx_iff_getElem?]
    exact List.getElem?_eq_getElem (by omega))
  simp at this
  omega
theorem e_merged (hk : 2 ≤ k) (m : Bool) {ps : List W} {i j : Nat} {f : W} (hl : ps.length ≤ 1000000) (h1 : i < j) (h2 : j < ps.length) : callF p ns k i_merged [.str (wM m), .tup (ps.map W.d), .tup [.int (i : Nat), .int (j : Nat)], f.d] t = .ok (alone m (mergeF ps i j f)).d t := by
  obtain ⟨k, rfl⟩ := up1 (show 1 ≤ k by omega)
  have ea := (e_alone (ns := ns) (t := t) (k := k) (by omega) m (merge_ne (f := f) h1 h2)).1
  rw [u_merged]
  simp only [b_merged, x_evSs_cons, x_consE]
  simp
  rw [comp_fm (fun p : W × Nat => D.tup [.int (p.2 : Nat), p.1.d]) (ps.zipIdx 0) (fun p => decide (p.2 ≠ j)) (fun p => (if p.2 = i then f else p.1).d) (by simp [enum_zip]) (by rw [List.length_zipIdx]; omega) (fun p _ => by
    simp
    have hj : decide ((p.2 : Int) = (j : Int)) = decide (p.2 = j) := by rw [Bool.eq_iff_iff]; simp; omega
    have hi : decide ((p.2 : Int) = (i : Int)) = decide (p.2 = i) := by rw [Bool.eq_iff_iff]; simp; omega
    rw [hj, hi]
    have hij : ¬ (i = j) := by omega
    have hji : ¬ (j = i) := by omega
    by_cases a : p.2 = j <;> by_cases b : p.2 = i <;> simp [a, b, hij, hji])]
  have hm : ((ps.zipIdx 0).filter (fun p => decide (p.2 ≠ j))).map (fun p => (if p.2 = i then f else p.1).d) = (mergeF ps i j f).map W.d := by
    unfold mergeF
    rw [List.map_map]
    rfl
  rw [hm]
  simp [ea]
theorem base_oD (o : Option (W × Nat)) : baseD o = oD (fun n : Nat => D.int (n : Nat)) o := by cases o <;> rfl
theorem baseOf_ok {f g : W} {a : Nat} (h : baseOf f = some (g, a)) (o : f.ok) (hh : f.h ≤ 60) : g.ok ∧ g.h ≤ 60 := by
  cases f with
  | num q => simp [baseOf] at h
  | nam x => simp [baseOf] at h; obtain ⟨rfl, _⟩ := h; exact ⟨o, hh⟩
  | pow f e => simp [baseOf] at h; obtain ⟨rfl, _⟩ := h; simp only [W.h] at hh; exact ⟨o.1, by omega⟩
  | many m ps =>
    cases m with
    | false => simp [baseOf] at h
    | true => simp [baseOf] at h; obtain ⟨rfl, _⟩ := h; exact ⟨o, hh⟩
theorem e_gather (hk : 3 ≤ k) {ps : List W} (h : okPs ps) : callF p ns k i_gather [.tup (ps.map W.d)] t = .ok (((gatherF ps).map W.d).getD .non) t := by
  obtain ⟨k, rfl⟩ := up1 (show 1 ≤ k by omega)
  have hl := h.1
  have hS : ∀ f a, some (f, a) ∈ ps.map baseOf → f.ok ∧ f.h ≤ 60 := by
    intro f a hm
    obtain ⟨g, hg, e⟩ := List.mem_map.mp hm
    exact baseOf_ok e (h.2 g hg).1 (h.2 g hg).2
  have ef := e_first_pair (ns := ns) (t := t) (k := k) (e := fun n : Nat => D.int (n : Nat)) (S := ps.map baseOf) (by omega) (by rw [List.length_map]; omega) hS
  rw [u_gather]
  simp only [b_gather, x_evSs_cons, x_consE]
  simp
  rw [comp_mp W.d ps (fun f => oD (fun n : Nat => D.int (n : Nat)) (baseOf f)) (by simp) (by omega) (fun f _ => by
    have e := e_base_of (ns := ns) (t := t) (k := k) (by omega) f
    simp [e, base_oD])]
  rw [List.map_map] at ef
  have e0 : (oD (fun n : Nat => D.int (n : Nat)) ∘ baseOf) = fun f => oD (fun n : Nat => D.int (n : Nat)) (baseOf f) := rfl
  rw [e0] at ef
  simp [ef]
  unfold gatherF
  cases hp : pairF 0 (ps.map baseOf) with
  | none => simp
  | some z =>
    obtain ⟨i, j⟩ := z
    obtain ⟨_, h1, h2, x, y, h3, h4, h5⟩ := pairF_lt hp
    obtain ⟨b, a⟩ := x
    obtain ⟨b', c⟩ := y
    simp only [Nat.sub_zero, Nat.zero_add, List.length_map] at h2 h3 h4 h5
    have hi : i < ps.length := by simp only at h1; omega
    have hj : j < ps.length := h2
    have bi : baseOf ps[i] = some (b, a) := by
      rw [List.getElem?_map, List.getElem?_eq_getElem hi] at h3
      simpa using h3
    have bj : baseOf ps[j] = some (b', c) := by
      rw [List.getElem?_map, List.getElem?_eq_getElem hj] at h4
      simpa using h4
    have gi : ps.getD i default = ps[i] := getD_of (List.getElem?_eq_getElem hi)
    have gj : ps.getD j default = ps[j] := getD_of (List.getElem?_eq_getElem hj)
    have ai : L2.atI (ps.map fun f => oD (fun n : Nat => D.int (n : Nat)) (baseOf f)) (i : Int) = some (.tup [b.d, .int (a : Nat)]) := by
      rw [atN (by rw [List.length_map]; exact hi)]
      simp [bi, oD]
    have aj : L2.atI (ps.map fun f => oD (fun n : Nat => D.int (n : Nat)) (baseOf f)) (j : Int) = some (.tup [b'.d, .int (c : Nat)]) := by
      rw [atN (by rw [List.length_map]; exact hj)]
      simp [bj, oD]
    have em := e_merged (ns := ns) (t := t) (k := k) (by omega) true (f := .pow b (a + c)) hl h1 h2
    simp [W.d] at em
    simp only [gi, gj, bi, bj]
    simp [ai, aj, em, okLen]
theorem kind_oD (o : Option (W × Rat)) : kindD o = oD qd o := by cases o <;> rfl
theorem alone_ok {m : Bool} {ps : List W} (h1 : ps ≠ []) (h : (W.many m ps).ok) : (alone m ps).ok ∧ (alone m ps).h ≤ (W.many m ps).h := by
  match ps, h1 with
  | [x], _ =>
    refine ⟨?_, ?_⟩
    · have := h.2
      simp only [Ws.ok] at this
      exact this.1
    · simp only [alone, W.h, Ws.h]
      omega
  | x :: y :: r, _ => exact ⟨h, Nat.le_refl _⟩
theorem kindOf_ok {f g : W} {a : Rat} (h : kindOf f = some (g, a)) (o : f.ok) (hf : ∀ m ps, f = .many m ps → 2 ≤ ps.length) : g.ok ∧ g.h ≤ f.h ∧ qs 4000 a := by
  have q1 : qs 4000 1 := ⟨by decide, by decide⟩
  cases f with
  | num q => simp [kindOf] at h
  | nam x => simp [kindOf] at h; obtain ⟨rfl, rfl⟩ := h; exact ⟨o, Nat.le_refl _, q1⟩
  | pow f e => simp [kindOf] at h; obtain ⟨rfl, rfl⟩ := h; exact ⟨o, Nat.le_refl _, q1⟩
  | many m ps =>
    cases m with
    | false => simp [kindOf] at h
    | true =>
      match ps, hf true ps rfl with
      | x :: y :: r, _ =>
        cases x with
        | num q =>
          simp [kindOf] at h
          obtain ⟨rfl, rfl⟩ := h
          have o' := o.2
          simp only [Ws.ok] at o'
          have hl := o.1
          simp only [List.length_cons] at hl
          have := alone_ok (m := true) (ps := y :: r) (by simp) ⟨by simp only [List.length_cons]; omega, o'.2.1, o'.2.2⟩
          refine ⟨this.1, ?_, o'.1⟩
          refine Nat.le_trans this.2 ?_
          simp only [W.h, Ws.h]
          omega
        | nam z => simp [kindOf] at h; obtain ⟨rfl, rfl⟩ := h; exact ⟨o, Nat.le_refl _, q1⟩
        | pow f e => simp [kindOf] at h; obtain ⟨rfl, rfl⟩ := h; exact ⟨o, Nat.le_refl _, q1⟩
        | many m' ps' => simp [kindOf] at h; obtain ⟨rfl, rfl⟩ := h; exact ⟨o, Nat.le_refl _, q1⟩
theorem e_like (hk : 4 ≤ k) {ps : List W} (h : okPs ps) (h2p : ∀ f ∈ ps, ∀ m qs, f = .many m qs → 2 ≤ qs.length) : callF p ns k i_like [.tup (ps.map W.d)] t = .ok (((likeF ps).map W.d).getD .non) t := by
  obtain ⟨k, rfl⟩ := up1 (show 1 ≤ k by omega)
  have hl := h.1
  have hS : ∀ f a, some (f, a) ∈ ps.map kindOf → f.ok ∧ f.h ≤ 60 := by
    intro f a hm
    obtain ⟨g, hg, e⟩ := List.mem_map.mp hm
    have h1 := kindOf_ok e (h.2 g hg).1 (h2p g hg)
    have := (h.2 g hg).2
    exact ⟨h1.1, by omega⟩
  have ef := e_first_pair (ns := ns) (t := t) (k := k) (e := qd) (S := ps.map kindOf) (by omega) (by rw [List.length_map]; omega) hS
  rw [u_like]
  simp only [b_like, x_evSs_cons, x_consE]
  simp
  rw [comp_mp W.d ps (fun f => oD qd (kindOf f)) (by simp) (by omega) (fun f hf => by
    have e := e_kind_of (ns := ns) (t := t) (k := k) (by omega) f (h2p f hf)
    simp [e, kind_oD])]
  rw [List.map_map] at ef
  have e0 : (oD qd ∘ kindOf) = fun f => oD qd (kindOf f) := rfl
  rw [e0] at ef
  simp [ef]
  unfold likeF
  cases hp : pairF 0 (ps.map kindOf) with
  | none => simp
  | some z =>
    obtain ⟨i, j⟩ := z
    obtain ⟨_, h1, h2, x, y, h3, h4, h5⟩ := pairF_lt hp
    obtain ⟨b, a⟩ := x
    obtain ⟨b', c⟩ := y
    simp only [Nat.sub_zero, Nat.zero_add, List.length_map] at h2 h3 h4 h5
    have hi : i < ps.length := by simp only at h1; omega
    have hj : j < ps.length := h2
    have bi : kindOf ps[i] = some (b, a) := by
      rw [List.getElem?_map, List.getElem?_eq_getElem hi] at h3
      simpa using h3
    have bj : kindOf ps[j] = some (b', c) := by
      rw [List.getElem?_map, List.getElem?_eq_getElem hj] at h4
      simpa using h4
    have gi : ps.getD i default = ps[i] := getD_of (List.getElem?_eq_getElem hi)
    have gj : ps.getD j default = ps[j] := getD_of (List.getElem?_eq_getElem hj)
    have ai : L2.atI (ps.map fun f => oD qd (kindOf f)) (i : Int) = some (.tup [b.d, qd a]) := by
      rw [atN (by rw [List.length_map]; exact hi)]
      simp [bi, oD]
    have aj : L2.atI (ps.map fun f => oD qd (kindOf f)) (j : Int) = some (.tup [b'.d, qd c]) := by
      rw [atN (by rw [List.length_map]; exact hj)]
      simp [bj, oD]
    have oi := kindOf_ok bi (h.2 _ (List.getElem_mem hi)).1 (h2p _ (List.getElem_mem hi))
    have oj := kindOf_ok bj (h.2 _ (List.getElem_mem hj)).1 (h2p _ (List.getElem_mem hj))
    have ep := e_frac_plus (ns := ns) (t := t) (k := k) (by omega) oi.2.2 oj.2.2 (by omega)
    have em := e_merged (ns := ns) (t := t) (k := k) (by omega) false (f := .many true (.num (a + c) :: restP b)) hl h1 h2
    simp [W.d] at em
    simp only [gi, gj, bi, bj]
    have e0b : ixD b.d (.int 0) = some (.str b.wd) := ix0 b
    have hrl : 1 + (restP b).length ≤ 16777216 := by
      cases b with
      | many m qs =>
        have := oi.1.1
        cases m
        · simp [restP]
        · simp only [restP]; omega
      | _ => simp [restP]
    simp [ai, aj, ep, okLen]
    cases b with
    | many m qs =>
      cases m
      · simp [restP, W.d] at em
        simp [W.d, okLen, em, restP]
      · simp [restP] at hrl
        simp [restP, W.d, okLen] at em
        simp [W.d, okLen, em, hrl, restP]
    | _ =>
      simp [restP, W.d] at em
      simp [W.d, okLen, em, restP]
theorem cut_to {α : Type} (xs : List α) (n : Nat) : cutL xs none (some (n : Int)) = xs.take n := by
  unfold cutL
  rw [HT.sIx_nat, HT.sIx_none, List.drop_zero, Nat.sub_zero]
  by_cases h : n ≤ xs.length
  · rw [Nat.min_eq_left h]
  · rw [Nat.min_eq_right (by omega), List.take_of_length_le (by omega), List.take_of_length_le (by omega)]
theorem cut_from {α : Type} (xs : List α) (n : Nat) : cutL xs (some (n : Int)) none = xs.drop n := by
  unfold cutL
  rw [HT.sIx_nat, HT.sIx_none]
  by_cases h : n ≤ xs.length
  · rw [Nat.min_eq_left h, List.take_of_length_le (by simp)]
  · rw [Nat.min_eq_right (by omega), Nat.sub_self, List.take_zero, List.drop_of_length_le (by omega)]
theorem spread_pl : ∀ (ps : List W) (i : Nat), match spreadP ps with
    | some (a, b, c) => ps = a ++ .many false b :: c ∧ ∃ rest, ((ps.zipIdx i).filter (fun p => p.1.isMany false)).map (·.2) = (i + a.length) :: rest
    | none => (ps.zipIdx i).filter (fun p => p.1.isMany false) = []
  | [], i => rfl
  | x :: ps, i => by
    have ih := spread_pl ps (i + 1)
    rw [List.zipIdx_cons, List.filter_cons]
    cases x with
    | many m qs =>
      cases m with
      | false => exact ⟨rfl, _, rfl⟩
      | true =>
        simp only [spreadP]
        cases h : spreadP ps with
        | none => rw [h] at ih; simpa [W.isMany] using ih
        | some z =>
          obtain ⟨a, b, c⟩ := z
          rw [h] at ih
          obtain ⟨h1, rest, h2⟩ := ih
          refine ⟨by rw [h1]; rfl, rest, ?_⟩
          have hx : ¬ (W.isMany false (W.many true qs) = true) := by simp [W.isMany]
          rw [if_neg hx]
          simpa [Nat.add_assoc, Nat.add_comm 1] using h2
    | _ =>
      simp only [spreadP]
      cases h : spreadP ps with
      | none => rw [h] at ih; simpa [W.isMany] using ih
      | some z =>
        obtain ⟨a, b, c⟩ := z
        rw [h] at ih
        obtain ⟨h1, rest, h2⟩ := ih
        refine ⟨by rw [h1]; rfl, rest, ?_⟩
        rw [if_neg (by simp [W.isMany])]
        simpa [Nat.add_assoc, Nat.add_comm 1] using h2
theorem e_spread (hk : 1 ≤ k) {ps : List W} (h : okPs ps) : callF p ns k i_spread [.tup (ps.map W.d)] t = .ok (((spreadF ps).map W.d).getD .non) t := by
  obtain ⟨k, rfl⟩ := up1 (show 1 ≤ k by omega)
  have e : ∀ f : W, ixD f.d (.int 0) = some (.str f.wd) := ix0
  have hl := h.1
  have hs := spread_pl ps 0
  rw [u_spread]
  simp only [b_spread, x_evSs_cons, x_consE]
  simp
  rw [comp_fm (fun p : W × Nat => D.tup [.int (p.2 : Nat), p.1.d]) (ps.zipIdx 0) (fun p => p.1.isMany false) (fun p => .int (p.2 : Nat)) (by simp [enum_zip]) (by rw [List.length_zipIdx]; omega) (fun p _ => by
    simp [e, eq_add]
    cases p.1.isMany false <;> simp)]
  unfold spreadF
  cases hp : spreadP ps with
  | none =>
    rw [hp] at hs
    rw [hs]
    simp
  | some z =>
    obtain ⟨a, b, c⟩ := z
    rw [hp] at hs
    obtain ⟨h1, rest, h2⟩ := hs
    have hm : ((ps.zipIdx 0).filter (fun p => p.1.isMany false)).map (fun p => D.int (p.2 : Nat)) = .int (a.length : Nat) :: rest.map fun n : Nat => D.int (n : Nat) := by
      have : ((ps.zipIdx 0).filter (fun p => p.1.isMany false)).map (fun p => D.int (p.2 : Nat)) = (((ps.zipIdx 0).filter (fun p => p.1.isMany false)).map (·.2)).map fun n : Nat => D.int (n : Nat) := by
        rw [List.map_map]; rfl
      rw [this, h2]
      simp
    rw [hm]
    have hla : a.length < ps.length := by rw [h1]; simp
    have hat : L2.atI (ps.map W.d) (a.length : Int) = some (W.many false b).d := by
      rw [atN (by rw [List.length_map]; exact hla)]
      subst h1
      simp
    have hob : b.length ≤ 1000000 := by
      have := (h.2 (.many false b) (by rw [h1]; simp)).1
      exact this.1
    simp [hat, W.d]
    have c1 : cutL (ps.map W.d) none (some (a.length : Int)) = a.map W.d := by
      rw [cut_to]
      subst h1
      simp
    have c2 : cutL (ps.map W.d) (some ((a.length : Int) + 1)) none = c.map W.d := by
      have := cut_from (ps.map W.d) (a.length + 1)
      rw [Int.natCast_add] at this
      refine Eq.trans this ?_
      subst h1
      simp [List.drop_append]
    have hlen : a.length + 1 + c.length ≤ 1000000 := by
      rw [h1] at hl
      simp at hl
      omega
    rw [comp_mp W.d b (fun f => (W.many true (a ++ [f] ++ c)).d) (by simp [hat, W.d]) (by omega) (fun f _ => by
      have o1 : okLen (a.length + 1) = true := okS (by omega)
      have o2 : okLen (a.length + 1 + c.length) = true := okS (by omega)
      have o3 : okLen (a.length + (c.length + 1)) = true := okS (by omega)
      have o4 : okLen 1 = true := okS
      have o5 : okLen 2 = true := okS
      simp [c1, c2, W.d, o1, o2, o3, o4, o5])]
    simp [okLen, W.d]
/-- what a rule needs of a formula -/
structure RuleOk (f : W) : Prop where
  ok : f.ok
  h : f.h ≤ 60
  two : ∀ m ps, f = .many m ps → ∀ g ∈ ps, ∀ m' qs, g = .many m' qs → 2 ≤ qs.length
  tot : ∀ m ps, f = .many m ps → okTot m ps
  flat : ∀ m ps, f = .many m ps → (ps.flatMap (flatP m)).length ≤ 1000000
  pw : ∀ g e, f = .pow g e → okPow2 g e
def ruleW : Fin 8 → Str
  | 0 => "flat" | 1 => "fold" | 2 => "none" | 3 => "power" | 4 => "gather" | 5 => "spread" | 6 => "like" | 7 => "order"
theorem eqTs {ps qs : List W} (h : okPs ps) (h' : okPs qs) : eqOp (.tup (ps.map W.d)) (.tup (qs.map W.d)) = some (.bl (decide (ps = qs))) := by
  have l1 : lay (.tup (ps.map W.d)) = true := lay_tup.mpr fun x hx => by
    obtain ⟨f, hf, rfl⟩ := List.mem_map.mp hx
    exact layW (h.2 f hf).1
  have l2 : lay (.tup (qs.map W.d)) = true := lay_tup.mpr fun x hx => by
    obtain ⟨f, hf, rfl⟩ := List.mem_map.mp hx
    exact layW (h'.2 f hf).1
  have d1 : dep (.tup (ps.map W.d)) ≤ 123 := dep_tup_le fun x hx => by
    obtain ⟨f, hf, rfl⟩ := List.mem_map.mp hx
    have := depW f
    have := (h.2 f hf).2
    omega
  have o : okEq (.tup (ps.map W.d)) (.tup (qs.map W.d)) = true := by
    simp only [okEq, l1, l2, Bool.and_eq_true, decide_eq_true_eq, true_and, and_self]
    omega
  rw [eqOp, o, if_pos rfl, eqD_tup]
  congr 2
  rw [Bool.eq_iff_iff, decide_eq_true_eq]
  exact eqDs_map W.d ps qs fun x _ y _ => eqW' x y
theorem okPs_of {m : Bool} {ps : List W} (h1 : (W.many m ps).ok) (h2 : (W.many m ps).h ≤ 60) : okPs ps := by
  refine ⟨h1.1, fun f hf => ⟨Ws_ok.mp h1.2 f hf, ?_⟩⟩
  have := Ws_h hf
  simp only [W.h] at h2
  omega
theorem e_by_rule {f : W} (hk : f.h + 7 ≤ k) (h : RuleOk f) (r : Fin 8) : callF p ns k i_by_rule [.str (ruleW r), f.d] t = .ok (((byRule r f).map W.d).getD .non) t := by
  obtain ⟨k, rfl⟩ := up1 (show 1 ≤ k by omega)
  rw [u_by_rule]
  cases f with
  | num q =>
    match r with
    | 0 | 1 | 2 | 3 | 4 | 5 | 6 | 7 => simp [b_by_rule, W.d, byRule, ruleW]
  | nam x =>
    match r with
    | 0 | 1 | 2 | 3 | 4 | 5 | 6 | 7 => simp [b_by_rule, W.d, byRule, ruleW]
  | pow g e =>
    have ep := e_powered (ns := ns) (t := t) (k := k) (by omega) h.ok.1 h.ok.2 (h.pw g e rfl)
    match r with
    | 3 => simp [b_by_rule, W.d, byRule, ruleW, ep]
    | 0 | 1 | 2 | 4 | 5 | 6 | 7 => simp [b_by_rule, W.d, byRule, ruleW]
  | many m ps =>
    have hp := okPs_of h.ok h.h
    have hh : Ws.h ps + 7 ≤ k := by have := hk; simp only [W.h] at this; omega
    match r with
    | 0 =>
      have e := e_flat (ns := ns) (t := t) (k := k) (by omega) m hp (h.flat m ps rfl)
      cases m <;> (simp at e; simp [b_by_rule, W.d, byRule, ruleW, e])
    | 1 =>
      have e := e_fold (ns := ns) (t := t) (k := k) (by omega) m hp (h.tot m ps rfl)
      cases m <;> (simp at e; simp [b_by_rule, W.d, byRule, ruleW, e])
    | 2 =>
      have e := e_none (ns := ns) (t := t) (k := k) (by omega) m hp
      cases m <;> (simp at e; simp [b_by_rule, W.d, byRule, ruleW, e])
    | 3 => cases m <;> simp [b_by_rule, W.d, byRule, ruleW]
    | 4 =>
      have e := e_gather (ns := ns) (t := t) (k := k) (by omega) hp
      cases m <;> simp [b_by_rule, W.d, byRule, ruleW, e]
    | 5 =>
      have e := e_spread (ns := ns) (t := t) (k := k) (by omega) hp
      cases m <;> simp [b_by_rule, W.d, byRule, ruleW, e]
    | 6 =>
      have e := e_like (ns := ns) (t := t) (k := k) (by omega) hp (h.two m ps rfl)
      cases m <;> simp [b_by_rule, W.d, byRule, ruleW, e]
    | 7 =>
      have e := e_in_order (ns := ns) (t := t) (k := k) (ps := ps) (by omega) (fun f hf => ⟨(hp.2 f hf).1, (hp.2 f hf).2, by have := Ws_h hf; omega⟩) hp.1
      have ho : okPs (inOrder ps) := ⟨by rw [inOrder_len]; exact hp.1, fun f hf => hp.2 f (inOrder_mem.mp hf)⟩
      have eq := eqTs ho hp
      by_cases hz : inOrder ps = ps
      · have ef : byRule 7 (.many m ps) = none := by simp [byRule, orderF, hz]
        rw [ef]
        simp [hz] at eq
        rw [hz] at e
        cases m <;> simp [b_by_rule, W.d, ruleW, e, eq]
      · have ef : byRule 7 (.many m ps) = some (.many m (inOrder ps)) := by simp [byRule, orderF, hz]
        rw [ef]
        cases m <;> simp [b_by_rule, W.d, ruleW, e, eq, hz, okLen]
end
end Lw

/-! ### parts and paths of whole formulas; results -/
namespace Lw
open PySem Fm
section
variable {ns : List Int} {t : Tw} {k : Nat}
abbrev pd (q : List Int) : D := .tup (q.map D.int)
theorem lay_pd (q : List Int) : lay (pd q) = true := lay_tup.mpr fun x hx => by
  obtain ⟨i, _, rfl⟩ := List.mem_map.mp hx
  simp
theorem eq0_pd (q : List Int) : eqOp (pd q) (.tup []) = some (.bl q.isEmpty) := by
  rw [x_eq0 (lay_pd q)]
  simp
theorem kid_in {f g : W} {s : Int} (h : f.kid s = some g) : 0 ≤ s ∧ s < f.kids.length ∧ f.kids[s.toNat]? = some g := by
  unfold W.kid at h
  split at h
  · rename_i hs
    have := (List.getElem?_eq_some_iff.mp h).1
    exact ⟨hs, by omega, h⟩
  · cases h
theorem kid_no {f : W} {s : Int} (h : f.kid s = none) : ¬ (0 ≤ s ∧ s < f.kids.length) := fun ⟨h1, h2⟩ => by
  unfold W.kid at h
  rw [if_pos h1, List.getElem?_eq_getElem (by omega)] at h
  cases h
theorem atI_kid {f g : W} {s : Int} (h : f.kid s = some g) : L2.atI (f.kids.map W.d) s = some g.d := by
  obtain ⟨h1, h2, h3⟩ := kid_in h
  unfold L2.atI L2.ixN
  rw [if_pos h1, if_pos (by rw [List.length_map]; exact h2)]
  show (f.kids.map W.d)[s.toNat]? = _
  rw [List.getElem?_map, h3]
  rfl
theorem ixN_kid {f g : W} {s : Int} (h : f.kid s = some g) : L2.ixN f.kids.length s = some s.toNat := by
  obtain ⟨h1, h2, h3⟩ := kid_in h
  unfold L2.ixN
  rw [if_pos h1, if_pos h2]
theorem kid_h {f g : W} {s : Int} (h : f.kid s = some g) : g.h + 1 ≤ f.h := by
  obtain ⟨_, _, h3⟩ := kid_in h
  have hm := List.mem_of_getElem? h3
  cases f with
  | many m ps => simp only [W.kids] at hm; have := Ws_h hm; simp only [W.h]; omega
  | pow f e => simp only [W.kids, List.mem_cons, List.not_mem_nil, or_false] at hm; subst hm; simp only [W.h]; omega
  | _ => simp [W.kids] at hm
theorem kid_ok {f g : W} {s : Int} (h : f.kid s = some g) (o : f.ok) : g.ok := by
  obtain ⟨_, _, h3⟩ := kid_in h
  have hm := List.mem_of_getElem? h3
  cases f with
  | many m ps => exact Ws_ok.mp o.2 g hm
  | pow f e => simp only [W.kids, List.mem_cons, List.not_mem_nil, or_false] at hm; subst hm; exact o.1
  | _ => simp [W.kids] at hm
theorem at_len : ∀ {q : List Int} {f g : W}, W.at? q f = some g → q.length + g.h ≤ f.h
  | [], _, _, h => by cases h; simp
  | s :: q, f, g, h => by
    simp only [W.at?] at h
    cases e : f.kid s with
    | none => simp [e] at h
    | some q' =>
      simp only [e] at h
      have h1 := kid_h e
      have h2 := at_len h
      rw [List.length_cons]
      omega
theorem at_ok : ∀ {q : List Int} {f g : W}, W.at? q f = some g → f.ok → g.ok
  | [], _, _, h, o => by cases h; exact o
  | s :: q, f, g, h, o => by
    simp only [W.at?] at h
    cases e : f.kid s with
    | none => simp [e] at h
    | some q' =>
      simp only [e] at h
      exact at_ok h (kid_ok e o)
theorem seq_exc {G : Gam} {cs : Nat → D} {s : S} {q : Ss} {r : Rho} {t t1 : Tw} {n : Nat} (h : evS G cs s r t = .exc n t1) : evSs G cs (.cons s q) r t = .exc n t1 := by
  rw [evSs_cons]
  unfold consE
  rw [h]
  rfl
theorem e_parts_of (hk : 1 ≤ k) (f : W) : callF p ns k i_parts_of [f.d] t = .ok (.tup (f.kids.map W.d)) t := by
  obtain ⟨k, rfl⟩ := up1 hk
  rw [u_parts_of]
  cases f with
  | many m ps => cases m <;> simp [b_parts_of, W.d, W.kids, okLen]
  | _ => simp [b_parts_of, W.d, W.kids, okLen, qd]
theorem e_with_parts (hk : 1 ≤ k) {f g o : W} {s : Int} (h : f.kid s = some g) : callF p ns k i_with_parts [f.d, .tup ((f.kids.map W.d).set s.toNat o.d)] t = .ok (f.set s.toNat o).d t := by
  obtain ⟨k, rfl⟩ := up1 hk
  obtain ⟨h1, h2, h3⟩ := kid_in h
  rw [u_with_parts]
  cases f with
  | many m ps =>
    cases m <;> simp [b_with_parts, W.d, W.kids, W.set, okLen, List.map_set]
  | pow f e =>
    simp [W.kids] at h2
    obtain rfl : s = 0 := by omega
    simp [b_with_parts, W.d, W.kids, W.set, okLen]
  | num q => exact absurd h2 (by show ¬ (s < ((0 : Nat) : Int)); omega)
  | nam x => exact absurd h2 (by show ¬ (s < ((0 : Nat) : Int)); omega)
theorem pa_step (hk : 1 ≤ k) (f : W) (s : Int) (a b : Sl) : evSs (gam p ns k) (csOf cst) b_part_at_1 [.val f.d, a, .val (.int s), b] t = match f.kid s with
    | some g => .ok (.nx, [.val g.d, a, .val (.int s), .val (.tup (f.kids.map W.d))]) t
    | none => .exc 5 t := by
  have e1 := e_parts_of (ns := ns) (t := t) hk f
  have e2 := e_is_wholeL (ns := ns) (t := t) hk (.int s) 0 rfl
  cases h : f.kid s with
  | some g =>
    obtain ⟨h1, h2, h3⟩ := kid_in h
    have hn : ¬ ((f.kids.length : Int) ≤ s) := by omega
    simp [b_part_at_1, e1, e2, isWL, h1, hn, atI_kid h]
  | none =>
    have hn := kid_no h
    by_cases h1 : 0 ≤ s
    · have h2 : (f.kids.length : Int) ≤ s := by omega
      simp [b_part_at_1, e1, e2, isWL, h1, h2]
    · simp [b_part_at_1, e1, e2, isWL, h1]
theorem pa_loop (hk : 1 ≤ k) (a : Sl) : ∀ (q : List Int) (f : W) (b c : Sl), (∀ g, W.at? q f = some g → ∃ b' c', loopF (lp ns k (.name 2) b_part_at_1) (q.map D.int) [.val f.d, a, b, c] t = .ok (.nx, [.val g.d, a, b', c']) t) ∧ (W.at? q f = none → loopF (lp ns k (.name 2) b_part_at_1) (q.map D.int) [.val f.d, a, b, c] t = .exc 5 t) := by
  intro q
  induction q with
  | nil =>
    intro f b c
    exact ⟨fun g h => (by cases h; exact ⟨b, c, rfl⟩), fun h => (by cases h)⟩
  | cons s q ih =>
    intro f b c
    have e := pa_step (ns := ns) (t := t) hk f s a c
    simp only [W.at?]
    rw [List.map_cons, loopF, lp_eq (r1 := [.val f.d, a, .val (.int s), c]) rfl, e]
    cases hs : f.kid s with
    | none => exact ⟨fun g h => (by cases h), fun _ => rfl⟩
    | some g0 => exact ih g0 _ _
theorem e_part_at (hk : 2 ≤ k) {f g : W} {q : List Int} (h : W.at? q f = some g) : callF p ns k i_part_at [f.d, pd q] t = .ok g.d t := by
  obtain ⟨k, rfl⟩ := up1 (show 1 ≤ k by omega)
  rw [u_part_at]
  obtain ⟨b, c, e⟩ := (pa_loop (ns := ns) (t := t) (k := k) (by omega) (.val (pd q)) q f .un .un).1 g h
  simp [b_part_at, e]
theorem e_part_no (hk : 2 ≤ k) {f : W} {q : List Int} (h : W.at? q f = none) : callF p ns k i_part_at [f.d, pd q] t = .exc 5 t := by
  obtain ⟨k, rfl⟩ := up1 (show 1 ≤ k by omega)
  rw [u_part_at]
  have e := (pa_loop (ns := ns) (t := t) (k := k) (by omega) (.val (pd q)) q f .un .un).2 h
  simp [b_part_at, e]
theorem e_with_no (hk : 3 ≤ k) {f : W} {q : List Int} (o : D) (h : W.at? q f = none) : callF p ns k i_with_part [f.d, pd q, o] t = .exc 5 t := by
  obtain ⟨k, rfl⟩ := up1 (show 1 ≤ k by omega)
  rw [u_with_part]
  have e := e_part_no (ns := ns) (t := t) (k := k) (by omega) h
  simp [b_with_part, e]
theorem e_with_part : ∀ (k : Nat) (q : List Int) (f g o : W), q.length + 3 ≤ k → W.at? q f = some g → callF p ns k i_with_part [f.d, pd q, o.d] t = .ok (W.put q f o).d t := by
  intro k
  induction k with
  | zero => intro q f g o hk; omega
  | succ k ih =>
    intro q f g o hk h
    rw [u_with_part]
    have e := e_part_at (ns := ns) (t := t) (k := k) (by omega) h
    have e0 := eq0_pd q
    cases q with
    | nil =>
      simp at e e0
      simp [b_with_part, e, e0, W.put]
    | cons s q =>
      simp at e e0
      simp only [W.at?] at h
      cases hs : f.kid s with
      | none => simp [hs] at h
      | some g0 =>
        simp only [hs] at h
        have e1 := e_parts_of (ns := ns) (t := t) (k := k) (by omega) f
        have e2 := ih q g0 g o (by simp at hk; omega) h
        have e3 := e_with_parts (ns := ns) (t := t) (k := k) (by omega) (o := W.put q g0 o) hs
        simp [b_with_part, e, e0, e1, atI_kid hs, cut1, e2, ixN_kid hs, e3, W.put, hs]
/-- pairs of rules and formulas -/
def resD (x : Fin 8 × W) : D := .tup [.str (ruleW x.1), x.2.d]
def ruleL : List (Fin 8) := [0, 1, 2, 3, 4, 5, 6, 7]
theorem rule_fin : List.finRange 8 = ruleL := by decide
theorem e_results {f g : W} {q : List Int} (hk : f.h + 9 ≤ k) (h : W.at? q f = some g) (hr : RuleOk g) : callF p ns k i_results [f.d, pd q] t = .ok (.tup ((resultsF f q).map resD)) t := by
  obtain ⟨k, rfl⟩ := up1 (show 1 ≤ k by omega)
  have hl := at_len h
  have e1 := e_part_at (ns := ns) (t := t) (k := k) (by omega) h
  rw [u_results]
  simp only [b_results, x_evSs_cons, x_consE]
  simp [e1]
  have hR : D.tup [.str "flat", .str "fold", .str "none", .str "power", .str "gather", .str "spread", .str "like", .str "order"] = .tup (ruleL.map fun r => .str (ruleW r)) := rfl
  rw [comp_mp (fun r => D.str (ruleW r)) ruleL (fun r => .tup [.str (ruleW r), ((byRule r g).map W.d).getD .non]) (by simp; rfl) (by decide) (fun r _ => by
    have e := e_by_rule (ns := ns) (t := t) (k := k) (f := g) (by omega) hr r
    simp [e, okLen])]
  simp
  rw [comp_fm (fun r => D.tup [.str (ruleW r), ((byRule r g).map W.d).getD .non]) ruleL (fun r => (byRule r g).isSome) (fun r => .tup [.str (ruleW r), (W.put q f ((byRule r g).getD default)).d]) (by simp) (by decide) (fun r _ => by
    cases hb : byRule r g with
    | none => simp
    | some o =>
      have e := e_with_part (ns := ns) (t := t) k q f g o (by omega) h
      have hn : isN o.d = false := by cases o <;> rfl
      simp [hn, e, okLen])]
  have hf : resultsF f q = (ruleL.filter fun r => (byRule r g).isSome).map fun r => (r, W.put q f ((byRule r g).getD default)) := by
    simp only [resultsF, h, rule_fin]
    generalize ruleL = L
    induction L with
    | nil => rfl
    | cons r L ih =>
      cases hb : byRule r g with
      | none => simp [hb, ih]
      | some o => simp [hb, ih]
  rw [hf]
  simp [List.map_map, Function.comp_def, resD]
theorem e_results_no {f : W} {q : List Int} (hk : 3 ≤ k) (h : W.at? q f = none) : callF p ns k i_results [f.d, pd q] t = .exc 5 t := by
  obtain ⟨k, rfl⟩ := up1 (show 1 ≤ k by omega)
  have e1 := e_part_no (ns := ns) (t := t) (k := k) (by omega) h
  rw [u_results]
  simp [b_results, e1]
end
end Lw

/-! ### the next step: plain -/
namespace Lw
open PySem Fm
/-- the first rule for a formula -/
def firstRule (f : W) : Option (Fin 8 × W) := ((List.finRange 8).filterMap fun r => (byRule r f).map fun o => (r, o)).head?
def rootP (f : W) : Option (List Int) := if (firstRule f).isSome then some [] else none
mutual
def W.first : W → Option (List Int)
  | .num q => rootP (.num q)
  | .nam x => rootP (.nam x)
  | .many m ps => match Ws.first 0 ps with
    | some p => some p
    | none => rootP (.many m ps)
  | .pow g e => match W.first g with
    | some p => some (0 :: p)
    | none => rootP (.pow g e)
def Ws.first : Nat → List W → Option (List Int)
  | _, [] => none
  | i, f :: fs => match W.first f with
    | some p => some ((i : Int) :: p)
    | none => Ws.first (i + 1) fs
end
/-- the next step -/
def nextF (f : W) : Option (Fin 8 × List Int × W) := match W.first f with
  | none => none
  | some p => match W.at? p f with
    | none => none
    | some g => match firstRule g with
      | none => none
      | some (r, o) => some (r, p, W.put p f o)
/-- no rule for it, nor within it -/
def W.norm (f : W) : Bool := (W.first f).isNone
theorem Ws_first_none : ∀ {ps : List W} {i : Nat}, Ws.first i ps = none ↔ ∀ f ∈ ps, f.norm = true
  | [], _ => by simp [Ws.first]
  | f :: fs, i => by
    have ih := Ws_first_none (ps := fs) (i := i + 1)
    simp only [Ws.first, List.mem_cons, forall_eq_or_imp]
    cases h : W.first f with
    | some p => simp [W.norm, h]
    | none => simp [W.norm, h, ih]
theorem Ws_first_some : ∀ {ps : List W} {i : Nat} {p : List Int}, Ws.first i ps = some p → ∃ j q f, p = ((i + j : Nat) : Int) :: q ∧ ps[j]? = some f ∧ W.first f = some q
  | [], _, _, h => by simp [Ws.first] at h
  | f :: fs, i, p, h => by
    simp only [Ws.first] at h
    cases hf : W.first f with
    | some q =>
      rw [hf] at h
      cases h
      exact ⟨0, q, f, by simp, rfl, hf⟩
    | none =>
      rw [hf] at h
      obtain ⟨j, q, g, h1, h2, h3⟩ := Ws_first_some (ps := fs) (i := i + 1) h
      refine ⟨j + 1, q, g, ?_, by simpa using h2, h3⟩
      rw [h1]
      congr 2
      omega
/-- what the first place tells -/
theorem first_cases (f : W) : (f.first = none ∧ (∀ g ∈ f.kids, g.norm = true) ∧ firstRule f = none) ∨ (f.first = some [] ∧ (∀ g ∈ f.kids, g.norm = true) ∧ ∃ x, firstRule f = some x) ∨ ∃ j q g, f.first = some (((j : Nat) : Int) :: q) ∧ f.kids[j]? = some g ∧ g.first = some q := by
  cases f with
  | num q =>
    cases h : firstRule (.num q) with
    | none => exact .inl ⟨by simp [W.first, rootP, h], by simp [W.kids], rfl⟩
    | some x => exact .inr (.inl ⟨by simp [W.first, rootP, h], by simp [W.kids], x, rfl⟩)
  | nam y =>
    cases h : firstRule (.nam y) with
    | none => exact .inl ⟨by simp [W.first, rootP, h], by simp [W.kids], rfl⟩
    | some x => exact .inr (.inl ⟨by simp [W.first, rootP, h], by simp [W.kids], x, rfl⟩)
  | many m ps =>
    cases hp : Ws.first 0 ps with
    | some p =>
      obtain ⟨j, q, g, h1, h2, h3⟩ := Ws_first_some hp
      refine .inr (.inr ⟨j, q, g, ?_, h2, h3⟩)
      simp only [W.first, hp, h1]
      simp
    | none =>
      have hk := Ws_first_none.mp hp
      cases h : firstRule (.many m ps) with
      | none => exact .inl ⟨by simp [W.first, rootP, h, hp], hk, rfl⟩
      | some x => exact .inr (.inl ⟨by simp [W.first, rootP, h, hp], hk, x, rfl⟩)
  | pow g e =>
    cases hp : W.first g with
    | some p => exact .inr (.inr ⟨0, p, g, by simp [W.first, hp], rfl, hp⟩)
    | none =>
      have hk : ∀ g' ∈ (W.pow g e).kids, g'.norm = true := by
        intro g' hg
        simp only [W.kids, List.mem_cons, List.not_mem_nil, or_false] at hg
        subst hg
        simp [W.norm, hp]
      cases h : firstRule (.pow g e) with
      | none => exact .inl ⟨by simp [W.first, rootP, h, hp], hk, rfl⟩
      | some x => exact .inr (.inl ⟨by simp [W.first, rootP, h, hp], hk, x, rfl⟩)
/-- what the next step tells -/
theorem next_cases (f : W) : (nextF f = none ∧ f.norm = true ∧ (∀ g ∈ f.kids, g.norm = true) ∧ firstRule f = none) ∨ (∃ r o, nextF f = some (r, [], o) ∧ f.norm = false ∧ (∀ g ∈ f.kids, g.norm = true) ∧ firstRule f = some (r, o)) ∨
    ∃ j g r q o, nextF f = some (r, ((j : Nat) : Int) :: q, f.set j o) ∧ f.norm = false ∧ f.kids[j]? = some g ∧ nextF g = some (r, q, o) := by
  have key : ∀ (n : Nat) (f : W), f.h ≤ n → (∀ q, f.first = some q → ∃ g x, W.at? q f = some g ∧ firstRule g = some x) := by
    intro n
    induction n with
    | zero =>
      intro f hf q hq
      rcases first_cases f with ⟨h1, _, _⟩ | ⟨h1, _, x, h3⟩ | ⟨j, q', g, h1, h2, h3⟩
      · rw [h1] at hq; cases hq
      · rw [h1] at hq; cases hq; exact ⟨f, x, rfl, h3⟩
      · exfalso
        have := kid_h (f := f) (g := g) (s := (j : Int)) (by simp [W.kid, h2])
        omega
    | succ n ih =>
      intro f hf q hq
      rcases first_cases f with ⟨h1, _, _⟩ | ⟨h1, _, x, h3⟩ | ⟨j, q', g, h1, h2, h3⟩
      · rw [h1] at hq; cases hq
      · rw [h1] at hq; cases hq; exact ⟨f, x, rfl, h3⟩
      · rw [h1] at hq
        cases hq
        have hk : f.kid (j : Int) = some g := by simp [W.kid, h2]
        have := kid_h hk
        obtain ⟨g', x, e1, e2⟩ := ih g (by omega) q' h3
        exact ⟨g', x, by simp [W.at?, hk, e1], e2⟩
  rcases first_cases f with ⟨h1, h2, h3⟩ | ⟨h1, h2, x, h3⟩ | ⟨j, q, g, h1, h2, h3⟩
  · exact .inl ⟨by simp [nextF, h1], by simp [W.norm, h1], h2, h3⟩
  · obtain ⟨r, o⟩ := x
    exact .inr (.inl ⟨r, o, by simp [nextF, h1, W.at?, h3, W.put], by simp [W.norm, h1], h2, h3⟩)
  · have hk : f.kid (j : Int) = some g := by simp [W.kid, h2]
    obtain ⟨g', x, e1, e2⟩ := key g.h g (Nat.le_refl _) q h3
    obtain ⟨r, o⟩ := x
    refine .inr (.inr ⟨j, g, r, q, W.put q g o, ?_, by simp [W.norm, h1], h2, ?_⟩)
    · simp [nextF, h1, W.at?, hk, e1, e2, W.put]
    · simp [nextF, h3, e1, e2]
/-- an induction over the place of the next step -/
theorem next_ind {φ : W → W → Prop} (h1 : ∀ f r o, (∀ g ∈ f.kids, g.norm = true) → firstRule f = some (r, o) → φ f o) (h2 : ∀ f j g o, f.norm = false → f.kids[j]? = some g → φ g o → φ f (f.set j o)) : ∀ (f : W) (r : Fin 8) (q : List Int) (o : W), nextF f = some (r, q, o) → φ f o := by
  have key : ∀ (n : Nat) (f : W), f.h ≤ n → ∀ r q o, nextF f = some (r, q, o) → φ f o := by
    intro n
    induction n with
    | zero =>
      intro f hf r q o h
      rcases next_cases f with ⟨e, _⟩ | ⟨r', o', e, _, hk, hr⟩ | ⟨j, g, r', q', o', e, _, hk, hg⟩
      · rw [e] at h; cases h
      · rw [e] at h; cases h; exact h1 f _ _ hk hr
      · exfalso
        have := kid_h (f := f) (g := g) (s := (j : Int)) (by simp [W.kid, hk])
        omega
    | succ n ih =>
      intro f hf r q o h
      rcases next_cases f with ⟨e, _⟩ | ⟨r', o', e, _, hk, hr⟩ | ⟨j, g, r', q', o', e, hn, hk, hg⟩
      · rw [e] at h; cases h
      · rw [e] at h; cases h; exact h1 f _ _ hk hr
      · rw [e] at h
        cases h
        have := kid_h (f := f) (g := g) (s := (j : Int)) (by simp [W.kid, hk])
        exact h2 f j g _ hn hk (ih g (by omega) _ _ _ hg)
  exact fun f => key f.h f (Nat.le_refl _)
/-- the first rule: its number, and that none ahead of it is for the formula -/
theorem firstRule_some {f o : W} {r : Fin 8} (h : firstRule f = some (r, o)) : byRule r f = some o ∧ ∀ s : Fin 8, s < r → byRule s f = none := by
  have e : List.finRange 8 = [0, 1, 2, 3, 4, 5, 6, 7] := by decide
  unfold firstRule at h
  rw [e] at h
  cases h0 : byRule 0 f with
  | some x => simp [h0] at h; obtain ⟨rfl, rfl⟩ := h; exact ⟨h0, fun s hs => by omega⟩
  | none =>
  cases h1 : byRule 1 f with
  | some x => simp [h0, h1] at h; obtain ⟨rfl, rfl⟩ := h; exact ⟨h1, fun s hs => by match s, hs with | 0, _ => exact h0⟩
  | none =>
  cases h2 : byRule 2 f with
  | some x => simp [h0, h1, h2] at h; obtain ⟨rfl, rfl⟩ := h; exact ⟨h2, fun s hs => by match s, hs with | 0, _ => exact h0 | 1, _ => exact h1⟩
  | none =>
  cases h3 : byRule 3 f with
  | some x => simp [h0, h1, h2, h3] at h; obtain ⟨rfl, rfl⟩ := h; exact ⟨h3, fun s hs => by match s, hs with | 0, _ => exact h0 | 1, _ => exact h1 | 2, _ => exact h2⟩
  | none =>
  cases h4 : byRule 4 f with
  | some x => simp [h0, h1, h2, h3, h4] at h; obtain ⟨rfl, rfl⟩ := h; exact ⟨h4, fun s hs => by match s, hs with | 0, _ => exact h0 | 1, _ => exact h1 | 2, _ => exact h2 | 3, _ => exact h3⟩
  | none =>
  cases h5 : byRule 5 f with
  | some x => simp [h0, h1, h2, h3, h4, h5] at h; obtain ⟨rfl, rfl⟩ := h; exact ⟨h5, fun s hs => by match s, hs with | 0, _ => exact h0 | 1, _ => exact h1 | 2, _ => exact h2 | 3, _ => exact h3 | 4, _ => exact h4⟩
  | none =>
  cases h6 : byRule 6 f with
  | some x => simp [h0, h1, h2, h3, h4, h5, h6] at h; obtain ⟨rfl, rfl⟩ := h; exact ⟨h6, fun s hs => by match s, hs with | 0, _ => exact h0 | 1, _ => exact h1 | 2, _ => exact h2 | 3, _ => exact h3 | 4, _ => exact h4 | 5, _ => exact h5⟩
  | none =>
  cases h7 : byRule 7 f with
  | some x => simp [h0, h1, h2, h3, h4, h5, h6, h7] at h; obtain ⟨rfl, rfl⟩ := h; exact ⟨h7, fun s hs => by match s, hs with | 0, _ => exact h0 | 1, _ => exact h1 | 2, _ => exact h2 | 3, _ => exact h3 | 4, _ => exact h4 | 5, _ => exact h5 | 6, _ => exact h6⟩
  | none => simp [h0, h1, h2, h3, h4, h5, h6, h7] at h
theorem firstRule_none {f : W} (h : firstRule f = none) (r : Fin 8) : byRule r f = none := by
  unfold firstRule at h
  have h := List.head?_eq_none_iff.mp h
  have := List.filterMap_eq_nil_iff.mp h r (List.mem_finRange r)
  simpa using this
end Lw

/-! ### measures that no rule makes greater -/
namespace Lw
open PySem Fm
/-- a fraction whose lower number is made of twos and threes -/
def goodQ (q : Rat) : Prop := ∃ k, q.den ∣ 6 ^ k
theorem den_dvd {p : Rat} {n : Int} {d : Nat} (hd : d ≠ 0) (h : p = mkRat n d) : p.den ∣ d := by
  rw [h, Rat.den_mkRat, if_neg hd]
  exact Nat.div_dvd_of_dvd (Nat.gcd_dvd_left _ _)
theorem mkRat_den (n : Int) {d k : Nat} (hd : d ≠ 0) (h : d ∣ k) : (mkRat n d).den ∣ k := Nat.dvd_trans (den_dvd hd rfl) h
theorem add_den {p q : Rat} {k : Nat} (hk : k ≠ 0) (h1 : p.den ∣ k) (h2 : q.den ∣ k) : (p + q).den ∣ k := by
  obtain ⟨a, ha⟩ := h1
  obtain ⟨b, hb⟩ := h2
  have e1 : p = mkRat (p.num * a) k := by
    rw [ha, Rat.mkRat_mul_right (by rintro rfl; simp at ha; exact hk ha), Rat.mkRat_self]
  have e2 : q = mkRat (q.num * b) k := by
    rw [hb, Rat.mkRat_mul_right (by rintro rfl; simp at hb; exact hk hb), Rat.mkRat_self]
  have e : p + q = mkRat (p.num * a + q.num * b) k := by
    conv => lhs; rw [e1, e2]
    rw [Rat.mkRat_add_mkRat _ _ hk hk, ← Int.add_mul, Rat.mkRat_mul_right hk]
  exact den_dvd hk e
theorem mul_den {p q : Rat} {k l : Nat} (h1 : p.den ∣ k) (h2 : q.den ∣ l) : (p * q).den ∣ k * l := by
  have : (p * q).den ∣ p.den * q.den := den_dvd (Nat.mul_ne_zero p.den_nz q.den_nz) (Rat.mul_def' p q)
  exact Nat.dvd_trans this (Nat.mul_dvd_mul h1 h2)
theorem good_add {p q : Rat} (h1 : goodQ p) (h2 : goodQ q) : goodQ (p + q) := by
  obtain ⟨a, ha⟩ := h1
  obtain ⟨b, hb⟩ := h2
  exact ⟨max a b, add_den (Nat.pos_iff_ne_zero.mp (Nat.pow_pos (by decide))) (Nat.dvd_trans ha (Nat.pow_dvd_pow _ (Nat.le_max_left ..))) (Nat.dvd_trans hb (Nat.pow_dvd_pow _ (Nat.le_max_right ..)))⟩
theorem good_mul {p q : Rat} (h1 : goodQ p) (h2 : goodQ q) : goodQ (p * q) := by
  obtain ⟨a, ha⟩ := h1
  obtain ⟨b, hb⟩ := h2
  exact ⟨a + b, by rw [Nat.pow_add]; exact mul_den ha hb⟩
theorem good_pow {q : Rat} (h : goodQ q) : ∀ e : Nat, goodQ (q ^ e)
  | 0 => ⟨0, by simp⟩
  | e + 1 => by rw [Rat.pow_succ]; exact good_mul (good_pow h e) h
theorem good_int (n : Int) : goodQ (n : Rat) := ⟨0, by simp⟩
theorem good_1 : goodQ 1 := ⟨0, by simp⟩
theorem good_0 : goodQ 0 := ⟨0, by simp⟩
/-- how a measure is made up -/
structure Wt where
  a : Rat → Nat
  b : Nat
  c : Nat
  ad : Nat → Nat → Nat
  ml : Nat → Nat → Nat
  u : Nat
  pw : Nat → Nat → Nat
  ad_c : ∀ x y, ad x y = ad y x
  ad_a : ∀ x y z, ad (ad x y) z = ad x (ad y z)
  ad_0 : ∀ x, ad x 0 = x
  ad_m : ∀ {x y z w}, x ≤ y → z ≤ w → ad x z ≤ ad y w
  ad_l : ∀ x y, x ≤ ad x y
  ml_c : ∀ x y, ml x y = ml y x
  ml_a : ∀ x y z, ml (ml x y) z = ml x (ml y z)
  ml_u : ∀ x, ml x u = x
  ml_m : ∀ {x y z w}, x ≤ y → z ≤ w → ml x z ≤ ml y w
  ml_l : ∀ {x y}, c ≤ y → x ≤ ml x y
  ds : ∀ x y z, ml x (ad y z) = ad (ml x y) (ml x z)
  a_c : ∀ q, c ≤ a q
  b_c : c ≤ b
  u_c : u ≤ c ∨ c ≤ u
  a_0 : a 0 ≤ c
  a_1 : a 1 ≤ c
  a_ad : ∀ p q, goodQ p → goodQ q → a (p + q) ≤ ad (a p) (a q)
  a_ml : ∀ p q, goodQ p → goodQ q → a (p * q) ≤ ml (a p) (a q)
  l2 : ∀ p x, goodQ p → ml (a (p + 1)) x ≤ ad (ml (a p) x) x
  l4 : ∀ x, ml (a (1 + 1)) x ≤ ad x x
  pw_c : ∀ {x} e, c ≤ x → c ≤ pw x e
  pw_1 : ∀ {x}, c ≤ x → pw x 1 = x
  pw_q : ∀ q e, goodQ q → a (q ^ e) ≤ pw (a q) e
  pw_p : ∀ {x} d e, c ≤ x → pw x (d * e) ≤ pw (pw x d) e
  pw_m : ∀ {x y} e, 2 ≤ e → c ≤ x → c ≤ y → ml (pw x e) (pw y e) ≤ pw (ml x y) e
  pw_s : ∀ {x} e, 2 < e → c ≤ x → ml x (pw x (e - 1)) ≤ pw x e
  pw_2 : ∀ {x}, c ≤ x → ml x x ≤ pw x 2
  pw_g : ∀ {x} d e, c ≤ x → pw x (d + e) ≤ ml (pw x d) (pw x e)
  pw_le : ∀ {x y} e, c ≤ x → x ≤ y → pw x e ≤ pw y e
  pw_l : ∀ {x} e, c ≤ x → x ≤ pw x e
/-- nothing is measured -/
def wt0 : Wt where
  a := fun _ => 0
  b := 0
  c := 0
  ad := Nat.max
  ml := (· + ·)
  u := 0
  pw := fun x e => max 1 e * x
  ad_c := Nat.max_comm
  ad_a := Nat.max_assoc
  ad_0 := Nat.max_zero
  ad_m := fun {x y z w} h1 h2 => by show max x z ≤ max y w; omega
  ad_l := Nat.le_max_left
  ml_c := Nat.add_comm
  ml_a := Nat.add_assoc
  ml_u := Nat.add_zero
  ml_m := Nat.add_le_add
  ml_l := fun {x y} _ => Nat.le_add_right x y
  ds := fun x y z => by show x + max y z = max (x + y) (x + z); omega
  a_c := fun _ => Nat.le_refl _
  b_c := Nat.le_refl _
  u_c := .inl (Nat.le_refl _)
  a_0 := Nat.le_refl _
  a_1 := Nat.le_refl _
  a_ad := fun _ _ _ _ => Nat.zero_le _
  a_ml := fun _ _ _ _ => Nat.zero_le _
  l2 := fun p x _ => by show 0 + x ≤ max (0 + x) x; omega
  l4 := fun x => by show 0 + x ≤ max x x; omega
  pw_c := fun _ _ => Nat.zero_le _
  pw_1 := fun _ => Nat.one_mul _
  pw_q := fun _ _ _ => Nat.zero_le _
  pw_p := fun {x} d e _ => by
    show max 1 (d * e) * x ≤ max 1 e * (max 1 d * x)
    rw [← Nat.mul_assoc]
    refine Nat.mul_le_mul_right x ?_
    refine Nat.max_le.mpr ⟨Nat.mul_le_mul (Nat.le_max_left 1 e) (Nat.le_max_left 1 d), ?_⟩
    rw [Nat.mul_comm d e]
    exact Nat.mul_le_mul (Nat.le_max_right 1 e) (Nat.le_max_right 1 d)
  pw_m := fun {x y} e _ _ _ => by show max 1 e * x + max 1 e * y ≤ max 1 e * (x + y); rw [Nat.mul_add]; exact Nat.le_refl _
  pw_s := fun {x} e he _ => by
    show x + max 1 (e - 1) * x ≤ max 1 e * x
    obtain ⟨d, rfl⟩ : ∃ d, e = d + 1 := ⟨e - 1, by omega⟩
    rw [Nat.add_sub_cancel, Nat.max_eq_right (by omega), Nat.max_eq_right (by omega), Nat.add_mul]
    omega
  pw_2 := fun {x} _ => by show x + x ≤ 2 * x; omega
  pw_g := fun {x} d e _ => by
    show max 1 (d + e) * x ≤ max 1 d * x + max 1 e * x
    rw [← Nat.add_mul]
    exact Nat.mul_le_mul_right x (by omega)
  pw_le := fun {x y} e _ h => Nat.mul_le_mul_left _ h
  pw_l := fun {x} e _ => Nat.le_mul_of_pos_left x (by omega)
variable (T : Wt)
mutual
def W.ms : W → Nat
  | .num q => T.a q
  | .nam _ => T.b
  | .many true ps => Ws.mp ps
  | .many false ps => Ws.mq ps
  | .pow f e => T.pw (W.ms f) e
def Ws.mp : List W → Nat
  | [] => T.u
  | f :: fs => T.ml (W.ms f) (Ws.mp fs)
def Ws.mq : List W → Nat
  | [] => 0
  | f :: fs => T.ad (W.ms f) (Ws.mq fs)
end
/-- the measure of some parts -/
def mF (m : Bool) (ps : List W) : Nat := if m then Ws.mp T ps else Ws.mq T ps
theorem ms_many (m : Bool) (ps : List W) : W.ms T (.many m ps) = mF T m ps := by cases m <;> simp [W.ms, mF]
def opT (m : Bool) (x y : Nat) : Nat := if m then T.ml x y else T.ad x y
def unT (m : Bool) : Nat := if m then T.u else 0
theorem mF_nil (m : Bool) : mF T m [] = unT T m := by cases m <;> simp [mF, Ws.mp, Ws.mq, unT]
theorem mF_cons (m : Bool) (f : W) (fs : List W) : mF T m (f :: fs) = opT T m (W.ms T f) (mF T m fs) := by cases m <;> simp [mF, Ws.mp, Ws.mq, opT]
theorem op_c (m : Bool) (x y : Nat) : opT T m x y = opT T m y x := by cases m <;> simp [opT, T.ad_c x y, T.ml_c x y]
theorem op_a (m : Bool) (x y z : Nat) : opT T m (opT T m x y) z = opT T m x (opT T m y z) := by cases m <;> simp [opT, T.ad_a, T.ml_a]
theorem op_u (m : Bool) (x : Nat) : opT T m x (unT T m) = x := by cases m <;> simp [opT, unT, T.ad_0, T.ml_u]
theorem op_u' (m : Bool) (x : Nat) : opT T m (unT T m) x = x := by rw [op_c, op_u]
theorem op_m (m : Bool) {x y z w : Nat} (h1 : x ≤ y) (h2 : z ≤ w) : opT T m x z ≤ opT T m y w := by
  cases m
  · exact T.ad_m h1 h2
  · exact T.ml_m h1 h2
theorem op_l (m : Bool) {x y : Nat} (h : T.c ≤ y) : x ≤ opT T m x y := by
  cases m
  · exact T.ad_l x y
  · exact T.ml_l h
theorem mF_append (m : Bool) : ∀ ps qs : List W, mF T m (ps ++ qs) = opT T m (mF T m ps) (mF T m qs)
  | [], qs => by rw [List.nil_append, mF_nil, op_u']
  | p :: ps, qs => by rw [List.cons_append, mF_cons, mF_cons, mF_append m ps qs, op_a]
theorem mF_perm (m : Bool) {ps qs : List W} (h : ps.Perm qs) : mF T m ps = mF T m qs := by
  induction h with
  | nil => rfl
  | cons x _ ih => rw [mF_cons, mF_cons, ih]
  | swap x y l => rw [mF_cons, mF_cons, mF_cons, mF_cons, ← op_a, ← op_a, op_c T m (W.ms T y)]
  | trans _ _ h1 h2 => rw [h1, h2]
variable {N : Str → Prop}
/-- formulas of two or more parts each -/
def Two (N : Str → Prop) : W → Prop
  | .num q => goodQ q
  | .nam x => N x
  | .many _ ps => 2 ≤ ps.length ∧ ∀ f : {f // f ∈ ps}, Two N f.1
  | .pow f _ => Two N f
termination_by f => sizeOf f
decreasing_by
  · have := List.sizeOf_lt_of_mem f.2
    simp_wf
    omega
  · simp_wf
    omega
theorem two_many {m : Bool} {ps : List W} : Two N (.many m ps) ↔ 2 ≤ ps.length ∧ ∀ f ∈ ps, Two N f := by
  rw [Two]
  constructor
  · rintro ⟨h1, h2⟩
    exact ⟨h1, fun f hf => h2 ⟨f, hf⟩⟩
  · rintro ⟨h1, h2⟩
    exact ⟨h1, fun f => h2 f.1 f.2⟩
theorem two_pow {f : W} {e : Nat} : Two N (.pow f e) ↔ Two N f := by rw [Two]
theorem two_num {q : Rat} : Two N (.num q) ↔ goodQ q := by rw [Two]
theorem two_nam {x : Str} : Two N (.nam x) ↔ N x := by rw [Two]
theorem mF_ge (m : Bool) : ∀ {ps : List W}, ps ≠ [] → (∀ f ∈ ps, T.c ≤ W.ms T f) → T.c ≤ mF T m ps
  | [p], _, h => by rw [mF_cons, mF_nil, op_u]; exact h p List.mem_cons_self
  | p :: q :: r, _, h => by
    rw [mF_cons]
    exact Nat.le_trans (h p List.mem_cons_self) (op_l T m (mF_ge m (by simp) fun f hf => h f (List.mem_cons_of_mem _ hf)))
theorem ms_ge : ∀ {f : W}, Two N f → T.c ≤ W.ms T f := by
  intro f
  refine W.ind (φ := fun f => Two N f → T.c ≤ W.ms T f) (fun q _ => by simp [W.ms, T.a_c]) (fun x _ => by simp [W.ms, T.b_c]) (fun m ps ih h => ?_) (fun f e ih h => ?_) f
  · rw [ms_many]
    obtain ⟨h1, h2⟩ := two_many.mp h
    exact mF_ge T m (by rintro rfl; simp at h1) fun f hf => ih f hf (h2 f hf)
  · simp only [W.ms]
    exact T.pw_c e (ih (two_pow.mp h))
theorem mF_sub (m : Bool) {ps qs : List W} (h : qs.Sublist ps) (hq : qs ≠ []) (hp : ∀ f ∈ ps, Two N f) : mF T m qs ≤ mF T m ps := by
  induction h with
  | slnil => exact Nat.le_refl _
  | cons a h ih =>
    rename_i l1 l2
    have ih := ih hq fun f hf => hp f (List.mem_cons_of_mem _ hf)
    rw [mF_cons, op_c]
    exact Nat.le_trans ih (op_l T m (ms_ge T (hp a List.mem_cons_self)))
  | cons_cons a h ih =>
    rename_i l1 l2
    by_cases h0 : l1 = []
    · subst h0
      rw [mF_cons, mF_cons, mF_nil, op_u]
      by_cases h2 : l2 = []
      · subst h2; rw [mF_nil, op_u]; exact Nat.le_refl _
      · exact op_l T m (mF_ge T m h2 fun f hf => ms_ge T (hp f (List.mem_cons_of_mem _ hf)))
    · rw [mF_cons, mF_cons]
      exact op_m T m (Nat.le_refl _) (ih h0 fun f hf => hp f (List.mem_cons_of_mem _ hf))
theorem ms_alone (m : Bool) {ps : List W} (h : ps ≠ []) : W.ms T (alone m ps) = mF T m ps := by
  match ps, h with
  | [p], _ => rw [mF_cons, mF_nil, op_u]; rfl
  | p :: q :: r, _ => exact ms_many T m _
/-! ### rule by rule -/
theorem le_flat {m : Bool} {ps : List W} {o : W} (h : flatF m ps = some o) : W.ms T o = mF T m ps := by
  unfold flatF at h
  split at h
  · rename_i hany
    cases h
    rw [ms_many]
    clear hany
    induction ps with
    | nil => rfl
    | cons p ps ih =>
      rw [List.flatMap_cons, mF_append, ih, mF_cons]
      congr 1
      cases p with
      | many n qs =>
        simp only [flatP]
        split
        · rename_i e
          rw [e, ms_many]
        · rw [mF_cons, mF_nil, op_u]
      | _ => simp only [flatP]; rw [mF_cons, mF_nil, op_u]
  · cases h
theorem part_num (ps : List W) : ps.Perm (ps.filter W.isNum ++ ps.filter fun f => !f.isNum) := (List.filter_append_perm W.isNum ps).symm
theorem repl_perm (q : Rat) : ∀ {ps : List W}, (ps.filter W.isNum) ≠ [] → (repl q ps).Perm (.num q :: ps.filter fun f => !f.isNum)
  | [], h => (h rfl).elim
  | p :: ps, h => by
    rw [repl]
    cases hp : p.isNum with
    | true => simp [hp]
    | false =>
      have h' : ps.filter W.isNum ≠ [] := by simpa [List.filter_cons, hp] using h
      simp only [Bool.false_eq_true, if_false, List.filter_cons, hp, Bool.not_false, if_true]
      exact ((repl_perm q h').cons p).trans (List.Perm.swap _ _ _)
theorem num_of {f : W} (h : f.isNum = true) : ∃ q, f = .num q := by
  cases f with
  | num q => exact ⟨q, rfl⟩
  | _ => simp [W.isNum] at h
theorem a_tot (m : Bool) : ∀ {ns : List W} (x : Rat), goodQ x → (∀ f ∈ ns, f.isNum = true ∧ Two N f) → T.a (ns.foldl (fun a f => if m then a * f.q else a + f.q) x) ≤ opT T m (T.a x) (mF T m ns) ∧ goodQ (ns.foldl (fun a f => if m then a * f.q else a + f.q) x)
  | [], x, hx, _ => by rw [mF_nil, op_u]; exact ⟨Nat.le_refl _, hx⟩
  | f :: ns, x, hx, h => by
    obtain ⟨q, rfl⟩ := num_of (h f List.mem_cons_self).1
    have hq := two_num.mp (h _ List.mem_cons_self).2
    rw [List.foldl_cons, mF_cons, ← op_a]
    have hx2 : goodQ (if m = true then x * (W.num q).q else x + (W.num q).q) := by
      cases m
      · exact good_add hx hq
      · exact good_mul hx hq
    have ih := a_tot m _ hx2 fun g hg => h g (List.mem_cons_of_mem _ hg)
    refine ⟨Nat.le_trans ih.1 (op_m T m ?_ (Nat.le_refl _)), ih.2⟩
    cases m
    · exact T.a_ad x q hx hq
    · exact T.a_ml x q hx hq
theorem a_total (m : Bool) {ns : List W} (h : ns ≠ []) (hn : ∀ f ∈ ns, f.isNum = true ∧ Two N f) : T.a (totL m ns) ≤ mF T m ns ∧ goodQ (totL m ns) := by
  cases ns with
  | nil => exact (h rfl).elim
  | cons f ns =>
    obtain ⟨q, rfl⟩ := num_of (hn f List.mem_cons_self).1
    have hq := two_num.mp (hn _ List.mem_cons_self).2
    unfold totL
    rw [List.foldl_cons, mF_cons]
    have e : (if m = true then (if m = true then (1 : Rat) else 0) * (W.num q).q else (if m = true then (1 : Rat) else 0) + (W.num q).q) = q := by
      cases m
      · simp only [Bool.false_eq_true, if_false, W.q]; exact Rat.zero_add q
      · simp only [if_true, W.q]; exact Rat.one_mul q
    rw [e]
    exact a_tot T m q hq fun g hg => hn g (List.mem_cons_of_mem _ hg)
theorem le_fold {m : Bool} {ps : List W} {o : W} (hp : ∀ f ∈ ps, Two N f) (h : foldF m ps = some o) : W.ms T o ≤ mF T m ps := by
  unfold foldF at h
  split at h
  · cases h
  · rename_i hl
    cases h
    have hne : ps.filter W.isNum ≠ [] := by
      intro e
      rw [e] at hl
      simp at hl
    have hps : ps ≠ [] := by rintro rfl; simp at hne
    rw [ms_alone T m (repl_ne hps), mF_perm T m (repl_perm _ hne), mF_perm T m (part_num ps), mF_cons, mF_append]
    exact op_m T m (a_total T m hne fun f hf => ⟨(List.mem_filter.mp hf).2, hp f (List.mem_filter.mp hf).1⟩).1 (Nat.le_refl _)
theorem mem_le (m : Bool) {ps : List W} {f : W} (hf : f ∈ ps) (hp : ∀ f ∈ ps, Two N f) : W.ms T f ≤ mF T m ps := by
  have := mF_sub T m (List.singleton_sublist.mpr hf) (by simp) hp
  rwa [mF_cons, mF_nil, op_u] at this
theorem le_none {m : Bool} {ps : List W} {o : W} (hp : ∀ f ∈ ps, Two N f) (h : noneF m ps = some o) : W.ms T o ≤ mF T m ps := by
  unfold noneF at h
  split at h
  · rename_i hz
    cases h
    simp only [Bool.and_eq_true, decide_eq_true_eq] at hz
    exact mem_le T m hz.2 hp
  · split at h
    · rename_i hi
      split at h
      · cases h
        exact mem_le T m hi hp
      · rename_i hne
        cases h
        rw [ms_alone T m hne]
        exact mF_sub T m List.filter_sublist hne hp
    · cases h
theorem insF_perm (L : List W) (x : W) : (insF L x).Perm (x :: L) := by
  unfold insF
  generalize posF x L L.length = n
  have := List.take_append_drop n L
  have h2 : (L.take n ++ [x] ++ L.drop n).Perm (x :: (L.take n ++ L.drop n)) := by
    rw [List.append_assoc]
    exact List.perm_middle
  rwa [this] at h2
theorem inOrder_perm (ps : List W) : (inOrder ps).Perm ps := by
  have : ∀ (ps L : List W), (ps.foldl insF L).Perm (L ++ ps) := by
    intro ps
    induction ps with
    | nil => intro L; simp
    | cons x ps ih =>
      intro L
      rw [List.foldl_cons]
      refine (ih _).trans ?_
      refine ((insF_perm L x).append_right ps).trans ?_
      exact List.perm_middle.symm
  simpa [inOrder] using this ps []
theorem le_order {m : Bool} {ps : List W} {o : W} (h : orderF m ps = some o) : W.ms T o = mF T m ps := by
  unfold orderF at h
  split at h
  · cases h
  · cases h
    rw [ms_many]
    exact mF_perm T m (inOrder_perm ps)
theorem le_pow {f o : W} {e : Nat} (hf : Two N f) (h : powF f e = some o) : W.ms T o ≤ T.pw (W.ms T f) e := by
  have hc := ms_ge T hf
  unfold powF at h
  split at h
  · rename_i h0
    cases h
    exact Nat.le_trans T.a_1 (T.pw_c _ hc)
  · split at h
    · rename_i h0 h1
      cases h
      rw [h1, T.pw_1 hc]
      exact Nat.le_refl _
    · rename_i h0 h1
      have h2 : 2 ≤ e := by omega
      cases f with
      | num q => cases h; exact T.pw_q q e (two_num.mp hf)
      | nam x => cases h
      | pow g a =>
        cases h
        simp only [W.ms]
        exact T.pw_p a e (ms_ge T (two_pow.mp hf))
      | many m ps =>
        obtain ⟨hl, hp⟩ := two_many.mp hf
        cases m with
        | true =>
          cases h
          rw [ms_many, ms_many]
          have : ∀ ps : List W, ps ≠ [] → (∀ f ∈ ps, Two N f) → mF T true (ps.map fun p => .pow p e) ≤ T.pw (mF T true ps) e := by
            intro ps
            induction ps with
            | nil => intro h; exact (h rfl).elim
            | cons p ps ih =>
              intro _ hp
              rw [List.map_cons, mF_cons, mF_cons]
              by_cases h0 : ps = []
              · subst h0
                rw [List.map_nil, mF_nil, op_u, op_u]
                exact Nat.le_refl _
              · refine Nat.le_trans (op_m T true (Nat.le_refl _) (ih h0 fun f hf => hp f (List.mem_cons_of_mem _ hf))) ?_
                exact T.pw_m e h2 (ms_ge T (hp p List.mem_cons_self)) (mF_ge T true h0 fun f hf => ms_ge T (hp f (List.mem_cons_of_mem _ hf)))
          exact this ps (by rintro rfl; simp at hl) hp
        | false =>
          cases h
          rw [ms_many, mF_cons, mF_cons, mF_nil, op_u]
          by_cases h3 : 2 < e
          · rw [if_pos h3]
            exact T.pw_s e h3 hc
          · rw [if_neg h3]
            obtain rfl : e = 2 := by omega
            exact T.pw_2 hc
/-- two parts that become one -/
theorem merge_split {ps : List W} {i j : Nat} (h1 : i < j) (h2 : j < ps.length) (f : W) : ∃ A B C, ps = A ++ ps[i] :: (B ++ ps[j] :: C) ∧ mergeF ps i j f = A ++ f :: (B ++ C) := by
  have e1 : ps = ps.take i ++ ps[i] :: ps.drop (i + 1) := by
    rw [← List.drop_eq_getElem_cons (by omega), List.take_append_drop]
  have e2 : ps.drop (i + 1) = (ps.drop (i + 1)).take (j - i - 1) ++ ps[j] :: ps.drop (j + 1) := by
    have : ps[j] :: ps.drop (j + 1) = (ps.drop (i + 1)).drop (j - i - 1) := by
      rw [← List.drop_eq_getElem_cons h2, List.drop_drop]
      congr 1
      omega
    rw [this, List.take_append_drop]
  refine ⟨ps.take i, (ps.drop (i + 1)).take (j - i - 1), ps.drop (j + 1), by rw [← e2]; exact e1, ?_⟩
  have hz : ∀ (A B C : List W) (x y : W) (i j : Nat), A.length = i → A.length + 1 + B.length = j → mergeF (A ++ x :: (B ++ y :: C)) i j f = A ++ f :: (B ++ C) := by
    intro A B C x y i j hA hB
    subst hA hB
    unfold mergeF
    rw [List.zipIdx_append, List.zipIdx_cons, List.zipIdx_append, List.zipIdx_cons]
    have keep : ∀ (L : List W) (k : Nat), (∀ n, k ≤ n → n < k + L.length → n ≠ A.length + 1 + B.length ∧ n ≠ A.length) → ((L.zipIdx k).filter fun p => decide (p.2 ≠ A.length + 1 + B.length)).map (fun p => if p.2 = A.length then f else p.1) = L := by
      intro L k hL
      have h1 : (L.zipIdx k).filter (fun p => decide (p.2 ≠ A.length + 1 + B.length)) = L.zipIdx k := List.filter_eq_self.mpr fun p hp => by
        obtain ⟨a, b, _⟩ := List.mem_zipIdx hp
        simpa using (hL p.2 a b).1
      rw [h1]
      have h2 : (L.zipIdx k).map (fun p => if p.2 = A.length then f else p.1) = (L.zipIdx k).map (·.1) := List.map_congr_left fun p hp => by
        obtain ⟨a, b, _⟩ := List.mem_zipIdx hp
        rw [if_neg (hL p.2 a b).2]
      rw [h2, List.zipIdx_map_fst]
    rw [List.filter_append, List.map_append, keep A 0 (fun n h1 h2 => by omega)]
    congr 1
    rw [List.filter_cons, if_pos (by simp; omega), List.map_cons, if_pos (by simp), List.filter_append, List.map_append, keep B _ (fun n h1 h2 => by omega)]
    congr 2
    rw [List.filter_cons, if_neg (by simp), keep C _ (fun n h1 h2 => by omega)]
  have := hz (ps.take i) ((ps.drop (i + 1)).take (j - i - 1)) (ps.drop (j + 1)) ps[i] ps[j] i j (by simp; omega) (by simp; omega)
  rw [← e2, ← e1] at this
  exact this
theorem le_merge (m : Bool) {ps : List W} {i j : Nat} (h1 : i < j) (h2 : j < ps.length) {f : W} (hf : W.ms T f ≤ opT T m (W.ms T ps[i]) (W.ms T ps[j])) : W.ms T (alone m (mergeF ps i j f)) ≤ mF T m ps := by
  rw [ms_alone T m (merge_ne h1 h2)]
  obtain ⟨A, B, C, e1, e2⟩ := merge_split h1 h2 f
  rw [e2]
  have p1 : (A ++ f :: (B ++ C)).Perm (f :: (A ++ (B ++ C))) := List.perm_middle
  have p2 : ps.Perm (ps[i] :: ps[j] :: (A ++ (B ++ C))) := by
    refine (List.Perm.of_eq e1).trans ?_
    refine List.perm_middle.trans (List.Perm.cons _ ?_)
    refine (List.Perm.append_left A List.perm_middle).trans ?_
    exact List.perm_middle
  rw [mF_perm T m p1, mF_perm T m p2, mF_cons, mF_cons, mF_cons, ← op_a]
  exact op_m T m hf (Nat.le_refl _)
theorem ms_base {f b : W} {e : Nat} (h : baseOf f = some (b, e)) (hf : Two N f) : W.ms T f = T.pw (W.ms T b) e ∧ Two N b := by
  cases f with
  | num q => simp [baseOf] at h
  | nam x => simp [baseOf] at h; obtain ⟨rfl, rfl⟩ := h; exact ⟨(T.pw_1 (ms_ge T hf)).symm, hf⟩
  | pow g a => simp [baseOf] at h; obtain ⟨rfl, rfl⟩ := h; exact ⟨by simp [W.ms], two_pow.mp hf⟩
  | many m ps =>
    cases m with
    | false => simp [baseOf] at h
    | true => simp [baseOf] at h; obtain ⟨rfl, rfl⟩ := h; exact ⟨(T.pw_1 (ms_ge T hf)).symm, hf⟩
/-- what gather works upon -/
theorem gather_of {ps : List W} {o : W} (h : gatherF ps = some o) : ∃ i j, ∃ h1 : i < j, ∃ h2 : j < ps.length, ∃ b a c, baseOf ps[i] = some (b, a) ∧ baseOf ps[j] = some (b, c) ∧ o = alone true (mergeF ps i j (.pow b (a + c))) := by
  unfold gatherF at h
  cases hp : pairF 0 (ps.map baseOf) with
  | none => rw [hp] at h; cases h
  | some z =>
    obtain ⟨i, j⟩ := z
    rw [hp] at h
    obtain ⟨_, h1, h2, x, y, h3, h4, h5⟩ := pairF_lt hp
    obtain ⟨b, a⟩ := x
    obtain ⟨b', c⟩ := y
    simp only [Nat.sub_zero, Nat.zero_add, List.length_map] at h1 h2 h3 h4 h5
    subst h5
    have bi : baseOf ps[i] = some (b, a) := by
      rw [List.getElem?_map, List.getElem?_eq_getElem (by omega)] at h3
      simpa using h3
    have bj : baseOf ps[j] = some (b, c) := by
      rw [List.getElem?_map, List.getElem?_eq_getElem h2] at h4
      simpa using h4
    simp only [getD_of (List.getElem?_eq_getElem (show i < ps.length by omega)), getD_of (List.getElem?_eq_getElem h2), bi, bj] at h
    cases h
    exact ⟨i, j, h1, h2, b, a, c, bi, bj, rfl⟩
theorem like_of {ps : List W} {o : W} (h : likeF ps = some o) : ∃ i j, ∃ h1 : i < j, ∃ h2 : j < ps.length, ∃ b a c, kindOf ps[i] = some (b, a) ∧ kindOf ps[j] = some (b, c) ∧ o = alone false (mergeF ps i j (.many true (.num (a + c) :: restP b))) := by
  unfold likeF at h
  cases hp : pairF 0 (ps.map kindOf) with
  | none => rw [hp] at h; cases h
  | some z =>
    obtain ⟨i, j⟩ := z
    rw [hp] at h
    obtain ⟨_, h1, h2, x, y, h3, h4, h5⟩ := pairF_lt hp
    obtain ⟨b, a⟩ := x
    obtain ⟨b', c⟩ := y
    simp only [Nat.sub_zero, Nat.zero_add, List.length_map] at h1 h2 h3 h4 h5
    subst h5
    have bi : kindOf ps[i] = some (b, a) := by
      rw [List.getElem?_map, List.getElem?_eq_getElem (by omega)] at h3
      simpa using h3
    have bj : kindOf ps[j] = some (b, c) := by
      rw [List.getElem?_map, List.getElem?_eq_getElem h2] at h4
      simpa using h4
    simp only [getD_of (List.getElem?_eq_getElem (show i < ps.length by omega)), getD_of (List.getElem?_eq_getElem h2), bi, bj] at h
    cases h
    exact ⟨i, j, h1, h2, b, a, c, bi, bj, rfl⟩
theorem le_gather {ps : List W} {o : W} (hp : ∀ f ∈ ps, Two N f) (h : gatherF ps = some o) : W.ms T o ≤ mF T true ps := by
  obtain ⟨i, j, h1, h2, b, a, c, bi, bj, rfl⟩ := gather_of h
  obtain ⟨e1, tb⟩ := ms_base T bi (hp _ (List.getElem_mem _))
  obtain ⟨e2, _⟩ := ms_base T bj (hp _ (List.getElem_mem _))
  refine le_merge T true h1 h2 ?_
  rw [e1, e2]
  simp only [W.ms]
  exact T.pw_g a c (ms_ge T tb)
theorem ms_kind {f b : W} {q : Rat} (h : kindOf f = some (b, q)) (hf : Two N f) : (W.ms T f = T.ml (T.a q) (W.ms T b) ∨ (W.ms T f = W.ms T b ∧ q = 1)) ∧ Two N b ∧ goodQ q := by
  cases f with
  | num q => simp [kindOf] at h
  | nam x => simp [kindOf] at h; obtain ⟨rfl, rfl⟩ := h; exact ⟨.inr ⟨rfl, rfl⟩, hf, good_1⟩
  | pow g a => simp [kindOf] at h; obtain ⟨rfl, rfl⟩ := h; exact ⟨.inr ⟨rfl, rfl⟩, hf, good_1⟩
  | many m ps =>
    cases m with
    | false => simp [kindOf] at h
    | true =>
      obtain ⟨hl, hp⟩ := two_many.mp hf
      match ps, hl with
      | x :: y :: r, _ =>
        cases x with
        | num q =>
          simp [kindOf] at h
          obtain ⟨rfl, rfl⟩ := h
          refine ⟨.inl ?_, ?_⟩
          · rw [ms_many, mF_cons, ms_alone T true (by simp)]
            rfl
          · refine ⟨?_, two_num.mp (hp (.num q) (by simp))⟩
            cases r with
            | nil => exact hp y (by simp)
            | cons z r => exact two_many.mpr ⟨by simp, fun f hf => hp f (List.mem_cons_of_mem _ hf)⟩
        | nam z => simp [kindOf] at h; obtain ⟨rfl, rfl⟩ := h; exact ⟨.inr ⟨rfl, rfl⟩, hf, good_1⟩
        | pow f e => simp [kindOf] at h; obtain ⟨rfl, rfl⟩ := h; exact ⟨.inr ⟨rfl, rfl⟩, hf, good_1⟩
        | many m' ps' => simp [kindOf] at h; obtain ⟨rfl, rfl⟩ := h; exact ⟨.inr ⟨rfl, rfl⟩, hf, good_1⟩
theorem ms_rest (b : W) : mF T true (restP b) = W.ms T b := by
  cases b with
  | many m ps =>
    cases m
    · simp only [restP]; rw [mF_cons, mF_nil, op_u]
    · simp only [restP]; rw [ms_many]
  | _ => simp only [restP]; rw [mF_cons, mF_nil, op_u]
theorem le_like {ps : List W} {o : W} (hp : ∀ f ∈ ps, Two N f) (h : likeF ps = some o) : W.ms T o ≤ mF T false ps := by
  obtain ⟨i, j, h1, h2, b, a, c, bi, bj, rfl⟩ := like_of h
  obtain ⟨e1, tb, ga⟩ := ms_kind T bi (hp _ (List.getElem_mem _))
  obtain ⟨e2, _, gc⟩ := ms_kind T bj (hp _ (List.getElem_mem _))
  refine le_merge T false h1 h2 ?_
  rw [ms_many, mF_cons, ms_rest]
  show T.ml (T.a (a + c)) (W.ms T b) ≤ T.ad _ _
  generalize W.ms T b = v at *
  rcases e1 with e1 | ⟨e1, rfl⟩ <;> rcases e2 with e2 | ⟨e2, rfl⟩ <;> rw [e1, e2]
  · have := T.ds v (T.a a) (T.a c)
    rw [T.ml_c v (T.a a), T.ml_c v (T.a c)] at this
    rw [← this, T.ml_c]
    exact T.ml_m (Nat.le_refl _) (T.a_ad a c ga gc)
  · exact T.l2 a v ga
  · rw [T.ad_c, Rat.add_comm]
    exact T.l2 c v gc
  · exact T.l4 v
theorem spread_of : ∀ {ps a b c : List W}, spreadP ps = some (a, b, c) → ps = a ++ .many false b :: c
  | [], _, _, _, h => by simp [spreadP] at h
  | x :: ps, a, b, c, h => by
    cases x with
    | many m qs =>
      cases m with
      | false => simp [spreadP] at h; obtain ⟨rfl, rfl, rfl⟩ := h; rfl
      | true =>
        simp only [spreadP] at h
        cases hp : spreadP ps with
        | none => rw [hp] at h; cases h
        | some z =>
          obtain ⟨a', b', c'⟩ := z
          rw [hp] at h
          cases h
          rw [spread_of hp]
          rfl
    | _ =>
      simp only [spreadP] at h
      cases hp : spreadP ps with
      | none => rw [hp] at h; cases h
      | some z =>
        obtain ⟨a', b', c'⟩ := z
        rw [hp] at h
        cases h
        rw [spread_of hp]
        rfl
theorem le_spread {ps : List W} {o : W} (hp : ∀ f ∈ ps, Two N f) (h : spreadF ps = some o) : W.ms T o = mF T true ps := by
  unfold spreadF at h
  cases hs : spreadP ps with
  | none => rw [hs] at h; cases h
  | some z =>
    obtain ⟨a, b, c⟩ := z
    rw [hs] at h
    cases h
    have e := spread_of hs
    have hb : b ≠ [] := by
      have := (two_many.mp (hp (.many false b) (by rw [e]; simp))).1
      rintro rfl
      simp at this
    rw [ms_many, e, mF_append, mF_cons, ms_many]
    have key : ∀ b : List W, b ≠ [] → mF T false (b.map fun x => .many true (a ++ [x] ++ c)) = opT T true (mF T true a) (opT T true (mF T false b) (mF T true c)) := by
      intro b
      induction b with
      | nil => intro h; exact (h rfl).elim
      | cons x b ih =>
        intro _
        have e1 : W.ms T (.many true (a ++ [x] ++ c)) = opT T true (mF T true a) (opT T true (W.ms T x) (mF T true c)) := by
          rw [ms_many, mF_append, mF_append, mF_cons, mF_nil, op_u, op_a]
        rw [List.map_cons, mF_cons, mF_cons, e1]
        by_cases h0 : b = []
        · subst h0
          rw [List.map_nil, mF_nil, op_u, op_u]
        · rw [ih h0]
          show T.ad (T.ml _ (T.ml _ _)) (T.ml _ (T.ml _ _)) = T.ml _ (T.ml (T.ad _ _) _)
          rw [T.ml_c (T.ad (W.ms T x) (mF T false b)), T.ds, T.ds, T.ml_c (mF T true c), T.ml_c (mF T true c)]
    exact key b hb
/-- no rule makes the measure greater -/
theorem le_rule {f o : W} {r : Fin 8} (hf : Two N f) (h : byRule r f = some o) : W.ms T o ≤ W.ms T f := by
  cases f with
  | num q => simp [byRule] at h
  | nam x => simp [byRule] at h
  | pow g e =>
    simp only [byRule] at h
    split at h
    · exact le_pow T (two_pow.mp hf) h
    · cases h
  | many m ps =>
    obtain ⟨hl, hp⟩ := two_many.mp hf
    rw [ms_many]
    match r with
    | 0 => exact Nat.le_of_eq (le_flat T h)
    | 1 => exact le_fold T hp h
    | 2 => exact le_none T hp h
    | 3 => simp [byRule] at h
    | 4 =>
      cases m
      · simp [byRule] at h
      · exact le_gather T hp (by simpa [byRule] using h)
    | 5 =>
      cases m
      · simp [byRule] at h
      · exact Nat.le_of_eq (le_spread T hp (by simpa [byRule] using h))
    | 6 =>
      cases m
      · exact le_like T hp (by simpa [byRule] using h)
      · simp [byRule] at h
    | 7 => exact Nat.le_of_eq (le_order T h)
/-! ### a rule keeps formulas fine -/
theorem two_alone {m : Bool} {ps : List W} (h : ps ≠ []) (hp : ∀ f ∈ ps, Two N f) : Two N (alone m ps) := by
  match ps, h with
  | [p], _ => exact hp p (by simp)
  | p :: q :: r, _ => exact two_many.mpr ⟨by simp, hp⟩
theorem two_merge {m : Bool} {ps : List W} {i j : Nat} (h1 : i < j) (h2 : j < ps.length) {f : W} (hf : Two N f) (hp : ∀ f ∈ ps, Two N f) : Two N (alone m (mergeF ps i j f)) := by
  obtain ⟨A, B, C, e1, e2⟩ := merge_split h1 h2 f
  refine two_alone (merge_ne h1 h2) fun g hg => ?_
  rw [e2] at hg
  simp only [List.mem_append, List.mem_cons] at hg
  have key : ∀ g, g ∈ A ∨ g ∈ B ∨ g ∈ C → Two N g := fun g hg => by
    refine hp g ?_
    rw [e1]
    simp only [List.mem_append, List.mem_cons]
    rcases hg with h | h | h
    · exact .inl h
    · exact .inr (.inr (.inl h))
    · exact .inr (.inr (.inr (.inr h)))
  rcases hg with h | rfl | h | h
  · exact key g (.inl h)
  · exact hf
  · exact key g (.inr (.inl h))
  · exact key g (.inr (.inr h))
theorem flatMap_len {m : Bool} : ∀ {ps : List W}, (∀ f ∈ ps, Two N f) → ps.length ≤ (ps.flatMap (flatP m)).length
  | [], _ => Nat.le_refl _
  | p :: ps, h => by
    have ih := flatMap_len (m := m) fun f hf => h f (List.mem_cons_of_mem _ hf)
    rw [List.flatMap_cons, List.length_append, List.length_cons]
    have : 1 ≤ (flatP m p).length := by
      have hp := h p List.mem_cons_self
      cases p with
      | many n qs =>
        have := (two_many.mp hp).1
        simp only [flatP]
        split
        · omega
        · simp
      | _ => simp [flatP]
    omega
theorem two_rule {f o : W} {r : Fin 8} (hf : Two N f) (h : byRule r f = some o) : Two N o := by
  cases f with
  | num q => simp [byRule] at h
  | nam x => simp [byRule] at h
  | pow g e =>
    simp only [byRule] at h
    split at h
    · have hg := two_pow.mp hf
      unfold powF at h
      split at h
      · cases h; exact two_num.mpr good_1
      · split at h
        · cases h; exact hg
        · cases g with
          | num q => cases h; exact two_num.mpr (good_pow (two_num.mp hg) e)
          | nam x => cases h
          | pow g a => cases h; exact two_pow.mpr (two_pow.mp hg)
          | many m ps =>
            obtain ⟨hl, hp⟩ := two_many.mp hg
            cases m with
            | true =>
              cases h
              refine two_many.mpr ⟨by simpa using hl, fun f hf => ?_⟩
              obtain ⟨p, hp', rfl⟩ := List.mem_map.mp hf
              exact two_pow.mpr (hp p hp')
            | false =>
              cases h
              refine two_many.mpr ⟨by simp, fun f hf => ?_⟩
              simp only [List.mem_cons, List.not_mem_nil, or_false] at hf
              rcases hf with rfl | rfl
              · exact hg
              · split
                · exact two_pow.mpr hg
                · exact hg
    · cases h
  | many m ps =>
    obtain ⟨hl, hp⟩ := two_many.mp hf
    have hne : ps ≠ [] := by rintro rfl; simp at hl
    match r with
    | 0 =>
      simp only [byRule, flatF] at h
      split at h
      · cases h
        refine two_many.mpr ⟨Nat.le_trans hl (flatMap_len hp), fun f hf => ?_⟩
        obtain ⟨p, hp', hf⟩ := List.mem_flatMap.mp hf
        have := hp p hp'
        cases p with
        | many n qs =>
          simp only [flatP] at hf
          split at hf
          · exact (two_many.mp this).2 f hf
          · rw [List.mem_singleton.mp hf]; exact this
        | _ => simp only [flatP] at hf; rw [List.mem_singleton.mp hf]; exact this
      · cases h
    | 1 =>
      simp only [byRule, foldF] at h
      split at h
      · cases h
      · rename_i hlt
        cases h
        have hn : ps.filter W.isNum ≠ [] := by
          intro e
          rw [e] at hlt
          simp at hlt
        refine two_alone (repl_ne hne) fun f hf => ?_
        have := (repl_perm (total m ps) hn).mem_iff.mp hf
        rcases List.mem_cons.mp this with rfl | hf
        · exact two_num.mpr (a_total wt0 m hn fun f hf => ⟨(List.mem_filter.mp hf).2, hp f (List.mem_filter.mp hf).1⟩).2
        · exact hp f (List.mem_filter.mp hf).1
    | 2 =>
      simp only [byRule, noneF] at h
      split at h
      · cases h; exact two_num.mpr good_0
      · split at h
        · split at h
          · cases h
            cases m
            · exact two_num.mpr good_0
            · exact two_num.mpr good_1
          · rename_i hq
            cases h
            exact two_alone hq fun f hf => hp f (List.mem_filter.mp hf).1
        · cases h
    | 3 => simp [byRule] at h
    | 4 =>
      cases m
      · simp [byRule] at h
      · obtain ⟨i, j, h1, h2, b, a, c, bi, bj, rfl⟩ := gather_of (by simpa [byRule] using h)
        exact two_merge h1 h2 (two_pow.mpr (ms_base wt0 bi (hp _ (List.getElem_mem _))).2) hp
    | 5 =>
      cases m
      · simp [byRule] at h
      · have h : spreadF ps = some o := by simpa [byRule] using h
        unfold spreadF at h
        cases hs : spreadP ps with
        | none => rw [hs] at h; cases h
        | some z =>
          obtain ⟨a, b, c⟩ := z
          rw [hs] at h
          cases h
          have e := spread_of hs
          have hb := two_many.mp (hp (.many false b) (by rw [e]; simp))
          refine two_many.mpr ⟨by simpa using hb.1, fun f hf => ?_⟩
          obtain ⟨x, hx, rfl⟩ := List.mem_map.mp hf
          refine two_many.mpr ⟨?_, fun g hg => ?_⟩
          · rw [e] at hl
            simp at hl ⊢
            omega
          · simp only [List.mem_append, List.mem_cons, List.not_mem_nil, or_false] at hg
            rcases hg with (hg | rfl) | hg
            · exact hp g (by rw [e]; simp [hg])
            · exact hb.2 g hx
            · exact hp g (by rw [e]; simp [hg])
    | 6 =>
      cases m
      · obtain ⟨i, j, h1, h2, b, a, c, bi, bj, rfl⟩ := like_of (by simpa [byRule] using h)
        obtain ⟨_, tb, ga⟩ := ms_kind wt0 bi (hp _ (List.getElem_mem _))
        obtain ⟨_, _, gc⟩ := ms_kind wt0 bj (hp _ (List.getElem_mem _))
        refine two_merge h1 h2 (two_many.mpr ⟨?_, fun g hg => ?_⟩) hp
        · have : 1 ≤ (restP b).length := by
            cases b with
            | many m qs =>
              have := (two_many.mp tb).1
              cases m
              · simp [restP]
              · simp only [restP]; omega
            | _ => simp [restP]
          simp only [List.length_cons]
          omega
        · rcases List.mem_cons.mp hg with rfl | hg
          · exact two_num.mpr (good_add ga gc)
          · cases b with
            | many m qs =>
              cases m
              · simp only [restP, List.mem_cons, List.not_mem_nil, or_false] at hg; rw [hg]; exact tb
              · simp only [restP] at hg; exact (two_many.mp tb).2 g hg
            | _ => simp only [restP, List.mem_cons, List.not_mem_nil, or_false] at hg; rw [hg]; exact tb
      · simp [byRule] at h
    | 7 =>
      simp only [byRule, orderF] at h
      split at h
      · cases h
      · cases h
        exact two_many.mpr ⟨by rw [inOrder_len]; exact hl, fun f hf => hp f (inOrder_mem.mp hf)⟩
/-! ### within -/
theorem ms_kid {f g : W} {j : Nat} (hf : Two N f) (h : f.kids[j]? = some g) : W.ms T g ≤ W.ms T f ∧ Two N g := by
  have hm := List.mem_of_getElem? h
  cases f with
  | num q => simp [W.kids] at hm
  | nam x => simp [W.kids] at hm
  | many m ps =>
    obtain ⟨hl, hp⟩ := two_many.mp hf
    rw [ms_many]
    exact ⟨mem_le T m hm hp, hp g hm⟩
  | pow f e =>
    simp only [W.kids, List.mem_cons, List.not_mem_nil, or_false] at hm
    subst hm
    exact ⟨T.pw_l e (ms_ge T (two_pow.mp hf)), two_pow.mp hf⟩
theorem mF_set (m : Bool) : ∀ {ps : List W} {j : Nat} {g o : W}, ps[j]? = some g → W.ms T o ≤ W.ms T g → mF T m (ps.set j o) ≤ mF T m ps
  | [], _, _, _, h, _ => by simp at h
  | p :: ps, 0, g, o, h, ho => by
    simp at h
    subst h
    rw [List.set_cons_zero, mF_cons, mF_cons]
    exact op_m T m ho (Nat.le_refl _)
  | p :: ps, j + 1, g, o, h, ho => by
    rw [List.set_cons_succ, mF_cons, mF_cons]
    exact op_m T m (Nat.le_refl _) (mF_set m (by simpa using h) ho)
theorem ms_set {f g o : W} {j : Nat} (hf : Two N f) (h : f.kids[j]? = some g) (ho : Two N o) (hm : W.ms T o ≤ W.ms T g) : W.ms T (f.set j o) ≤ W.ms T f := by
  cases f with
  | num q => simp [W.kids] at h
  | nam x => simp [W.kids] at h
  | many m ps =>
    simp only [W.set, ms_many]
    exact mF_set T m h hm
  | pow f e =>
    match j, h with
    | 0, h =>
      simp [W.kids] at h
      subst h
      simp only [W.set, if_true, W.ms]
      exact T.pw_le e (ms_ge T ho) hm
    | j + 1, h => simp [W.kids] at h
theorem two_set {f g o : W} {j : Nat} (hf : Two N f) (h : f.kids[j]? = some g) (ho : Two N o) : Two N (f.set j o) := by
  cases f with
  | num q => simp [W.kids] at h
  | nam x => simp [W.kids] at h
  | many m ps =>
    obtain ⟨hl, hp⟩ := two_many.mp hf
    refine two_many.mpr ⟨by simpa using hl, fun q hq => ?_⟩
    rcases List.mem_or_eq_of_mem_set hq with hq | rfl
    · exact hp q hq
    · exact ho
  | pow f e =>
    match j, h with
    | 0, h => simp only [W.set, if_true]; exact two_pow.mpr ho
    | j + 1, h => simp [W.kids] at h
theorem next_two {f o : W} {r : Fin 8} {q : List Int} (hf : Two N f) (h : nextF f = some (r, q, o)) : Two N o := by
  refine next_ind (φ := fun f o => Two N f → Two N o) (fun f r o _ hr hf => two_rule hf (firstRule_some hr).1) (fun f j g o _ hk ih hf => two_set hf hk (ih (ms_kid wt0 hf hk).2)) f r q o h hf
/-- no step makes the measure greater -/
theorem next_ms {f o : W} {r : Fin 8} {q : List Int} (hf : Two N f) (h : nextF f = some (r, q, o)) : W.ms T o ≤ W.ms T f := by
  refine (next_ind (φ := fun f o => Two N f → Two N o ∧ W.ms T o ≤ W.ms T f) (fun f r o _ hr hf => ⟨two_rule hf (firstRule_some hr).1, le_rule T hf (firstRule_some hr).1⟩) (fun f j g o _ hk ih hf => ?_) f r q o h hf).2
  have h1 := ms_kid T hf hk
  have h2 := ih h1.2
  exact ⟨two_set hf hk h2.1, ms_set T hf hk h2.1 h2.2⟩
end Lw

/-! ### the four measures -/
namespace Lw
open PySem Fm
theorem pow_ge1 {x : Nat} (e : Nat) (h : 1 ≤ x) : 1 ≤ x ^ e := Nat.one_le_pow _ _ h
theorem pow_ge2 {x e : Nat} (h : 2 ≤ x) (he : 1 ≤ e) : 2 ≤ x ^ e := by
  calc 2 ≤ x := h
    _ = x ^ 1 := by simp
    _ ≤ x ^ e := Nat.pow_le_pow_right (by omega) he
/-- sums and products of weights, the least weight being c, 1 or 2 -/
def wtS (a : Rat → Nat) (c : Nat) (hc : c = 1 ∨ c = 2) (a_c : ∀ q, c ≤ a q) (a_0 : a 0 ≤ c) (a_1 : a 1 ≤ c) (a_ad : ∀ p q, a (p + q) ≤ a p + a q) (a_ml : ∀ p q, a (p * q) ≤ a p * a q) (l2 : ∀ p, a (p + 1) ≤ a p + 1) (l4 : a (1 + 1) ≤ 2) (pq : ∀ q e, a (q ^ e) ≤ a q ^ max 1 e) : Wt where
  a := a
  b := c
  c := c
  ad := (· + ·)
  ml := (· * ·)
  u := 1
  pw := fun x e => x ^ max 1 e
  ad_c := Nat.add_comm
  ad_a := Nat.add_assoc
  ad_0 := Nat.add_zero
  ad_m := Nat.add_le_add
  ad_l := fun x y => Nat.le_add_right x y
  ml_c := Nat.mul_comm
  ml_a := Nat.mul_assoc
  ml_u := Nat.mul_one
  ml_m := Nat.mul_le_mul
  ml_l := fun {x y} h => Nat.le_mul_of_pos_right x (by omega)
  ds := Nat.mul_add
  a_c := a_c
  b_c := Nat.le_refl _
  u_c := by omega
  a_0 := a_0
  a_1 := a_1
  a_ad := fun p q _ _ => a_ad p q
  a_ml := fun p q _ _ => a_ml p q
  l2 := fun p x _ => by
    have := Nat.mul_le_mul_right x (l2 p)
    rw [Nat.add_mul, Nat.one_mul] at this
    exact this
  l4 := fun x => by
    have := Nat.mul_le_mul_right x l4
    show a (1 + 1) * x ≤ x + x
    omega
  pw_c := fun {x} e h => Nat.le_trans h (by
    have := Nat.pow_le_pow_right (n := x) (by omega) (Nat.le_max_left 1 e)
    simpa using this)
  pw_1 := fun {x} h => by simp
  pw_q := fun q e _ => pq q e
  pw_p := fun {x} d e h => by
    show x ^ max 1 (d * e) ≤ (x ^ max 1 d) ^ max 1 e
    rw [← Nat.pow_mul]
    refine Nat.pow_le_pow_right (by omega) ?_
    exact Nat.max_le.mpr ⟨Nat.mul_le_mul (Nat.le_max_left 1 d) (Nat.le_max_left 1 e), Nat.mul_le_mul (Nat.le_max_right 1 d) (Nat.le_max_right 1 e)⟩
  pw_m := fun {x y} e he hx hy => by
    show x ^ max 1 e * y ^ max 1 e ≤ (x * y) ^ max 1 e
    rw [Nat.mul_pow]
    exact Nat.le_refl _
  pw_s := fun {x} e he hx => by
    show x * x ^ max 1 (e - 1) ≤ x ^ max 1 e
    rw [Nat.max_eq_right (by omega), Nat.max_eq_right (by omega), Nat.mul_comm, ← Nat.pow_succ, show (e - 1).succ = e by omega]
    exact Nat.le_refl _
  pw_2 := fun {x} hx => by
    show x * x ≤ x ^ 2
    rw [Nat.pow_two]
    exact Nat.le_refl _
  pw_g := fun {x} d e hx => by
    show x ^ max 1 (d + e) ≤ x ^ max 1 d * x ^ max 1 e
    rw [← Nat.pow_add]
    exact Nat.pow_le_pow_right (by omega) (by omega)
  pw_le := fun {x y} e hx hxy => Nat.pow_le_pow_left hxy _
  pw_l := fun {x} e h => by
    have := Nat.pow_le_pow_right (n := x) (by omega) (Nat.le_max_left 1 e)
    simpa using this
/-- how many parts an add can have -/
def wt1 : Wt := wtS (fun _ => 1) 1 (.inl rfl) (fun _ => Nat.le_refl _) (Nat.le_refl _) (Nat.le_refl _) (fun _ _ => by decide) (fun _ _ => by decide) (fun _ => by decide) (by decide) (fun _ e => by simp)
/-- .. a mul (the logarithm) -/
def wt2 : Wt := wtS (fun _ => 2) 2 (.inr rfl) (fun _ => Nat.le_refl _) (Nat.le_refl _) (Nat.le_refl _) (fun _ _ => by decide) (fun _ _ => by decide) (fun _ => by decide) (by decide) (fun _ e => by
  have := Nat.pow_le_pow_right (n := 2) (by omega) (Nat.le_max_left 1 e)
  simpa using this)
/-- the least whole number from 1 on that is no less than the amount -/
def upQ (q : Rat) : Nat := max 1 ((q.num.natAbs + q.den - 1) / q.den)
theorem upQ_le {q : Rat} {k : Nat} (hk : 1 ≤ k) : upQ q ≤ k ↔ q.num.natAbs ≤ k * q.den := by
  unfold upQ
  have hd := q.den_pos
  rw [Nat.max_le]
  constructor
  · rintro ⟨_, h⟩
    have := (Nat.div_le_iff_le_mul hd).mp h
    omega
  · intro h
    refine ⟨hk, (Nat.div_le_iff_le_mul hd).mpr ?_⟩
    omega
/-- |q| ≤ k -/
theorem abs_le_iff {q : Rat} {k : Nat} : q.num.natAbs ≤ k * q.den ↔ (-(k : Rat) ≤ q ∧ q ≤ (k : Rat)) := by
  rw [Rat.le_iff, Rat.le_iff]
  simp only [Rat.neg_num, Rat.neg_den, Rat.num_natCast, Rat.den_natCast]
  constructor
  · intro h
    have h' : ((q.num.natAbs : Nat) : Int) ≤ ((k * q.den : Nat) : Int) := by exact_mod_cast h
    rw [Int.natCast_mul] at h'
    constructor
    · rw [Int.neg_mul]
      simp only [Int.natCast_one, Int.mul_one]
      omega
    · simp only [Int.natCast_one, Int.mul_one]
      omega
  · rintro ⟨h1, h2⟩
    rw [Int.neg_mul] at h1
    simp only [Int.natCast_one, Int.mul_one] at h1 h2
    have : ((q.num.natAbs : Nat) : Int) ≤ ((k * q.den : Nat) : Int) := by
      rw [Int.natCast_mul]
      omega
    exact_mod_cast this
theorem upQ_iff {q : Rat} {k : Nat} (hk : 1 ≤ k) : upQ q ≤ k ↔ (-(k : Rat) ≤ q ∧ q ≤ (k : Rat)) := by rw [upQ_le hk, abs_le_iff]
theorem upQ_pos (q : Rat) : 1 ≤ upQ q := Nat.le_max_left _ _
theorem upQ_self (q : Rat) : -(upQ q : Rat) ≤ q ∧ q ≤ (upQ q : Rat) := (upQ_iff (upQ_pos q)).mp (Nat.le_refl _)
theorem mul_abs {p q a b : Rat} (h1 : -a ≤ p) (h2 : p ≤ a) (h3 : -b ≤ q) (h4 : q ≤ b) : -(a * b) ≤ p * q ∧ p * q ≤ a * b := by
  have e1 := Rat.mul_nonneg (a := a - p) (b := b + q) (by grind) (by grind)
  have e2 := Rat.mul_nonneg (a := a + p) (b := b - q) (by grind) (by grind)
  have e3 := Rat.mul_nonneg (a := a - p) (b := b - q) (by grind) (by grind)
  have e4 := Rat.mul_nonneg (a := a + p) (b := b + q) (by grind) (by grind)
  constructor <;> grind
theorem upQ_mul (p q : Rat) : upQ (p * q) ≤ upQ p * upQ q := by
  have h1 := upQ_self p
  have h2 := upQ_self q
  refine (upQ_iff (Nat.mul_le_mul (upQ_pos p) (upQ_pos q))).mpr ?_
  have := mul_abs h1.1 h1.2 h2.1 h2.2
  rw [Rat.natCast_mul]
  exact this
theorem upQ_one : upQ 1 = 1 := by decide +kernel
theorem upQ_pow (q : Rat) : ∀ e : Nat, upQ (q ^ e) ≤ upQ q ^ e
  | 0 => by rw [Rat.pow_zero, upQ_one]; simp
  | e + 1 => by
    rw [Rat.pow_succ, Nat.pow_succ]
    exact Nat.le_trans (upQ_mul _ _) (Nat.mul_le_mul_right _ (upQ_pow q e))
def wtV : Wt := wtS upQ 1 (.inl rfl) upQ_pos (by decide +kernel) (by decide +kernel) (fun p q => by
    have h1 := upQ_self p
    have h2 := upQ_self q
    have h3 := upQ_pos p
    refine (upQ_iff (by omega)).mpr ?_
    rw [Rat.natCast_add]
    constructor <;> grind) upQ_mul (fun p => by
    have h1 := upQ_self p
    refine (upQ_iff (by omega)).mpr ?_
    rw [Rat.natCast_add, show ((1 : Nat) : Rat) = 1 from rfl]
    constructor <;> grind) (by decide +kernel) (fun q e => by
    refine Nat.le_trans (upQ_pow q e) (Nat.pow_le_pow_right (upQ_pos q) (Nat.le_max_right _ _)))
/-- the least power of six that the lower number divides -/
theorem good_least {q : Rat} (h : goodQ q) : ∃ k, q.den ∣ 6 ^ k ∧ ∀ j, q.den ∣ 6 ^ j → k ≤ j := by
  obtain ⟨k, hk⟩ := h
  induction k using Nat.strongRecOn with
  | ind k ih =>
    by_cases hj : ∃ j, j < k ∧ q.den ∣ 6 ^ j
    · obtain ⟨j, h1, h2⟩ := hj
      exact ih j h1 h2
    · exact ⟨k, hk, fun j hd => by
        by_cases hlt : j < k
        · exact (hj ⟨j, hlt, hd⟩).elim
        · omega⟩
open Classical in
noncomputable def sixQ (q : Rat) : Nat := if h : goodQ q then (good_least h).choose else 0
theorem six_dvd {q : Rat} (h : goodQ q) : q.den ∣ 6 ^ sixQ q := by
  unfold sixQ
  rw [dif_pos h]
  exact (good_least h).choose_spec.1
theorem six_le {q : Rat} {k : Nat} (h : q.den ∣ 6 ^ k) : sixQ q ≤ k := by
  have g : goodQ q := ⟨k, h⟩
  unfold sixQ
  rw [dif_pos g]
  exact (good_least g).choose_spec.2 k h
theorem six_int (n : Int) : sixQ (n : Rat) = 0 := Nat.le_zero.mp (six_le (by simp))
theorem six_pow {q : Rat} (h : goodQ q) : ∀ e : Nat, (q ^ e).den ∣ 6 ^ (e * sixQ q)
  | 0 => by simp
  | e + 1 => by
    rw [Rat.pow_succ, Nat.add_mul, Nat.one_mul, Nat.pow_add]
    exact mul_den (six_pow h e) (six_dvd h)
theorem p6 (k : Nat) : 6 ^ k ≠ 0 := Nat.pos_iff_ne_zero.mp (Nat.pow_pos (by decide))
theorem six_ad {p q : Rat} (h1 : goodQ p) (h2 : goodQ q) : sixQ (p + q) ≤ max (sixQ p) (sixQ q) :=
  six_le (add_den (p6 _) (Nat.dvd_trans (six_dvd h1) (Nat.pow_dvd_pow _ (Nat.le_max_left ..))) (Nat.dvd_trans (six_dvd h2) (Nat.pow_dvd_pow _ (Nat.le_max_right ..))))
/-- the lower numbers: powers of six -/
noncomputable def wt6 : Wt := { wt0 with
  a := sixQ
  a_c := fun _ => Nat.zero_le _
  a_0 := Nat.le_of_eq (six_int 0)
  a_1 := Nat.le_of_eq (six_int 1)
  a_ad := fun p q h1 h2 => six_ad h1 h2
  a_ml := fun p q h1 h2 => six_le (by show (p * q).den ∣ 6 ^ (sixQ p + sixQ q); rw [Nat.pow_add]; exact mul_den (six_dvd h1) (six_dvd h2))
  l2 := fun p x h => by
    have h1 := six_ad h good_1
    have h2 : sixQ 1 = 0 := six_int 1
    show sixQ (p + 1) + x ≤ max (sixQ p + x) x
    omega
  l4 := fun x => by
    have h1 := six_ad good_1 good_1
    have h2 : sixQ 1 = 0 := six_int 1
    show sixQ (1 + 1) + x ≤ max x x
    omega
  pw_q := fun q e h => six_le (Nat.dvd_trans (six_pow h e) (Nat.pow_dvd_pow _ (Nat.mul_le_mul_right _ (Nat.le_max_right 1 e)))) }
end Lw

/-! ### what the measures tell: rules can be asked -/
namespace Lw
open PySem Fm
variable {N : Str → Prop}
/-- small enough for every rule -/
structure Sm (N : Str → Prop) (f : W) : Prop where
  two : Two N f
  m1 : W.ms wt1 f ≤ 20000
  m2 : W.ms wt2 f ≤ 2 ^ 40
  mv : W.ms wtV f ≤ 2 ^ 100
  m6 : W.ms wt6 f ≤ 300
theorem Sm.kid {f g : W} {j : Nat} (h : Sm N f) (hk : f.kids[j]? = some g) : Sm N g :=
  ⟨(ms_kid wt1 h.two hk).2, Nat.le_trans (ms_kid wt1 h.two hk).1 h.m1, Nat.le_trans (ms_kid wt2 h.two hk).1 h.m2, Nat.le_trans (ms_kid wtV h.two hk).1 h.mv, Nat.le_trans (ms_kid wt6 h.two hk).1 h.m6⟩
theorem Sm.next {f o : W} {r : Fin 8} {q : List Int} (h : Sm N f) (hn : nextF f = some (r, q, o)) : Sm N o :=
  ⟨next_two h.two hn, Nat.le_trans (next_ms wt1 h.two hn) h.m1, Nat.le_trans (next_ms wt2 h.two hn) h.m2, Nat.le_trans (next_ms wtV h.two hn) h.mv, Nat.le_trans (next_ms wt6 h.two hn) h.m6⟩
theorem six_lt : (6 : Nat) ^ 300 < 2 ^ 900 := by decide +kernel
theorem qs_of {q : Rat} {v k : Nat} (h1 : upQ q ≤ v) (h2 : q.den ∣ 6 ^ k) (hv : v ≤ 2 ^ 100) (hk : k ≤ 300) : qs 4000 q := by
  have hd : q.den ≤ 6 ^ k := Nat.le_of_dvd (Nat.pow_pos (by decide)) h2
  have hd2 : q.den < 2 ^ 900 := Nat.lt_of_le_of_lt (Nat.le_trans hd (Nat.pow_le_pow_right (by decide) hk)) six_lt
  have hv1 : 1 ≤ v := Nat.le_trans (upQ_pos q) h1
  have hn := (upQ_le hv1).mp h1
  refine ⟨?_, Nat.lt_of_lt_of_le hd2 (Nat.pow_le_pow_right (by decide) (by decide))⟩
  have h3 : v * q.den < 2 ^ 1001 := by
    calc v * q.den ≤ 2 ^ 100 * q.den := Nat.mul_le_mul_right _ hv
      _ < 2 ^ 100 * 2 ^ 901 := Nat.mul_lt_mul_of_pos_left (Nat.lt_of_lt_of_le hd2 (Nat.pow_le_pow_right (by decide) (by decide))) (Nat.pow_pos (by decide))
      _ = 2 ^ 1001 := by rw [← Nat.pow_add]
  exact Nat.lt_of_lt_of_le (Nat.lt_of_le_of_lt hn h3) (Nat.pow_le_pow_right (by decide) (by decide))
theorem Sm.qs {q : Rat} (h : Sm N (.num q)) : qs 4000 q := by
  have h2 := six_dvd (two_num.mp h.two)
  refine qs_of (v := W.ms wtV (.num q)) (k := sixQ q) (by simp [W.ms]; exact Nat.le_refl _) h2 h.mv ?_
  have := h.m6
  simp only [W.ms] at this
  exact this
theorem len_add : ∀ {ps : List W}, (∀ f ∈ ps, Two N f) → ps.length ≤ mF wt1 false ps
  | [], _ => Nat.zero_le _
  | p :: ps, h => by
    have ih := len_add fun f hf => h f (List.mem_cons_of_mem _ hf)
    have := ms_ge wt1 (h p List.mem_cons_self)
    rw [mF_cons, List.length_cons]
    show _ ≤ W.ms wt1 p + mF wt1 false ps
    have h1 : 1 ≤ W.ms wt1 p := this
    omega
theorem len_mul : ∀ {ps : List W}, (∀ f ∈ ps, Two N f) → 2 ^ ps.length ≤ mF wt2 true ps
  | [], _ => by rw [mF_nil]; exact Nat.le_refl _
  | p :: ps, h => by
    have ih := len_mul fun f hf => h f (List.mem_cons_of_mem _ hf)
    have h1 : 2 ≤ W.ms wt2 p := ms_ge wt2 (h p List.mem_cons_self)
    rw [mF_cons, List.length_cons, Nat.pow_succ, Nat.mul_comm]
    exact Nat.mul_le_mul h1 ih
theorem lt_of_pow {n : Nat} (h : 2 ^ n ≤ 2 ^ 40) : n ≤ 40 := (Nat.pow_le_pow_iff_right (by decide)).mp h
theorem len_of {m : Bool} {ps : List W} (hp : ∀ f ∈ ps, Two N f) (h1 : mF wt1 m ps ≤ 20000) (h2 : mF wt2 m ps ≤ 2 ^ 40) : ps.length ≤ 20000 := by
  cases m
  · exact Nat.le_trans (len_add hp) h1
  · have := lt_of_pow (Nat.le_trans (len_mul hp) h2)
    omega
theorem Sm.ok (hN : ∀ x, N x → okN x) : ∀ {f : W}, Sm N f → f.ok := by
  intro f
  refine W.ind (φ := fun f => Sm N f → f.ok) (fun q h => h.qs) (fun x h => hN x (two_nam.mp h.two)) (fun m ps ih h => ?_) (fun f e ih h => ?_) f
  · obtain ⟨hl, hp⟩ := two_many.mp h.two
    have e1 := h.m1
    have e2 := h.m2
    rw [ms_many] at e1 e2
    refine ⟨Nat.le_trans (len_of hp e1 e2) (by decide), Ws_ok.mpr fun f hf => ?_⟩
    obtain ⟨j, hj⟩ := List.getElem?_of_mem hf
    exact ih f hf (h.kid (f := .many m ps) (j := j) hj)
  · have hk := h.kid (f := .pow f e) (j := 0) rfl
    refine ⟨ih hk, ?_⟩
    have h1 : 2 ≤ W.ms wt2 f := ms_ge wt2 hk.two
    have h2 := h.m2
    simp only [W.ms] at h2
    have h3 : W.ms wt2 f ^ max 1 e ≤ 2 ^ 40 := h2
    have h4 : 2 ^ max 1 e ≤ 2 ^ 40 := Nat.le_trans (Nat.pow_le_pow_left h1 _) h3
    have := lt_of_pow h4
    have : max 1 e ≤ 40 := this
    omega
theorem Sm.rule (hN : ∀ x, N x → okN x) {f : W} (h : Sm N f) (hh : f.h ≤ 60) : RuleOk f := by
  refine ⟨h.ok hN, hh, ?_, ?_, ?_, ?_⟩
  · rintro m ps rfl g hg m' qs rfl
    exact (two_many.mp ((two_many.mp h.two).2 _ hg)).1
  · rintro m ps rfl n
    obtain ⟨hl, hp⟩ := two_many.mp h.two
    have ev := h.mv
    have e6 := h.m6
    rw [ms_many] at ev e6
    have hsub : ((ps.filter W.isNum).take n).Sublist ps := (List.take_sublist _ _).trans List.filter_sublist
    by_cases h0 : (ps.filter W.isNum).take n = []
    · rw [h0]
      cases m
      · exact ⟨by decide, by decide⟩
      · exact ⟨by decide, by decide⟩
    · have hn : ∀ f ∈ (ps.filter W.isNum).take n, f.isNum = true ∧ Two N f := fun f hf => ⟨(List.mem_filter.mp (List.mem_of_mem_take hf)).2, hp f (hsub.subset hf)⟩
      have t1 := a_total wtV m h0 hn
      have t2 := a_total wt6 m h0 hn
      have s1 := mF_sub wtV m hsub h0 hp
      have s2 := mF_sub wt6 m hsub h0 hp
      exact qs_of (Nat.le_refl _) (six_dvd t1.2) (Nat.le_trans t1.1 (Nat.le_trans s1 ev)) (Nat.le_trans t2.1 (Nat.le_trans s2 e6))
  · rintro m ps rfl
    obtain ⟨hl, hp⟩ := two_many.mp h.two
    have e1 := h.m1
    have e2 := h.m2
    rw [ms_many] at e1 e2
    have hq : ∀ f ∈ ps.flatMap (flatP m), Two N f := fun f hf => by
      obtain ⟨p, hp', hf⟩ := List.mem_flatMap.mp hf
      have := hp p hp'
      cases p with
      | many n qs =>
        simp only [flatP] at hf
        split at hf
        · exact (two_many.mp this).2 f hf
        · rw [List.mem_singleton.mp hf]; exact this
      | _ => simp only [flatP] at hf; rw [List.mem_singleton.mp hf]; exact this
    have key : ∀ T, mF T m (ps.flatMap (flatP m)) = mF T m ps := fun T => by
      clear e1 e2 hq hl hp h hh
      induction ps with
      | nil => rfl
      | cons p ps ih =>
        rw [List.flatMap_cons, mF_append, ih, mF_cons]
        congr 1
        cases p with
        | many n qs =>
          simp only [flatP]
          split
          · rename_i e
            rw [e, ms_many]
          · rw [mF_cons, mF_nil, op_u]
        | _ => simp only [flatP]; rw [mF_cons, mF_nil, op_u]
    exact Nat.le_trans (len_of hq (by rw [key]; exact e1) (by rw [key]; exact e2)) (by decide)
  · rintro g e rfl q rfl j hj
    have hq := two_num.mp (two_pow.mp h.two)
    have ev := h.mv
    have e6 := h.m6
    simp only [W.ms] at ev e6
    have ev : upQ q ^ max 1 e ≤ 2 ^ 100 := ev
    have e6 : max 1 e * sixQ q ≤ 300 := e6
    refine qs_of (Nat.le_refl _) (six_pow hq j) (Nat.le_trans (upQ_pow q j) (Nat.le_trans (Nat.pow_le_pow_right (upQ_pos q) (by omega)) ev)) (Nat.le_trans (Nat.mul_le_mul_right _ (by omega)) e6)
end Lw

/-! ### how deep formulas can become, step by step -/
namespace Lw
open PySem Fm
variable {N : Str → Prop}
mutual
def W.hasAdd : W → Bool
  | .num _ => false
  | .nam _ => false
  | .many m ps => !m || Ws.hasAdd ps
  | .pow f _ => W.hasAdd f
def Ws.hasAdd : List W → Bool
  | [] => false
  | f :: fs => W.hasAdd f || Ws.hasAdd fs
end
theorem Ws_hasAdd : ∀ {ps : List W}, Ws.hasAdd ps = false ↔ ∀ f ∈ ps, f.hasAdd = false
  | [] => by simp [Ws.hasAdd]
  | f :: fs => by simp [Ws.hasAdd, Ws_hasAdd (ps := fs)]
mutual
def W.ps0 : W → Nat
  | .num _ => 0
  | .nam _ => 0
  | .many _ ps => 1 + max 1 (Ws.ps0 ps)
  | .pow f _ => 1 + W.ps0 f
def Ws.ps0 : List W → Nat
  | [] => 0
  | f :: fs => max (W.ps0 f) (Ws.ps0 fs)
end
def cntA (ps : List W) : Nat := (ps.filter W.hasAdd).length
mutual
def W.psi : W → Nat
  | .num _ => 0
  | .nam _ => 0
  | .many m ps => if W.hasAdd (.many m ps) = false then W.ps0 (.many m ps) else if W.norm (.many m ps) then 3 else if m then 1 + max (cntA ps + 3) (Ws.psi ps) else 1 + max 4 (Ws.psi ps)
  | .pow f e => if W.hasAdd f = false then W.ps0 (.pow f e) else 1 + max (e + 5) (W.psi f)
def Ws.psi : List W → Nat
  | [] => 0
  | f :: fs => max (W.psi f) (Ws.psi fs)
end
theorem Ws_ps0 : ∀ {ps : List W} {n : Nat}, Ws.ps0 ps ≤ n ↔ ∀ f ∈ ps, f.ps0 ≤ n
  | [], n => by simp [Ws.ps0]
  | f :: fs, n => by simp [Ws.ps0, Nat.max_le, Ws_ps0 (ps := fs)]
theorem Ws_psi : ∀ {ps : List W} {n : Nat}, Ws.psi ps ≤ n ↔ ∀ f ∈ ps, f.psi ≤ n
  | [], n => by simp [Ws.psi]
  | f :: fs, n => by simp [Ws.psi, Nat.max_le, Ws_psi (ps := fs)]
theorem ps0_mem {ps : List W} {f : W} (h : f ∈ ps) : f.ps0 ≤ Ws.ps0 ps := Ws_ps0.mp (Nat.le_refl _) f h
theorem psi_mem {ps : List W} {f : W} (h : f ∈ ps) : f.psi ≤ Ws.psi ps := Ws_psi.mp (Nat.le_refl _) f h
theorem psi_af {f : W} (h : f.hasAdd = false) : f.psi = f.ps0 := by
  cases f with
  | num q => rfl
  | nam x => rfl
  | many m ps => simp only [W.psi, h, if_true]
  | pow g e =>
    have : g.hasAdd = false := h
    simp only [W.psi, this, if_true]
theorem psi_mul {ps : List W} (h : (W.many true ps).hasAdd = true) (hn : (W.many true ps).norm = false) : (W.many true ps).psi = 1 + max (cntA ps + 3) (Ws.psi ps) := by
  simp [W.psi, h, hn]
theorem psi_add {ps : List W} (hn : (W.many false ps).norm = false) : (W.many false ps).psi = 1 + max 4 (Ws.psi ps) := by
  simp [W.psi, W.hasAdd, hn]
theorem psi_pow {g : W} {e : Nat} (h : g.hasAdd = true) : (W.pow g e).psi = 1 + max (e + 5) g.psi := by
  simp [W.psi, h]
/-! ### formulas without a rule -/
theorem norm_iff (f : W) : f.norm = true ↔ (∀ g ∈ f.kids, g.norm = true) ∧ firstRule f = none := by
  rcases first_cases f with ⟨h1, h2, h3⟩ | ⟨h1, h2, x, h3⟩ | ⟨j, q, g, h1, h2, h3⟩
  · simp [W.norm, h1, h3]
    simpa [W.norm] using h2
  · simp [W.norm, h1, h3]
  · simp only [W.norm, h1, Option.isNone_some, Bool.false_eq_true, false_iff, not_and]
    intro h
    have := h g (List.mem_of_getElem? h2)
    simp [h3] at this
theorem norm_pow {g : W} {e : Nat} (h : (W.pow g e).norm = true) : ∃ x, g = .nam x ∧ 2 ≤ e := by
  have h2 := firstRule_none ((norm_iff _).mp h).2 3
  simp only [byRule, if_true, powF] at h2
  split at h2
  · cases h2
  · split at h2
    · cases h2
    · cases g with
      | nam x => exact ⟨x, rfl, by omega⟩
      | many m ps => cases m <;> cases h2
      | _ => cases h2
theorem flat_none {m : Bool} {ps : List W} (h : flatF m ps = none) : ∀ p ∈ ps, p.isMany m = false := by
  unfold flatF at h
  split at h
  · cases h
  · rename_i hn
    intro p hp
    cases hb : p.isMany m with
    | false => rfl
    | true => exact (hn (List.any_eq_true.mpr ⟨p, hp, hb⟩)).elim
theorem spread_none : ∀ {ps : List W}, spreadP ps = none → ∀ p ∈ ps, p.isMany false = false
  | [], _, _, h => by cases h
  | x :: ps, h, p, hp => by
    cases x with
    | many m qs =>
      cases m with
      | false => simp [spreadP] at h
      | true =>
        simp only [spreadP] at h
        cases hs : spreadP ps with
        | some z => obtain ⟨a, b, c⟩ := z; rw [hs] at h; cases h
        | none =>
          rcases List.mem_cons.mp hp with rfl | hp
          · rfl
          · exact spread_none hs p hp
    | _ =>
      simp only [spreadP] at h
      cases hs : spreadP ps with
      | some z => obtain ⟨a, b, c⟩ := z; rw [hs] at h; cases h
      | none =>
        rcases List.mem_cons.mp hp with rfl | hp
        · rfl
        · exact spread_none hs p hp
theorem norm_mul {ps : List W} (h : (W.many true ps).norm = true) : ∀ p ∈ ps, p.norm = true ∧ ∀ m, p.isMany m = false := by
  obtain ⟨h1, h2⟩ := (norm_iff _).mp h
  have f0 : flatF true ps = none := firstRule_none h2 0
  have f5 : spreadF ps = none := by simpa [byRule] using firstRule_none h2 5
  have s5 : spreadP ps = none := by
    unfold spreadF at f5
    cases hs : spreadP ps with
    | none => rfl
    | some z => obtain ⟨a, b, c⟩ := z; rw [hs] at f5; cases f5
  intro p hp
  refine ⟨h1 p hp, fun m => ?_⟩
  cases m
  · exact spread_none s5 p hp
  · exact flat_none f0 p hp
theorem norm_add {ps : List W} (h : (W.many false ps).norm = true) : ∀ p ∈ ps, p.norm = true ∧ p.isMany false = false := by
  obtain ⟨h1, h2⟩ := (norm_iff _).mp h
  have f0 : flatF false ps = none := firstRule_none h2 0
  exact fun p hp => ⟨h1 p hp, flat_none f0 p hp⟩
/-- a part of a product without a rule -/
theorem norm_leaf {p : W} (h : p.norm = true) (hm : ∀ m, p.isMany m = false) : p.hasAdd = false ∧ p.ps0 ≤ 1 ∧ p.h ≤ 1 := by
  cases p with
  | num q => exact ⟨rfl, by simp [W.ps0], by simp [W.h]⟩
  | nam x => exact ⟨rfl, by simp [W.ps0], by simp [W.h]⟩
  | many m ps => have := hm m; simp [W.isMany] at this
  | pow g e =>
    obtain ⟨x, rfl, _⟩ := norm_pow h
    exact ⟨rfl, by simp [W.ps0], by simp [W.h]⟩
theorem norm_mono {p : W} (h : p.norm = true) (hm : p.isMany false = false) : p.hasAdd = false ∧ p.ps0 ≤ 2 ∧ p.h ≤ 2 := by
  cases p with
  | many m ps =>
    cases m with
    | false => simp [W.isMany] at hm
    | true =>
      have hk := norm_mul h
      refine ⟨?_, ?_, ?_⟩
      · simp only [W.hasAdd, Bool.not_true, Bool.false_or]
        exact Ws_hasAdd.mpr fun f hf => (norm_leaf (hk f hf).1 (hk f hf).2).1
      · have : Ws.ps0 ps ≤ 1 := Ws_ps0.mpr fun f hf => (norm_leaf (hk f hf).1 (hk f hf).2).2.1
        simp only [W.ps0]
        omega
      · have : Ws.h ps ≤ 1 := Ws_h_le fun f hf => (norm_leaf (hk f hf).1 (hk f hf).2).2.2
        simp only [W.h]
        omega
  | num q => exact ⟨rfl, by simp [W.ps0], by simp [W.h]⟩
  | nam x => exact ⟨rfl, by simp [W.ps0], by simp [W.h]⟩
  | pow g e =>
    have := norm_leaf h (fun m => rfl)
    exact ⟨this.1, by omega, by omega⟩
theorem norm_psi {p : W} (h : p.norm = true) : p.psi ≤ 3 ∧ p.h ≤ 3 ∧ (p.hasAdd = true → p.isMany false = true) ∧ (p.hasAdd = false → p.psi ≤ 2) := by
  cases hm : p.isMany false with
  | false =>
    obtain ⟨h1, h2, h3⟩ := norm_mono h hm
    refine ⟨by rw [psi_af h1]; omega, by omega, fun z => ?_, fun _ => by rw [psi_af h1]; exact h2⟩
    rw [h1] at z
    cases z
  | true =>
    cases p with
    | many m ps =>
      cases m with
      | true => simp [W.isMany] at hm
      | false =>
        refine ⟨by simp [W.psi, W.hasAdd, h], ?_, fun _ => rfl, fun z => by simp [W.hasAdd] at z⟩
        have hk := norm_add h
        have : Ws.h ps ≤ 2 := Ws_h_le fun f hf => (norm_mono (hk f hf).1 (hk f hf).2).2.2
        simp only [W.h]
        omega
    | _ => simp [W.isMany] at hm
theorem h_ps0 : ∀ f : W, f.h ≤ f.ps0 := by
  refine W.ind (fun q => by simp [W.h]) (fun x => by simp [W.h]) (fun m ps ih => ?_) (fun f e ih => by simp only [W.h, W.ps0]; omega)
  have : Ws.h ps ≤ Ws.ps0 ps := Ws_h_le fun f hf => Nat.le_trans (ih f hf) (ps0_mem hf)
  simp only [W.h, W.ps0]
  omega
theorem h_psi : ∀ f : W, f.h ≤ f.psi := by
  refine W.ind (fun q => by simp [W.h]) (fun x => by simp [W.h]) (fun m ps ih => ?_) (fun f e ih => ?_)
  · have hw : Ws.h ps ≤ Ws.psi ps := Ws_h_le fun f hf => Nat.le_trans (ih f hf) (psi_mem hf)
    cases ha : (W.many m ps).hasAdd with
    | false => rw [psi_af ha]; exact h_ps0 _
    | true =>
      cases hn : (W.many m ps).norm with
      | true =>
        have h3 := (norm_psi hn).2.1
        have : (W.many m ps).psi = 3 := by simp [W.psi, ha, hn]
        omega
      | false =>
        cases m
        · rw [psi_add hn]; simp only [W.h]; omega
        · rw [psi_mul ha hn]; simp only [W.h]; omega
  · cases ha : f.hasAdd with
    | false => rw [psi_af (f := .pow f e) ha]; exact h_ps0 _
    | true => rw [psi_pow ha]; simp only [W.h]; omega
/-! ### bounds -/
theorem cnt0 {L : List W} (h : Ws.hasAdd L = false) : cntA L = 0 := by
  unfold cntA
  rw [List.filter_eq_nil_iff.mpr fun f hf => by simp [Ws_hasAdd.mp h f hf]]
  rfl
theorem u_mul {L : List W} (h : ∀ k ∈ L, k.psi ≤ 3) : (W.many true L).psi ≤ cntA L + 4 := by
  cases ha : (W.many true L).hasAdd with
  | false =>
    have hl : Ws.hasAdd L = false := by simpa [W.hasAdd] using ha
    rw [psi_af ha]
    have : Ws.ps0 L ≤ 3 := Ws_ps0.mpr fun f hf => by rw [← psi_af (Ws_hasAdd.mp hl f hf)]; exact h f hf
    simp only [W.ps0]
    omega
  | true =>
    cases hn : (W.many true L).norm with
    | true => have := (norm_psi hn).1; omega
    | false =>
      rw [psi_mul ha hn]
      have := Ws_psi.mpr h
      omega
theorem up_alone {L : List W} (h : ∀ k ∈ L, k.psi ≤ 3) (h0 : L ≠ []) : (alone true L).psi ≤ cntA L + 4 := by
  match L, h0 with
  | [p], _ => have := h p (by simp); simp only [alone]; omega
  | p :: q :: r, _ => exact u_mul h
theorem u_add {L : List W} (h : ∀ k ∈ L, k.psi ≤ 4) : (W.many false L).psi ≤ 5 := by
  cases hn : (W.many false L).norm with
  | true => have := (norm_psi hn).1; omega
  | false =>
    rw [psi_add hn]
    have := Ws_psi.mpr h
    omega
theorem u_aloneA {L : List W} (h : ∀ k ∈ L, k.psi ≤ 4) (h0 : L ≠ []) : (alone false L).psi ≤ 5 := by
  match L, h0 with
  | [p], _ => have := h p (by simp); simp only [alone]; omega
  | p :: q :: r, _ => exact u_add h
/-- what stands among parts of which two became one -/
theorem merge_mem {ps : List W} {i j : Nat} (h1 : i < j) (h2 : j < ps.length) {f g : W} (h : g ∈ mergeF ps i j f) : g = f ∨ g ∈ ps := by
  obtain ⟨A, B, C, e1, e2⟩ := merge_split h1 h2 f
  rw [e2] at h
  simp only [List.mem_append, List.mem_cons] at h
  rcases h with h | h | h | h
  · right; rw [e1]; simp [h]
  · exact .inl h
  · right; rw [e1]; simp [h]
  · right; rw [e1]; simp [h]
theorem cnt_merge {ps : List W} {i j : Nat} (h1 : i < j) (h2 : j < ps.length) {f : W} (h : f.hasAdd = false) : cntA (mergeF ps i j f) ≤ cntA ps := by
  obtain ⟨A, B, C, e1, e2⟩ := merge_split h1 h2 f
  rw [e2]
  conv => rhs; rw [e1]
  unfold cntA
  simp only [List.filter_append, List.filter_cons, h, Bool.false_eq_true, if_false, List.length_append]
  split <;> split <;> simp <;> omega
theorem alone_af {m : Bool} {L : List W} {n : Nat} (h : ∀ k ∈ L, k.ps0 ≤ n) (hn : 1 ≤ n) (h0 : L ≠ []) : (alone m L).ps0 ≤ n + 1 := by
  match L, h0 with
  | [p], _ => have := h p (by simp); simp only [alone]; omega
  | p :: q :: r, _ =>
    have := Ws_ps0.mpr h
    show (W.many m (p :: q :: r)).ps0 ≤ _
    simp only [W.ps0] at this ⊢
    omega
theorem alone_hasAdd {L : List W} (h : ∀ k ∈ L, k.hasAdd = false) (h0 : L ≠ []) : (alone true L).hasAdd = false := by
  match L, h0 with
  | [p], _ => exact h p (by simp)
  | p :: q :: r, _ =>
    show (W.many true (p :: q :: r)).hasAdd = false
    simp only [W.hasAdd, Bool.not_true, Bool.false_or]
    exact Ws_hasAdd.mpr h
/-- the root's step, without adds -/
theorem root_af {f o : W} {r : Fin 8} (ha : f.hasAdd = false) (ht : Two N f) (h : firstRule f = some (r, o)) : o.hasAdd = false ∧ o.ps0 ≤ f.ps0 := by
  obtain ⟨hr, hb⟩ := firstRule_some h
  cases f with
  | num q => simp [byRule] at hr
  | nam x => simp [byRule] at hr
  | pow g e =>
    have ha' : g.hasAdd = false := ha
    simp only [byRule] at hr
    split at hr
    · unfold powF at hr
      split at hr
      · cases hr; exact ⟨rfl, by simp [W.ps0]⟩
      · split at hr
        · cases hr; exact ⟨ha', by simp only [W.ps0]; omega⟩
        · cases g with
          | num q => cases hr; exact ⟨rfl, by simp [W.ps0]⟩
          | nam x => cases hr
          | pow g a => cases hr; exact ⟨ha', by simp only [W.ps0]; omega⟩
          | many m ps =>
            cases m with
            | false => simp [W.hasAdd] at ha'
            | true =>
              cases hr
              have hp : Ws.hasAdd ps = false := by simpa [W.hasAdd] using ha'
              refine ⟨?_, ?_⟩
              · simp only [W.hasAdd, Bool.not_true, Bool.false_or]
                refine Ws_hasAdd.mpr fun k hk => ?_
                obtain ⟨p, hp', rfl⟩ := List.mem_map.mp hk
                exact Ws_hasAdd.mp hp p hp'
              · have : Ws.ps0 (ps.map fun p => .pow p e) ≤ 1 + Ws.ps0 ps := Ws_ps0.mpr fun k hk => by
                  obtain ⟨p, hp', rfl⟩ := List.mem_map.mp hk
                  have := ps0_mem hp'
                  simp only [W.ps0]
                  omega
                simp only [W.ps0]
                omega
    · cases hr
  | many m ps =>
    cases m with
    | false => simp [W.hasAdd] at ha
    | true =>
      have hp : ∀ f ∈ ps, f.hasAdd = false := Ws_hasAdd.mp (by simpa [W.hasAdd] using ha)
      obtain ⟨hl, htp⟩ := two_many.mp ht
      have hne : ps ≠ [] := by rintro rfl; simp at hl
      have hk : ∀ f ∈ ps, f.ps0 ≤ max 1 (Ws.ps0 ps) := fun f hf => Nat.le_trans (ps0_mem hf) (Nat.le_max_right _ _)
      have hf0 : (W.many true ps).ps0 = max 1 (Ws.ps0 ps) + 1 := by simp only [W.ps0]; omega
      have sub : ∀ L : List W, L ≠ [] → (∀ f ∈ L, f.hasAdd = false ∧ f.ps0 ≤ max 1 (Ws.ps0 ps)) → (alone true L).hasAdd = false ∧ (alone true L).ps0 ≤ (W.many true ps).ps0 := fun L h0 hL => by
        rw [hf0]
        exact ⟨alone_hasAdd (fun k hk => (hL k hk).1) h0, alone_af (fun k hk => (hL k hk).2) (by omega) h0⟩
      match r, hr, hb with
      | 0, hr, _ =>
        simp only [byRule, flatF] at hr
        split at hr
        · cases hr
          have hq : ∀ f ∈ ps.flatMap (flatP true), f.hasAdd = false ∧ f.ps0 ≤ max 1 (Ws.ps0 ps) := fun f hf => by
            obtain ⟨p, hp', hf⟩ := List.mem_flatMap.mp hf
            have h1 := hp p hp'
            have h2 := hk p hp'
            cases p with
            | many n qs =>
              simp only [flatP] at hf
              split at hf
              · rename_i e
                subst e
                have h3 : Ws.hasAdd qs = false := by simpa [W.hasAdd] using h1
                have h4 := ps0_mem hf
                simp only [W.ps0] at h2
                exact ⟨Ws_hasAdd.mp h3 f hf, by omega⟩
              · rw [List.mem_singleton.mp hf]; exact ⟨h1, h2⟩
            | _ => simp only [flatP] at hf; rw [List.mem_singleton.mp hf]; exact ⟨h1, h2⟩
          refine ⟨?_, ?_⟩
          · simp only [W.hasAdd, Bool.not_true, Bool.false_or]
            exact Ws_hasAdd.mpr fun f hf => (hq f hf).1
          · have := Ws_ps0.mpr fun f hf => (hq f hf).2
            simp only [W.ps0]
            omega
        · cases hr
      | 1, hr, _ =>
        simp only [byRule, foldF] at hr
        split at hr
        · cases hr
        · rename_i hlt
          cases hr
          have hn : ps.filter W.isNum ≠ [] := by
            intro e
            rw [e] at hlt
            simp at hlt
          refine sub _ (repl_ne hne) fun f hf => ?_
          rcases List.mem_cons.mp ((repl_perm (total true ps) hn).mem_iff.mp hf) with rfl | hf
          · exact ⟨rfl, by simp [W.ps0]⟩
          · have := (List.mem_filter.mp hf).1; exact ⟨hp f this, hk f this⟩
      | 2, hr, _ =>
        simp only [byRule, noneF] at hr
        split at hr
        · cases hr; exact ⟨rfl, by simp [W.ps0]⟩
        · split at hr
          · split at hr
            · cases hr; exact ⟨rfl, by simp [W.ps0, idle]⟩
            · rename_i hq
              cases hr
              exact sub _ hq fun f hf => ⟨hp f (List.mem_filter.mp hf).1, hk f (List.mem_filter.mp hf).1⟩
          · cases hr
      | 3, hr, _ => simp [byRule] at hr
      | 4, hr, hb =>
        have hfl : flatF true ps = none := hb 0 (by decide)
        obtain ⟨i, j, h1, h2, b, a, c, bi, bj, rfl⟩ := gather_of (by simpa [byRule] using hr)
        have hi : ps[i] ∈ ps := List.getElem_mem _
        have hnm := flat_none hfl _ hi
        have hbb : b.hasAdd = false ∧ 1 + b.ps0 ≤ max 1 (Ws.ps0 ps) := by
          have h3 := hp _ hi
          have h4 := hk _ hi
          generalize ps[i] = x at bi hnm h3 h4
          cases x with
          | num q => simp [baseOf] at bi
          | nam x => simp [baseOf] at bi; obtain ⟨rfl, rfl⟩ := bi; exact ⟨rfl, by simp [W.ps0]; omega⟩
          | pow g a => simp [baseOf] at bi; obtain ⟨rfl, rfl⟩ := bi; simp only [W.ps0] at h4; exact ⟨h3, h4⟩
          | many m qs =>
            cases m
            · simp [W.hasAdd] at h3
            · simp [W.isMany] at hnm
        refine sub _ (merge_ne h1 h2) fun f hf => ?_
        rcases merge_mem h1 h2 hf with rfl | hf
        · exact ⟨hbb.1, by simp only [W.ps0]; exact hbb.2⟩
        · exact ⟨hp f hf, hk f hf⟩
      | 5, hr, _ =>
        have hr : spreadF ps = some o := by simpa [byRule] using hr
        unfold spreadF at hr
        cases hs : spreadP ps with
        | none => rw [hs] at hr; cases hr
        | some z =>
          obtain ⟨a, b, c⟩ := z
          have := hp (.many false b) (by rw [spread_of hs]; simp)
          simp [W.hasAdd] at this
      | 6, hr, _ => simp [byRule] at hr
      | 7, hr, _ =>
        simp only [byRule, orderF] at hr
        split at hr
        · cases hr
        · cases hr
          refine ⟨?_, ?_⟩
          · simp only [W.hasAdd, Bool.not_true, Bool.false_or]
            exact Ws_hasAdd.mpr fun f hf => hp f (inOrder_mem.mp hf)
          · have := Ws_ps0.mpr fun f hf => hk f (inOrder_mem.mp hf)
            simp only [W.ps0]
            omega
end Lw

namespace Lw
open PySem Fm
variable {N : Str → Prop}
theorem norm_kid {f g : W} (h : f.norm = true) (hg : g ∈ f.kids) : g.norm = true := ((norm_iff f).mp h).1 g hg
theorem cnt_flat : ∀ {ps : List W}, (∀ f ∈ ps, f.norm = true) → cntA (ps.flatMap (flatP true)) ≤ cntA ps
  | [], _ => Nat.le_refl _
  | p :: ps, h => by
    have ih := cnt_flat fun f hf => h f (List.mem_cons_of_mem _ hf)
    have hp := h p List.mem_cons_self
    unfold cntA at ih ⊢
    rw [List.flatMap_cons, List.filter_append, List.length_append, List.filter_cons]
    have h1 : ((flatP true p).filter W.hasAdd).length ≤ if p.hasAdd = true then 1 else 0 := by
      cases p with
      | many n qs =>
        simp only [flatP]
        split
        · rename_i e
          subst e
          have hk := norm_mul hp
          rw [List.filter_eq_nil_iff.mpr fun f hf => by simp [(norm_leaf (hk f hf).1 (hk f hf).2).1]]
          simp
        · rw [List.filter_cons]; split <;> simp
      | _ => simp only [flatP, List.filter_cons]; split <;> simp
    split
    · rename_i hh
      rw [if_pos hh] at h1
      simp only [List.length_cons]
      omega
    · rename_i hh
      rw [if_neg hh] at h1
      omega
theorem cnt_sub {L ps : List W} (h : L.Sublist ps) : cntA L ≤ cntA ps := (h.filter _).length_le
theorem cnt_perm {L ps : List W} (h : L.Perm ps) : cntA L = cntA ps := (h.filter _).length_eq
theorem has_of {L ps : List W} (h : ∀ f ∈ L, f.hasAdd = true → Ws.hasAdd ps = true) : Ws.hasAdd L = true → Ws.hasAdd ps = true := fun hl => by
  cases hp : Ws.hasAdd ps with
  | true => rfl
  | false =>
    have : Ws.hasAdd L = false := Ws_hasAdd.mpr fun f hf => by
      cases e : f.hasAdd with
      | false => rfl
      | true => rw [h f hf e] at hp; cases hp
    rw [this] at hl
    cases hl
theorem has_mem {ps : List W} {f : W} (h : f ∈ ps) (ha : f.hasAdd = true) : Ws.hasAdd ps = true := by
  cases hp : Ws.hasAdd ps with
  | true => rfl
  | false => rw [Ws_hasAdd.mp hp f h] at ha; cases ha
theorem cnt_pos {ps : List W} (h : Ws.hasAdd ps = true) : 1 ≤ cntA ps := by
  by_cases hc : cntA ps = 0
  · unfold cntA at hc
    have := List.filter_eq_nil_iff.mp (List.length_eq_zero_iff.mp hc)
    have : Ws.hasAdd ps = false := Ws_hasAdd.mpr fun f hf => by simpa using this f hf
    rw [this] at h
    cases h
  · omega
/-- the root's step, with adds -/
theorem root_add {f o : W} {r : Fin 8} (ha : f.hasAdd = true) (ht : Two N f) (hk : ∀ g ∈ f.kids, g.norm = true) (h : firstRule f = some (r, o)) : o.psi ≤ f.psi := by
  obtain ⟨hr, hb⟩ := firstRule_some h
  have hn : f.norm = false := by
    cases e : f.norm with
    | false => rfl
    | true => rw [((norm_iff f).mp e).2] at h; cases h
  cases f with
  | num q => simp [byRule] at hr
  | nam x => simp [byRule] at hr
  | pow g e =>
    have ha' : g.hasAdd = true := ha
    have hg : g.norm = true := hk g (by simp [W.kids])
    have h3 := norm_psi hg
    rw [psi_pow ha']
    simp only [byRule] at hr
    split at hr
    · unfold powF at hr
      split at hr
      · cases hr; simp [W.psi]
      · split at hr
        · cases hr; omega
        · rename_i he0 he1
          cases g with
          | num q => simp [W.hasAdd] at ha'
          | nam x => cases hr
          | pow g a =>
            have := h3.2.2.1 ha'
            simp [W.isMany] at this
          | many m ps =>
            cases m with
            | true =>
              have := h3.2.2.1 ha'
              simp [W.isMany] at this
            | false =>
              cases hr
              have hc : ∀ x : W, cntA [.many false ps, x] ≤ 2 := fun x => by
                unfold cntA
                exact List.length_filter_le _ _
              by_cases he : 2 < e
              · rw [if_pos he]
                have hk1 : (W.pow (.many false ps) (e - 1)).psi = 1 + max (e - 1 + 5) (W.many false ps).psi := psi_pow ha'
                cases hno : (W.many true [.many false ps, .pow (.many false ps) (e - 1)]).norm with
                | true => have := (norm_psi hno).1; omega
                | false =>
                  rw [psi_mul (by simp [W.hasAdd, Ws.hasAdd]) hno]
                  have := hc (.pow (.many false ps) (e - 1))
                  simp only [Ws.psi]
                  omega
              · rw [if_neg he]
                have h4 := u_mul (L := [.many false ps, .many false ps]) (by
                  intro k hk
                  simp only [List.mem_cons, List.not_mem_nil, or_false, or_self] at hk
                  rw [hk]
                  exact h3.1)
                have := hc (.many false ps)
                omega
    · cases hr
  | many m ps =>
    obtain ⟨hl, htp⟩ := two_many.mp ht
    have hne : ps ≠ [] := by rintro rfl; simp at hl
    have hk : ∀ g ∈ ps, g.norm = true := hk
    have hk3 : ∀ g ∈ ps, g.psi ≤ 3 := fun g hg => (norm_psi (hk g hg)).1
    cases m with
    | true =>
      have hA : Ws.hasAdd ps = true := by simpa [W.hasAdd] using ha
      have hc1 := cnt_pos hA
      have hlow : cntA ps + 4 ≤ (W.many true ps).psi := by rw [psi_mul ha hn]; omega
      refine Nat.le_trans ?_ hlow
      match r, hr, hb with
      | 0, hr, _ =>
        simp only [byRule, flatF] at hr
        split at hr
        · cases hr
          refine Nat.le_trans (u_mul fun f hf => ?_) (by have := cnt_flat (ps := ps) hk; omega)
          obtain ⟨p, hp', hf⟩ := List.mem_flatMap.mp hf
          have hpn := hk p hp'
          cases p with
          | many n qs =>
            simp only [flatP] at hf
            split at hf
            · exact (norm_psi (norm_kid hpn hf)).1
            · rw [List.mem_singleton.mp hf]; exact (norm_psi hpn).1
          | _ => simp only [flatP] at hf; rw [List.mem_singleton.mp hf]; exact (norm_psi hpn).1
        · cases hr
      | 1, hr, _ =>
        simp only [byRule, foldF] at hr
        split at hr
        · cases hr
        · rename_i hlt
          cases hr
          have hnn : ps.filter W.isNum ≠ [] := by
            intro e
            rw [e] at hlt
            simp at hlt
          have hpm := repl_perm (total true ps) hnn
          refine Nat.le_trans (up_alone (fun f hf => ?_) (repl_ne hne)) ?_
          · rcases List.mem_cons.mp (hpm.mem_iff.mp hf) with rfl | hf
            · simp [W.psi]
            · exact hk3 f (List.mem_filter.mp hf).1
          · rw [cnt_perm hpm]
            have : cntA (.num (total true ps) :: ps.filter fun f => !f.isNum) = cntA (ps.filter fun f => !f.isNum) := by
              simp [cntA, List.filter_cons, W.hasAdd]
            rw [this]
            have := cnt_sub (L := ps.filter fun f => !f.isNum) (ps := ps) List.filter_sublist
            omega
      | 2, hr, _ =>
        simp only [byRule, noneF] at hr
        split at hr
        · cases hr; simp [W.psi]
        · split at hr
          · split at hr
            · cases hr; simp [W.psi, idle]
            · rename_i hq
              cases hr
              refine Nat.le_trans (up_alone (fun f hf => hk3 f (List.mem_filter.mp hf).1) hq) ?_
              have := cnt_sub (L := ps.filter (· ≠ idle true)) (ps := ps) List.filter_sublist
              omega
          · cases hr
      | 3, hr, _ => simp [byRule] at hr
      | 4, hr, hb =>
        have hfl : flatF true ps = none := hb 0 (by decide)
        obtain ⟨i, j, h1, h2, b, a, c, bi, bj, rfl⟩ := gather_of (by simpa [byRule] using hr)
        have hi : ps[i] ∈ ps := List.getElem_mem _
        have hnm := flat_none hfl _ hi
        have hbb : b.hasAdd = false ∧ b.ps0 ≤ 1 := by
          have h3 := hk _ hi
          generalize ps[i] = x at bi hnm h3
          cases x with
          | num q => simp [baseOf] at bi
          | nam x => simp [baseOf] at bi; obtain ⟨rfl, rfl⟩ := bi; exact ⟨rfl, by simp [W.ps0]⟩
          | pow g a =>
            simp [baseOf] at bi
            obtain ⟨rfl, rfl⟩ := bi
            obtain ⟨x, rfl, _⟩ := norm_pow h3
            exact ⟨rfl, by simp [W.ps0]⟩
          | many m qs =>
            cases m
            · simp [baseOf] at bi
            · simp [W.isMany] at hnm
        have hfa : (W.pow b (a + c)).hasAdd = false := hbb.1
        refine Nat.le_trans (up_alone (fun f hf => ?_) (merge_ne h1 h2)) (by have := cnt_merge h1 h2 hfa; omega)
        rcases merge_mem h1 h2 hf with rfl | hf
        · rw [psi_af hfa]; simp only [W.ps0]; omega
        · exact hk3 f hf
      | 5, hr, _ =>
        have hr : spreadF ps = some o := by simpa [byRule] using hr
        unfold spreadF at hr
        cases hs : spreadP ps with
        | none => rw [hs] at hr; cases hr
        | some z =>
          obtain ⟨a, b, c⟩ := z
          rw [hs] at hr
          cases hr
          have e := spread_of hs
          have hbn : (W.many false b).norm = true := hk (.many false b) (show W.many false b ∈ ps by rw [e]; simp)
          have hkb := norm_add hbn
          have key : ∀ x ∈ b, (W.many true (a ++ [x] ++ c)).psi ≤ cntA ps + 3 := fun x hx => by
            have hxa := norm_mono (hkb x hx).1 (hkb x hx).2
            refine Nat.le_trans (u_mul fun f hf => ?_) ?_
            · simp only [List.mem_append, List.mem_cons, List.not_mem_nil, or_false] at hf
              rcases hf with (hf | rfl) | hf
              · exact hk3 f (by rw [e]; simp [hf])
              · exact (norm_psi (hkb f hx).1).1
              · exact hk3 f (by rw [e]; simp [hf])
            · have : cntA ps = cntA (a ++ [x] ++ c) + 1 := by
                rw [e]
                unfold cntA
                simp only [List.filter_append, List.filter_cons, hxa.1, W.hasAdd, Bool.not_false, Bool.true_or, Bool.false_eq_true, if_false, if_true, List.length_append, List.length_cons, List.filter_nil, List.length_nil]
                omega
              omega
          cases hno : (W.many false (b.map fun x => .many true (a ++ [x] ++ c))).norm with
          | true => have := (norm_psi hno).1; omega
          | false =>
            rw [psi_add hno]
            have : Ws.psi (b.map fun x => .many true (a ++ [x] ++ c)) ≤ cntA ps + 3 := Ws_psi.mpr fun f hf => by
              obtain ⟨x, hx, rfl⟩ := List.mem_map.mp hf
              exact key x hx
            omega
      | 6, hr, _ => simp [byRule] at hr
      | 7, hr, _ =>
        simp only [byRule, orderF] at hr
        split at hr
        · cases hr
        · cases hr
          refine Nat.le_trans (u_mul fun f hf => hk3 f (inOrder_mem.mp hf)) ?_
          rw [cnt_perm (inOrder_perm ps)]
          exact Nat.le_refl _
    | false =>
      have hlow : 5 ≤ (W.many false ps).psi := by rw [psi_add hn]; omega
      refine Nat.le_trans ?_ hlow
      match r, hr with
      | 0, hr =>
        simp only [byRule, flatF] at hr
        split at hr
        · cases hr
          refine u_add fun f hf => ?_
          obtain ⟨p, hp', hf⟩ := List.mem_flatMap.mp hf
          have hpn := hk p hp'
          have : f.psi ≤ 3 := by
            cases p with
            | many n qs =>
              simp only [flatP] at hf
              split at hf
              · exact (norm_psi (norm_kid hpn hf)).1
              · rw [List.mem_singleton.mp hf]; exact (norm_psi hpn).1
            | _ => simp only [flatP] at hf; rw [List.mem_singleton.mp hf]; exact (norm_psi hpn).1
          omega
        · cases hr
      | 1, hr =>
        simp only [byRule, foldF] at hr
        split at hr
        · cases hr
        · rename_i hlt
          cases hr
          have hnn : ps.filter W.isNum ≠ [] := by
            intro e
            rw [e] at hlt
            simp at hlt
          have hpm := repl_perm (total false ps) hnn
          refine u_aloneA (fun f hf => ?_) (repl_ne hne)
          rcases List.mem_cons.mp (hpm.mem_iff.mp hf) with rfl | hf
          · simp [W.psi]
          · have := hk3 f (List.mem_filter.mp hf).1; omega
      | 2, hr =>
        simp only [byRule, noneF] at hr
        split at hr
        · cases hr; simp [W.psi]
        · split at hr
          · split at hr
            · cases hr; simp [W.psi, idle]
            · rename_i hq
              cases hr
              exact u_aloneA (fun f hf => by have := hk3 f (List.mem_filter.mp hf).1; omega) hq
          · cases hr
      | 3, hr => simp [byRule] at hr
      | 4, hr => simp [byRule] at hr
      | 5, hr => simp [byRule] at hr
      | 6, hr =>
        obtain ⟨i, j, h1, h2, b, a, c, bi, bj, rfl⟩ := like_of (by simpa [byRule] using hr)
        have hi : ps[i] ∈ ps := List.getElem_mem _
        have hni := hk _ hi
        have hrest : ∀ g ∈ restP b, g.hasAdd = false ∧ g.ps0 ≤ 2 := by
          generalize ps[i] = x at bi hni
          cases x with
          | num q => simp [kindOf] at bi
          | nam x => simp [kindOf] at bi; obtain ⟨rfl, rfl⟩ := bi; intro g hg; simp only [restP, List.mem_cons, List.not_mem_nil, or_false] at hg; rw [hg]; exact ⟨rfl, by simp [W.ps0]⟩
          | pow g e =>
            simp [kindOf] at bi
            obtain ⟨rfl, rfl⟩ := bi
            obtain ⟨x, rfl, _⟩ := norm_pow hni
            intro g hg
            simp only [restP, List.mem_cons, List.not_mem_nil, or_false] at hg
            rw [hg]
            exact ⟨rfl, by simp [W.ps0]⟩
          | many m qs =>
            cases m with
            | false => simp [kindOf] at bi
            | true =>
              have hq := norm_mul hni
              have hq2 : ∀ g ∈ qs, g.hasAdd = false ∧ g.ps0 ≤ 2 := fun g hg => by
                have := norm_leaf (hq g hg).1 (hq g hg).2
                exact ⟨this.1, by omega⟩
              cases qs with
              | nil => simp [kindOf] at bi; obtain ⟨rfl, rfl⟩ := bi; intro g hg; simp [restP] at hg
              | cons y qs =>
                cases y with
                | num q =>
                  simp [kindOf] at bi
                  obtain ⟨rfl, rfl⟩ := bi
                  intro g hg
                  cases qs with
                  | nil => simp [alone, restP] at hg
                  | cons z qs =>
                    cases qs with
                    | nil =>
                      have hz := hq2 z (by simp)
                      have hzm := (hq z (by simp)).2
                      simp only [alone] at hg
                      cases z with
                      | many m' qs' => have := hzm m'; simp [W.isMany] at this
                      | _ => simp only [restP, List.mem_cons, List.not_mem_nil, or_false] at hg; rw [hg]; exact hz
                    | cons z' qs =>
                      simp only [alone, restP] at hg
                      exact hq2 g (List.mem_cons_of_mem _ hg)
                | nam z => simp [kindOf] at bi; obtain ⟨rfl, rfl⟩ := bi; intro g hg; simp only [restP] at hg; exact hq2 g hg
                | pow f e => simp [kindOf] at bi; obtain ⟨rfl, rfl⟩ := bi; intro g hg; simp only [restP] at hg; exact hq2 g hg
                | many m' qs' => simp [kindOf] at bi; obtain ⟨rfl, rfl⟩ := bi; intro g hg; simp only [restP] at hg; exact hq2 g hg
        have hfa : (W.many true (.num (a + c) :: restP b)).hasAdd = false := by
          simp only [W.hasAdd, Bool.not_true, Bool.false_or]
          refine Ws_hasAdd.mpr fun g hg => ?_
          rcases List.mem_cons.mp hg with rfl | hg
          · rfl
          · exact (hrest g hg).1
        have hfp : (W.many true (.num (a + c) :: restP b)).psi ≤ 4 := by
          rw [psi_af hfa]
          have : Ws.ps0 (.num (a + c) :: restP b) ≤ 2 := Ws_ps0.mpr fun g hg => by
            rcases List.mem_cons.mp hg with rfl | hg
            · simp [W.ps0]
            · exact (hrest g hg).2
          simp only [W.ps0] at this ⊢
          omega
        refine u_aloneA (fun f hf => ?_) (merge_ne h1 h2)
        rcases merge_mem h1 h2 hf with rfl | hf
        · exact hfp
        · have := hk3 f hf; omega
      | 7, hr =>
        simp only [byRule, orderF] at hr
        split at hr
        · cases hr
        · cases hr
          exact u_add fun f hf => by have := hk3 f (inOrder_mem.mp hf); omega
theorem set_has {ps : List W} {j : Nat} {g o : W} (h : ps[j]? = some g) (ho : o.hasAdd = true → g.hasAdd = true) : Ws.hasAdd (ps.set j o) = true → Ws.hasAdd ps = true :=
  has_of fun f hf ha => by
    rcases List.mem_or_eq_of_mem_set hf with hf | rfl
    · exact has_mem hf ha
    · exact has_mem (List.mem_of_getElem? h) (ho ha)
theorem cnt_set : ∀ {ps : List W} {j : Nat} {g o : W}, ps[j]? = some g → (o.hasAdd = true → g.hasAdd = true) → cntA (ps.set j o) ≤ cntA ps
  | [], _, _, _, h, _ => by simp at h
  | p :: ps, 0, g, o, h, ho => by
    simp at h
    subst h
    unfold cntA
    rw [List.set_cons_zero, List.filter_cons, List.filter_cons]
    cases ho' : o.hasAdd with
    | true => rw [ho ho']; simp
    | false =>
      simp only [Bool.false_eq_true, if_false]
      split
      · simp only [List.length_cons]; omega
      · exact Nat.le_refl _
  | p :: ps, j + 1, g, o, h, ho => by
    have ih := cnt_set (ps := ps) (j := j) (by simpa using h) ho
    unfold cntA at ih ⊢
    rw [List.set_cons_succ, List.filter_cons, List.filter_cons]
    split <;> simp <;> omega
theorem next_psi {f o : W} {r : Fin 8} {q : List Int} (ht : Two N f) (h : nextF f = some (r, q, o)) : o.psi ≤ f.psi ∧ (o.hasAdd = true → f.hasAdd = true) := by
  refine (next_ind (φ := fun f o => Two N f → o.psi ≤ f.psi ∧ (o.hasAdd = true → f.hasAdd = true)) (fun f r o hk hr ht => ?_) (fun f j g o hn hk ih ht => ?_) f r q o h ht)
  · cases ha : f.hasAdd with
    | true => exact ⟨root_add ha ht hk hr, fun _ => rfl⟩
    | false =>
      have := root_af ha ht hr
      exact ⟨by rw [psi_af ha, psi_af this.1]; exact this.2, fun z => by rw [this.1] at z; cases z⟩
  · have htg := (ms_kid wt0 ht hk).2
    obtain ⟨ih1, ih2⟩ := ih htg
    cases f with
    | num q => simp [W.kids] at hk
    | nam x => simp [W.kids] at hk
    | pow g' e =>
      match j, hk with
      | 0, hk =>
        simp [W.kids] at hk
        subst hk
        simp only [W.set, if_true]
        refine ⟨?_, ih2⟩
        cases ho : o.hasAdd with
        | false =>
          rw [psi_af (f := .pow o e) ho]
          have e1 := psi_af ho
          cases hg : g'.hasAdd with
          | false => rw [psi_af (f := .pow g' e) hg]; have := psi_af hg; simp only [W.ps0]; omega
          | true => rw [psi_pow hg]; simp only [W.ps0]; omega
        | true => rw [psi_pow ho, psi_pow (ih2 ho)]; omega
      | j + 1, hk => simp [W.kids] at hk
    | many m ps =>
      have hk : ps[j]? = some g := hk
      have hps : ∀ k ∈ ps.set j o, k.psi ≤ Ws.psi ps := fun k hkm => by
        rcases List.mem_or_eq_of_mem_set hkm with hkm | rfl
        · exact psi_mem hkm
        · exact Nat.le_trans ih1 (psi_mem (List.mem_of_getElem? hk))
      have hw := Ws_psi.mpr hps
      have hhas : (W.many m (ps.set j o)).hasAdd = true → (W.many m ps).hasAdd = true := by
        intro hz
        cases m
        · rfl
        · simp only [W.hasAdd, Bool.not_true, Bool.false_or] at hz ⊢
          exact set_has hk ih2 hz
      refine ⟨?_, hhas⟩
      show (W.many m (ps.set j o)).psi ≤ (W.many m ps).psi
      cases ha : (W.many m (ps.set j o)).hasAdd with
      | false =>
        rw [psi_af ha]
        have hm : m = true := by
          cases m
          · simp [W.hasAdd] at ha
          · rfl
        subst hm
        have hset : Ws.hasAdd (ps.set j o) = false := by simpa [W.hasAdd] using ha
        have h0 : Ws.ps0 (ps.set j o) ≤ Ws.psi ps := Ws_ps0.mpr fun k hkm => by
          rw [← psi_af (Ws_hasAdd.mp hset k hkm)]
          exact hps k hkm
        cases hf : (W.many true ps).hasAdd with
        | false =>
          have hp : Ws.hasAdd ps = false := by simpa [W.hasAdd] using hf
          rw [psi_af hf]
          have : Ws.psi ps ≤ Ws.ps0 ps := Ws_psi.mpr fun k hkm => by
            rw [psi_af (Ws_hasAdd.mp hp k hkm)]
            exact ps0_mem hkm
          simp only [W.ps0]
          omega
        | true =>
          rw [psi_mul hf hn]
          simp only [W.ps0]
          omega
      | true =>
        have hf := hhas ha
        cases hno : (W.many m (ps.set j o)).norm with
        | true =>
          have := (norm_psi hno).1
          cases m
          · rw [psi_add hn]; omega
          · rw [psi_mul hf hn]; omega
        | false =>
          cases m
          · rw [psi_add hno, psi_add hn]; omega
          · rw [psi_mul ha hno, psi_mul hf hn]
            have := cnt_set (ps := ps) hk ih2
            omega
end Lw

/-! ### other names -/
namespace Lw
open PySem Fm
mutual
def W.ren (ρ : Str → Str) : W → W
  | .num q => .num q
  | .nam x => .nam (ρ x)
  | .many m ps => .many m (Ws.ren ρ ps)
  | .pow f e => .pow (W.ren ρ f) e
def Ws.ren (ρ : Str → Str) : List W → List W
  | [] => []
  | f :: fs => W.ren ρ f :: Ws.ren ρ fs
end
@[simp] theorem Ws_ren (ρ : Str → Str) : ∀ ps : List W, Ws.ren ρ ps = ps.map (W.ren ρ)
  | [] => rfl
  | f :: fs => by rw [Ws.ren, Ws_ren ρ fs, List.map_cons]
/-- names that are told apart and ordered alike -/
structure RenOk (N : Str → Prop) (ρ : Str → Str) : Prop where
  inj : ∀ x y, N x → N y → ρ x = ρ y → x = y
  lt : ∀ x y, N x → N y → strLt (ρ x) (ρ y) = strLt x y
variable {N : Str → Prop} {ρ : Str → Str} (R : RenOk N ρ)
include R
theorem map_inj' {ps qs : List W} (hp : ∀ f ∈ ps, ∀ g ∈ qs, W.ren ρ f = W.ren ρ g → f = g) (h : ps.map (W.ren ρ) = qs.map (W.ren ρ)) : ps = qs := by
  induction ps generalizing qs with
  | nil => cases qs with
    | nil => rfl
    | cons => cases h
  | cons p ps ih =>
    cases qs with
    | nil => cases h
    | cons q qs =>
      simp only [List.map_cons, List.cons.injEq] at h
      rw [hp p List.mem_cons_self q List.mem_cons_self h.1, ih (fun f hf g hg => hp f (List.mem_cons_of_mem _ hf) g (List.mem_cons_of_mem _ hg)) h.2]
theorem ren_inj : ∀ {f g : W}, Two N f → Two N g → W.ren ρ f = W.ren ρ g → f = g := by
  intro f
  refine W.ind (φ := fun f => ∀ {g : W}, Two N f → Two N g → W.ren ρ f = W.ren ρ g → f = g) ?_ ?_ ?_ ?_ f
  · intro q g hf hg h
    cases g <;> simp only [W.ren] at h <;> first | exact h | cases h
  · intro x g hf hg h
    cases g <;> simp only [W.ren] at h <;> first | (cases h; done) | skip
    simp only [W.nam.injEq] at h
    rw [R.inj _ _ (two_nam.mp hf) (two_nam.mp hg) h]
  · intro m ps ih g hf hg h
    cases g with
    | many n qs =>
      simp only [W.ren, Ws_ren, W.many.injEq] at h
      rw [h.1, map_inj' R (fun f hf' g hg' e => ih f hf' ((two_many.mp hf).2 f hf') ((two_many.mp hg).2 g hg') e) h.2]
    | _ => simp only [W.ren] at h; cases h
  · intro f e ih g hf hg h
    cases g with
    | pow g b =>
      simp only [W.ren, W.pow.injEq] at h
      rw [ih (two_pow.mp hf) (two_pow.mp hg) h.1, h.2]
    | _ => simp only [W.ren] at h; cases h
theorem ren_eq {f g : W} (hf : Two N f) (hg : Two N g) : (W.ren ρ f = W.ren ρ g) = (f = g) := propext ⟨ren_inj R hf hg, fun h => by rw [h]⟩
omit R in
theorem ren_rank (f : W) : (W.ren ρ f).rank = f.rank := by
  cases f with
  | many m ps => cases m <;> simp [W.ren, W.rank]
  | _ => simp [W.ren, W.rank]
theorem ahead_ren : ∀ {f g : W}, Two N f → Two N g → W.ahead (W.ren ρ f) (W.ren ρ g) = W.ahead f g := by
  intro f
  refine W.ind (φ := fun f => ∀ {g : W}, Two N f → Two N g → W.ahead (W.ren ρ f) (W.ren ρ g) = W.ahead f g) ?_ ?_ ?_ ?_ f
  · intro q g hf hg
    have := ren_rank (ρ := ρ) g
    cases g with
    | many m ps => cases m <;> simp [W.ren, W.ahead, W.rank]
    | _ => simp [W.ren, W.ahead, W.rank]
  · intro x g hf hg
    cases g with
    | nam y => simp only [W.ren, W.ahead]; exact R.lt x y (two_nam.mp hf) (two_nam.mp hg)
    | many m ps => cases m <;> simp [W.ren, W.ahead, W.rank]
    | _ => simp [W.ren, W.ahead, W.rank]
  · intro m ps ih g hf hg
    cases g with
    | many n qs =>
      simp only [W.ren, W.ahead, Ws_ren]
      have key : ∀ (ps qs : List W), (∀ f ∈ ps, ∀ {g : W}, Two N f → Two N g → W.ahead (W.ren ρ f) (W.ren ρ g) = W.ahead f g) → (∀ f ∈ ps, Two N f) → (∀ f ∈ qs, Two N f) → Ws.ahead (ps.map (W.ren ρ)) (qs.map (W.ren ρ)) = Ws.ahead ps qs := by
        intro ps
        induction ps with
        | nil => intro qs _ _ _; cases qs <;> simp [Ws.ahead]
        | cons p ps ih2 =>
          intro qs h1 h2 h3
          cases qs with
          | nil => simp [Ws.ahead]
          | cons q qs =>
            simp only [List.map_cons, Ws.ahead]
            rw [h1 p List.mem_cons_self (h2 p List.mem_cons_self) (h3 q List.mem_cons_self), ih2 qs (fun f hf => h1 f (List.mem_cons_of_mem _ hf)) (fun f hf => h2 f (List.mem_cons_of_mem _ hf)) (fun f hf => h3 f (List.mem_cons_of_mem _ hf))]
            simp only [ren_eq R (h2 p List.mem_cons_self) (h3 q List.mem_cons_self)]
      rw [key ps qs ih (two_many.mp hf).2 (two_many.mp hg).2]
    | _ => simp [W.ren, W.ahead]
  · intro f e ih g hf hg
    cases g with
    | pow g b =>
      simp only [W.ren, W.ahead]
      rw [ih (two_pow.mp hf) (two_pow.mp hg)]
      simp only [ren_eq R (two_pow.mp hf) (two_pow.mp hg)]
    | many m ps => cases m <;> simp [W.ren, W.ahead, W.rank]
    | _ => simp [W.ren, W.ahead, W.rank]
omit R in
theorem ren_isMany (m : Bool) (f : W) : (W.ren ρ f).isMany m = f.isMany m := by cases f <;> simp [W.ren, W.isMany]
omit R in
theorem ren_isNum (f : W) : (W.ren ρ f).isNum = f.isNum := by cases f <;> simp [W.ren, W.isNum]
omit R in
theorem ren_q (f : W) : (W.ren ρ f).q = f.q := by cases f <;> simp [W.ren, W.q]
omit R in
theorem ren_alone (m : Bool) (ps : List W) : alone m (ps.map (W.ren ρ)) = W.ren ρ (alone m ps) := by
  match ps with
  | [] => simp [alone, W.ren]
  | [p] => simp [alone]
  | p :: q :: r => simp [alone, W.ren]
omit R in
theorem ren_flat (m : Bool) (ps : List W) : flatF m (ps.map (W.ren ρ)) = (flatF m ps).map (W.ren ρ) := by
  unfold flatF
  have h1 : (ps.map (W.ren ρ)).any (W.isMany m) = ps.any (W.isMany m) := by
    rw [List.any_map]
    congr 1
    funext f
    exact ren_isMany m f
  have h2 : (ps.map (W.ren ρ)).flatMap (flatP m) = (ps.flatMap (flatP m)).map (W.ren ρ) := by
    rw [List.flatMap_map, List.map_flatMap]
    congr 1
    funext f
    cases f with
    | many n qs => simp only [W.ren, flatP]; split <;> simp [W.ren]
    | _ => simp [W.ren, flatP]
  rw [h1, h2]
  split <;> simp [W.ren]
omit R in
theorem ren_repl (q : Rat) : ∀ ps : List W, repl q (ps.map (W.ren ρ)) = (repl q ps).map (W.ren ρ)
  | [] => rfl
  | p :: ps => by
    simp only [List.map_cons, repl, ren_isNum]
    split
    · simp only [List.map_cons, W.ren, List.cons.injEq, true_and, List.filter_map]
      congr 1
      refine List.filter_congr fun f _ => ?_
      simp [ren_isNum]
    · rw [ren_repl q ps, List.map_cons]
omit R in
theorem ren_fold (m : Bool) (ps : List W) : foldF m (ps.map (W.ren ρ)) = (foldF m ps).map (W.ren ρ) := by
  have h1 : (ps.map (W.ren ρ)).filter W.isNum = (ps.filter W.isNum).map (W.ren ρ) := by
    rw [List.filter_map]
    congr 1
    refine List.filter_congr fun f _ => ?_
    simp [ren_isNum]
  have h2 : total m (ps.map (W.ren ρ)) = total m ps := by
    unfold total
    rw [h1, List.foldl_map]
    congr 1
    funext a f
    rw [ren_q]
  unfold foldF
  rw [h1, h2, List.length_map, ren_repl, ren_alone]
  split <;> rfl
omit R in
theorem ren_num {f : W} {q : Rat} : (W.ren ρ f = .num q) = (f = .num q) := by
  cases f <;> simp [W.ren]
omit R in
theorem ren_memn {ps : List W} {q : Rat} : (W.num q ∈ ps.map (W.ren ρ)) = (W.num q ∈ ps) := by
  refine propext ⟨fun h => ?_, fun h => List.mem_map.mpr ⟨_, h, rfl⟩⟩
  obtain ⟨f, hf, e⟩ := List.mem_map.mp h
  rw [ren_num] at e
  rw [← e]
  exact hf
omit R in
theorem ren_none (m : Bool) (ps : List W) : noneF m (ps.map (W.ren ρ)) = (noneF m ps).map (W.ren ρ) := by
  have h1 : (ps.map (W.ren ρ)).filter (· ≠ idle m) = (ps.filter (· ≠ idle m)).map (W.ren ρ) := by
    rw [List.filter_map]
    congr 1
    refine List.filter_congr fun f _ => ?_
    rw [Bool.eq_iff_iff, decide_eq_true_eq]
    simp only [Function.comp, decide_eq_true_eq, idle, ne_eq, ren_num]
  unfold noneF
  rw [h1]
  have h2 : (idle m ∈ ps.map (W.ren ρ)) = (idle m ∈ ps) := ren_memn
  simp only [ren_memn, h2, List.map_eq_nil_iff]
  split
  · rfl
  · split
    · split
      · rfl
      · rw [ren_alone]; rfl
    · rfl
omit R in
theorem ren_pow (f : W) (e : Nat) : powF (W.ren ρ f) e = (powF f e).map (W.ren ρ) := by
  unfold powF
  split
  · rfl
  · split
    · rfl
    · cases f with
      | many m ps =>
        cases m
        · simp only [W.ren]
          split <;> simp [W.ren]
        · simp [W.ren, Function.comp_def]
      | _ => simp [W.ren]
omit R in
theorem ren_base (f : W) : baseOf (W.ren ρ f) = (baseOf f).map fun x => (W.ren ρ x.1, x.2) := by
  cases f with
  | many m ps => cases m <;> simp [W.ren, baseOf]
  | _ => simp [W.ren, baseOf]
omit R in
theorem ren_kind (f : W) : kindOf (W.ren ρ f) = (kindOf f).map fun x => (W.ren ρ x.1, x.2) := by
  cases f with
  | many m ps =>
    cases m with
    | false => simp [W.ren, kindOf]
    | true =>
      cases ps with
      | nil => simp [W.ren, kindOf]
      | cons p ps =>
        cases p with
        | num q => simp [W.ren, kindOf, ren_alone]
        | _ => simp [W.ren, kindOf]
  | _ => simp [W.ren, kindOf]
theorem ren_pairB {α : Type} {x : W × α} (hx : Two N x.1) : ∀ (r : List (Option (W × α))) (i : Nat), (∀ y, some y ∈ r → Two N y.1) → pairB (W.ren ρ x.1, x.2) i (r.map fun o => o.map fun x => (W.ren ρ x.1, x.2)) = pairB x i r
  | [], _, _ => rfl
  | none :: r, i, h => ren_pairB hx r (i + 1) fun y hy => h y (List.mem_cons_of_mem _ hy)
  | some y :: r, i, h => by
    simp only [List.map_cons, Option.map_some, pairB]
    rw [ren_pairB hx r (i + 1) fun y hy => h y (List.mem_cons_of_mem _ hy)]
    simp only [ren_eq R hx (h y List.mem_cons_self)]
theorem ren_pairF {α : Type} : ∀ (r : List (Option (W × α))) (i : Nat), (∀ y, some y ∈ r → Two N y.1) → pairF i (r.map fun o => o.map fun x => (W.ren ρ x.1, x.2)) = pairF i r
  | [], _, _ => rfl
  | none :: r, i, h => ren_pairF r (i + 1) fun y hy => h y (List.mem_cons_of_mem _ hy)
  | some x :: r, i, h => by
    simp only [List.map_cons, Option.map_some, pairF]
    rw [ren_pairB R (h x List.mem_cons_self) r (i + 1) fun y hy => h y (List.mem_cons_of_mem _ hy), ren_pairF r (i + 1) fun y hy => h y (List.mem_cons_of_mem _ hy)]
omit R in
theorem ren_merge (ps : List W) (i j : Nat) (f : W) : mergeF (ps.map (W.ren ρ)) i j (W.ren ρ f) = (mergeF ps i j f).map (W.ren ρ) := by
  unfold mergeF
  rw [List.zipIdx_map, List.filter_map, List.map_map, List.map_map]
  congr 1
  funext p
  simp only [Function.comp, Prod.map]
  by_cases hp : p.2 = i <;> simp [hp]
theorem ren_gather {ps : List W} (hp : ∀ f ∈ ps, Two N f) : gatherF (ps.map (W.ren ρ)) = (gatherF ps).map (W.ren ρ) := by
  have h1 : (ps.map (W.ren ρ)).map baseOf = (ps.map baseOf).map fun o => o.map fun x => (W.ren ρ x.1, x.2) := by
    rw [List.map_map, List.map_map]
    refine List.map_congr_left fun f _ => ?_
    simp [ren_base]
  have h2 := ren_pairF R (ps.map baseOf) 0 fun y hy => by
    obtain ⟨f, hf, e⟩ := List.mem_map.mp hy
    obtain ⟨b, a⟩ := y
    exact (ms_base wt0 e (hp f hf)).2
  unfold gatherF
  rw [h1, h2]
  cases hq : pairF 0 (ps.map baseOf) with
  | none => rfl
  | some z =>
    obtain ⟨i, j⟩ := z
    obtain ⟨_, l1, l2, x, y, h3, h4, h5⟩ := pairF_lt hq
    simp only [Nat.zero_add, List.length_map] at l1 l2
    have gi : (ps.map (W.ren ρ)).getD i default = W.ren ρ (ps.getD i default) := by
      rw [getD_of (f := ps[i]) (List.getElem?_eq_getElem (by omega)), getD_of (f := W.ren ρ ps[i]) (by rw [List.getElem?_map, List.getElem?_eq_getElem (by omega)]; rfl)]
    have gj : (ps.map (W.ren ρ)).getD j default = W.ren ρ (ps.getD j default) := by
      rw [getD_of (f := ps[j]) (List.getElem?_eq_getElem l2), getD_of (f := W.ren ρ ps[j]) (by rw [List.getElem?_map, List.getElem?_eq_getElem l2]; rfl)]
    simp only [gi, gj, ren_base]
    cases hbi : baseOf (ps.getD i default) with
    | none => rfl
    | some bi =>
      cases hbj : baseOf (ps.getD j default) with
      | none => rfl
      | some bj =>
        obtain ⟨b, a⟩ := bi
        obtain ⟨b', c⟩ := bj
        simp only [Option.map_some]
        have := ren_merge (ρ := ρ) ps i j (.pow b (a + c))
        simp only [W.ren] at this
        rw [this, ren_alone]
omit R in
theorem ren_rest (b : W) : restP (W.ren ρ b) = (restP b).map (W.ren ρ) := by
  cases b with
  | many m ps => cases m <;> simp [W.ren, restP]
  | _ => simp [W.ren, restP]
theorem ren_like {ps : List W} (hp : ∀ f ∈ ps, Two N f) : likeF (ps.map (W.ren ρ)) = (likeF ps).map (W.ren ρ) := by
  have h1 : (ps.map (W.ren ρ)).map kindOf = (ps.map kindOf).map fun o => o.map fun x => (W.ren ρ x.1, x.2) := by
    rw [List.map_map, List.map_map]
    refine List.map_congr_left fun f _ => ?_
    simp [ren_kind]
  have h2 := ren_pairF R (ps.map kindOf) 0 fun y hy => by
    obtain ⟨f, hf, e⟩ := List.mem_map.mp hy
    obtain ⟨b, a⟩ := y
    exact (ms_kind wt0 e (hp f hf)).2.1
  unfold likeF
  rw [h1, h2]
  cases hq : pairF 0 (ps.map kindOf) with
  | none => rfl
  | some z =>
    obtain ⟨i, j⟩ := z
    obtain ⟨_, l1, l2, x, y, h3, h4, h5⟩ := pairF_lt hq
    simp only [Nat.zero_add, List.length_map] at l1 l2
    have gi : (ps.map (W.ren ρ)).getD i default = W.ren ρ (ps.getD i default) := by
      rw [getD_of (f := ps[i]) (List.getElem?_eq_getElem (by omega)), getD_of (f := W.ren ρ ps[i]) (by rw [List.getElem?_map, List.getElem?_eq_getElem (by omega)]; rfl)]
    have gj : (ps.map (W.ren ρ)).getD j default = W.ren ρ (ps.getD j default) := by
      rw [getD_of (f := ps[j]) (List.getElem?_eq_getElem l2), getD_of (f := W.ren ρ ps[j]) (by rw [List.getElem?_map, List.getElem?_eq_getElem l2]; rfl)]
    simp only [gi, gj, ren_kind]
    cases hbi : kindOf (ps.getD i default) with
    | none => rfl
    | some bi =>
      cases hbj : kindOf (ps.getD j default) with
      | none => rfl
      | some bj =>
        obtain ⟨b, a⟩ := bi
        obtain ⟨b', c⟩ := bj
        simp only [Option.map_some]
        have := ren_merge (ρ := ρ) ps i j (.many true (.num (a + c) :: restP b))
        simp only [W.ren, Ws_ren, List.map_cons] at this
        rw [ren_rest, this, ren_alone]
omit R in
theorem ren_spreadP : ∀ ps : List W, spreadP (ps.map (W.ren ρ)) = (spreadP ps).map fun z => (z.1.map (W.ren ρ), z.2.1.map (W.ren ρ), z.2.2.map (W.ren ρ))
  | [] => rfl
  | p :: ps => by
    have ih := ren_spreadP ps
    cases p with
    | many m qs =>
      cases m with
      | false => simp [W.ren, spreadP]
      | true =>
        simp only [List.map_cons, W.ren, spreadP, ih]
        cases spreadP ps <;> simp [W.ren]
    | _ =>
      simp only [List.map_cons, W.ren, spreadP, ih]
      cases spreadP ps <;> simp [W.ren]
omit R in
theorem ren_spread (ps : List W) : spreadF (ps.map (W.ren ρ)) = (spreadF ps).map (W.ren ρ) := by
  unfold spreadF
  rw [ren_spreadP]
  cases spreadP ps with
  | none => rfl
  | some z => simp [W.ren, Function.comp_def]
theorem ren_insF {L : List W} {x : W} (hL : ∀ f ∈ L, Two N f) (hx : Two N x) : insF (L.map (W.ren ρ)) (W.ren ρ x) = (insF L x).map (W.ren ρ) := by
  have hp : ∀ n, n ≤ L.length → posF (W.ren ρ x) (L.map (W.ren ρ)) n = posF x L n := by
    intro n
    induction n with
    | zero => intro _; rfl
    | succ n ih =>
      intro hn
      have g1 : (L.map (W.ren ρ)).getD n default = W.ren ρ L[n] := getD_of (by rw [List.getElem?_map, List.getElem?_eq_getElem (by omega)]; rfl)
      have g2 : L.getD n default = L[n] := getD_of (List.getElem?_eq_getElem (by omega))
      simp only [posF, g1, g2]
      rw [ahead_ren R hx (hL _ (List.getElem_mem _)), ih (by omega)]
  unfold insF
  rw [List.length_map, hp _ (Nat.le_refl _)]
  simp [List.map_take, List.map_drop]
theorem ren_inOrder {ps : List W} (hp : ∀ f ∈ ps, Two N f) : inOrder (ps.map (W.ren ρ)) = (inOrder ps).map (W.ren ρ) := by
  have : ∀ (ps L : List W), (∀ f ∈ ps, Two N f) → (∀ f ∈ L, Two N f) → (ps.map (W.ren ρ)).foldl insF (L.map (W.ren ρ)) = (ps.foldl insF L).map (W.ren ρ) := by
    intro ps
    induction ps with
    | nil => intro L _ _; rfl
    | cons x ps ih =>
      intro L h1 h2
      rw [List.map_cons, List.foldl_cons, List.foldl_cons, ren_insF R h2 (h1 x List.mem_cons_self)]
      refine ih _ (fun f hf => h1 f (List.mem_cons_of_mem _ hf)) fun f hf => ?_
      rcases List.mem_cons.mp ((insF_perm L x).mem_iff.mp hf) with rfl | hf
      · exact h1 f List.mem_cons_self
      · exact h2 f hf
  exact this ps [] hp fun f hf => by cases hf
theorem ren_order (m : Bool) {ps : List W} (hp : ∀ f ∈ ps, Two N f) : orderF m (ps.map (W.ren ρ)) = (orderF m ps).map (W.ren ρ) := by
  unfold orderF
  rw [ren_inOrder R hp]
  by_cases h : inOrder ps = ps
  · rw [if_pos h, h, if_pos rfl]; rfl
  · rw [if_neg h, if_neg (fun e => h (map_inj' R (fun f hf g hg => ren_inj R (hp f (inOrder_mem.mp hf)) (hp g hg)) e))]
    simp [W.ren]
/-- rules with other names -/
theorem ren_rule {f : W} (r : Fin 8) (hf : Two N f) : byRule r (W.ren ρ f) = (byRule r f).map (W.ren ρ) := by
  cases f with
  | num q => simp [W.ren, byRule]
  | nam x => simp [W.ren, byRule]
  | pow g e =>
    simp only [W.ren, byRule]
    split
    · exact ren_pow g e
    · rfl
  | many m ps =>
    have hp := (two_many.mp hf).2
    simp only [W.ren, Ws_ren]
    match r with
    | 0 => exact ren_flat m ps
    | 1 => exact ren_fold m ps
    | 2 => exact ren_none m ps
    | 3 => rfl
    | 4 => cases m; rfl; simpa [byRule] using ren_gather R hp
    | 5 => cases m; rfl; simpa [byRule] using ren_spread ps
    | 6 => cases m; simpa [byRule] using ren_like R hp; rfl
    | 7 => exact ren_order R m hp
theorem ren_firstRule {f : W} (hf : Two N f) : firstRule (W.ren ρ f) = (firstRule f).map fun x => (x.1, W.ren ρ x.2) := by
  unfold firstRule
  rw [← List.head?_map, List.map_filterMap]
  congr 2
  funext r
  rw [ren_rule R r hf]
  cases byRule r f <;> rfl
theorem ren_first : ∀ {f : W}, Two N f → W.first (W.ren ρ f) = W.first f := by
  have root : ∀ f : W, Two N f → rootP (W.ren ρ f) = rootP f := fun f hf => by
    unfold rootP
    rw [ren_firstRule R hf]
    cases firstRule f <;> rfl
  intro f
  refine W.ind (φ := fun f => Two N f → W.first (W.ren ρ f) = W.first f) (fun q h => root _ h) (fun x h => root _ h) (fun m ps ih h => ?_) (fun f e ih h => ?_) f
  · have key : ∀ (ps : List W) (i : Nat), (∀ f ∈ ps, W.first (W.ren ρ f) = W.first f) → Ws.first i (ps.map (W.ren ρ)) = Ws.first i ps := by
      intro ps
      induction ps with
      | nil => intro i _; rfl
      | cons p ps ih2 =>
        intro i hh
        simp only [List.map_cons, Ws.first]
        rw [hh p List.mem_cons_self, ih2 (i + 1) fun f hf => hh f (List.mem_cons_of_mem _ hf)]
    have hr := root _ h
    simp only [W.ren, Ws_ren] at hr
    simp only [W.ren, W.first, Ws_ren]
    rw [key ps 0 fun f hf => ih f hf ((two_many.mp h).2 f hf), hr]
  · have hr := root _ h
    simp only [W.ren] at hr
    simp only [W.ren, W.first]
    rw [ih (two_pow.mp h), hr]
omit R in
theorem ren_kids (f : W) : (W.ren ρ f).kids = f.kids.map (W.ren ρ) := by cases f <;> simp [W.ren, W.kids]
omit R in
theorem ren_kid (f : W) (s : Int) : (W.ren ρ f).kid s = (f.kid s).map (W.ren ρ) := by
  unfold W.kid
  split
  · rw [ren_kids, List.getElem?_map]
  · rfl
omit R in
theorem ren_set (f : W) (j : Nat) (o : W) : (W.ren ρ f).set j (W.ren ρ o) = W.ren ρ (f.set j o) := by
  cases f with
  | many m ps => simp [W.ren, W.set, List.map_set]
  | pow f e => simp only [W.ren, W.set]; split <;> simp [W.ren]
  | _ => simp [W.ren, W.set]
omit R in
theorem ren_at : ∀ (q : List Int) (f : W), W.at? q (W.ren ρ f) = (W.at? q f).map (W.ren ρ)
  | [], f => rfl
  | s :: q, f => by
    simp only [W.at?, ren_kid]
    cases f.kid s with
    | none => rfl
    | some g => exact ren_at q g
omit R in
theorem ren_put : ∀ (q : List Int) (f o : W), W.put q (W.ren ρ f) (W.ren ρ o) = W.ren ρ (W.put q f o)
  | [], f, o => rfl
  | s :: q, f, o => by
    simp only [W.put, ren_kid]
    cases f.kid s with
    | none => rfl
    | some g => simp only [Option.map_some]; rw [ren_put q g o, ren_set]
omit R in
theorem two_at : ∀ {q : List Int} {f g : W}, W.at? q f = some g → Two N f → Two N g
  | [], _, _, h, hf => by cases h; exact hf
  | s :: q, f, g, h, hf => by
    simp only [W.at?] at h
    cases e : f.kid s with
    | none => simp [e] at h
    | some k =>
      simp only [e] at h
      obtain ⟨_, _, h3⟩ := kid_in e
      exact two_at h (ms_kid wt0 hf h3).2
/-- the next step with other names -/
theorem ren_next {f : W} (hf : Two N f) : nextF (W.ren ρ f) = (nextF f).map fun x => (x.1, x.2.1, W.ren ρ x.2.2) := by
  unfold nextF
  rw [ren_first R hf]
  cases W.first f with
  | none => rfl
  | some q =>
    simp only [ren_at]
    cases hg : W.at? q f with
    | none => rfl
    | some g =>
      simp only [Option.map_some]
      rw [ren_firstRule R (two_at hg hf)]
      cases firstRule g with
      | none => rfl
      | some x => simp only [Option.map_some]; rw [ren_put]
end Lw

/-! ### steps: what first_place, next_step, steps, simple tell -/
namespace Lw
open PySem Fm
section
variable {ns : List Int} {t : Tw} {k : Nat} {N : Str → Prop}
/-- all that is asked of a formula -/
structure Gd (N : Str → Prop) (f : W) : Prop where
  nm : ∀ x, N x → okN x
  sm : Sm N f
  hh : f.psi ≤ 20
theorem Gd.h {f : W} (g : Gd N f) : f.h ≤ 20 := Nat.le_trans (h_psi f) g.hh
theorem Gd.next {f o : W} {r : Fin 8} {q : List Int} (g : Gd N f) (h : nextF f = some (r, q, o)) : Gd N o := ⟨g.nm, g.sm.next h, Nat.le_trans (next_psi g.sm.two h).1 g.hh⟩
/-- small, and not deep -/
structure Gs (N : Str → Prop) (f : W) : Prop where
  nm : ∀ x, N x → okN x
  sm : Sm N f
  hh : f.h ≤ 20
theorem Gd.gs {f : W} (g : Gd N f) : Gs N f := ⟨g.nm, g.sm, g.h⟩
theorem Gs.kid {f g : W} {j : Nat} (h : Gs N f) (hk : f.kids[j]? = some g) : Gs N g := ⟨h.nm, h.sm.kid hk, by
  have := kid_h (f := f) (g := g) (s := (j : Int)) (by simp [W.kid, hk])
  have := h.hh
  omega⟩
theorem Gs.at {f : W} (h : Gs N f) : ∀ {q : List Int} {g : W}, W.at? q f = some g → Gs N g := by
  intro q
  induction q generalizing f with
  | nil => intro g e; cases e; exact h
  | cons s q ih =>
    intro g e
    simp only [W.at?] at e
    cases hk : f.kid s with
    | none => simp [hk] at e
    | some k =>
      simp only [hk] at e
      obtain ⟨h1, h2, h3⟩ := kid_in hk
      exact ih (h.kid h3) e
theorem Gs.rule {f : W} (h : Gs N f) : RuleOk f := h.sm.rule h.nm (by have := h.hh; omega)
theorem Gs.ok {f : W} (h : Gs N f) : f.ok := h.sm.ok h.nm
theorem resultsF_root (f : W) : resultsF f [] = (List.finRange 8).filterMap fun r => (byRule r f).map fun o => (r, o) := rfl
theorem results_head (f : W) : (resultsF f []).head? = firstRule f := rfl
theorem first_len : ∀ {f : W} {q : List Int}, W.first f = some q → q.length ≤ f.h := by
  have key : ∀ (n : Nat) (f : W), f.h ≤ n → ∀ q, W.first f = some q → q.length ≤ f.h := by
    intro n
    induction n with
    | zero =>
      intro f hf q hq
      rcases first_cases f with ⟨h1, _, _⟩ | ⟨h1, _, x, h3⟩ | ⟨j, q', g, h1, h2, h3⟩
      · rw [h1] at hq; cases hq
      · rw [h1] at hq; cases hq; simp
      · exfalso
        have := kid_h (f := f) (g := g) (s := (j : Int)) (by simp [W.kid, h2])
        omega
    | succ n ih =>
      intro f hf q hq
      rcases first_cases f with ⟨h1, _, _⟩ | ⟨h1, _, x, h3⟩ | ⟨j, q', g, h1, h2, h3⟩
      · rw [h1] at hq; cases hq
      · rw [h1] at hq; cases hq; simp
      · rw [h1] at hq
        cases hq
        have := kid_h (f := f) (g := g) (s := (j : Int)) (by simp [W.kid, h2])
        have := ih g (by omega) q' h3
        simp
        omega
  intro f
  exact key f.h f (Nat.le_refl _) _
def placeD : Option (List Int) → D
  | some q => pd q
  | none => .non
theorem fp_turn {f0 : D} {f : W} {i : Nat} {c3 : Sl} (hf : callF p ns k i_first_place [f.d] t = .ok (placeD (W.first f)) t) (hl : f.h ≤ 20) : evSs (gam p ns k) (csOf cst) b_first_place_1 [.val f0, .val (.int (i : Nat)), .val f.d, c3] t = match W.first f with
    | some q => .ok (.ret (pd (((i : Nat) : Int) :: q)), [.val f0, .val (.int (i : Nat)), .val f.d, .val (pd q)]) t
    | none => .ok (.nx, [.val f0, .val (.int (i : Nat)), .val f.d, .val .non]) t := by
  cases h : W.first f with
  | none =>
    rw [h] at hf
    simp only [placeD] at hf
    simp [b_first_place_1, hf]
  | some q =>
    rw [h] at hf
    simp only [placeD] at hf
    have h1 := first_len h
    have hq : 1 + q.length ≤ 16777216 := by omega
    simp [b_first_place_1, hf, okLen, hq]
theorem fp_loop {f0 : D} : ∀ (ps : List W) (i : Nat) (c1 c2 c3 : Sl), (∀ f ∈ ps, f.h ≤ 20 ∧ callF p ns k i_first_place [f.d] t = .ok (placeD (W.first f)) t) →
    (∀ q, Ws.first i ps = some q → ∃ r, loopF (lp ns k (.tup (.cons (.name 1) (.cons (.name 2) .nil))) b_first_place_1) (enumD i (ps.map W.d)) [.val f0, c1, c2, c3] t = .ok (.ret (pd q), r) t) ∧
    (Ws.first i ps = none → ∃ c1' c2' c3', loopF (lp ns k (.tup (.cons (.name 1) (.cons (.name 2) .nil))) b_first_place_1) (enumD i (ps.map W.d)) [.val f0, c1, c2, c3] t = .ok (.nx, [.val f0, c1', c2', c3']) t) := by
  intro ps
  induction ps with
  | nil => intro i c1 c2 c3 _; exact ⟨fun q h => (by simp [Ws.first] at h), fun _ => ⟨c1, c2, c3, rfl⟩⟩
  | cons f ps ih =>
    intro i c1 c2 c3 h
    obtain ⟨hl, hf⟩ := h f List.mem_cons_self
    have et := fp_turn (f0 := f0) (i := i) (c3 := c3) hf hl
    rw [List.map_cons, enumD, loopF, lp_eq (r1 := [.val f0, .val (.int (i : Nat)), .val f.d, c3]) rfl, et]
    simp only [Ws.first]
    cases hw : W.first f with
    | some q =>
      refine ⟨fun q' hq => ?_, fun hq => (by cases hq)⟩
      cases hq
      exact ⟨_, rfl⟩
    | none => exact ih (i + 1) _ _ _ fun g hg => h g (List.mem_cons_of_mem _ hg)
theorem kids_first (f : W) (h : f.first ≠ none) : (∃ q, Ws.first 0 f.kids = some q ∧ f.first = some q) ∨ (Ws.first 0 f.kids = none ∧ f.first = some [] ∧ ∃ x, firstRule f = some x) := by
  cases f with
  | num q => exact .inr ⟨rfl, by simp only [W.first, rootP] at h ⊢; split <;> simp_all, by simp only [W.first, rootP] at h; cases e : firstRule (.num q) with | none => simp [e] at h | some x => exact ⟨x, rfl⟩⟩
  | nam x => exact .inr ⟨rfl, by simp only [W.first, rootP] at h ⊢; split <;> simp_all, by simp only [W.first, rootP] at h; cases e : firstRule (.nam x) with | none => simp [e] at h | some x => exact ⟨x, rfl⟩⟩
  | many m ps =>
    simp only [W.first, W.kids] at h ⊢
    cases e : Ws.first 0 ps with
    | some q => exact .inl ⟨q, rfl, rfl⟩
    | none =>
      rw [e] at h
      simp only [rootP] at h ⊢
      cases e2 : firstRule (.many m ps) with
      | none => simp [e2] at h
      | some x => exact .inr ⟨by simp, by simp, x, by simp⟩
  | pow g e =>
    simp only [W.first, W.kids, Ws.first] at h ⊢
    cases e1 : W.first g with
    | some q => exact .inl ⟨0 :: q, by simp, rfl⟩
    | none =>
      rw [e1] at h
      simp only [rootP] at h ⊢
      cases e2 : firstRule (.pow g e) with
      | none => simp [e2] at h
      | some x => exact .inr ⟨by simp, by simp, x, by simp⟩
theorem first_noneK (f : W) (h : f.first = none) : Ws.first 0 f.kids = none ∧ firstRule f = none := by
  rcases first_cases f with ⟨_, h2, h3⟩ | ⟨h1, _⟩ | ⟨j, q, g, h1, _⟩
  · exact ⟨Ws_first_none.mpr h2, h3⟩
  · rw [h] at h1; cases h1
  · rw [h] at h1; cases h1
theorem e_first_place : ∀ (f : W) (k : Nat), f.h + 12 ≤ k → Gs N f → callF p ns k i_first_place [f.d] t = .ok (placeD (W.first f)) t := by
  have key : ∀ (n : Nat) (f : W), f.h ≤ n → ∀ k, f.h + 12 ≤ k → Gs N f → callF p ns k i_first_place [f.d] t = .ok (placeD (W.first f)) t := by
    intro n
    induction n with
    | zero =>
      intro f hf k hk g
      obtain ⟨k, rfl⟩ := up1 (show 1 ≤ k by omega)
      have hkids : f.kids = [] := by
        cases e : f.kids with
        | nil => rfl
        | cons x r =>
          have := kid_h (f := f) (g := x) (s := 0) (by simp [W.kid, e])
          omega
      have e1 := e_parts_of (ns := ns) (t := t) (k := k) (by omega) f
      have e2 := e_results (ns := ns) (t := t) (k := k) (f := f) (q := []) (by omega) rfl g.rule
      rw [hkids] at e1
      simp only [pd, List.map_nil] at e2 e1
      rw [u_first_place]
      have hh := results_head f
      cases hf1 : firstRule f with
      | none =>
        have hw : f.first = none := by
          rcases first_cases f with ⟨h1, _⟩ | ⟨_, _, x, h3⟩ | ⟨j, q, g', h1, h2, _⟩
          · exact h1
          · rw [hf1] at h3; cases h3
          · rw [hkids] at h2; simp at h2
        rw [hf1] at hh
        rw [List.head?_eq_none_iff.mp hh] at e2
        simp [b_first_place, e1, e2, enumD, hw, placeD, okLen]
      | some x =>
        have hw : f.first = some [] := by
          rcases first_cases f with ⟨_, _, h3⟩ | ⟨h1, _⟩ | ⟨j, q, g', h1, h2, _⟩
          · rw [hf1] at h3; cases h3
          · exact h1
          · rw [hkids] at h2; simp at h2
        rw [hf1] at hh
        cases hr : resultsF f [] with
        | nil => rw [hr] at hh; cases hh
        | cons y r =>
          rw [hr] at e2
          simp [b_first_place, e1, e2, enumD, hw, placeD, okLen]
    | succ n ih =>
      intro f hf k hk g
      obtain ⟨k, rfl⟩ := up1 (show 1 ≤ k by omega)
      have e1 := e_parts_of (ns := ns) (t := t) (k := k) (by omega) f
      have e2 := e_results (ns := ns) (t := t) (k := k) (f := f) (q := []) (by omega) rfl g.rule
      simp only [pd, List.map_nil] at e2
      have hl := fp_loop (ns := ns) (t := t) (k := k) (f0 := f.d) f.kids 0 .un .un .un (fun q hq => by
        obtain ⟨j, hj⟩ := List.getElem?_of_mem hq
        have h1 := kid_h (f := f) (g := q) (s := (j : Int)) (by simp [W.kid, hj])
        have h2 := g.kid hj
        exact ⟨h2.hh, ih q (by omega) k (by omega) h2⟩)
      rw [u_first_place]
      have hh := results_head f
      cases hfo : W.first f with
      | some q =>
        rcases kids_first f (by rw [hfo]; simp) with ⟨q', h1, h2⟩ | ⟨h1, h2, x, h3⟩
        · rw [hfo] at h2
          cases h2
          obtain ⟨r, e3⟩ := hl.1 q h1
          simp [b_first_place, e1, e3, placeD]
        · rw [hfo] at h2
          cases h2
          obtain ⟨c1, c2, c3, e3⟩ := hl.2 h1
          rw [h3] at hh
          cases hr : resultsF f [] with
          | nil => rw [hr] at hh; cases hh
          | cons y r =>
            rw [hr] at e2
            simp [b_first_place, e1, e3, e2, placeD, okLen]
      | none =>
        obtain ⟨h1, h2⟩ := first_noneK f hfo
        obtain ⟨c1, c2, c3, e3⟩ := hl.2 h1
        rw [h2] at hh
        rw [List.head?_eq_none_iff.mp hh] at e2
        simp [b_first_place, e1, e3, e2, placeD, okLen]
  exact fun f => key f.h f (Nat.le_refl _)
abbrev Stp := Fin 8 × List Int × W
def stepD (s : Stp) : D := .tup [.str (ruleW s.1), pd s.2.1, s.2.2.d]
def nextD : Option Stp → D
  | some s => stepD s
  | none => .non
theorem results_at {f g : W} {q : List Int} (h : W.at? q f = some g) : resultsF f q = (resultsF g []).map fun x => (x.1, W.put q f x.2) := by
  unfold resultsF
  rw [h]
  show (List.finRange 8).filterMap _ = ((List.finRange 8).filterMap fun r => (byRule r g).map fun o => (r, W.put [] g o)).map _
  rw [List.map_filterMap]
  congr 1
  funext r
  cases byRule r g <;> rfl
theorem next_of_place {f : W} {q : List Int} (h : W.first f = some q) : ∃ g x, W.at? q f = some g ∧ firstRule g = some x ∧ nextF f = some (x.1, q, W.put q f x.2) := by
  cases hn : nextF f with
  | none =>
    rcases next_cases f with ⟨_, h2, _⟩ | ⟨r, o, e, _⟩ | ⟨j, g, r, q', o, e, _⟩
    · simp [W.norm, h] at h2
    · rw [hn] at e; cases e
    · rw [hn] at e; cases e
  | some s =>
    unfold nextF at hn
    rw [h] at hn
    simp only at hn
    cases hg : W.at? q f with
    | none => rw [hg] at hn; cases hn
    | some g =>
      rw [hg] at hn
      simp only at hn
      cases hr : firstRule g with
      | none => rw [hr] at hn; cases hn
      | some x =>
        rw [hr] at hn
        obtain ⟨r, o⟩ := x
        cases hn
        exact ⟨g, (r, o), rfl, hr, rfl⟩
/-- a step at a place that is told -/
theorem ns_tail {f g : W} {q : List Int} {x : Fin 8 × W} (hk : f.h + 14 ≤ k + 1) (hp : callF p ns k i_first_place [f.d] t = .ok (pd q) t) (ha : W.at? q f = some g) (hr : RuleOk g) (hx : firstRule g = some x) : callF p ns (k + 1) i_next_step [f.d] t = .ok (stepD (x.1, q, W.put q f x.2)) t := by
  have e2 := e_results (ns := ns) (t := t) (k := k) (f := f) (q := q) (by omega) ha hr
  rw [results_at ha] at e2
  have hh := results_head g
  rw [hx] at hh
  rw [u_next_step]
  cases hrr : resultsF g [] with
  | nil => rw [hrr] at hh; cases hh
  | cons y r =>
    rw [hrr] at hh e2
    cases hh
    simp only [List.map_cons, pd] at e2 hp
    simp [b_next_step, hp, e2, resD, stepD, okLen]
theorem e_next_step (f : W) (hk : f.h + 14 ≤ k) (g : Gs N f) : callF p ns k i_next_step [f.d] t = .ok (nextD (nextF f)) t := by
  obtain ⟨k, rfl⟩ := up1 (show 1 ≤ k by omega)
  have e1 := e_first_place (ns := ns) (t := t) (N := N) f k (by omega) g
  cases hf : W.first f with
  | none =>
    rw [hf] at e1
    have : nextF f = none := by simp [nextF, hf]
    rw [u_next_step, this]
    simp only [placeD] at e1
    simp [b_next_step, e1, nextD]
  | some q =>
    rw [hf] at e1
    obtain ⟨g', x, h1, h2, h3⟩ := next_of_place hf
    rw [h3]
    exact ns_tail hk e1 h1 (g.at h1).rule h2
/-- all steps, so many at most -/
def stepsN : Nat → W → Option (List Stp)
  | 0, f => match nextF f with
    | none => some []
    | some _ => none
  | n + 1, f => match nextF f with
    | none => some []
    | some s => (stepsN n s.2.2).map (s :: ·)
theorem steps_loop {f0 : D} {most : Nat} (hm : most ≤ 100000) (hk : 34 ≤ k) : ∀ (n : Nat) (f : W) (L : List Stp), L.length + n = most → Gd N f → loopW (ev (gam p ns k) (csOf cst) (.cmp .IsNot (.var 3) (.cst .non))) (evSs (gam p ns k) (csOf cst) b_steps_1) [.val f0, .val (.int (most : Nat)), .own (.lst (L.map stepD)), .val (nextD (nextF f))] t = match stepsN n f with
    | some M => .ok (.nx, [.val f0, .val (.int (most : Nat)), .own (.lst ((L ++ M).map stepD)), .val .non]) t
    | none => .exc 6 t := by
  intro n
  induction n with
  | zero =>
    intro f L hL g
    rw [loopW_eq]
    cases hn : nextF f with
    | none => simp [stepsN, hn, nextD]
    | some s =>
      have h1 : isN (stepD s) = false := rfl
      have h2 : ((L.length : Nat) : Int) = (most : Nat) := by omega
      have et : evSs (gam p ns k) (csOf cst) b_steps_1 [.val f0, .val (.int (most : Nat)), .own (.lst (L.map stepD)), .val (stepD s)] t = .exc 6 t := by
        simp [b_steps_1, h2]
      simp only [stepsN, hn, nextD]
      have ec : ev (gam p ns k) (csOf cst) (.cmp .IsNot (.var 3) (.cst .non)) [.val f0, .val (.int (most : Nat)), .own (.lst (L.map stepD)), .val (stepD s)] t = .ok (.bl true) t := by simp [h1]
      rw [ec]
      simp only [Res.bind_ok, x_tru1, et, Res.bind_exc]
  | succ n ih =>
    intro f L hL g
    rw [loopW_eq]
    cases hn : nextF f with
    | none => simp [stepsN, hn, nextD]
    | some s =>
      obtain ⟨r, q, o⟩ := s
      have go := g.next hn
      have h1 : isN (stepD (r, q, o)) = false := rfl
      have h2 : ¬ (((L.length : Nat) : Int) = (most : Nat)) := by omega
      have en := e_next_step (ns := ns) (t := t) (k := k) o (by have := go.h; omega) go.gs
      have hl : L.length < 16777216 := by omega
      have et : evSs (gam p ns k) (csOf cst) b_steps_1 [.val f0, .val (.int (most : Nat)), .own (.lst (L.map stepD)), .val (stepD (r, q, o))] t = .ok (.nx, [.val f0, .val (.int (most : Nat)), .own (.lst ((L ++ [(r, q, o)]).map stepD)), .val (nextD (nextF o))]) t := by
        have hs : stepD (r, q, o) = .tup [.str (ruleW r), pd q, o.d] := rfl
        simp [b_steps_1, h2, hl, hs, en]
      have ec : ev (gam p ns k) (csOf cst) (.cmp .IsNot (.var 3) (.cst .non)) [.val f0, .val (.int (most : Nat)), .own (.lst (L.map stepD)), .val (stepD (r, q, o))] t = .ok (.bl true) t := by simp [h1]
      simp only [stepsN, hn, nextD]
      rw [ec]
      simp only [Res.bind_ok, x_tru1, et]
      rw [ih o (L ++ [(r, q, o)]) (by simp; omega) go]
      cases stepsN n o with
      | none => rfl
      | some M => simp
theorem e_steps {f : W} {most : Nat} (hm : most ≤ 100000) (hk : 35 ≤ k) (g : Gd N f) : callF p ns k i_steps [f.d, .int (most : Nat)] t = match stepsN most f with
    | some M => .ok (.tup (M.map stepD)) t
    | none => .exc 6 t := by
  obtain ⟨k, rfl⟩ := up1 (show 1 ≤ k by omega)
  have en := e_next_step (ns := ns) (t := t) (k := k) f (by have := g.h; omega) g.gs
  have hl := steps_loop (ns := ns) (t := t) (k := k) (f0 := f.d) hm (by omega) most f [] (by simp) g
  rw [u_steps]
  simp only [List.map_nil, List.nil_append] at hl
  cases hs : stepsN most f with
  | some M =>
    rw [hs] at hl
    simp [b_steps, en, hl]
  | none =>
    rw [hs] at hl
    simp [b_steps, en, hl]
end
end Lw

/-! ### drawn formulas -/
namespace Lw
open PySem Fm
section
variable {ns sc : List Int} {t : Tw} {k n : Nat}
/-- what drawn formulas are: closed under what is drawn -/
structure ZOk (Z : Nat → D → Prop) : Prop where
  num : ∀ d x y, SmF 4 x y → Z d (.tup [.str "num", .tup [.int x, .int y]])
  nam : ∀ d (x : Str), (x = "x" ∨ x = "y") → Z d (.tup [.str "name", .str x])
  many : ∀ d (w : Str) ps, (w = "add" ∨ w = "mul") → (∀ x ∈ ps, Z d x) → 2 ≤ ps.length → ps.length ≤ 3 → Z (d + 1) (.tup [.str w, .tup ps])
  pow : ∀ d a v, Z d a → 0 ≤ v → v < 4 → Z (d + 1) (.tup [.str "pow", a, .int v])
variable {Z : Nat → D → Prop} (zk : ZOk Z)
include zk
omit zk in
theorem dummyZ : True := trivial
def wordsL : List D := [.str "add", .str "mul", .str "pow"]
def B : Nat → Nat
  | 0 => 4
  | d + 1 => 3 + 3 * B d
omit zk in
theorem B_pos : ∀ d, 4 ≤ B d
  | 0 => Nat.le_refl _
  | d + 1 => by
    have := B_pos d
    simp only [B]
    omega
def leafB : Ss := .cons (.asg (.name 4) (.call 31 (.cons (.var 0) (.cons (.var 1) (.cons (.cst (.int 3)) .nil))) .nil)) (.cons (.ite (.cmp .Eq (.var 4) (.cst (.int 0))) (.cons (.ret (.tup (.cons (.cst (.str "num")) (.cons (.call 32 (.cons (.var 0) (.cons (.var 1) (.cons (.cst (.int 4)) .nil))) .nil) .nil)))) .nil) .nil) (.cons (.ret (.tup (.cons (.cst (.str "name")) (.cons (.ix (.cst (.str "xy")) (.bin .Sub (.var 4) (.cst (.int 1)))) .nil)))) .nil))
theorem leaf_ev {d : D} (hk : 2 ≤ k) (h : rm (n + 3) t) : ∃ f r' t', evSs (gam p ns k) (csOf cst) leafB [.val (.scr sc), .val .tok, .val d, .val (.lst wordsL), .un, .un, .un, .un, .un] t = .ok (.ret f, r') t' ∧ (∀ d, Z d f) ∧ rm n t' := by
  obtain ⟨v, t1, e1, a1, b1, h1⟩ := e_draw (ns := ns) (sc := sc) (show 1 ≤ k by omega) 3 (by omega) (by omega) (show rm (n + 2 + 1) t from h)
  have hv : v = 0 ∨ v = 1 ∨ v = 2 := by omega
  rcases hv with rfl | rfl | rfl
  · obtain ⟨x, y, t2, e2, f2, h2⟩ := e_a_frac (ns := ns) (sc := sc) hk 4 (by omega) h1
    exact ⟨_, _, t2, by simp [leafB, e1, e2]; rfl, fun d => zk.num d _ _ f2, h2⟩
  · have ex : ixD (.str "xy") (.int 0) = some (.str "x") := by kernel_rfl
    exact ⟨_, _, t1, by simp only [leafB, x_evSs_cons, x_consE, x_evS_asg]; simp [e1, ex, -x_ixs]; rfl, fun d => zk.nam d _ (.inl rfl), h1.le (by omega)⟩
  · have ex : ixD (.str "xy") (.int 1) = some (.str "y") := by kernel_rfl
    exact ⟨_, _, t1, by simp only [leafB, x_evSs_cons, x_consE, x_evS_asg]; simp [e1, ex, -x_ixs]; rfl, fun d => zk.nam d _ (.inr rfl), h1.le (by omega)⟩
def restB : Ss := .cons (.asg (.name 5) (.ix (.var 3) (.call 31 (.cons (.var 0) (.cons (.var 1) (.cons (.blt .len (.var 3)) .nil))) .nil))) (.cons (.ite (.cmp .In (.var 5) (.tup (.cons (.cst (.str "add")) (.cons (.cst (.str "mul")) .nil)))) (.cons (.asg (.name 6) (.bin .Add (.cst (.int 2)) (.call 31 (.cons (.var 0) (.cons (.var 1) (.cons (.cst (.int 2)) .nil))) .nil))) (.cons (.ret (.tup (.cons (.var 5) (.cons (.blt .tuple (.comp [("k", 7)] (.call 33 (.cons (.var 0) (.cons (.var 1) (.cons (.bin .Sub (.var 2) (.cst (.int 1))) (.cons (.var 3) .nil)))) .nil) (.name 7) (.rng1 (.var 6)) .none)) .nil)))) .nil)) .nil) (.cons (.asg (.name 8) (.call 33 (.cons (.var 0) (.cons (.var 1) (.cons (.bin .Sub (.var 2) (.cst (.int 1))) (.cons (.var 3) .nil)))) .nil)) (.cons (.ite (.cmp .Eq (.var 5) (.cst (.str "pow"))) (.cons (.ret (.tup (.cons (.cst (.str "pow")) (.cons (.var 8) (.cons (.call 31 (.cons (.var 0) (.cons (.var 1) (.cons (.cst (.int 4)) .nil))) .nil) .nil))))) .nil) .nil) (.cons (.ite (.cmp .Eq (.var 5) (.cst (.str "div"))) (.cons (.ret (.tup (.cons (.cst (.str "div")) (.cons (.var 8) (.cons (.call 33 (.cons (.var 0) (.cons (.var 1) (.cons (.bin .Sub (.var 2) (.cst (.int 1))) (.cons (.var 3) .nil)))) .nil) .nil))))) .nil) .nil) (.cons (.ret (.tup (.cons (.var 5) (.cons (.var 8) .nil)))) .nil)))))
omit zk in
theorem okr2 (z : Nat) (hz : z ≤ 1) : okRng (2 + (z : Int)) = true := by
  have h1 : z = 0 ∨ z = 1 := by omega
  rcases h1 with rfl | rfl <;> decide +kernel
omit zk in
theorem rng_n (z : Nat) : (rngD 0 z).length = z := by simp [rngD]
omit zk in
theorem len6 : (wordsL.length : Int) = 3 := rfl
theorem rest_many {d : Nat} {v : Int} {t1 : Tw} (hk : 1 ≤ k) (ih : ∀ (n : Nat) (t : Tw), rm (n + B d) t → ∃ f t', callF p ns k i__law_a_formula [.scr sc, .tok, .int d, .lst wordsL] t = .ok f t' ∧ Z d f ∧ rm n t') (e1 : callF p ns k i__law_draw [.scr sc, .tok, .int 3] t = .ok (.int v) t1) (h1 : rm (n + (1 + 3 * B d)) t1) (w : Str) (hw2 : w = "add" ∨ w = "mul") (ea : L2.atI wordsL v = some (.str w)) (ei : inB (.str w) (.tup [.str "add", .str "mul"]) = some true) : ∃ f r' t', evSs (gam p ns k) (csOf cst) restB [.val (.scr sc), .val .tok, .val (.int (d + 1)), .val (.lst wordsL), .un, .un, .un, .un, .un] t = .ok (.ret f, r') t' ∧ Z (d + 1) f ∧ rm n t' := by
  have hB := B_pos d
  have hw := len6
  obtain ⟨u, t2, e2, a2, b2, h2⟩ := e_draw (ns := ns) (sc := sc) (t := t1) hk 2 (by omega) (by omega) (show rm (n + 3 * B d + 1) t1 from h1.le (by omega))
  obtain ⟨c, hc⟩ : ∃ c, c = 2 + u := ⟨_, rfl⟩
  have okr : okRng c = true := by
    have := okr2 u.toNat (by omega)
    rw [hc]
    have e : ((u.toNat : Nat) : Int) = u := by omega
    rw [e] at this
    exact this
  have hc2 : 2 ≤ c.toNat ∧ c.toNat ≤ 3 := by omega
  have hi : evI (gam p ns k) (csOf cst) (.rng1 (.var 6)) [.val (.scr sc), .val .tok, .val (.int (d + 1)), .val (.lst wordsL), .un, .val (.str w), .val (.int c), .un, .un] t2 = .ok (rngD 0 c.toNat) t2 := by simp [okr]
  have tn : ∀ x : D, ∀ (q : Nat) (t : Tw), rm (n + (q + 1) * B d) t → ∃ y t', turnE (.name 7) (([("k", 7)] : List (Str × Nat)).map (·.2)) (evO (gam p ns k) (csOf cst) .none) (ev (gam p ns k) (csOf cst) (.call 33 (.cons (.var 0) (.cons (.var 1) (.cons (.bin .Sub (.var 2) (.cst (.int 1))) (.cons (.var 3) .nil)))) .nil)) [.val (.scr sc), .val .tok, .val (.int (d + 1)), .val (.lst wordsL), .un, .val (.str w), .val (.int c), .un, .un] x t = .ok (some y) t' ∧ Z d y ∧ rm (n + q * B d) t' := by
    intro x q t hq
    obtain ⟨f, t', e, zf, h'⟩ := ih (n + q * B d) t (by
      have : (q + 1) * B d = q * B d + B d := Nat.succ_mul ..
      rw [this] at hq
      exact hq.le (by omega))
    exact ⟨f, t', by simp [e], zf, h'⟩
  have h0 : rm (n + (0 + (rngD 0 c.toNat).length) * B d) t2 := by
    rw [rng_n, Nat.zero_add]
    refine h2.le ?_
    have : c.toNat * B d ≤ 3 * B d := Nat.mul_le_mul_right _ hc2.2
    omega
  obtain ⟨ys, t3, e3, l3, z3, h3⟩ := comp_inv (n := 0) (own := [("k", 7)]) (fun m t => rm (n + m * B d) t) (Z d) hi (by rw [rng_n]; exact okS (by omega)) h0 (fun x m q t hq => tn x q t hq)
  have h3' : rm n t3 := by
    have : n + 0 * B d = n := by omega
    rw [this] at h3
    exact h3
  refine ⟨.tup [.str w, .tup ys], [.val (.scr sc), .val .tok, .val (.int (d + 1)), .val (.lst wordsL), .un, .val (.str w), .val (.int c), .un, .un], t3, ?_, zk.many _ _ _ hw2 z3 (by rw [l3, rng_n]; omega) (by rw [l3, rng_n]; omega), h3'⟩
  generalize hr : ([.val (.scr sc), .val .tok, .val (.int (d + 1)), .val (.lst wordsL), .un, .val (.str w), .val (.int c), .un, .un] : Rho) = r at e3 ⊢
  have s3 : evS (gam p ns k) (csOf cst) (.ret (.tup (.cons (.var 5) (.cons (.blt .tuple (.comp [("k", 7)] (.call 33 (.cons (.var 0) (.cons (.var 1) (.cons (.bin .Sub (.var 2) (.cst (.int 1))) (.cons (.var 3) .nil)))) .nil) (.name 7) (.rng1 (.var 6)) .none)) .nil)))) r t2 = .ok (.ret (.tup [.str w, .tup ys]), r) t3 := by
    have v5 : ev (gam p ns k) (csOf cst) (.var 5) r t2 = .ok (.str w) t2 := by rw [← hr]; simp
    have v6 := e3
    rw [evS_ret]
    simp only [x_ev_tup, x_evs_cons, x_evs_nil, v5, x_ev_blt, v6, Res.bind_ok, x_tup1, lift_some]
    rfl
  unfold restB
  rw [seq_nx (r1 := [.val (.scr sc), .val .tok, .val (.int (d + 1)), .val (.lst wordsL), .un, .val (.str w), .un, .un, .un]) (t1 := t1) (by simp [hw, e1, ea])]
  refine seq_ret ?_
  have s1 : evS (gam p ns k) (csOf cst) (.asg (.name 6) (.bin .Add (.cst (.int 2)) (.call 31 (.cons (.var 0) (.cons (.var 1) (.cons (.cst (.int 2)) .nil))) .nil))) [.val (.scr sc), .val .tok, .val (.int (d + 1)), .val (.lst wordsL), .un, .val (.str w), .un, .un, .un] t1 = .ok (.nx, r) t2 := by
    rw [← hr, hc]
    simp [e2]
  rw [evS_ite, iteS]
  simp only [x_ev_cmp, x_ev_var, x_ev_tup, x_evs_cons, x_evs_nil, x_ev_cst]
  simp [ei, -x_evSs_cons]
  rw [seq_nx s1]
  exact seq_ret s3
theorem rest_pow {d : Nat} {v : Int} {t1 : Tw} (hk : 1 ≤ k) (ih : ∀ (n : Nat) (t : Tw), rm (n + B d) t → ∃ f t', callF p ns k i__law_a_formula [.scr sc, .tok, .int d, .lst wordsL] t = .ok f t' ∧ Z d f ∧ rm n t') (e1 : callF p ns k i__law_draw [.scr sc, .tok, .int 3] t = .ok (.int v) t1) (h1 : rm (n + (1 + 3 * B d)) t1) (ea : L2.atI wordsL v = some (.str "pow")) : ∃ f r' t', evSs (gam p ns k) (csOf cst) restB [.val (.scr sc), .val .tok, .val (.int (d + 1)), .val (.lst wordsL), .un, .un, .un, .un, .un] t = .ok (.ret f, r') t' ∧ Z (d + 1) f ∧ rm n t' := by
  have hB := B_pos d
  have hw := len6
  have ei : inB (.str "pow") (.tup [.str "add", .str "mul"]) = some false := by kernel_rfl
  have ep : eqOp (.str "pow") (.str "pow") = some (.bl true) := by kernel_rfl
  obtain ⟨f, t2, e2, z2, h2⟩ := ih (n + 2 * B d) t1 (h1.le (by omega))
  obtain ⟨u, t3, e3, a3, b3, h3⟩ := e_draw (ns := ns) (sc := sc) (t := t2) hk 4 (by omega) (by omega) (show rm (n + 2 * B d - 1 + 1) t2 from h2.le (by omega))
  refine ⟨.tup [.str "pow", f, .int u], [.val (.scr sc), .val .tok, .val (.int (d + 1)), .val (.lst wordsL), .un, .val (.str "pow"), .un, .un, .val f], t3, ?_, zk.pow _ _ _ z2 a3 b3, h3.le (by omega)⟩
  simp [restB, hw, e1, ea, ei, e2, ep, e3]
theorem rest_ev {d : Nat} (hk : 1 ≤ k) (ih : ∀ (n : Nat) (t : Tw), rm (n + B d) t → ∃ f t', callF p ns k i__law_a_formula [.scr sc, .tok, .int d, .lst wordsL] t = .ok f t' ∧ Z d f ∧ rm n t') (h : rm (n + (2 + 3 * B d)) t) : ∃ f r' t', evSs (gam p ns k) (csOf cst) restB [.val (.scr sc), .val .tok, .val (.int (d + 1)), .val (.lst wordsL), .un, .un, .un, .un, .un] t = .ok (.ret f, r') t' ∧ Z (d + 1) f ∧ rm n t' := by
  obtain ⟨v, t1, e1, a1, b1, h1⟩ := e_draw (ns := ns) (sc := sc) hk 3 (by omega) (by omega) (show rm (n + (1 + 3 * B d) + 1) t from h.le (by omega))
  have hv : v = 0 ∨ v = 1 ∨ v = 2 := by omega
  rcases hv with rfl | rfl | rfl
  · exact rest_many zk hk ih e1 h1 "add" (.inl rfl) rfl (by kernel_rfl)
  · exact rest_many zk hk ih e1 h1 "mul" (.inr rfl) rfl (by kernel_rfl)
  · exact rest_pow zk hk ih e1 h1 rfl
theorem e_formula : ∀ (d k n : Nat) (t : Tw), d + 4 ≤ k → rm (n + B d) t → ∃ f t', callF p ns k i__law_a_formula [.scr sc, .tok, .int d, .lst wordsL] t = .ok f t' ∧ Z d f ∧ rm n t' := by
  intro d
  induction d with
  | zero =>
    intro k n t hk h
    obtain ⟨k, rfl⟩ := up1 (show 1 ≤ k by omega)
    obtain ⟨f, r', t', e, z, h'⟩ := leaf_ev zk (ns := ns) (sc := sc) (d := .int 0) (show 2 ≤ k by omega) (h.le (show n + 3 ≤ n + B 0 by simp [B]))
    refine ⟨f, t', ?_, z 0, h'⟩
    rw [u__law_a_formula]
    have hb : b__law_a_formula = .cons (.ite (.or (.cmp .Eq (.var 2) (.cst (.int 0))) (.cmp .Eq (.call 31 (.cons (.var 0) (.cons (.var 1) (.cons (.cst (.int 5)) .nil))) .nil) (.cst (.int 0)))) leafB .nil) restB := rfl
    simp only [hb, x_startR, x_evSs_cons, x_consE, x_evS_ite, x_iteS]
    simp [e]
  | succ d ih =>
    intro k n t hk h
    obtain ⟨k, rfl⟩ := up1 (show 1 ≤ k by omega)
    have hB := B_pos d
    obtain ⟨v, t1, e1, a1, b1, h1⟩ := e_draw (ns := ns) (sc := sc) (show 1 ≤ k by omega) 5 (by omega) (by omega) (show rm (n + (2 + 3 * B d) + 1) t from h.le (by simp only [B]; omega))
    have hd : ¬ (((d : Int) + 1) = 0) := by omega
    by_cases hv : v = 0
    · subst hv
      obtain ⟨f, r', t', e, z, h'⟩ := leaf_ev zk (ns := ns) (sc := sc) (t := t1) (d := .int (d + 1)) (show 2 ≤ k by omega) (h1.le (show n + 3 ≤ _ by omega))
      refine ⟨f, t', ?_, z _, h'⟩
      rw [u__law_a_formula]
      have hb : b__law_a_formula = .cons (.ite (.or (.cmp .Eq (.var 2) (.cst (.int 0))) (.cmp .Eq (.call 31 (.cons (.var 0) (.cons (.var 1) (.cons (.cst (.int 5)) .nil))) .nil) (.cst (.int 0)))) leafB .nil) restB := rfl
      simp only [hb, x_startR, x_evSs_cons, x_consE, x_evS_ite, x_iteS]
      simp [hd, e1, e]
    · have hv' : (v == 0) = false := by simpa using hv
      obtain ⟨f, r', t', e, z, h'⟩ := rest_ev zk (ns := ns) (sc := sc) (t := t1) (k := k) (show 1 ≤ k by omega) (fun n t => ih k n t (by omega)) h1
      refine ⟨f, t', ?_, z, h'⟩
      rw [u__law_a_formula]
      have hb : b__law_a_formula = .cons (.ite (.or (.cmp .Eq (.var 2) (.cst (.int 0))) (.cmp .Eq (.call 31 (.cons (.var 0) (.cons (.var 1) (.cons (.cst (.int 5)) .nil))) .nil) (.cst (.int 0)))) leafB .nil) restB := rfl
      simp only [hb, x_startR, x_evSs_cons, x_consE, x_evS_ite, x_iteS]
      simp [hd, e1, hv', hv, e]
end
end Lw

/-! ### drawn whole formulas are small; simple -/
namespace Lw
open PySem Fm
section
variable {ns sc : List Int} {t : Tw} {k n : Nat}
def XY (x : Str) : Prop := x = "x" ∨ x = "y"
theorem XY_ok (x : Str) (h : XY x) : okN x := by
  rcases h with rfl | rfl <;> exact ⟨by decide +kernel, by decide +kernel⟩
/-- bounds by depth -/
def bS (b : Nat) : Nat → Nat
  | 0 => b
  | d + 1 => max (3 * bS b d) (bS b d ^ 3)
def bP : Nat → Nat
  | 0 => 0
  | d + 1 => 1 + max 8 (bP d)
structure Dr (d : Nat) (f : W) : Prop where
  two : Two XY f
  m1 : W.ms wt1 f ≤ bS 1 d
  m2 : W.ms wt2 f ≤ bS 2 d
  mv : W.ms wtV f ≤ bS 4 d
  m6 : W.ms wt6 f ≤ 3 ^ d
  ps : f.psi ≤ bP d
theorem bS_pos {b : Nat} (hb : 1 ≤ b) : ∀ d, 1 ≤ bS b d
  | 0 => hb
  | d + 1 => by
    have := bS_pos hb d
    simp only [bS]
    omega
theorem mq_le {a : Rat → Nat} {c : Nat} {hc a_c a_0 a_1 a_ad a_ml l2 l4 pq} (T : Wt) (hT : T = wtS a c hc a_c a_0 a_1 a_ad a_ml l2 l4 pq) {b : Nat} (hb : 1 ≤ b) (m : Bool) : ∀ {ps : List W}, (∀ f ∈ ps, W.ms T f ≤ b) → ps.length ≤ 3 → mF T m ps ≤ max (3 * b) (b ^ 3) := by
  subst hT
  intro ps h hl
  cases m with
  | false =>
    have : ∀ ps : List W, (∀ f ∈ ps, W.ms (wtS a c hc a_c a_0 a_1 a_ad a_ml l2 l4 pq) f ≤ b) → mF (wtS a c hc a_c a_0 a_1 a_ad a_ml l2 l4 pq) false ps ≤ ps.length * b := by
      intro ps
      induction ps with
      | nil => intro _; rw [mF_nil]; exact Nat.zero_le _
      | cons p ps ih =>
        intro h
        rw [mF_cons, List.length_cons, Nat.add_mul, Nat.one_mul, Nat.add_comm]
        exact Nat.add_le_add (h p List.mem_cons_self) (ih fun f hf => h f (List.mem_cons_of_mem _ hf))
    exact Nat.le_trans (this ps h) (Nat.le_trans (Nat.mul_le_mul_right b hl) (Nat.le_max_left _ _))
  | true =>
    have : ∀ ps : List W, (∀ f ∈ ps, W.ms (wtS a c hc a_c a_0 a_1 a_ad a_ml l2 l4 pq) f ≤ b) → mF (wtS a c hc a_c a_0 a_1 a_ad a_ml l2 l4 pq) true ps ≤ b ^ ps.length := by
      intro ps
      induction ps with
      | nil => intro _; rw [mF_nil]; exact Nat.le_refl _
      | cons p ps ih =>
        intro h
        rw [mF_cons, List.length_cons, Nat.pow_succ, Nat.mul_comm]
        exact Nat.mul_le_mul (h p List.mem_cons_self) (ih fun f hf => h f (List.mem_cons_of_mem _ hf))
    exact Nat.le_trans (this ps h) (Nat.le_trans (Nat.pow_le_pow_right hb hl) (Nat.le_max_right _ _))
theorem m6_le {b : Nat} (m : Bool) {ps : List W} (h : ∀ f ∈ ps, W.ms wt6 f ≤ b) (hl : ps.length ≤ 3) : mF wt6 m ps ≤ 3 * b := by
  cases m with
  | false =>
    have : ∀ ps : List W, (∀ f ∈ ps, W.ms wt6 f ≤ b) → mF wt6 false ps ≤ b := by
      intro ps
      induction ps with
      | nil => intro _; rw [mF_nil]; exact Nat.zero_le _
      | cons p ps ih =>
        intro h
        rw [mF_cons]
        exact Nat.max_le.mpr ⟨h p List.mem_cons_self, ih fun f hf => h f (List.mem_cons_of_mem _ hf)⟩
    have := this ps h
    omega
  | true =>
    have : ∀ ps : List W, (∀ f ∈ ps, W.ms wt6 f ≤ b) → mF wt6 true ps ≤ ps.length * b := by
      intro ps
      induction ps with
      | nil => intro _; rw [mF_nil]; exact Nat.zero_le _
      | cons p ps ih =>
        intro h
        rw [mF_cons, List.length_cons, Nat.add_mul, Nat.one_mul, Nat.add_comm]
        exact Nat.add_le_add (h p List.mem_cons_self) (ih fun f hf => h f (List.mem_cons_of_mem _ hf))
    exact Nat.le_trans (this ps h) (Nat.mul_le_mul_right b hl)
theorem pw_le3 {b x e : Nat} (hx : 1 ≤ x) (h : x ≤ b) (he : e < 4) : x ^ max 1 e ≤ max (3 * b) (b ^ 3) :=
  Nat.le_trans (Nat.pow_le_pow_left h _) (Nat.le_trans (Nat.pow_le_pow_right (by omega) (by omega)) (Nat.le_max_right _ _))
theorem ps0_le_psi : ∀ f : W, f.hasAdd = false → f.ps0 ≤ f.psi := fun f h => by rw [psi_af h]; exact Nat.le_refl _
theorem dr_many {d : Nat} {m : Bool} {ps : List W} (h : ∀ f ∈ ps, Dr d f) (h2 : 2 ≤ ps.length) (h3 : ps.length ≤ 3) : Dr (d + 1) (.many m ps) := by
  refine ⟨two_many.mpr ⟨h2, fun f hf => (h f hf).two⟩, ?_, ?_, ?_, ?_, ?_⟩
  · rw [ms_many]; exact mq_le wt1 rfl (bS_pos (by decide) d) m (fun f hf => (h f hf).m1) h3
  · rw [ms_many]; exact mq_le wt2 rfl (bS_pos (by decide) d) m (fun f hf => (h f hf).m2) h3
  · rw [ms_many]; exact mq_le wtV rfl (bS_pos (by decide) d) m (fun f hf => (h f hf).mv) h3
  · rw [ms_many, Nat.pow_succ, Nat.mul_comm]; exact m6_le m (fun f hf => (h f hf).m6) h3
  · have hw : Ws.psi ps ≤ bP d := Ws_psi.mpr fun f hf => (h f hf).ps
    simp only [bP]
    cases ha : (W.many m ps).hasAdd with
    | false =>
      rw [psi_af ha]
      have hm : m = true := by
        cases m
        · simp [W.hasAdd] at ha
        · rfl
      subst hm
      have hp : Ws.hasAdd ps = false := by simpa [W.hasAdd] using ha
      have : Ws.ps0 ps ≤ bP d := Ws_ps0.mpr fun f hf => by rw [← psi_af (Ws_hasAdd.mp hp f hf)]; exact (h f hf).ps
      simp only [W.ps0]
      omega
    | true =>
      cases hn : (W.many m ps).norm with
      | true => have := (norm_psi hn).1; omega
      | false =>
        cases m
        · rw [psi_add hn]; omega
        · rw [psi_mul ha hn]
          have : cntA ps ≤ 3 := Nat.le_trans (List.length_filter_le _ _) h3
          omega
theorem dr_pow {d e : Nat} {f : W} (h : Dr d f) (he : e < 4) : Dr (d + 1) (.pow f e) := by
  have two : Two XY (.pow f e) := two_pow.mpr h.two
  refine ⟨two, ?_, ?_, ?_, ?_, ?_⟩
  · exact pw_le3 (ms_ge wt1 h.two) h.m1 he
  · exact pw_le3 (Nat.le_trans (by decide) (ms_ge wt2 h.two : 2 ≤ _)) h.m2 he
  · exact pw_le3 (ms_ge wtV h.two) h.mv he
  · show max 1 e * W.ms wt6 f ≤ 3 ^ (d + 1)
    rw [Nat.pow_succ, Nat.mul_comm (3 ^ d)]
    exact Nat.mul_le_mul (by omega) h.m6
  · have := h.ps
    simp only [bP]
    cases ha : f.hasAdd with
    | false =>
      rw [psi_af (f := .pow f e) ha]
      have := psi_af ha
      simp only [W.ps0]
      omega
    | true => rw [psi_pow ha]; omega
theorem smq {x y : Int} (h : SmF 4 x y) : ∃ q : Rat, D.tup [.int x, .int y] = qd q ∧ goodQ q ∧ upQ q ≤ 4 ∧ sixQ q ≤ 1 := by
  have hy : (y.toNat : Int) = y := by have := h.lo; omega
  have hy0 : y.toNat ≠ 0 := by have := h.lo; omega
  have hg : x.natAbs.gcd y.toNat = 1 := by
    have h1 := h.g
    have h2 : y.natAbs = y.toNat := by have := h.lo; omega
    rw [Int.gcd, h2] at h1
    exact h1
  refine ⟨⟨x, y.toNat, hy0, hg⟩, by simp [qd, hy], ?_, ?_, ?_⟩
  · refine ⟨1, ?_⟩
    show y.toNat ∣ 6 ^ 1
    have := h.lo
    have := h.hi
    have : y.toNat = 1 ∨ y.toNat = 2 ∨ y.toNat = 3 := by omega
    rcases this with e | e | e <;> rw [e] <;> decide
  · rw [upQ_le (by decide)]
    show x.natAbs ≤ 4 * y.toNat
    have := h.num
    have := h.lo
    omega
  · refine six_le ?_
    show y.toNat ∣ 6 ^ 1
    have := h.lo
    have := h.hi
    have : y.toNat = 1 ∨ y.toNat = 2 ∨ y.toNat = 3 := by omega
    rcases this with e | e | e <;> rw [e] <;> decide
theorem bS_mono (b : Nat) (hb : 1 ≤ b) : ∀ d, b ≤ bS b d
  | 0 => Nat.le_refl _
  | d + 1 => by
    have := bS_mono b hb d
    simp only [bS]
    omega
def Zw (d : Nat) (x : D) : Prop := ∃ f : W, x = f.d ∧ Dr d f
theorem zw_ok : ZOk Zw where
  num := fun d x y h => by
    obtain ⟨q, e, h1, h2, h3⟩ := smq h
    refine ⟨.num q, by rw [e]; simp [W.d], two_num.mpr h1, bS_mono 1 (by decide) d, bS_mono 2 (by decide) d, Nat.le_trans h2 (bS_mono 4 (by decide) d), ?_, by simp [W.psi]⟩
    have : 1 ≤ 3 ^ d := Nat.one_le_pow _ _ (by decide)
    show sixQ q ≤ _
    omega
  nam := fun d x h => ⟨.nam x, by simp [W.d], two_nam.mpr h, bS_mono 1 (by decide) d, bS_mono 2 (by decide) d, Nat.le_trans (show 1 ≤ 4 by decide) (bS_mono 4 (by decide) d), Nat.zero_le _, by simp [W.psi]⟩
  many := fun d w ps hw h h2 h3 => by
    have : ∃ fs : List W, ps = fs.map W.d ∧ ∀ f ∈ fs, Dr d f := by
      clear h2 h3
      induction ps with
      | nil => exact ⟨[], rfl, fun _ h => by cases h⟩
      | cons x ps ih =>
        obtain ⟨fs, e, hf⟩ := ih fun y hy => h y (List.mem_cons_of_mem _ hy)
        obtain ⟨f, e2, h4⟩ := h x List.mem_cons_self
        refine ⟨f :: fs, by rw [e, e2]; rfl, fun g hg => ?_⟩
        rcases List.mem_cons.mp hg with rfl | hg
        · exact h4
        · exact hf g hg
    obtain ⟨fs, rfl, hf⟩ := this
    rw [List.length_map] at h2 h3
    rcases hw with rfl | rfl
    · exact ⟨.many false fs, by simp [W.d], dr_many hf h2 h3⟩
    · exact ⟨.many true fs, by simp [W.d], dr_many hf h2 h3⟩
  pow := fun d a v h h0 h4 => by
    obtain ⟨f, rfl, hf⟩ := h
    obtain ⟨e, rfl⟩ := Int.eq_ofNat_of_zero_le h0
    exact ⟨.pow f e, by simp [W.d], dr_pow hf (by omega)⟩
theorem dr_gd {f : W} (h : Dr 3 f) : Gd XY f := by
  refine ⟨XY_ok, ⟨h.two, Nat.le_trans h.m1 (by decide), Nat.le_trans h.m2 (by decide), Nat.le_trans h.mv (by decide), Nat.le_trans h.m6 (by decide)⟩, Nat.le_trans h.ps (by decide)⟩
/-! ### simple -/
theorem at_last {α : Type} {xs : List α} (h : xs ≠ []) : L2.atI xs (-1) = some (xs.getLast h) := by
  have hl : 0 < xs.length := List.length_pos_iff.mpr h
  unfold L2.atI L2.ixN
  rw [if_neg (by omega)]
  rw [List.getLast_eq_getElem]
  split
  · rename_i h1
    show xs[_]? = _
    rw [List.getElem?_eq_getElem (by omega)]
    congr 2
    omega
  · omega
/-- where some steps end -/
def endF (f : W) (M : List Stp) : W := match M.getLast? with
  | some s => s.2.2
  | none => f
theorem e_simple {N : Str → Prop} {f : W} {most : Nat} {M : List Stp} (hm : most ≤ 100000) (hk : 36 ≤ k) (g : Gd N f) (h : stepsN most f = some M) : callF p ns k i_simple [f.d, .int (most : Nat)] t = .ok (endF f M).d t := by
  obtain ⟨k, rfl⟩ := up1 (show 1 ≤ k by omega)
  have es := e_steps (ns := ns) (t := t) (k := k) hm (by omega) g
  rw [h] at es
  rw [u_simple]
  cases M with
  | nil => simp at es; simp [b_simple, es, endF]
  | cons s r =>
    have hl := at_last (xs := (s :: r).map stepD) (by simp)
    have e2 : ((s :: r).map stepD).getLast (by simp) = stepD ((s :: r).getLast (by simp)) := List.getLast_map ..
    rw [e2] at hl
    have e3 : endF f (s :: r) = ((s :: r).getLast (by simp)).2.2 := by simp [endF, List.getLast?_eq_some_getLast]
    rw [e3]
    generalize (s :: r).getLast (by simp) = z at hl ⊢
    have hne : ((s :: r).map stepD).isEmpty = false := rfl
    change _ = Res.ok (D.tup ((s :: r).map stepD)) t at es
    generalize (s :: r).map stepD = L at es hl hne
    have hz : stepD z = .tup [.str (ruleW z.1), pd z.2.1, z.2.2.d] := rfl
    simp [b_simple, es, hl, hne, hz]
end
end Lw

/-! ### k28: plain facts, renaming, contexts -/
namespace Lw
open PySem Fm
section
variable {ns sc : List Int} {t : Tw} {k n : Nat} {N : Str → Prop}
theorem ne_self {d : D} (h : lay d = true) (hd : dep d ≤ 190) : neOp d d = some (.bl false) := by
  have e : eqD d d = true := PySem.SeqAt.eqv_refl _ h
  have o : okEq d d = true := by
    simp only [okEq, h, Bool.and_eq_true, decide_eq_true_eq, true_and, and_self]
    omega
  rw [neOp, o, if_pos rfl, e]
  rfl
theorem rw_ok (r : Fin 8) : PyData.strOk (ruleW r) = true := by revert r; decide +kernel
theorem lay_step {s : Stp} (h : s.2.2.ok) : lay (stepD s) = true := by
  simp [stepD, lay_tup, rw_ok, lay_pd, layW h]
theorem dep_pd (q : List Int) : dep (pd q) ≤ 1 := dep_tup_le fun x hx => by
  obtain ⟨i, _, rfl⟩ := List.mem_map.mp hx
  rw [dep_int]
  exact Nat.le_refl _
theorem dep_step {s : Stp} (h : s.2.2.h ≤ 30) : dep (stepD s) ≤ 63 := dep_tup_le fun d hd => by
  simp only [List.mem_cons, List.not_mem_nil, or_false] at hd
  rcases hd with rfl | rfl | rfl
  · simp
  · have := dep_pd s.2.1; omega
  · have := depW s.2.2; omega
theorem ne_step {s : Stp} (h : s.2.2.ok) (hh : s.2.2.h ≤ 30) : neOp (stepD s) (stepD s) = some (.bl false) := ne_self (lay_step h) (by have := dep_step hh; omega)
theorem ne_steps {M : List Stp} (h : ∀ s ∈ M, s.2.2.ok ∧ s.2.2.h ≤ 30) : neOp (.tup (M.map stepD)) (.tup (M.map stepD)) = some (.bl false) := ne_self (lay_tup.mpr fun x hx => by
  obtain ⟨s, hs, rfl⟩ := List.mem_map.mp hx
  exact lay_step (h s hs).1) (by
  have := dep_tup_le (xs := M.map stepD) (n := 63) fun x hx => by
    obtain ⟨s, hs, rfl⟩ := List.mem_map.mp hx
    exact dep_step (h s hs).2
  omega)
theorem ne_W {f : W} (h : f.ok) (hh : f.h ≤ 30) : neOp f.d f.d = some (.bl false) := ne_self (layW h) (by have := depW f; omega)
theorem lay_steps {M : List Stp} (h : ∀ s ∈ M, s.2.2.ok ∧ s.2.2.h ≤ 30) : lay (.tup (M.map stepD)) = true := lay_tup.mpr fun x hx => by
  obtain ⟨s, hs, rfl⟩ := List.mem_map.mp hx
  exact lay_step (h s hs).1
/-! ### steps, plain -/
theorem stepsN_mono : ∀ {n m : Nat} {f : W} {M : List Stp}, stepsN n f = some M → n ≤ m → stepsN m f = some M
  | 0, m, f, M, h, _ => by
    cases hn : nextF f with
    | none =>
      simp only [stepsN, hn, Option.some.injEq] at h
      cases m <;> simp [stepsN, hn, h]
    | some s => simp [stepsN, hn] at h
  | n + 1, m, f, M, h, hm => by
    obtain ⟨m, rfl⟩ : ∃ k, m = k + 1 := ⟨m - 1, by omega⟩
    cases hn : nextF f with
    | none =>
      simp only [stepsN, hn, Option.some.injEq] at h ⊢
      exact h
    | some s =>
      simp only [stepsN, hn, Option.map_eq_some_iff] at h ⊢
      obtain ⟨M', h1, h2⟩ := h
      exact ⟨M', stepsN_mono h1 (by omega), h2⟩
theorem stepsN_cons {n : Nat} {f : W} {s : Stp} {M : List Stp} (h : stepsN n f = some (s :: M)) : nextF f = some s ∧ stepsN n s.2.2 = some M := by
  cases n with
  | zero =>
    cases hn : nextF f with
    | none => simp [stepsN, hn] at h
    | some s => simp [stepsN, hn] at h
  | succ n =>
    cases hn : nextF f with
    | none => simp [stepsN, hn] at h
    | some s' =>
      simp only [stepsN, hn, Option.map_eq_some_iff, List.cons.injEq] at h
      obtain ⟨M', h1, rfl, rfl⟩ := h
      exact ⟨rfl, stepsN_mono h1 (by omega)⟩
theorem stepsN_len : ∀ {n : Nat} {f : W} {M : List Stp}, stepsN n f = some M → M.length ≤ n
  | 0, f, M, h => by
    cases hn : nextF f with
    | none => simp only [stepsN, hn, Option.some.injEq] at h; rw [← h]; simp
    | some s => simp [stepsN, hn] at h
  | n + 1, f, M, h => by
    cases hn : nextF f with
    | none => simp only [stepsN, hn, Option.some.injEq] at h; rw [← h]; simp
    | some s =>
      simp only [stepsN, hn, Option.map_eq_some_iff] at h
      obtain ⟨M', h1, rfl⟩ := h
      have := stepsN_len h1
      simp
      omega
theorem stepsN_all {n : Nat} : ∀ {M : List Stp} {f : W}, Gd N f → stepsN n f = some M → ∀ s ∈ M, Gd N s.2.2
  | [], _, _, _, _, h => by cases h
  | s :: M, f, g, h, s', hs => by
    obtain ⟨h1, h2⟩ := stepsN_cons h
    have go := g.next h1
    rcases List.mem_cons.mp hs with rfl | hs
    · exact go
    · exact stepsN_all go h2 s' hs
theorem stepsN_drop {n : Nat} : ∀ {M : List Stp} {f : W} {v : Nat} (_ : Gd N f) (_ : stepsN n f = some M) (hv : v < M.length), stepsN n M[v].2.2 = some (M.drop (v + 1)) ∧ endF M[v].2.2 (M.drop (v + 1)) = endF f M
  | s :: M, f, 0, g, h, _ => by
    obtain ⟨h1, h2⟩ := stepsN_cons h
    refine ⟨h2, ?_⟩
    cases M with
    | nil => simp [endF]
    | cons s' M => simp [endF, List.getLast?_cons]
  | s :: M, f, v + 1, g, h, hv => by
    obtain ⟨h1, h2⟩ := stepsN_cons h
    have hv' : v < M.length := by simpa using hv
    obtain ⟨i1, i2⟩ := stepsN_drop (M := M) (g.next h1) h2 hv'
    refine ⟨by simpa using i1, ?_⟩
    have : endF f (s :: M) = endF s.2.2 M := by
      cases M with
      | nil => simp at hv'
      | cons s' M => simp [endF, List.getLast?_cons]
    rw [this]
    simpa using i2
theorem endF_gd {n : Nat} {M : List Stp} {f : W} (g : Gd N f) (h : stepsN n f = some M) : Gd N (endF f M) := by
  unfold endF
  cases hl : M.getLast? with
  | none => exact g
  | some s => exact stepsN_all g h s (List.mem_of_getLast? hl)
/-! ### other names -/
def rho28 (x : Str) : Str := if x = "x" then "mz" else "pa"
def MP (x : Str) : Prop := x = "mz" ∨ x = "pa"
theorem MP_ok (x : Str) (h : MP x) : okN x := by
  rcases h with rfl | rfl <;> exact ⟨by decide +kernel, by decide +kernel⟩
theorem rho_x : rho28 "x" = "mz" := by decide +kernel
theorem rho_y : rho28 "y" = "pa" := by decide +kernel
theorem ren28 : RenOk XY rho28 := by
  constructor
  · rintro x y (rfl | rfl) (rfl | rfl) h
    · rfl
    · revert h; decide +kernel
    · revert h; decide +kernel
    · rfl
  · rintro x y (rfl | rfl) (rfl | rfl) <;> decide +kernel
theorem ms_ren (T : Wt) (ρ : Str → Str) : ∀ f : W, W.ms T (W.ren ρ f) = W.ms T f := by
  refine W.ind (fun q => rfl) (fun x => rfl) (fun m ps ih => ?_) (fun f e ih => ?_)
  · simp only [W.ren, Ws_ren, ms_many]
    induction ps with
    | nil => rfl
    | cons p ps ih2 => rw [List.map_cons, mF_cons, mF_cons, ih p List.mem_cons_self, ih2 fun f hf => ih f (List.mem_cons_of_mem _ hf)]
  · simp only [W.ren, W.ms, ih]
theorem two_ren : ∀ {f : W}, Two XY f → Two MP (W.ren rho28 f) := by
  intro f
  refine W.ind (φ := fun f => Two XY f → Two MP (W.ren rho28 f)) (fun q h => ?_) (fun x h => ?_) (fun m ps ih h => ?_) (fun f e ih h => ?_) f
  · exact two_num.mpr (two_num.mp h)
  · rcases two_nam.mp h with rfl | rfl
    · exact two_nam.mpr (.inl rho_x)
    · exact two_nam.mpr (.inr rho_y)
  · simp only [W.ren, Ws_ren]
    obtain ⟨h1, h2⟩ := two_many.mp h
    refine two_many.mpr ⟨by simpa using h1, fun g hg => ?_⟩
    obtain ⟨f, hf, rfl⟩ := List.mem_map.mp hg
    exact ih f hf (h2 f hf)
  · exact two_pow.mpr (ih (two_pow.mp h))
theorem hasAdd_ren (ρ : Str → Str) : ∀ f : W, (W.ren ρ f).hasAdd = f.hasAdd := by
  refine W.ind (fun q => rfl) (fun x => rfl) (fun m ps ih => ?_) (fun f e ih => ?_)
  · simp only [W.ren, Ws_ren, W.hasAdd]
    congr 1
    induction ps with
    | nil => rfl
    | cons p ps ih2 => simp only [List.map_cons, Ws.hasAdd]; rw [ih p List.mem_cons_self, ih2 fun f hf => ih f (List.mem_cons_of_mem _ hf)]
  · simp only [W.ren, W.hasAdd, ih]
theorem ps0_ren (ρ : Str → Str) : ∀ f : W, (W.ren ρ f).ps0 = f.ps0 := by
  refine W.ind (fun q => rfl) (fun x => rfl) (fun m ps ih => ?_) (fun f e ih => ?_)
  · simp only [W.ren, Ws_ren, W.ps0]
    congr 2
    induction ps with
    | nil => rfl
    | cons p ps ih2 => simp only [List.map_cons, Ws.ps0]; rw [ih p List.mem_cons_self, ih2 fun f hf => ih f (List.mem_cons_of_mem _ hf)]
  · simp only [W.ren, W.ps0, ih]
theorem psi_ren : ∀ {f : W}, Two XY f → (W.ren rho28 f).psi = f.psi := by
  intro f
  refine W.ind (φ := fun f => Two XY f → (W.ren rho28 f).psi = f.psi) (fun q h => rfl) (fun x h => rfl) (fun m ps ih h => ?_) (fun f e ih h => ?_) f
  · have h1 := hasAdd_ren rho28 (.many m ps)
    have h2 := ps0_ren rho28 (.many m ps)
    have h3 : (W.ren rho28 (.many m ps)).norm = (W.many m ps).norm := by unfold W.norm; rw [ren_first ren28 h]
    have h4 : cntA (ps.map (W.ren rho28)) = cntA ps := by
      unfold cntA
      rw [List.filter_map, List.length_map]
      congr 2
      funext f
      exact hasAdd_ren rho28 f
    have h5 : Ws.psi (ps.map (W.ren rho28)) = Ws.psi ps := by
      have hp := (two_many.mp h).2
      clear h1 h2 h3 h4 h
      induction ps with
      | nil => rfl
      | cons p ps ih2 => simp only [List.map_cons, Ws.psi]; rw [ih p List.mem_cons_self (hp p List.mem_cons_self), ih2 (fun f hf => ih f (List.mem_cons_of_mem _ hf)) fun f hf => hp f (List.mem_cons_of_mem _ hf)]
    simp only [W.ren, Ws_ren] at h1 h2 h3 ⊢
    simp only [W.psi, h1, h2, h3, h4, h5]
  · have h1 := hasAdd_ren rho28 f
    have h2 := ps0_ren rho28 (.pow f e)
    simp only [W.ren] at h2 ⊢
    simp only [W.psi, h1, h2, ih (two_pow.mp h)]
theorem gd_ren {f : W} (g : Gd XY f) : Gd MP (W.ren rho28 f) := by
  refine ⟨MP_ok, ⟨two_ren g.sm.two, ?_, ?_, ?_, ?_⟩, by rw [psi_ren g.sm.two]; exact g.hh⟩
  · rw [ms_ren]; exact g.sm.m1
  · rw [ms_ren]; exact g.sm.m2
  · rw [ms_ren]; exact g.sm.mv
  · rw [ms_ren]; exact g.sm.m6
def renS (s : Stp) : Stp := (s.1, s.2.1, W.ren rho28 s.2.2)
theorem steps_ren : ∀ {n : Nat} {f : W}, Gd XY f → stepsN n (W.ren rho28 f) = (stepsN n f).map (List.map renS)
  | 0, f, g => by
    simp only [stepsN, ren_next ren28 g.sm.two]
    cases nextF f <;> rfl
  | n + 1, f, g => by
    simp only [stepsN, ren_next ren28 g.sm.two]
    cases hn : nextF f with
    | none => rfl
    | some s =>
      obtain ⟨r, q, o⟩ := s
      have ih := steps_ren (n := n) (g.next hn)
      simp only [Option.map_some, ih]
      cases stepsN n o <;> rfl
theorem end_ren (f : W) (M : List Stp) : endF (W.ren rho28 f) (M.map renS) = W.ren rho28 (endF f M) := by
  unfold endF
  rw [List.getLast?_map]
  cases M.getLast? <;> rfl
def nmD : D := .dct [(.inr "x", .str "mz"), (.inr "y", .str "pa")]
theorem nm_x : dixD nmD (.str "x") = some (.str "mz") := by kernel_rfl
theorem nm_y : dixD nmD (.str "y") = some (.str "pa") := by kernel_rfl
theorem e_renamed : ∀ (n : Nat) (f : W), f.h ≤ n → f.h ≤ 60 → ∀ k, f.h + 1 ≤ k → Two XY f → f.ok → callF p ns k i__law_renamed [f.d, nmD] t = .ok (W.ren rho28 f).d t := by
  intro n
  induction n with
  | zero =>
    intro f hf _ k hk ht ho
    obtain ⟨k, rfl⟩ := up1 (show 1 ≤ k by omega)
    rw [u__law_renamed]
    cases f with
    | num q => simp [b__law_renamed, W.d, W.ren]
    | nam x =>
      rcases two_nam.mp ht with rfl | rfl
      · simp [b__law_renamed, W.d, W.ren, nm_x, rho_x, okLen]
      · simp [b__law_renamed, W.d, W.ren, nm_y, rho_y, okLen]
    | many m ps => simp [W.h] at hf
    | pow g e => simp [W.h] at hf
  | succ n ih =>
    intro f hf h60 k hk ht ho
    obtain ⟨k, rfl⟩ := up1 (show 1 ≤ k by omega)
    rw [u__law_renamed]
    cases f with
    | num q => simp [b__law_renamed, W.d, W.ren]
    | nam x =>
      rcases two_nam.mp ht with rfl | rfl
      · simp [b__law_renamed, W.d, W.ren, nm_x, rho_x, okLen]
      · simp [b__law_renamed, W.d, W.ren, nm_y, rho_y, okLen]
    | pow g e =>
      simp only [W.h] at hf hk h60
      have e1 := ih g (by omega) (by omega) k (by omega) (two_pow.mp ht) ho.1
      simp [b__law_renamed, W.d, W.ren, e1, okLen]
    | many m ps =>
      simp only [W.h] at hf hk h60
      have hp := (two_many.mp ht).2
      have e1 : ∀ f ∈ ps, callF p ns k i__law_renamed [f.d, nmD] t = .ok (W.ren rho28 f).d t := fun f hf' => by
        have := Ws_h hf'
        exact ih f (by omega) (by omega) k (by omega) (hp f hf') (Ws_ok.mp ho.2 f hf')
      have hl := ho.1
      have key : ∀ w : Str, ∀ own : List (Str × Nat), own.map (·.2) = [2] → ev (gam p ns k) (csOf cst) (.comp own (.call 34 (.cons (.var 2) (.cons (.var 1) .nil)) .nil) (.name 2) (.val (.ix (.var 0) (.cst (.int 1)))) .none) [.val (.tup [.str w, .tup (ps.map W.d)]), .val nmD, .un] t = .ok (.lst ((ps.map (W.ren rho28)).map W.d)) t := fun w own hown => by
        rw [comp_mp W.d ps (fun f => (W.ren rho28 f).d) (by simp) (by omega) (fun f hf' => by
          rw [hown]
          simp [e1 f hf']), List.map_map]
        rfl
      cases m
      · have k1 := key "add" [("part", 2)] rfl
        simp [b__law_renamed, W.d, W.ren, okLen, k1]
      · have k1 := key "mul" [("part", 2)] rfl
        simp [b__law_renamed, W.d, W.ren, okLen, k1]
/-! ### within another formula -/
def ctx (j : Fin 3) (g : W) : W := match j with
  | 0 => .pow g 2
  | 1 => .many false [g, .nam "z"]
  | 2 => .many true [g, .num 2]
theorem ctx_kids (j : Fin 3) (g : W) : ∃ r, (ctx j g).kids = g :: r := by
  match j with
  | 0 => exact ⟨[], rfl⟩
  | 1 => exact ⟨[.nam "z"], rfl⟩
  | 2 => exact ⟨[.num 2], rfl⟩
theorem ctx_h (j : Fin 3) (g : W) : (ctx j g).h = g.h + 1 := by
  match j with
  | 0 => simp [ctx, W.h]
  | 1 => simp [ctx, W.h, Ws.h]
  | 2 => simp [ctx, W.h, Ws.h]
theorem ctx_set (j : Fin 3) (g o : W) : (ctx j g).set 0 o = ctx j o := by
  match j with
  | 0 => rfl
  | 1 => rfl
  | 2 => rfl
theorem e_next_ctx {g o : W} {r : Fin 8} {q : List Int} (j : Fin 3) (hk : 37 ≤ k) (gg : Gs N g) (h : nextF g = some (r, q, o)) : callF p ns k i_next_step [(ctx j g).d] t = .ok (stepD (r, 0 :: q, ctx j o)) t := by
  obtain ⟨k, rfl⟩ := up1 (show 1 ≤ k by omega)
  have hg := gg.hh
  cases hf : W.first g with
  | none => simp [nextF, hf] at h
  | some q' =>
    obtain ⟨g', x, h1, h2, h3⟩ := next_of_place hf
    rw [h] at h3
    obtain ⟨rfl, rfl, rfl⟩ : r = x.1 ∧ q = q' ∧ o = W.put q' g x.2 := by
      cases h3
      exact ⟨rfl, rfl, rfl⟩
    obtain ⟨rest, hkids⟩ := ctx_kids j g
    have hch := ctx_h j g
    have hk0 : (ctx j g).kid 0 = some g := by simp [W.kid, hkids]
    have hput : W.put (0 :: q) (ctx j g) x.2 = ctx j (W.put q g x.2) := by
      simp only [W.put, hk0]
      exact ctx_set j g _
    have hat : W.at? (0 :: q) (ctx j g) = some g' := by simp only [W.at?, hk0]; exact h1
    have hfp : callF p ns k i_first_place [(ctx j g).d] t = .ok (pd (0 :: q)) t := by
      obtain ⟨k, rfl⟩ := up1 (show 1 ≤ k by omega)
      have e1 := e_parts_of (ns := ns) (t := t) (k := k) (by omega) (ctx j g)
      have e2 := e_first_place (ns := ns) (t := t) (N := N) g k (by omega) gg
      have et := fp_turn (ns := ns) (t := t) (k := k) (f0 := (ctx j g).d) (i := 0) (c3 := .un) e2 (by omega)
      rw [hf] at et
      rw [hkids] at e1
      have el : loopF (lp ns k (.tup (.cons (.name 1) (.cons (.name 2) .nil))) b_first_place_1) (enumD 0 ((g :: rest).map W.d)) [.val (ctx j g).d, .un, .un, .un] t = .ok (.ret (pd (0 :: q)), [.val (ctx j g).d, .val (.int (0 : Nat)), .val g.d, .val (pd q)]) t := by
        rw [List.map_cons, enumD, loopF, lp_eq (r1 := [.val (ctx j g).d, .val (.int (0 : Nat)), .val g.d, .un]) rfl, et]
        rfl
      rw [u_first_place]
      generalize (g :: rest).map W.d = L at e1 el
      simp [b_first_place, e1, el]
    have := ns_tail (ns := ns) (t := t) (k := k) (f := ctx j g) (by omega) hfp hat (gg.at h1).rule h2
    rw [hput] at this
    exact this
end
end Lw

namespace Lw
open PySem Fm
section
variable {ns : List Int} {t : Tw}
abbrev R28 (ns : List Int) (b2 b3 b4 b5 b6 b7 b8 b9 b10 b11 b12 b13 : Sl) : Rho := [.val (.scr ns), .val .tok, b2, b3, b4, b5, b6, b7, b8, b9, b10, b11, b12, b13]
theorem told_ne : neOp (.str "told") (.str "told") = some (.bl false) := by kernel_rfl
theorem spent_ne : neOp (.str (hWord 6)) (.str "told") = some (.bl true) := by kernel_rfl
theorem spent_eq : eqOp (.tup [.str (hWord 6)]) (.tup [.str "spent"]) = some (.bl true) := by kernel_rfl
theorem w_turn {g : W} {s : Stp} {b2 b3 b4 b5 b6 b7 b11 b13 : Sl} (j : Fin 3) (gg : Gs XY g) (h : nextF g = some s) (go : Gs XY s.2.2) : ∃ a13, evSs (gam p ns 100) (csOf cst) b_law_1 (R28 ns b2 b3 b4 b5 b6 b7 (.val (.str (ruleW s.1))) (.val (pd s.2.1)) (.val s.2.2.d) b11 (.val (ctx j g).d) b13) t = .ok (.nx, R28 ns b2 b3 b4 b5 b6 b7 (.val (.str (ruleW s.1))) (.val (pd s.2.1)) (.val s.2.2.d) b11 (.val (ctx j s.2.2).d) a13) t := by
  obtain ⟨r, q, o⟩ := s
  have en := e_next_ctx (ns := ns) (t := t) (k := 100) j (by omega) gg h
  have hl : 1 + q.length ≤ 16777216 := by
    cases hf : W.first g with
    | none => simp [nextF, hf] at h
    | some q' =>
      obtain ⟨g', x, _, _, h3⟩ := next_of_place hf
      rw [h] at h3
      cases h3
      have := first_len hf
      have := gg.hh
      omega
  have hne : neOp (.tup [.str (ruleW r), .tup (.int 0 :: q.map D.int)]) (.tup [.str (ruleW r), .tup (.int 0 :: q.map D.int)]) = some (.bl false) := by
    have e : D.tup (.int 0 :: q.map D.int) = pd (0 :: q) := rfl
    rw [e]
    refine ne_self (by simp [lay_tup, rw_ok, lay_pd]) ?_
    have := dep_tup_le (xs := [.str (ruleW r), pd (0 :: q)]) (n := 1) fun d hd => by
      simp only [List.mem_cons, List.not_mem_nil, or_false] at hd
      rcases hd with rfl | rfl
      · simp
      · exact dep_pd _
    omega
  have hc := cut_to [D.str (ruleW r), .tup (.int 0 :: q.map D.int), (ctx j o).d] 2
  have hc : cutL [D.str (ruleW r), .tup (.int 0 :: q.map D.int), (ctx j o).d] none (some 2) = [.str (ruleW r), .tup (.int 0 :: q.map D.int)] := hc
  refine ⟨.val (stepD (r, 0 :: q, ctx j o)), ?_⟩
  have hs : stepD (r, 0 :: q, ctx j o) = .tup [.str (ruleW r), .tup (.int 0 :: q.map D.int), (ctx j o).d] := rfl
  rw [hs] at en ⊢
  simp [b_law_1, en, hc, okLen, hl, hne]
theorem w_loop {b2 b3 b4 b5 b6 b7 b11 : Sl} (j : Fin 3) {n : Nat} : ∀ (M : List Stp) (g : W) (b8 b9 b10 b13 : Sl), Gd XY g → stepsN n g = some M → ∃ r', loopF (lp ns 100 (.tup (.cons (.name 8) (.cons (.name 9) (.cons (.name 10) .nil)))) b_law_1) (M.map stepD) (R28 ns b2 b3 b4 b5 b6 b7 b8 b9 b10 b11 (.val (ctx j g).d) b13) t = .ok (.nx, r') t := by
  intro M
  induction M with
  | nil => intro g b8 b9 b10 b13 _ _; exact ⟨_, rfl⟩
  | cons s M ih =>
    intro g b8 b9 b10 b13 gg h
    obtain ⟨h1, h2⟩ := stepsN_cons h
    have go := gg.next h1
    obtain ⟨a13, e⟩ := w_turn (ns := ns) (t := t) (b2 := b2) (b3 := b3) (b4 := b4) (b5 := b5) (b6 := b6) (b7 := b7) (b11 := b11) (b13 := b13) j gg.gs h1 go.gs
    obtain ⟨r', e2⟩ := ih s.2.2 (.val (.str (ruleW s.1))) (.val (pd s.2.1)) (.val s.2.2.d) a13 go h2
    refine ⟨r', ?_⟩
    rw [List.map_cons, loopF, lp_eq (r1 := R28 ns b2 b3 b4 b5 b6 b7 (.val (.str (ruleW s.1))) (.val (pd s.2.1)) (.val s.2.2.d) b11 (.val (ctx j g).d) b13) rfl, e, Res.bind_ok]
    exact e2
/-- from rows on, behind the first looks -/
theorem tail_ev {f : W} {M : List Stp} {b3 : Sl} (g : Gd XY f) (h : stepsN 120 f = some M) (hr : rm 5 t) : ∃ r' t', evSs (gam p ns 100) (csOf cst) (tl1 (tl1 (tl1 (tl1 (tl1 b_law))))) (R28 ns (.val f.d) b3 (.val (.tup (M.map stepD))) .un .un .un .un .un .un .un .un .un) t = .ok (.ret (.bl true), r') t' := by
  have gr := gd_ren g
  have h2 := stepsN_mono (m := 2000) h (by omega)
  have hs2 : stepsN 2000 (W.ren rho28 f) = some (M.map renS) := by rw [steps_ren g, h2]; rfl
  have hall := stepsN_all g h
  have hallr := stepsN_all gr hs2
  have ge := endF_gd g h
  have e6 := e_renamed (ns := ns) (t := t) 20 f g.h (by have := g.h; omega) 100 (by have := g.h; omega) g.sm.two g.gs.ok
  have hl := stepsN_len h
  have e7 : ∀ own : List (Str × Nat), own.map (·.2) = [8, 9, 10] → ev (gam p ns 100) (csOf cst) (.comp own (.tup (.cons (.var 8) (.cons (.var 9) (.cons (.call 34 (.cons (.var 10) (.cons (.var 5) .nil)) .nil) .nil)))) (.tup (.cons (.name 8) (.cons (.name 9) (.cons (.name 10) .nil)))) (.val (.var 4)) .none) (R28 ns (.val f.d) b3 (.val (.tup (M.map stepD))) (.val nmD) (.val (W.ren rho28 f).d) .un .un .un .un .un .un .un) t = .ok (.lst ((M.map renS).map stepD)) t := fun own ho => by
    rw [comp_mp stepD M (fun s => stepD (renS s)) (by simp) (by omega) (fun s hs => by
      have gs := hall s hs
      have es := e_renamed (ns := ns) (t := t) 20 s.2.2 gs.h (by have := gs.h; omega) 100 (by have := gs.h; omega) gs.sm.two gs.gs.ok
      rw [ho]
      simp [stepD, renS, es, okLen]), List.map_map]
    rfl
  have e8 := e_steps (ns := ns) (t := t) (k := 100) (most := 2000) (by omega) (by omega) gr
  rw [hs2] at e8
  change _ = Res.ok (D.tup ((M.map renS).map stepD)) t at e8
  have e9 := e_simple (ns := ns) (t := t) (k := 100) (most := 2000) (by omega) (by omega) gr hs2
  rw [end_ren] at e9
  have e10 := e_simple (ns := ns) (t := t) (k := 100) (most := 2000) (by omega) (by omega) g h2
  have e11 := e_renamed (ns := ns) (t := t) 20 (endF f M) ge.h (by have := ge.h; omega) 100 (by have := ge.h; omega) ge.sm.two ge.gs.ok
  have n8 := ne_steps (M := M.map renS) fun s hs => ⟨(hallr s hs).gs.ok, by have := (hallr s hs).h; omega⟩
  have gre := gd_ren ge
  have n9 := ne_W gre.gs.ok (by have := gre.h; omega)
  obtain ⟨v, t1, ed, v1, v2, h3⟩ := e_draw (ns := ns) (sc := ns) (k := 100) (n := 4) (t := t) (by omega) 3 (by omega) (by omega) hr
  obtain ⟨j, hj⟩ : ∃ j : Fin 3, L2.atI [(ctx 0 f).d, (ctx 1 f).d, (ctx 2 f).d] v = some (ctx j f).d := by
    have : v = 0 ∨ v = 1 ∨ v = 2 := by omega
    rcases this with rfl | rfl | rfl
    · exact ⟨0, by simp⟩
    · exact ⟨1, by simp⟩
    · exact ⟨2, by simp⟩
  have hnm : ∀ r : Rho, ev (gam p ns 100) (csOf cst) (.dsp [("x", .str "mz"), ("y", .str "pa")]) r t = .ok nmD t := fun r => by
    rw [x_ev_dsp]
    rfl
  have hc0 : (ctx 0 f).d = .tup [.str "pow", f.d, .int 2] := by simp [ctx, W.d]
  have hc1 : (ctx 1 f).d = .tup [.str "add", .tup [f.d, .tup [.str "name", .str "z"]]] := by simp [ctx, W.d]
  have hc2 : (ctx 2 f).d = .tup [.str "mul", .tup [f.d, .tup [.str "num", .tup [.int 2, .int 1]]]] := by simp [ctx, W.d]; rfl
  have e7' := e7 [("rule", 8), ("path", 9), ("fresh", 10)] rfl
  obtain ⟨r', el⟩ := w_loop (ns := ns) (t := t1) (b2 := .val f.d) (b3 := b3) (b4 := .val (.tup (M.map stepD))) (b5 := .val nmD) (b6 := .val (W.ren rho28 f).d) (b7 := .val (.tup ((M.map renS).map stepD))) (b11 := .val (.lst [(ctx 0 f).d, (ctx 1 f).d, (ctx 2 f).d])) j M f .un .un .un .un g h
  refine ⟨r', t1, ?_⟩
  generalize (M.map renS).map stepD = Lr at *
  generalize M.map stepD = Lm at *
  simp only [b_law, tl1]
  rw [seq_nx (r1 := R28 ns (.val f.d) b3 (.val (.tup Lm)) (.val nmD) .un .un .un .un .un .un .un .un) (t1 := t) (by rw [evS_asg]; simp only [hnm]; simp)]
  rw [seq_nx (r1 := R28 ns (.val f.d) b3 (.val (.tup Lm)) (.val nmD) (.val (W.ren rho28 f).d) .un .un .un .un .un .un .un) (t1 := t) (by simp [e6])]
  rw [seq_nx (r1 := R28 ns (.val f.d) b3 (.val (.tup Lm)) (.val nmD) (.val (W.ren rho28 f).d) (.val (.tup Lr)) .un .un .un .un .un .un) (t1 := t) (by simp [e7'])]
  rw [seq_nx (r1 := R28 ns (.val f.d) b3 (.val (.tup Lm)) (.val nmD) (.val (W.ren rho28 f).d) (.val (.tup Lr)) .un .un .un .un .un .un) (t1 := t) (by
    simp at e8 e9 e10
    simp [e8, n8, e9, e10, e11, n9])]
  rw [seq_nx (r1 := R28 ns (.val f.d) b3 (.val (.tup Lm)) (.val nmD) (.val (W.ren rho28 f).d) (.val (.tup Lr)) .un .un .un (.val (.lst [(ctx 0 f).d, (ctx 1 f).d, (ctx 2 f).d])) .un .un) (t1 := t) (by simp [okLen, hc0, hc1, hc2])]
  rw [seq_nx (r1 := R28 ns (.val f.d) b3 (.val (.tup Lm)) (.val nmD) (.val (W.ren rho28 f).d) (.val (.tup Lr)) .un .un .un (.val (.lst [(ctx 0 f).d, (ctx 1 f).d, (ctx 2 f).d])) (.val (ctx j f).d) .un) (t1 := t1) (by simp [ed, hj])]
  rw [seq_nx (r1 := r') (t1 := t1) (by
    rw [y_for]
    rw [show evI (gam p ns 100) (csOf cst) (.val (.var 4)) (R28 ns (.val f.d) b3 (.val (.tup Lm)) (.val nmD) (.val (W.ren rho28 f).d) (.val (.tup Lr)) .un .un .un (.val (.lst [(ctx 0 f).d, (ctx 1 f).d, (ctx 2 f).d])) (.val (ctx j f).d) .un) t1 = .ok Lm t1 by simp]
    exact el)]
  simp
theorem rows_ev {f : W} {M : List Stp} {b3 : Sl} (g : Gd XY f) (h : stepsN 120 f = some M) (hr : rm 6 t) : ∃ t', rm 5 t' ∧ evSs (gam p ns 100) (csOf cst) (tl1 (tl1 (tl1 (tl1 b_law)))) (R28 ns (.val f.d) b3 (.val (.tup (M.map stepD))) .un .un .un .un .un .un .un .un .un) t = evSs (gam p ns 100) (csOf cst) (tl1 (tl1 (tl1 (tl1 (tl1 b_law))))) (R28 ns (.val f.d) b3 (.val (.tup (M.map stepD))) .un .un .un .un .un .un .un .un .un) t' := by
  have hall := stepsN_all g h
  have hlay : ∀ s ∈ M, s.2.2.ok ∧ s.2.2.h ≤ 30 := fun s hs => ⟨(hall s hs).gs.ok, by have := (hall s hs).h; omega⟩
  have n0 := x_ne0 (lay_steps hlay)
  cases M with
  | nil =>
    refine ⟨t, hr.le (by omega), ?_⟩
    simp at n0
    have hb : tl1 (tl1 (tl1 (tl1 b_law))) = .cons (match tl1 (tl1 (tl1 (tl1 b_law))) with | .cons s _ => s | .nil => .brk) (tl1 (tl1 (tl1 (tl1 (tl1 b_law))))) := rfl
    rw [hb]
    rw [seq_nx (r1 := R28 ns (.val f.d) b3 (.val (.tup (([] : List Stp).map stepD))) .un .un .un .un .un .un .un .un .un) (t1 := t) (by simp [b_law, tl1, n0, okLen])]
    rfl
  | cons s M =>
    obtain ⟨h1, h2⟩ := stepsN_cons h
    have gs := g.next h1
    have hl := stepsN_len h
    have e1 := e_next_step (ns := ns) (t := t) (k := 100) f (by have := g.h; omega) g.gs
    rw [h1] at e1
    change _ = Res.ok (stepD s) t at e1
    have e2 := e_steps (ns := ns) (t := t) (k := 100) (most := 2000) (by omega) (by omega) gs
    rw [stepsN_mono h2 (by omega)] at e2
    change _ = Res.ok (D.tup (M.map stepD)) t at e2
    have n1 := ne_step (hlay s List.mem_cons_self).1 (hlay s List.mem_cons_self).2
    have n2 := ne_steps (M := M) fun s' hs => hlay s' (List.mem_cons_of_mem _ hs)
    obtain ⟨v, t1, ed, v1, v2, h3⟩ := e_draw (ns := ns) (sc := ns) (k := 100) (n := 5) (t := t) (by omega) ((s :: M).length : Int) (by rw [List.length_cons]; omega) (by omega) hr
    obtain ⟨vn, rfl⟩ := Int.eq_ofNat_of_zero_le v1
    have hv : vn < (s :: M).length := by omega
    obtain ⟨d1, d2⟩ := stepsN_drop g h hv
    have gv := hall _ (List.getElem_mem hv)
    have e3 := e_simple (ns := ns) (t := t1) (k := 100) (most := 2000) (by omega) (by omega) gv (stepsN_mono d1 (by omega))
    have e4 := e_simple (ns := ns) (t := t1) (k := 100) (most := 2000) (by omega) (by omega) g (stepsN_mono h (by omega))
    rw [d2] at e3
    have ge := endF_gd g h
    have n3 := ne_W ge.gs.ok (by have := ge.h; omega)
    have hat : ixD (.tup ((s :: M).map stepD)) (.int (vn : Int)) = some (stepD (s :: M)[vn]) := by
      show L2.atI _ _ = _
      rw [atN (by rw [List.length_map]; exact hv), List.getElem_map]
    have hz : ∀ z : Stp, ixD (stepD z) (.int 2) = some z.2.2.d := fun z => by simp [stepD]
    have hc := cut1 (stepD s) (M.map stepD)
    have hlen : (((s :: M).map stepD).length : Int) = ((s :: M).length : Int) := by simp
    refine ⟨t1, h3, ?_⟩
    have hb : tl1 (tl1 (tl1 (tl1 b_law))) = .cons (match tl1 (tl1 (tl1 (tl1 b_law))) with | .cons s _ => s | .nil => .brk) (tl1 (tl1 (tl1 (tl1 (tl1 b_law))))) := rfl
    rw [hb]
    have hm0 : ixD (.tup ((s :: M).map stepD)) (.int 0) = some (stepD s) := by simp
    have hcc : cutL ((s :: M).map stepD) (some 1) none = M.map stepD := hc
    generalize (s :: M)[vn] = z at *
    have he : ((s :: M).map stepD).isEmpty = false := rfl
    rw [he] at n0
    generalize (s :: M).map stepD = L at *
    generalize hq : (s :: M).length = nl at *
    generalize M.map stepD = L2' at *
    rw [seq_nx (r1 := R28 ns (.val f.d) b3 (.val (.tup L)) .un .un .un .un .un .un .un .un .un) (t1 := t1) (by
      simp at e2 e3 e4 n0
      simp [b_law, tl1, n0, okLen, e1, hm0, n1, hz, e2, hcc, n2, hlen, ed, hat, e3, e4, n3, -x_ixt])]
    rfl
theorem hev (ns : List Int) : ∃ r t, evSs (gam p ns 100) (csOf cst) b_law (startL n_law ns) ⟨0, []⟩ = .ok (.ret (.bl true), r) t := by
  have h0 : rm (6 + B 3) ⟨0, []⟩ := ⟨⟨Int.le_refl _, Nat.le_refl _⟩, by decide⟩
  obtain ⟨d1, t1, e1, ⟨f, rfl, hf⟩, h1⟩ := e_formula zw_ok (ns := ns) (sc := ns) 3 100 6 ⟨0, []⟩ (by omega) h0
  have e1 : callF p ns 100 i__law_a_formula [.scr ns, .tok, .int 3, .lst [.str "add", .str "mul", .str "pow"]] ⟨0, []⟩ = .ok f.d t1 := e1
  have g := dr_gd hf
  have es := e_steps (ns := ns) (t := t1) (k := 98) (most := 120) (by omega) (by omega) g
  have hs : startL n_law ns = R28 ns .un .un .un .un .un .un .un .un .un .un .un .un := rfl
  rw [hs]
  have hb : b_law = .cons (match b_law with | .cons s _ => s | .nil => .brk) (.cons (match tl1 b_law with | .cons s _ => s | .nil => .brk) (.cons (match tl1 (tl1 b_law) with | .cons s _ => s | .nil => .brk) (.cons (match tl1 (tl1 (tl1 b_law)) with | .cons s _ => s | .nil => .brk) (tl1 (tl1 (tl1 (tl1 b_law))))))) := rfl
  rw [hb]
  rw [seq_nx (r1 := R28 ns (.val f.d) .un .un .un .un .un .un .un .un .un .un .un) (t1 := t1) (by simp [b_law, e1, okLen])]
  cases hst : stepsN 120 f with
  | none =>
    rw [hst] at es
    change _ = Res.exc 6 t1 at es
    have hr : heardR (.exc 6 t1) = .ok (.tup [.str (hWord 6)]) t1 := rfl
    rw [seq_nx (r1 := R28 ns (.val f.d) (.val (.tup [.str (hWord 6)])) .un .un .un .un .un .un .un .un .un .un) (t1 := t1) (by
      simp at es
      simp [b_law, tl1, valsR, es, hr])]
    refine ⟨R28 ns (.val f.d) (.val (.tup [.str (hWord 6)])) .un .un .un .un .un .un .un .un .un .un, t1, ?_⟩
    rw [seq_ret (r1 := R28 ns (.val f.d) (.val (.tup [.str (hWord 6)])) .un .un .un .un .un .un .un .un .un .un) (t1 := t1) (d := .bl true) (by simp [b_law, tl1, spent_ne, spent_eq, okLen])]
  | some M =>
    rw [hst] at es
    change _ = Res.ok (D.tup (M.map stepD)) t1 at es
    have hr : heardR (.ok (D.tup (M.map stepD)) t1) = .ok (.tup [.str "told", .tup (M.map stepD)]) t1 := rfl
    obtain ⟨t2, h2, er⟩ := rows_ev (ns := ns) (t := t1) (b3 := .val (.tup [.str "told", .tup (M.map stepD)])) g hst h1
    obtain ⟨r', t', et⟩ := tail_ev (ns := ns) (t := t2) (b3 := .val (.tup [.str "told", .tup (M.map stepD)])) g hst h2
    refine ⟨r', t', ?_⟩
    generalize M.map stepD = L at *
    rw [seq_nx (r1 := R28 ns (.val f.d) (.val (.tup [.str "told", .tup L])) .un .un .un .un .un .un .un .un .un .un) (t1 := t1) (by
      simp at es
      simp [b_law, tl1, valsR, es, hr])]
    rw [seq_nx (r1 := R28 ns (.val f.d) (.val (.tup [.str "told", .tup L])) .un .un .un .un .un .un .un .un .un .un) (t1 := t1) (by simp [b_law, tl1, told_ne])]
    rw [seq_nx (r1 := R28 ns (.val f.d) (.val (.tup [.str "told", .tup L])) (.val (.tup L)) .un .un .un .un .un .un .un .un .un) (t1 := t1) (by simp [b_law, tl1])]
    rw [er, et]
end
end Lw
theorem PySem.Challenge.cw_formclear_k28_whole_one_step_more_holds : PySem.Challenge.rw_formclear_k28_whole_one_step_more.Holds := by
  exact Lw.fin 100 (by omega) (by omega) (fun ns _ _ => Lw.hev ns)

