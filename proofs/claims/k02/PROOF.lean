import PyProof.Rows.All
import Wide.All
import OpenK.AllK
import Wide.FinOn
import KE.KStateDown
import HandS.ForMost
import HandS.ForExc
import HandS.Walk
import HandS.Defaults
import HandS.IsInst
import HandS.HeadEnd
import HandS.HeadHook2
import HandS.Head2
import HandS.Zip
import HandS.Flow
import HandS.TupAny
import HandS.Style
import HandS.Wide
import HandS.Deep
import HandS.SortInts
import HandS.More
import HandS.MakeKwOnly
import KE.KDictZip
import PyProof.Draws
import KE.KUnpackStar
import PySem.Challenge.RW_formclear_k02_no_surds
set_option Elab.async false
set_option linter.all false
set_option maxRecDepth 100000
set_option maxHeartbeats 16000000
/-! ### plain data, the syntax Core, its evaluator -/
namespace Fm
open PySem
abbrev Key := L2.Key
/-- plain data; tok: the town of the law's draws; scr: the law's script -/
inductive D where
  | non
  | bl (b : Bool)
  | int (i : Int)
  | str (x : Str)
  | tup (xs : List D)
  | lst (xs : List D)
  | dct (kvs : List (Key × D))
  | tok
  | scr (ns : List Int)
instance : Inhabited D := ⟨.non⟩
mutual
def D.py : D → PyData
  | .non => .none
  | .bl b => .bool b
  | .int i => .int i
  | .str x => .str x
  | .tup xs => .tuple (pys xs)
  | .lst xs => .list (pys xs)
  | .dct _ => .dict []
  | .tok => .dict []
  | .scr _ => .dict []
def pys : List D → List PyData
  | [] => []
  | x :: xs => x.py :: pys xs
end
def eqD (a b : D) : Bool := PyData.eqv a.py b.py
def lay (a : D) : Bool := PyData.canLay0 a.py
def dep (a : D) : Nat := PyData.depth a.py
/-- the town: how many draws, the rests of great cells -/
structure Tw where
  count : Int
  rests : List (Int × Int)
/-- the rest at a place -/
def lkT (r : List (Int × Int)) (k : Int) : Option Int := (r.find? fun p => decide (p.1 = k)).map (·.2)
def putT (r : List (Int × Int)) (k v : Int) : List (Int × Int) :=
  if r.any (fun p => decide (p.1 = k)) then r.map (fun p => if p.1 = k then (p.1, v) else p) else r ++ [(k, v)]
inductive Res (α : Type) where
  | ok (a : α) (t : Tw)
  | exc (n : Nat) (t : Tw)
  | bad
def Res.bind {α β : Type} : Res α → (α → Tw → Res β) → Res β
  | .ok a t, f => f a t
  | .exc n t, _ => .exc n t
  | .bad, _ => .bad
@[simp] theorem Res.bind_ok {α β : Type} (a : α) (t : Tw) (f : α → Tw → Res β) : (Res.ok a t).bind f = f a t := rfl
@[simp] theorem Res.bind_exc {α β : Type} (n : Nat) (t : Tw) (f : α → Tw → Res β) : (Res.exc n t : Res α).bind f = .exc n t := rfl
@[simp] theorem Res.bind_bad {α β : Type} (f : α → Tw → Res β) : (Res.bad : Res α).bind f = .bad := rfl
def lift {α : Type} (o : Option α) (t : Tw) : Res α := match o with
  | some a => .ok a t
  | none => .bad
@[simp] theorem lift_some {α : Type} (a : α) (t : Tw) : lift (some a) t = .ok a t := rfl
@[simp] theorem lift_none {α : Type} (t : Tw) : lift (none : Option α) t = .bad := rfl
/-! ### the operations upon data -/
def okMul (i j : Int) : Bool := decide (i.natAbs.log2 + j.natAbs.log2 < 1000000)
def okDiv (j : Int) : Bool := decide (j ≠ 0) && decide (j.natAbs.log2 < 9000)
def okPow (i j : Int) : Bool := decide (0 ≤ j) && decide (j ≤ 1000000) && decide (i.natAbs < 2 ^ 64)
def okLen (n : Nat) : Bool := decide (n ≤ 16777216)
def addD : D → D → Option D
  | .int i, .int j => some (.int (i + j))
  | .str x, .str y => if okLen (x.length + y.length) then some (.str (x ++ y)) else none
  | .tup xs, .tup ys => if okLen (xs.length + ys.length) then some (.tup (xs ++ ys)) else none
  | _, _ => none
def catD : D → D → Option D
  | .lst xs, .lst ys => if okLen (xs.length + ys.length) then some (.lst (xs ++ ys)) else none
  | _, _ => none
def subD : D → D → Option D
  | .int i, .int j => some (.int (i - j))
  | _, _ => none
def mulD : D → D → Option D
  | .int i, .int j => if okMul i j then some (.int (i * j)) else none
  | _, _ => none
def fdivD : D → D → Option D
  | .int i, .int j => if okDiv j then some (.int (i.fdiv j)) else none
  | _, _ => none
def modD : D → D → Option D
  | .int i, .int j => if j = 0 then none else some (.int (i.fmod j))
  | _, _ => none
def powD : D → D → Option D
  | .int i, .int j => if okPow i j then some (.int (i ^ j.toNat)) else none
  | _, _ => none
def shlD : D → D → Option D
  | .int i, .int j => if okPow i j then some (.int (i * 2 ^ j.toNat)) else none
  | _, _ => none
def negD : D → Option D
  | .int i => some (.int (-i))
  | _ => none
def truD : D → Option Bool
  | .non => some false
  | .bl b => some b
  | .int i => some (i != 0)
  | .str x => if okLen x.length then some ((x.length : Int) != 0) else none
  | .tup xs => some (!xs.isEmpty)
  | .lst xs => some (!xs.isEmpty)
  | .dct kvs => some (!kvs.isEmpty)
  | .scr ns => some (!ns.isEmpty)
  | _ => none
def notD (a : D) : Option D := (truD a).map fun b => .bl (!b)
def okEq (a b : D) : Bool := lay a && lay b && decide (min (dep a) (dep b) ≤ 190)
def eqOp (a b : D) : Option D := if okEq a b then some (.bl (eqD a b)) else none
def neOp (a b : D) : Option D := if okEq a b then some (.bl (!eqD a b)) else none
def ltOp : D → D → Option D
  | .int i, .int j => some (.bl (decide (i < j)))
  | .str x, .str y => some (.bl (decide (x.cps.toList < y.cps.toList)))
  | _, _ => none
def leOp : D → D → Option D
  | .int i, .int j => some (.bl (decide (i ≤ j)))
  | _, _ => none
def gtOp : D → D → Option D
  | .int i, .int j => some (.bl (decide (j < i)))
  | _, _ => none
def geOp : D → D → Option D
  | .int i, .int j => some (.bl (decide (j ≤ i)))
  | _, _ => none
/-- x in y: a sequence of data, or one sign in a text -/
def inB : D → D → Option Bool
  | a, .tup xs => if lay a && (xs.all lay) && decide (dep a ≤ 190) then some (xs.any fun z => eqD z a) else none
  | a, .lst xs => if lay a && (xs.all lay) && decide (dep a ≤ 190) then some (xs.any fun z => eqD z a) else none
  | .str x, .str y => if decide (x.cps.size = 1) then some (decide (x.cps.getD 0 0 ∈ y.cps.toList)) else none
  | _, _ => none
def isN (a : D) : Bool := match a with
  | .non => true
  | _ => false
def cmpD : CmpOp → D → D → Option D
  | .Eq, a, b => eqOp a b
  | .NotEq, a, b => neOp a b
  | .Lt, a, b => ltOp a b
  | .LtE, a, b => leOp a b
  | .Gt, a, b => gtOp a b
  | .GtE, a, b => geOp a b
  | .Is, a, .non => some (.bl (isN a))
  | .IsNot, a, .non => some (.bl (!isN a))
  | .In, a, b => (inB a b).map .bl
  | .NotIn, a, b => (inB a b).map fun r => .bl (!r)
  | _, _, _ => none
def keyD : D → Option Key
  | .int i => some (.inl i)
  | .str x => some (.inr x)
  | _ => none
def lookD (kvs : List (Key × D)) (k : Key) : Option D := (kvs.find? fun kv => decide (kv.1 = k)).map (·.2)
def putD (kvs : List (Key × D)) (k : Key) (d : D) : List (Key × D) :=
  if kvs.any (fun kv => decide (kv.1 = k)) then kvs.map (fun kv => if kv.1 = k then (kv.1, d) else kv) else kvs ++ [(k, d)]
def mergeD (kvs : List (Key × D)) : List (Str × D) → List (Key × D)
  | [] => kvs
  | p :: r => mergeD (putD kvs (.inr p.1) p.2) r
def ixD : D → D → Option D
  | .scr ns, .int i => (L2.atI ns i).map D.int
  | .tup xs, .int i => L2.atI xs i
  | .lst xs, .int i => L2.atI xs i
  | .str x, .int i => if okLen x.length then (L2.atI x.cps.toList i).map fun c => .str ⟨#[c]⟩ else none
  | _, _ => none
def dixD : D → D → Option D
  | .dct kvs, k => (keyD k).bind fun k => lookD kvs k
  | _, _ => none
def cutL {α : Type} (xs : List α) (lo hi : Option Int) : List α := (xs.drop (HT.sIx xs.length 0 lo)).take (HT.sIx xs.length xs.length hi - HT.sIx xs.length 0 lo)
def optI : Option D → Option (Option Int)
  | none => some none
  | some (.int i) => some (some i)
  | _ => none
def cutD (a : D) (l h : Option Int) : Option D := match a with
  | .tup xs => some (.tup (cutL xs l h))
  | .lst xs => some (.lst (cutL xs l h))
  | _ => none
def revD : D → Option D
  | .tup xs => some (.tup xs.reverse)
  | .lst xs => some (.lst xs.reverse)
  | _ => none
def lenD : D → Option D
  | .tup xs => some (.int xs.length)
  | .lst xs => some (.int xs.length)
  | .str x => if okLen x.length then some (.int x.length) else none
  | .dct kvs => some (.int kvs.length)
  | .scr ns => some (.int ns.length)
  | _ => none
def tyD : D → Option String
  | .non => some "NoneType"
  | .bl _ => some "bool"
  | .int _ => some "int"
  | .str _ => some "str"
  | .tup _ => some "tuple"
  | .lst _ => some "list"
  | .dct _ => some "dict"
  | .tok => none
  | .scr _ => none
/-- the classes that are asked -/
inductive Ty where
  | int | bool | str | tuple | list
def Ty.name : Ty → String
  | .int => "int"
  | .bool => "bool"
  | .str => "str"
  | .tuple => "tuple"
  | .list => "list"
def isaD (a : D) (T : Ty) : Option Bool := match a, T with
  | .tok, _ => none
  | .scr _, _ => none
  | .bl _, .bool => some true
  | .bl _, .int => some true
  | .int _, .int => some true
  | .str _, .str => some true
  | .tup _, .tuple => some true
  | .lst _, .list => some true
  | _, _ => some false
/-- built-in functions of one or two values -/
inductive Blt where
  | len | abs | all | any | sum | tuple | list | sorted | int
def bls : List D → Option (List Bool)
  | [] => some []
  | .bl b :: r => (bls r).map (b :: ·)
  | _ :: _ => none
def intsD : List D → Option (List Int)
  | [] => some []
  | .int i :: r => (intsD r).map (i :: ·)
  | _ :: _ => none
/-- intsD in order -/
def insI (x : Int) : List Int → List Int
  | [] => [x]
  | y :: r => if x ≤ y then x :: y :: r else y :: insI x r
def srtI : List Int → List Int
  | [] => []
  | x :: r => insI x (srtI r)
def keysI : List (Key × D) → Option (List Int)
  | [] => some []
  | (.inl i, _) :: r => (keysI r).map (i :: ·)
  | _ :: _ => none
def blt1 : Blt → D → Option D
  | .len, a => lenD a
  | .abs, .int i => some (.int (if i < 0 then -i else i))
  | .all, .lst xs => (bls xs).map fun bs => .bl (bs.all id)
  | .any, .lst xs => (bls xs).map fun bs => .bl (bs.any id)
  | .sum, .lst xs => (intsD xs).map fun ns => .int ns.sum
  | .tuple, .lst xs => some (.tup xs)
  | .tuple, .tup xs => some (.tup xs)
  | .list, .lst xs => some (.lst xs)
  | .list, .tup xs => some (.lst xs)
  | .sorted, .lst xs => (intsD xs).map fun ns => .lst ((srtI ns).map D.int)
  | .sorted, .dct kvs => (keysI kvs).bind fun ns => if decide (ns.length < 64) then some (.lst ((srtI ns).map D.int)) else none
  | _, _ => none
/-! ### the syntax -/
inductive Cst where
  | non | bl (b : Bool) | int (i : Int) | str (x : Str)
def Cst.d : Cst → D
  | .non => .non
  | .bl b => .bl b
  | .int i => .int i
  | .str x => .str x
mutual
inductive E where
  | cst (c : Cst)
  | var (i : Nat)
  | bor (i : Nat)
  | glob (g : Nat)
  | bin (op : Operator) (a b : E)
  | neg (a : E)
  | not (a : E)
  | and (a b : E)
  | or (a b : E)
  | ite (c a b : E)
  | cmp (op : CmpOp) (a b : E)
  | chain (o1 o2 : CmpOp) (a b c : E)
  | ix (a b : E)
  | dix (a b : E)
  | cat (a b : E)
  | cut (a : E) (lo hi : O)
  | tup (es : Es)
  | lst (es : Es)
  | call (c : Nat) (es ks : Es)
  | blt (b : Blt) (a : E)
  | isa (a : E) (T : Ty)
  | comp (own : List (Str × Nat)) (elt : E) (tg : Tg) (it : I) (cd : O)
  | get (a k d : E)
  | tcount (i : Nat)
  | tget (i : Nat) (k d : E)
  | dsp (kvs : List (Str × Cst))
  | rev (a : E)
inductive O where
  | none
  | some (e : E)
inductive Es where
  | nil
  | cons (e : E) (es : Es)
inductive I where
  | val (e : E)
  | rng1 (a : E)
  | rng2 (a b : E)
  | zip (a b : E)
  | enum (a : E)
  | zipN (a b : E)
inductive Tg where
  | name (i : Nat)
  | tup (ts : Tgs)
inductive Tgs where
  | nil
  | cons (t : Tg) (ts : Tgs)
end
mutual
inductive S where
  | asg (tg : Tg) (e : E)
  | par (is : List Nat) (es : Es)
  | star (i j : Nat) (e : E)
  | aug (i : Nat) (op : Operator) (e : E)
  | ret (e : E)
  | ite (c : E) (a b : Ss)
  | for (tg : Tg) (it : I) (b : Ss)
  | while (c : E) (b : Ss)
  | exp (e : E)
  | new (i : Nat) (e : E)
  | app (i : Nat) (e : E)
  | put (i : Nat) (k e : E)
  | putL (i : Nat) (k e : E)
  | frz (i : Nat)
  | tcnt (i : Nat) (e : E)
  | trst (i : Nat) (k e : E)
  | brk
  | cont
  | raise (n : Nat) (x : Str)
inductive Ss where
  | nil
  | cons (s : S) (r : Ss)
end

/-! ### the evaluator -/
/-- a slot: nothing, a datum, an object of the def's own (a list, a dict) that it may change -/
inductive Sl where
  | un
  | val (d : D)
  | own (d : D)
abbrev Rho := List Sl
def wipeR (r : Rho) : List Nat → Rho
  | [] => r
  | v :: vs => (wipeR r vs).set v .un
mutual
def setT : Tg → D → Rho → Option Rho
  | .name i, d, r => if decide (i < r.length) then some (r.set i (.val d)) else none
  | .tup ts, .tup xs, r => setTs ts xs r
  | .tup _, _, _ => none
def setTs : Tgs → List D → Rho → Option Rho
  | .nil, [], r => some r
  | .cons t ts, x :: xs, r => (setT t x r).bind fun r1 => setTs ts xs r1
  | _, _, _ => none
end
def consO (o : Option D) (xs : List D) : List D := match o with
  | some x => x :: xs
  | none => xs
/-- a comprehension's turns; what is raised within is not carried -/
def compL (f : D → Tw → Res (Option D)) : List D → Tw → Res (List D)
  | [], t => .ok [] t
  | d :: r, t => match f d t with
    | .ok o t1 => (compL f r t1).bind fun xs t2 => .ok (consO o xs) t2
    | _ => .bad
def strD (x : Str) : List D := x.cps.toList.map fun c => .str ⟨#[c]⟩
def rngD (lo : Int) (n : Nat) : List D := (List.range n).map fun k => .int (lo + (k : Nat))
def okRng (i : Int) : Bool := decide (-(2 ^ 62) ≤ i) && decide (i < 2 ^ 62)
def zipD : List D → List D → List D
  | x :: xs, y :: ys => .tup [x, y] :: zipD xs ys
  | _, _ => []
def enumD (k : Nat) : List D → List D
  | [] => []
  | x :: xs => .tup [.int (k : Nat), x] :: enumD (k + 1) xs
abbrev Gam := Nat → List D → List D → Tw → Res D
def binD : Operator → D → D → Option D
  | .Add, a, b => addD a b
  | .Sub, a, b => subD a b
  | .Mult, a, b => mulD a b
  | .FloorDiv, a, b => fdivD a b
  | .Mod, a, b => modD a b
  | .Pow, a, b => powD a b
  | .LShift, a, b => shlD a b
  | _, _, _ => none
mutual
def ev (G : Gam) (cs : Nat → D) : E → Rho → Tw → Res D
  | .cst c, _, t => .ok c.d t
  | .var i, r, t => match r[i]? with
    | some (.val d) => .ok d t
    | _ => .bad
  | .bor i, r, t => match r[i]? with
    | some (.val d) => .ok d t
    | some (.own d) => .ok d t
    | _ => .bad
  | .glob g, _, t => .ok (cs g) t
  | .bin op a b, r, t => (ev G cs a r t).bind fun x t1 => (ev G cs b r t1).bind fun y t2 => lift (binD op x y) t2
  | .neg a, r, t => (ev G cs a r t).bind fun x t1 => lift (negD x) t1
  | .not a, r, t => (ev G cs a r t).bind fun x t1 => lift (notD x) t1
  | .and a b, r, t => (ev G cs a r t).bind fun x t1 => match truD x with
    | some true => ev G cs b r t1
    | some false => .ok x t1
    | none => .bad
  | .or a b, r, t => (ev G cs a r t).bind fun x t1 => match truD x with
    | some true => .ok x t1
    | some false => ev G cs b r t1
    | none => .bad
  | .ite c a b, r, t => (ev G cs c r t).bind fun x t1 => match truD x with
    | some true => ev G cs a r t1
    | some false => ev G cs b r t1
    | none => .bad
  | .cmp op a b, r, t => (ev G cs a r t).bind fun x t1 => (ev G cs b r t1).bind fun y t2 => lift (cmpD op x y) t2
  | .chain o1 o2 a b c, r, t => (ev G cs a r t).bind fun x t1 => (ev G cs b r t1).bind fun y t2 => match cmpD o1 x y with
    | some (.bl true) => (ev G cs c r t2).bind fun z t3 => lift (cmpD o2 y z) t3
    | some (.bl false) => .ok (.bl false) t2
    | _ => .bad
  | .ix a b, r, t => (ev G cs a r t).bind fun x t1 => (ev G cs b r t1).bind fun y t2 => lift (ixD x y) t2
  | .dix a b, r, t => (ev G cs a r t).bind fun x t1 => (ev G cs b r t1).bind fun y t2 => lift (dixD x y) t2
  | .cat a b, r, t => (ev G cs a r t).bind fun x t1 => (ev G cs b r t1).bind fun y t2 => lift (catD x y) t2
  | .cut a lo hi, r, t => (ev G cs a r t).bind fun x t1 => (evO G cs lo r t1).bind fun l t2 => (lift (optI l) t2).bind fun l t2 => (evO G cs hi r t2).bind fun h t3 => (lift (optI h) t3).bind fun h t3 => lift (cutD x l h) t3
  | .tup es, r, t => (evs G cs es r t).bind fun xs t1 => if okLen xs.length then .ok (.tup xs) t1 else .bad
  | .lst es, r, t => (evs G cs es r t).bind fun xs t1 => if okLen xs.length then .ok (.lst xs) t1 else .bad
  | .call c es ks, r, t => (evs G cs es r t).bind fun xs t1 => (evs G cs ks r t1).bind fun ys t2 => G c xs ys t2
  | .blt b a, r, t => (ev G cs a r t).bind fun x t1 => lift (blt1 b x) t1
  | .isa a T, r, t => (ev G cs a r t).bind fun x t1 => lift ((isaD x T).map D.bl) t1
  | .comp own elt tg it cd, r, t => (evI G cs it r t).bind fun xs t1 => if okLen xs.length then
      (compL (fun d t => match setT tg d (wipeR r (own.map (·.2))) with
        | some r2 => (evO G cs cd r2 t).bind fun o t => match o with
          | none => (ev G cs elt r2 t).bind fun x t => .ok (some x) t
          | some y => match truD y with
            | some true => (ev G cs elt r2 t).bind fun x t => .ok (some x) t
            | some false => .ok none t
            | none => .bad
        | none => .bad) xs t1).bind fun ys t2 => .ok (.lst ys) t2 else .bad
  | .get a k d, r, t => (ev G cs a r t).bind fun x t1 => match x with
    | .dct kvs => (ev G cs k r t1).bind fun y t2 => (ev G cs d r t2).bind fun z t3 => (match keyD y with
      | some k => .ok ((lookD kvs k).getD z) t3
      | none => .bad)
    | _ => .bad
  | .tcount i, r, t => match r[i]? with
    | some (.val .tok) => .ok (.int t.count) t
    | _ => .bad
  | .tget i k d, r, t => match r[i]? with
    | some (.val .tok) => (ev G cs k r t).bind fun y t1 => (ev G cs d r t1).bind fun z t2 => (match y, z with
      | .int a, .int b => .ok (.int ((lkT t2.rests a).getD b)) t2
      | _, _ => .bad)
    | _ => .bad
  | .dsp kvs, r, t => if decide (kvs.length ≤ 15) then .ok (.dct (mergeD [] (kvs.map fun p => (p.1, p.2.d)))) t else .bad
  | .rev a, r, t => (ev G cs a r t).bind fun x t1 => lift (revD x) t1
def evO (G : Gam) (cs : Nat → D) : O → Rho → Tw → Res (Option D)
  | .none, _, t => .ok none t
  | .some e, r, t => (ev G cs e r t).bind fun x t1 => .ok (some x) t1
def evs (G : Gam) (cs : Nat → D) : Es → Rho → Tw → Res (List D)
  | .nil, _, t => .ok [] t
  | .cons e es, r, t => (ev G cs e r t).bind fun x t1 => (evs G cs es r t1).bind fun xs t2 => .ok (x :: xs) t2
def evI (G : Gam) (cs : Nat → D) : I → Rho → Tw → Res (List D)
  | .val e, r, t => (ev G cs e r t).bind fun x t1 => match x with
    | .tup xs => .ok xs t1
    | .lst xs => .ok xs t1
    | .str x => .ok (strD x) t1
    | _ => .bad
  | .rng1 a, r, t => (ev G cs a r t).bind fun x t1 => match x with
    | .int j => if okRng j then .ok (rngD 0 j.toNat) t1 else .bad
    | _ => .bad
  | .rng2 a b, r, t => (ev G cs a r t).bind fun x t1 => (ev G cs b r t1).bind fun y t2 => match x, y with
    | .int i, .int j => if okRng i && okRng j then .ok (rngD i (j - i).toNat) t2 else .bad
    | _, _ => .bad
  | .zip a b, r, t => (ev G cs a r t).bind fun x t1 => (ev G cs b r t1).bind fun y t2 => match x, y with
    | .tup xs, .tup ys => .ok (zipD xs ys) t2
    | .lst xs, .lst ys => .ok (zipD xs ys) t2
    | _, _ => .bad
  | .enum a, r, t => (ev G cs a r t).bind fun x t1 => match x with
    | .lst xs => .ok (enumD 0 xs) t1
    | _ => .bad
  | .zipN a b, r, t => (ev G cs a r t).bind fun x t1 => (ev G cs b r t1).bind fun y t2 => match x, y with
    | .tup xs, .tup ys => .ok (zipD xs ys) t2
    | _, _ => .bad
end
/-! ### statements -/
inductive Fl where
  | nx | brk | cont
  | ret (d : D)
def loopF (f : D → Rho → Tw → Res (Fl × Rho)) : List D → Rho → Tw → Res (Fl × Rho)
  | [], r, t => .ok (.nx, r) t
  | d :: ds, r, t => (f d r t).bind fun p t1 => match p with
    | (.nx, r1) => loopF f ds r1 t1
    | (.cont, r1) => loopF f ds r1 t1
    | (.brk, r1) => .ok (.nx, r1) t1
    | (.ret d, r1) => .ok (.ret d, r1) t1
/-- n turns of a while at most; none: they do not suffice -/
def loopN (c : Rho → Tw → Res D) (f : Rho → Tw → Res (Fl × Rho)) : Nat → Rho → Tw → Option (Res (Fl × Rho))
  | 0, _, _ => none
  | n + 1, r, t => match c r t with
    | .exc k t1 => some (.exc k t1)
    | .bad => some .bad
    | .ok x t1 => match truD x with
      | none => some .bad
      | some false => some (.ok (.nx, r) t1)
      | some true => match f r t1 with
        | .exc k t2 => some (.exc k t2)
        | .bad => some .bad
        | .ok (.nx, r1) t2 => loopN c f n r1 t2
        | .ok (.cont, r1) t2 => loopN c f n r1 t2
        | .ok (.brk, r1) t2 => some (.ok (.nx, r1) t2)
        | .ok (.ret d, r1) t2 => some (.ok (.ret d, r1) t2)
open Classical in
/-- a while -/
noncomputable def loopW (c : Rho → Tw → Res D) (f : Rho → Tw → Res (Fl × Rho)) (r : Rho) (t : Tw) : Res (Fl × Rho) :=
  if h : ∃ n v, loopN c f n r t = some v then h.choose_spec.choose else .bad
theorem loopN_mono {c : Rho → Tw → Res D} {f : Rho → Tw → Res (Fl × Rho)} {n : Nat} : ∀ {m : Nat} {r : Rho} {t : Tw} {v : Res (Fl × Rho)}, loopN c f n r t = some v → n ≤ m → loopN c f m r t = some v := by
  induction n with
  | zero => intro m r t v h _; simp [loopN] at h
  | succ n ih =>
    intro m r t v h hm
    obtain ⟨m, rfl⟩ : ∃ k, m = k + 1 := ⟨m - 1, by omega⟩
    have hm' : n ≤ m := by omega
    simp only [loopN] at h ⊢
    cases hc : c r t with
    | exc k t1 => rw [hc] at h; exact h
    | bad => rw [hc] at h; exact h
    | ok x t1 =>
      rw [hc] at h
      simp only at h ⊢
      cases hx : truD x with
      | none => rw [hx] at h; exact h
      | some b =>
        rw [hx] at h
        cases b with
        | false => exact h
        | true =>
          simp only at h ⊢
          cases hf : f r t1 with
          | exc k t2 => rw [hf] at h; exact h
          | bad => rw [hf] at h; exact h
          | ok p t2 =>
            rw [hf] at h
            obtain ⟨fl, r1⟩ := p
            cases fl with
            | nx => exact ih h hm'
            | cont => exact ih h hm'
            | brk => exact h
            | ret d => exact h
theorem loopW_of {c : Rho → Tw → Res D} {f : Rho → Tw → Res (Fl × Rho)} {n : Nat} {r : Rho} {t : Tw} {v : Res (Fl × Rho)} (h : loopN c f n r t = some v) : loopW c f r t = v := by
  unfold loopW
  have hx : ∃ n v, loopN c f n r t = some v := ⟨n, v, h⟩
  rw [dif_pos hx]
  have h2 := hx.choose_spec.choose_spec
  have e1 := loopN_mono h (Nat.le_max_left n hx.choose)
  have e2 := loopN_mono h2 (Nat.le_max_right n hx.choose)
  rw [e1] at e2
  exact (Option.some.inj e2).symm
theorem loopW_not {c : Rho → Tw → Res D} {f : Rho → Tw → Res (Fl × Rho)} {r : Rho} {t : Tw} (h : loopW c f r t ≠ .bad) : ∃ n, loopN c f n r t = some (loopW c f r t) := by
  unfold loopW at h ⊢
  by_cases hx : ∃ n v, loopN c f n r t = some v
  · rw [dif_pos hx] at h ⊢
    exact ⟨_, hx.choose_spec.choose_spec⟩
  · rw [dif_neg hx] at h
    exact absurd rfl h
/-- one turn -/
theorem loopW_eq (c : Rho → Tw → Res D) (f : Rho → Tw → Res (Fl × Rho)) (r : Rho) (t : Tw) : loopW c f r t = (c r t).bind fun x t1 => match truD x with
    | none => .bad
    | some false => .ok (.nx, r) t1
    | some true => (f r t1).bind fun p t2 => match p with
      | (.nx, r1) => loopW c f r1 t2
      | (.cont, r1) => loopW c f r1 t2
      | (.brk, r1) => .ok (.nx, r1) t2
      | (.ret d, r1) => .ok (.ret d, r1) t2 := by
  have key : ∀ r1 t2, (∀ n, loopN c f (n + 1) r t = loopN c f n r1 t2) → loopW c f r t = loopW c f r1 t2 := by
    intro r1 t2 h
    by_cases hb : loopW c f r1 t2 = .bad
    · rw [hb]
      by_cases ha : loopW c f r t = .bad
      · exact ha
      · obtain ⟨n, hn⟩ := loopW_not ha
        cases n with
        | zero => simp [loopN] at hn
        | succ n =>
          rw [h n] at hn
          have := loopW_of hn
          rw [hb] at this
          exact this.symm
    · obtain ⟨n, hn⟩ := loopW_not hb
      exact loopW_of (n := n + 1) ((h n).trans hn)
  cases hc : c r t with
  | exc k t1 => exact loopW_of (n := 1) (by simp [loopN, hc])
  | bad => exact loopW_of (n := 1) (by simp [loopN, hc])
  | ok x t1 =>
    simp only [Res.bind_ok]
    cases hx : truD x with
    | none => exact loopW_of (n := 1) (by simp [loopN, hc, hx])
    | some b =>
      cases b with
      | false => exact loopW_of (n := 1) (by simp [loopN, hc, hx])
      | true =>
        cases hf : f r t1 with
        | exc k t2 => exact loopW_of (n := 1) (by simp [loopN, hc, hx, hf])
        | bad => exact loopW_of (n := 1) (by simp [loopN, hc, hx, hf])
        | ok p t2 =>
          obtain ⟨fl, r1⟩ := p
          cases fl with
          | nx => exact key r1 t2 fun n => by simp [loopN, hc, hx, hf]
          | cont => exact key r1 t2 fun n => by simp [loopN, hc, hx, hf]
          | brk => exact loopW_of (n := 1) (by simp [loopN, hc, hx, hf])
          | ret d => exact loopW_of (n := 1) (by simp [loopN, hc, hx, hf])
def setAll : List Nat → List D → Rho → Option Rho
  | [], [], r => some r
  | i :: is, d :: ds, r => if decide (i < r.length) then setAll is ds (r.set i (.val d)) else none
  | _, _, _ => none
def okSet (r : Rho) (i : Nat) (s : Sl) (t : Tw) : Res (Fl × Rho) := if decide (i < r.length) then .ok (.nx, r.set i s) t else .bad
mutual
noncomputable def evS (G : Gam) (cs : Nat → D) : S → Rho → Tw → Res (Fl × Rho)
  | .asg tg e, r, t => (ev G cs e r t).bind fun x t1 => lift ((setT tg x r).map fun r1 => (.nx, r1)) t1
  | .par is es, r, t => (evs G cs es r t).bind fun xs t1 => lift ((setAll is xs r).map fun r1 => (.nx, r1)) t1
  | .star i j e, r, t => (ev G cs e r t).bind fun x t1 => match x with
    | .tup (y :: ys) => if decide (i < r.length) && decide (j < r.length) && decide (ys.length < 16384) then .ok (.nx, (r.set i (.val y)).set j (.val (.lst ys))) t1 else .bad
    | _ => .bad
  | .aug i op e, r, t => match r[i]? with
    | some (.val x) => (ev G cs e r t).bind fun y t1 => match x, y with
      | .int _, .int _ => lift ((binD op x y).map fun z => (.nx, r.set i (.val z))) t1
      | _, _ => .bad
    | _ => .bad
  | .ret e, r, t => (ev G cs e r t).bind fun x t1 => .ok (.ret x, r) t1
  | .ite c a b, r, t => (ev G cs c r t).bind fun x t1 => match truD x with
    | some true => evSs G cs a r t1
    | some false => evSs G cs b r t1
    | none => .bad
  | .for tg it b, r, t => (evI G cs it r t).bind fun xs t1 => loopF (fun d r t => match setT tg d r with
    | some r1 => evSs G cs b r1 t
    | none => .bad) xs r t1
  | .while c b, r, t => loopW (fun r t => ev G cs c r t) (fun r t => evSs G cs b r t) r t
  | .exp e, r, t => (ev G cs e r t).bind fun _ t1 => .ok (.nx, r) t1
  | .new i e, r, t => (ev G cs e r t).bind fun x t1 => okSet r i (.own x) t1
  | .app i e, r, t => match r[i]? with
    | some (.own (.lst xs)) => (ev G cs e r t).bind fun x t1 => if decide (xs.length < 16777216) then .ok (.nx, r.set i (.own (.lst (xs ++ [x])))) t1 else .bad
    | _ => .bad
  | .put i k e, r, t => match r[i]? with
    | some (.own (.dct kvs)) => (ev G cs e r t).bind fun x t1 => (ev G cs k r t1).bind fun y t2 => (match keyD y with
      | some k => if decide (kvs.length < 16777216) then .ok (.nx, r.set i (.own (.dct (putD kvs k x)))) t2 else .bad
      | none => .bad)
    | _ => .bad
  | .putL i k e, r, t => match r[i]? with
    | some (.own (.lst xs)) => (ev G cs e r t).bind fun x t1 => (ev G cs k r t1).bind fun y t2 => (match y with
      | .int j => (match L2.ixN xs.length j with
        | some n => .ok (.nx, r.set i (.own (.lst (xs.set n x)))) t2
        | none => .bad)
      | _ => .bad)
    | _ => .bad
  | .frz i, r, t => match r[i]? with
    | some (.own d) => .ok (.nx, r.set i (.val d)) t
    | some (.val _) => .ok (.nx, r) t
    | _ => .bad
  | .tcnt i e, r, t => match r[i]? with
    | some (.val .tok) => (ev G cs e r t).bind fun x t1 => (match x with
      | .int c => .ok (.nx, r) { t1 with count := c }
      | _ => .bad)
    | _ => .bad
  | .trst i k e, r, t => match r[i]? with
    | some (.val .tok) => (ev G cs e r t).bind fun x t1 => (ev G cs k r t1).bind fun y t2 => (match x, y with
      | .int v, .int a => if decide (t2.rests.length < 1000000) then .ok (.nx, r) { t2 with rests := putT t2.rests a v } else .bad
      | _, _ => .bad)
    | _ => .bad
  | .brk, r, t => .ok (.brk, r) t
  | .cont, r, t => .ok (.cont, r) t
  | .raise n _, _, t => .exc n t
noncomputable def evSs (G : Gam) (cs : Nat → D) : Ss → Rho → Tw → Res (Fl × Rho)
  | .nil, r, t => .ok (.nx, r) t
  | .cons s ss, r, t => (evS G cs s r t).bind fun p t1 => match p with
    | (.nx, r1) => evSs G cs ss r1 t1
    | q => .ok q t1
end
end Fm

/-! ### a value bears a datum; the state bears an environment -/
namespace Fm
open PySem PySem.Spec PyProof.Rows L2
/-- where the town (a, its rests b) and the script stand, the script's ints -/
structure Tn where
  a : Addr
  b : Addr
  s : Addr
  ns : List Int
mutual
inductive Rp (K : PySem.W.Frag) (T : Tn) (F : Hp) : V → D → Prop
  | non : Rp K T F .non .non
  | bl (b : Bool) : Rp K T F (.bl b) (.bl b)
  | int (i : Int) : Rp K T F (.int i) (.int i)
  | str (x : Str) : Rp K T F (.str x) (.str x)
  | tup {a : Addr} {xs : List V} {ds : List D} : SqT K F a xs → xs.length ≤ sizeLine → RpL K T F xs ds → Rp K T F (.ref a) (.tup ds)
  | lst {a : Addr} {xs : List V} {ds : List D} : F a = some (.lst xs) → xs.length ≤ sizeLine → RpL K T F xs ds → Rp K T F (.ref a) (.lst ds)
  | dct {a : Addr} {kvs : List (Key × V)} {es : List (Key × D)} : F a = some (.dK kvs) → RpK K T F kvs es → Rp K T F (.ref a) (.dct es)
  | tok : Rp K T F (.ref T.a) .tok
  | scr : Rp K T F (.ref T.s) (.scr T.ns)
inductive RpL (K : PySem.W.Frag) (T : Tn) (F : Hp) : List V → List D → Prop
  | nil : RpL K T F [] []
  | cons {v : V} {vs : List V} {d : D} {ds : List D} : Rp K T F v d → RpL K T F vs ds → RpL K T F (v :: vs) (d :: ds)
inductive RpK (K : PySem.W.Frag) (T : Tn) (F : Hp) : List (Key × V) → List (Key × D) → Prop
  | nil : RpK K T F [] []
  | cons {k : Key} {v : V} {kvs : List (Key × V)} {d : D} {es : List (Key × D)} : Rp K T F v d → RpK K T F kvs es → RpK K T F ((k, v) :: kvs) ((k, d) :: es)
end
theorem sqT_mono {K : PySem.W.Frag} {F F' : Hp} {a : Addr} {xs : List V} (e : Same F F') (h : SqT K F a xs) : SqT K F' a xs := by
  rcases h with h | h
  · rcases h with h | ⟨o, h⟩
    · exact .inl (.inl (e _ _ h))
    · exact .inl (.inr ⟨o, e _ _ h⟩)
  · exact .inr h
theorem sqL_mono {K : PySem.W.Frag} {F F' : Hp} {a : Addr} {xs : List V} (e : Same F F') (h : SqL K F a xs) : SqL K F' a xs := by
  rcases h with h | h
  · rcases h with h | ⟨o, h⟩
    · exact .inl (.inl (e _ _ h))
    · exact .inl (.inr ⟨o, e _ _ h⟩)
  · exact .inr h
section
variable {K : PySem.W.Frag} {T : Tn} {F F' H : Hp}
mutual
theorem Rp.mono (e : Same F F') : ∀ {v : V} {d : D}, Rp K T F v d → Rp K T F' v d
  | _, _, .non => .non
  | _, _, .bl b => .bl b
  | _, _, .int i => .int i
  | _, _, .str x => .str x
  | _, _, .tup h z r => .tup (sqT_mono e h) z (r.mono e)
  | _, _, .lst h z r => .lst (e _ _ h) z (r.mono e)
  | _, _, .dct h r => .dct (e _ _ h) (r.mono e)
  | _, _, .tok => .tok
  | _, _, .scr => .scr
theorem RpL.mono (e : Same F F') : ∀ {v : List V} {d : List D}, RpL K T F v d → RpL K T F' v d
  | _, _, .nil => .nil
  | _, _, .cons h r => .cons (h.mono e) (r.mono e)
theorem RpK.mono (e : Same F F') : ∀ {v : List (Key × V)} {d : List (Key × D)}, RpK K T F v d → RpK K T F' v d
  | _, _, .nil => .nil
  | _, _, .cons h r => .cons (h.mono e) (r.mono e)
end
theorem RpL.length : ∀ {vs : List V} {ds : List D}, RpL K T F vs ds → vs.length = ds.length
  | _, _, .nil => rfl
  | _, _, .cons _ r => congrArg Nat.succ r.length
theorem RpK.length : ∀ {vs : List (Key × V)} {ds : List (Key × D)}, RpK K T F vs ds → vs.length = ds.length
  | _, _, .nil => rfl
  | _, _, .cons _ r => congrArg Nat.succ r.length
theorem RpL.get : ∀ {vs : List V} {ds : List D}, RpL K T F vs ds → ∀ {i : Nat} {d : D}, ds[i]? = some d → ∃ v, vs[i]? = some v ∧ Rp K T F v d
  | _, _, .nil, i, d, h => by simp at h
  | _, _, .cons h r, 0, d, e => by
    have e2 := Option.some.inj (show some _ = some d from e)
    subst e2
    exact ⟨_, rfl, h⟩
  | _, _, .cons h r, i + 1, d, e => r.get (i := i) e
theorem RpL.get' : ∀ {vs : List V} {ds : List D}, RpL K T F vs ds → ∀ {i : Nat} {v : V}, vs[i]? = some v → ∃ d, ds[i]? = some d ∧ Rp K T F v d
  | _, _, .nil, i, d, h => by simp at h
  | _, _, .cons h r, 0, d, e => by
    have e2 := Option.some.inj (show some _ = some d from e)
    subst e2
    exact ⟨_, rfl, h⟩
  | _, _, .cons h r, i + 1, d, e => r.get' (i := i) e
theorem RpL.append : ∀ {vs ws : List V} {ds es : List D}, RpL K T F vs ds → RpL K T F ws es → RpL K T F (vs ++ ws) (ds ++ es)
  | _, _, _, _, .nil, q => q
  | _, _, _, _, .cons h r, q => .cons h (r.append q)
theorem RpL.take : ∀ {vs : List V} {ds : List D} (n : Nat), RpL K T F vs ds → RpL K T F (vs.take n) (ds.take n)
  | _, _, 0, _ => .nil
  | _, _, _ + 1, .nil => .nil
  | _, _, n + 1, .cons h r => .cons h (r.take n)
theorem RpL.drop : ∀ {vs : List V} {ds : List D} (n : Nat), RpL K T F vs ds → RpL K T F (vs.drop n) (ds.drop n)
  | _, _, 0, r => r
  | _, _, _ + 1, .nil => .nil
  | _, _, n + 1, .cons h r => r.drop n
theorem RpL.set {v : V} {d : D} (h : Rp K T F v d) : ∀ {vs : List V} {ds : List D} (n : Nat), RpL K T F vs ds → RpL K T F (vs.set n v) (ds.set n d)
  | _, _, _, .nil => .nil
  | _, _, 0, .cons _ r => .cons h r
  | _, _, n + 1, .cons q r => .cons q (RpL.set h n r)
theorem RpL.intsOf : ∀ {vs : List V} {ds : List D} {ns : List Int}, RpL K T F vs ds → intsD ds = some ns → vs = ns.map V.int
  | _, _, ns, .nil, h => by
    simp only [intsD, Option.some.injEq] at h
    subst h
    rfl
  | _, _, ns, @RpL.cons _ _ _ v vs d ds h r, e => by
    cases h with
    | int i =>
      simp only [intsD, Option.map_eq_some_iff] at e
      obtain ⟨ms, e1, e2⟩ := e
      subst e2
      rw [r.intsOf e1]
      rfl
    | _ => simp [intsD] at e
theorem RpL.blsOf : ∀ {vs : List V} {ds : List D} {ns : List Bool}, RpL K T F vs ds → bls ds = some ns → vs = ns.map V.bl
  | _, _, ns, .nil, h => by
    simp only [bls, Option.some.injEq] at h
    subst h
    rfl
  | _, _, ns, @RpL.cons _ _ _ v vs d ds h r, e => by
    cases h with
    | bl i =>
      simp only [bls, Option.map_eq_some_iff] at e
      obtain ⟨ms, e1, e2⟩ := e
      subst e2
      rw [r.blsOf e1]
      rfl
    | _ => simp [bls] at e
theorem RpL.ofInts : ∀ (ns : List Int), RpL K T F (ns.map V.int) (ns.map D.int)
  | [] => .nil
  | n :: ns => .cons (.int n) (RpL.ofInts ns)
/-- data of any depth, as the library has it -/
theorem lay_cons {x : D} {xs : List D} (h : PyData.canLayAll0 (pys (x :: xs)) = true) : lay x = true ∧ PyData.canLayAll0 (pys xs) = true := by
  have h2 : (PyData.canLay0 x.py && PyData.canLayAll0 (pys xs)) = true := by
    simpa only [pys, PyData.canLayAll0] using h
  exact Bool.and_eq_true_iff.mp h2
mutual
theorem Rp.dp (s : Same F H) : ∀ {v : V} {d : D}, Rp K T F v d → lay d = true → Dp K H v d.py
  | _, _, .non, _ => .non
  | _, _, .bl b, _ => .bl b
  | _, _, .int i, _ => .int i
  | _, _, .str x, _ => .str x
  | _, _, .tup h z r, l => .tup (sqT_mono s h) (r.dp s (by simpa only [lay, D.py, PyData.canLay0] using l))
  | _, _, .lst h z r, l => .lst (SqL.of (s _ _ h)) (r.dp s (by simpa only [lay, D.py, PyData.canLay0] using l))
  | _, _, .dct h r, l => by simp [lay, D.py, PyData.canLay0] at l
  | _, _, .tok, l => by simp [lay, D.py, PyData.canLay0] at l
  | _, _, .scr, l => by simp [lay, D.py, PyData.canLay0] at l
theorem RpL.dp (s : Same F H) : ∀ {v : List V} {d : List D}, RpL K T F v d → PyData.canLayAll0 (pys d) = true → DpAll K H v (pys d)
  | _, _, .nil, _ => .nil
  | _, _, .cons h r, l => .cons (h.dp s (lay_cons l).1) (r.dp s (lay_cons l).2)
end
end
/-! ### the state -/
/-- the town stands in the heap -/
structure Town (T : Tn) (t : Tw) (H : Hp) : Prop where
  a : H T.a = some (.dK [(.inr "count", .int t.count), (.inr "rests", .ref T.b)])
  b : H T.b = some (.dK (t.rests.map fun p => (.inl p.1, .int p.2)))
  ne : T.a ≠ T.b
  small : t.rests.length ≤ 1000000
/-- the heap's part: F0, H0 what was frozen, what stood at the entry; F what is frozen now -/
structure RelH (K : PySem.W.Frag) (T : Tn) (F0 H0 F : Hp) (t : Tw) (H : Hp) : Prop where
  sub : Same F H
  new : ∀ a o, F a = some o → F0 a = some o ∨ H0 a = none
  base : Same F0 F
  old : ∀ a o, H0 a = some o → a ≠ T.a → a ≠ T.b → H a = some o
  had : ∀ a, H a = none → H0 a = none
  tw : Town T t H
  tF1 : F T.a = none
  tF2 : F T.b = none
  sc : SqL K F T.s (T.ns.map V.int)
/-- an object of the def's own -/
def OwnAt (K : PySem.W.Frag) (T : Tn) (F H : Hp) (p : Addr) : D → Prop
  | .lst ds => ∃ vs, H p = some (.lst vs) ∧ vs.length ≤ sizeLine ∧ RpL K T F vs ds
  | .dct es => ∃ kvs, H p = some (.dK kvs) ∧ kvs.length ≤ sizeLine ∧ RpK K T F kvs es
  | _ => False
structure Own (K : PySem.W.Frag) (T : Tn) (H0 F H : Hp) (p : Addr) (d : D) : Prop where
  fr : F p = none
  n1 : p ≠ T.a
  n2 : p ≠ T.b
  h0 : H0 p = none
  at_ : OwnAt K T F H p d
structure Rel (K : PySem.W.Frag) (T : Tn) (F0 H0 F : Hp) (r : Rho) (t : Tw) (σ : L2.St) (H : Hp) : Prop extends RelH K T F0 H0 F t H where
  len : r.length = σ.length
  val : ∀ (i : Nat) (d : D), r[i]? = some (.val d) → ∃ v, σ[i]? = some (some v) ∧ Rp K T F v d
  own : ∀ (i : Nat) (d : D), r[i]? = some (.own d) → ∃ p, σ[i]? = some (some (.ref p)) ∧ Own K T H0 F H p d
  inj : ∀ (i j : Nat) (d e : D) (p : Addr), r[i]? = some (.own d) → r[j]? = some (.own e) → σ[i]? = some (some (.ref p)) → σ[j]? = some (some (.ref p)) → i = j
section
variable {K : PySem.W.Frag} {T : Tn} {F0 H0 F F' F1 H H' H1 : Hp} {r : Rho} {t t' : Tw} {σ : L2.St}
theorem OwnAt.obj {p : Addr} {d : D} (h : OwnAt K T F H p d) : ∃ o, H p = some o ∧ (∀ xs, o ≠ .tup xs) := by
  cases d with
  | lst ds =>
    obtain ⟨vs, h, _⟩ := h
    exact ⟨_, h, fun _ z => by cases z⟩
  | dct es =>
    obtain ⟨vs, h, _⟩ := h
    exact ⟨_, h, fun _ z => by cases z⟩
  | _ => exact h.elim
theorem OwnAt.keep {p : Addr} {d : D} (h : OwnAt K T F H p d) (s : Same F F') (e : ∀ o, H p = some o → H' p = some o) : OwnAt K T F' H' p d := by
  cases d with
  | lst ds =>
    obtain ⟨vs, h, z, q⟩ := h
    exact ⟨vs, e _ h, z, q.mono s⟩
  | dct es =>
    obtain ⟨vs, h, z, q⟩ := h
    exact ⟨vs, e _ h, z, q.mono s⟩
  | _ => exact h.elim
theorem RelH.refl (a : RelH K T F0 H0 F t H) : RelH K T F H F t H :=
  ⟨a.sub, fun _ _ h => .inl h, Same.refl F, fun _ _ h _ _ => h, fun _ h => h, a.tw, a.tF1, a.tF2, a.sc⟩
theorem RelH.trans (a : RelH K T F0 H0 F t H) (b : RelH K T F H F' t' H') : RelH K T F0 H0 F' t' H' := by
  refine ⟨b.sub, fun c o h => ?_, a.base.trans b.base, fun c o h n1 n2 => b.old c o (a.old c o h n1 n2) n1 n2, fun c h => a.had c (b.had c h), b.tw, b.tF1, b.tF2, b.sc⟩
  rcases b.new c o h with q | q
  · exact a.new c o q
  · exact .inr (a.had c q)
/-- behind something that touched nothing of ours -/
theorem Rel.step (a : Rel K T F0 H0 F r t σ H) (b : RelH K T F H F' t' H') : Rel K T F0 H0 F' r t' σ H' := by
  refine ⟨a.toRelH.trans b, a.len, fun i d h => ?_, fun i d h => ?_, a.inj⟩
  · obtain ⟨v, e, q⟩ := a.val i d h
    exact ⟨v, e, q.mono b.base⟩
  · obtain ⟨p, e, q⟩ := a.own i d h
    obtain ⟨o, ho, _⟩ := q.at_.obj
    refine ⟨p, e, ⟨?_, q.n1, q.n2, q.h0, q.at_.keep b.base fun o h => b.old p o h q.n1 q.n2⟩⟩
    cases z : F' p with
    | none => rfl
    | some u =>
      rcases b.new p u z with z | z
      · rw [q.fr] at z
        cases z
      · rw [ho] at z
        cases z
theorem upd_none {H : Hp} {p b : Addr} {o : HO} (h : upd H p o b = none) : H b = none ∧ b ≠ p := by
  by_cases e : b = p
  · subst e
    rw [upd_same] at h
    cases h
  · rw [upd_ne e] at h
    exact ⟨h, e⟩
theorem same_new {H : Hp} {p : Addr} {o : HO} (h : H p = none) : Same H (upd H p o) := fun b x e => by
  rw [upd_ne (ne_of_none e h)]
  exact e
/-- a new object, frozen at once -/
theorem RelH.newF {p : Addr} {o : HO} (a : RelH K T F0 H0 F t H) (hp : H p = none) : RelH K T F H (upd F p o) t (upd H p o) := by
  have fp : F p = none := a.sub.free hp
  have n1 : p ≠ T.a := fun e => by
    rw [e, a.tw.a] at hp
    cases hp
  have n2 : p ≠ T.b := fun e => by
    rw [e, a.tw.b] at hp
    cases hp
  refine ⟨fun b x e => ?_, fun b x e => ?_, same_new fp, fun b x e _ _ => same_new hp b x e, fun b h => (upd_none h).1, ⟨?_, ?_, a.tw.ne, a.tw.small⟩, ?_, ?_, sqL_mono (same_new fp) a.sc⟩
  · by_cases hb : b = p
    · subst hb
      rw [upd_same] at e ⊢
      exact e
    · rw [upd_ne hb] at e ⊢
      exact a.sub b x e
  · by_cases hb : b = p
    · subst hb
      exact .inr hp
    · rw [upd_ne hb] at e
      exact .inl e
  · rw [upd_ne (Ne.symm n1)]
    exact a.tw.a
  · rw [upd_ne (Ne.symm n2)]
    exact a.tw.b
  · rw [upd_ne (Ne.symm n1)]
    exact a.tF1
  · rw [upd_ne (Ne.symm n2)]
    exact a.tF2
/-- a new object, not frozen -/
theorem RelH.newO {p : Addr} {o : HO} (a : RelH K T F0 H0 F t H) (hp : H p = none) : RelH K T F H F t (upd H p o) := by
  have n1 : p ≠ T.a := fun e => by
    rw [e, a.tw.a] at hp
    cases hp
  have n2 : p ≠ T.b := fun e => by
    rw [e, a.tw.b] at hp
    cases hp
  refine ⟨a.sub.trans (same_new hp), fun b x e => .inl e, Same.refl F, fun b x e _ _ => same_new hp b x e, fun b h => (upd_none h).1, ⟨?_, ?_, a.tw.ne, a.tw.small⟩, a.tF1, a.tF2, a.sc⟩
  · rw [upd_ne (Ne.symm n1)]
    exact a.tw.a
  · rw [upd_ne (Ne.symm n2)]
    exact a.tw.b
/-- what stands, and is nobody's, is frozen -/
theorem RelH.freeze {p : Addr} {o : HO} (a : RelH K T F0 H0 F t H) (hp : H p = some o) (f : F p = none) (h0 : H0 p = none) (n1 : p ≠ T.a) (n2 : p ≠ T.b) : RelH K T F0 H0 (upd F p o) t H := by
  refine ⟨fun b x e => ?_, fun b x e => ?_, a.base.trans (same_new f), a.old, a.had, a.tw, ?_, ?_, sqL_mono (same_new f) a.sc⟩
  · by_cases hb : b = p
    · subst hb
      rw [upd_same] at e
      cases e
      exact hp
    · rw [upd_ne hb] at e
      exact a.sub b x e
  · by_cases hb : b = p
    · subst hb
      exact .inr h0
    · rw [upd_ne hb] at e
      exact a.new b x e
  · rw [upd_ne (Ne.symm n1)]
    exact a.tF1
  · rw [upd_ne (Ne.symm n2)]
    exact a.tF2
theorem Rel.freeze {p : Addr} {o : HO} (a : Rel K T F0 H0 F r t σ H) (hp : H p = some o) (f : F p = none) (h0 : H0 p = none) (n1 : p ≠ T.a) (n2 : p ≠ T.b) (no : ∀ (i : Nat) (d : D), r[i]? = some (.own d) → σ[i]? ≠ some (some (.ref p))) :
    Rel K T F0 H0 (upd F p o) r t σ H := by
  refine ⟨a.toRelH.freeze hp f h0 n1 n2, a.len, fun i d h => ?_, fun i d h => ?_, a.inj⟩
  · obtain ⟨v, e, q⟩ := a.val i d h
    exact ⟨v, e, q.mono (same_new f)⟩
  · obtain ⟨q, e, w⟩ := a.own i d h
    have nq : q ≠ p := fun z => no i d h (z ▸ e)
    exact ⟨q, e, ⟨by rw [upd_ne nq]; exact w.fr, w.n1, w.n2, w.h0, w.at_.keep (same_new f) fun o h => h⟩⟩
/-- a slot forgotten, a slot set -/
theorem Rel.setVal {i : Nat} {v : V} {d : D} (a : Rel K T F0 H0 F r t σ H) (h : Rp K T F v d) : Rel K T F0 H0 F (r.set i (.val d)) t (σ.set i (some v)) H := by
  refine ⟨a.toRelH, by simpa using a.len, fun j e h2 => ?_, fun j e h2 => ?_, fun j k e1 e2 p h1 h2 h3 h4 => ?_⟩
  · by_cases hj : i = j
    · subst hj
      by_cases hi : i < r.length
      · rw [List.getElem?_set_self hi] at h2
        cases h2
        exact ⟨v, List.getElem?_set_self (by rw [← a.len]; exact hi), h⟩
      · rw [List.getElem?_eq_none (by simpa using hi)] at h2
        cases h2
    · rw [List.getElem?_set_ne hj] at h2 ⊢
      exact a.val j e h2
  · by_cases hj : i = j
    · subst hj
      by_cases hi : i < r.length
      · rw [List.getElem?_set_self hi] at h2
        cases h2
      · rw [List.getElem?_eq_none (by simpa using hi)] at h2
        cases h2
    · rw [List.getElem?_set_ne hj] at h2 ⊢
      exact a.own j e h2
  · have nj : ∀ {j : Nat} {e : D}, (r.set i (.val d))[j]? = some (.own e) → i ≠ j := fun {j e} q z => by
      subst z
      by_cases hi : i < r.length
      · rw [List.getElem?_set_self hi] at q
        cases q
      · rw [List.getElem?_eq_none (by simpa using hi)] at q
        cases q
    have n1 := nj h1
    have n2 := nj h2
    rw [List.getElem?_set_ne n1] at h1 h3
    rw [List.getElem?_set_ne n2] at h2 h4
    exact a.inj j k e1 e2 p h1 h2 h3 h4
theorem Rel.setUn {i : Nat} (a : Rel K T F0 H0 F r t σ H) : Rel K T F0 H0 F (r.set i .un) t (σ.set i none) H := by
  refine ⟨a.toRelH, by simpa using a.len, fun j e h2 => ?_, fun j e h2 => ?_, fun j k e1 e2 p h1 h2 h3 h4 => ?_⟩
  · by_cases hj : i = j
    · subst hj
      by_cases hi : i < r.length
      · rw [List.getElem?_set_self hi] at h2
        cases h2
      · rw [List.getElem?_eq_none (by simpa using hi)] at h2
        cases h2
    · rw [List.getElem?_set_ne hj] at h2 ⊢
      exact a.val j e h2
  · by_cases hj : i = j
    · subst hj
      by_cases hi : i < r.length
      · rw [List.getElem?_set_self hi] at h2
        cases h2
      · rw [List.getElem?_eq_none (by simpa using hi)] at h2
        cases h2
    · rw [List.getElem?_set_ne hj] at h2 ⊢
      exact a.own j e h2
  · have nj : ∀ {j : Nat} {e : D}, (r.set i .un)[j]? = some (.own e) → i ≠ j := fun {j e} q z => by
      subst z
      by_cases hi : i < r.length
      · rw [List.getElem?_set_self hi] at q
        cases q
      · rw [List.getElem?_eq_none (by simpa using hi)] at q
        cases q
    have n1 := nj h1
    have n2 := nj h2
    rw [List.getElem?_set_ne n1] at h1 h3
    rw [List.getElem?_set_ne n2] at h2 h4
    exact a.inj j k e1 e2 p h1 h2 h3 h4
theorem Rel.wipe (a : Rel K T F0 H0 F r t σ H) : ∀ vs : List Nat, Rel K T F0 H0 F (wipeR r vs) t (wipe σ vs) H
  | [] => a
  | v :: vs => (a.wipe vs).setUn
/-- a slot takes an object that nobody has -/
theorem Rel.setOwn {i : Nat} {p : Addr} {d : D} (a : Rel K T F0 H0 F r t σ H) (h : Own K T H0 F H p d) (no : ∀ (j : Nat) (e : D), r[j]? = some (.own e) → j ≠ i → σ[j]? ≠ some (some (.ref p))) :
    Rel K T F0 H0 F (r.set i (.own d)) t (σ.set i (some (.ref p))) H := by
  have cs : ∀ {j : Nat} {s : Sl}, (r.set i (.own d))[j]? = some s → (i = j ∧ i < r.length ∧ s = .own d) ∨ (i ≠ j ∧ r[j]? = some s) := fun {j s} q => by
    by_cases hj : i = j
    · subst hj
      by_cases hi : i < r.length
      · rw [List.getElem?_set_self hi] at q
        exact .inl ⟨rfl, hi, (Option.some.inj q).symm⟩
      · rw [List.getElem?_eq_none (by simpa using hi)] at q
        cases q
    · rw [List.getElem?_set_ne hj] at q
      exact .inr ⟨hj, q⟩
  refine ⟨a.toRelH, by simpa using a.len, fun j e h2 => ?_, fun j e h2 => ?_, fun j k e1 e2 q h1 h2 h3 h4 => ?_⟩
  · rcases cs h2 with ⟨_, _, z⟩ | ⟨hj, z⟩
    · cases z
    · rw [List.getElem?_set_ne hj]
      exact a.val j e z
  · rcases cs h2 with ⟨rfl, hi, z⟩ | ⟨hj, z⟩
    · cases z
      exact ⟨p, List.getElem?_set_self (by rw [← a.len]; exact hi), h⟩
    · rw [List.getElem?_set_ne hj]
      exact a.own j e z
  · rcases cs h1 with ⟨rfl, hi, _⟩ | ⟨hj, z⟩
    · rcases cs h2 with ⟨rfl, _, _⟩ | ⟨hk, z2⟩
      · rfl
      · rw [List.getElem?_set_self (by rw [← a.len]; exact hi)] at h3
        have eq := V.ref.inj (Option.some.inj (Option.some.inj h3))
        rw [List.getElem?_set_ne hk] at h4
        exact absurd (eq ▸ h4) (no k e2 z2 (Ne.symm hk))
    · rcases cs h2 with ⟨rfl, hi, _⟩ | ⟨hk, z2⟩
      · rw [List.getElem?_set_self (by rw [← a.len]; exact hi)] at h4
        have eq := V.ref.inj (Option.some.inj (Option.some.inj h4))
        rw [List.getElem?_set_ne hj] at h3
        exact absurd (eq ▸ h3) (no j e1 z (Ne.symm hj))
      · rw [List.getElem?_set_ne hj] at h3
        rw [List.getElem?_set_ne hk] at h4
        exact a.inj j k e1 e2 q z z2 h3 h4
end
end Fm

/-! ### readings of Core expressions; operators -/
namespace Fm
open PySem PySem.Spec PyProof.Rows L2
structure Pm where
  K : PySem.W.Frag
  T : Tn
  F0 : Hp
  H0 : Hp
  XE : Nat → Hp → Prop
def Aft {α : Type} (P : Pm) (F : Hp) (res : Res α) (Z : α → Tw → Prop) : Prop := match res with
  | .ok a t => Z a t
  | .exc n t => ∀ F' H', Same F F' → RelH P.K P.T P.F0 P.H0 F' t H' → P.XE n H'
  | .bad => False
/-- what was frozen is, and what stood stands, but for the town; newly frozen is only what is new -/
structure Kp (T : Tn) (F H F' H' : Hp) : Prop where
  base : Same F F'
  new : ∀ a o, F' a = some o → F a = some o ∨ H a = none
  old : ∀ a o, H a = some o → a ≠ T.a → a ≠ T.b → H' a = some o
  had : ∀ a, H' a = none → H a = none
theorem Kp.refl {T : Tn} {F H : Hp} : Kp T F H F H := ⟨Same.refl F, fun _ _ h => .inl h, fun _ _ h _ _ => h, fun _ h => h⟩
theorem Kp.trans {T : Tn} {F H F1 H1 F2 H2 : Hp} (a : Kp T F H F1 H1) (b : Kp T F1 H1 F2 H2) : Kp T F H F2 H2 :=
  ⟨a.1.trans b.1, fun c o h => (b.new c o h).elim (fun q => a.new c o q) fun q => .inr (a.had c q), fun c o h n1 n2 => b.old c o (a.old c o h n1 n2) n1 n2, fun c h => a.had c (b.had c h)⟩
theorem Kp.of {K : PySem.W.Frag} {T : Tn} {F H F' H' : Hp} {t : Tw} (b : RelH K T F H F' t H') : Kp T F H F' H' := ⟨b.base, b.new, b.old, b.had⟩
abbrev RelP (P : Pm) (F : Hp) (r : Rho) (t : Tw) (σ : L2.St) (H : Hp) : Prop := Rel P.K P.T P.F0 P.H0 F r t σ H
theorem Kp.relH {P : Pm} {F H F' H' : Hp} {r : Rho} {t : Tw} {σ : L2.St} (k : Kp P.T F H F' H') (R : RelP P F' r t σ H') : RelH P.K P.T F H F' t H' := ⟨R.sub, k.new, k.base, k.old, k.had, R.tw, R.tF1, R.tF2, R.sc⟩
/-- borne by a frozen value, or by an object of the def's own -/
def RpB (P : Pm) (F : Hp) (r : Rho) (σ : L2.St) (v : V) (d : D) : Prop := Rp P.K P.T F v d ∨ ∃ i : Nat, r[i]? = some (.own d) ∧ σ[i]? = some (some v)
def tD (P : Pm) (f : Rho → Tw → Res D) : TE := fun σ H Q => ∃ F r t, RelP P F r t σ H ∧ Aft P F (f r t) fun d t' => ∀ v F' H', Kp P.T F H F' H' → RelP P F' r t' σ H' → Rp P.K P.T F' v d → Q v H'
def tB (P : Pm) (f : Rho → Tw → Res D) : TE := fun σ H Q => ∃ F r t, RelP P F r t σ H ∧ Aft P F (f r t) fun d t' => ∀ v F' H', Kp P.T F H F' H' → RelP P F' r t' σ H' → RpB P F' r σ v d → Q v H'
def tDs (P : Pm) (f : Rho → Tw → Res (List D)) : TA := fun σ H Q => ∃ F r t, RelP P F r t σ H ∧ Aft P F (f r t) fun ds t' => ∀ vs F' H', Kp P.T F H F' H' → RelP P F' r t' σ H' → RpL P.K P.T F' vs ds → Q vs H'
theorem peMono {X : Cx} {e : Expr} {t u : TE} (h : PE X e t) (i : ∀ σ H Q, u σ H Q → t σ H Q) : PE X e u := ⟨fun pins s σ H Q I q => h.run pins s σ H Q I (i σ H Q q)⟩
theorem paMono {X : Cx} {e : List Expr} {t u : TA} (h : PA X e t) (i : ∀ σ H Q, u σ H Q → t σ H Q) : PA X e u := ⟨fun pos pins s σ H Q I q => h.run pos pins s σ H Q I (i σ H Q q)⟩
theorem ptMono {X : Cx} {e : Expr} {t u : TT} (h : PT X e t) (i : ∀ σ H Q, u σ H Q → t σ H Q) : PT X e u := ⟨fun pins s σ H Q I q => h.run pins s σ H Q I (i σ H Q q)⟩
theorem psMono {X : Cx} {e : Stmt} {t u : TS} (h : PS X e t) (i : ∀ D σ H, u D σ H → t D σ H) : PS X e u := ⟨fun pins s σ H D I q => h.run pins s σ H D I (i D σ H q)⟩
theorem pssMono {X : Cx} {e : List Stmt} {t u : TS} (h : PSs X e t) (i : ∀ D σ H, u D σ H → t D σ H) : PSs X e u := ⟨fun pins s σ H D I q => h.run pins s σ H D I (i D σ H q)⟩
section
variable {P : Pm} {F F' H : Hp} {r : Rho} {t t' : Tw} {σ : L2.St} {v : V}
theorem Aft.mono {α : Type} {res : Res α} {Z Z' : α → Tw → Prop} (h : Aft P F res Z) (i : ∀ a t, Z a t → Z' a t) : Aft P F res Z' := by
  cases res with
  | ok a t => exact i a t h
  | exc n t => exact h
  | bad => exact h
/-- one step, then another -/
theorem Aft.bind {α β : Type} {res : Res α} {f : α → Tw → Res β} {Z : β → Tw → Prop} (h : Aft P F (res.bind f) Z) : Aft P F res fun a t => Aft P F (f a t) Z := by
  cases res with
  | ok a t => exact h
  | exc n t => exact h
  | bad => exact h
theorem Aft.thn {α β : Type} {res : Res α} {f : α → Tw → Res β} {Z : β → Tw → Prop} (h : Aft P F res fun a t => Aft P F (f a t) Z) : Aft P F (res.bind f) Z := by
  cases res with
  | ok a t => exact h
  | exc n t => exact h
  | bad => exact h
theorem Aft.up {α : Type} {res : Res α} {Z : α → Tw → Prop} (h : Aft P F res Z) (s : Same F F') : Aft P F' res Z := by
  cases res with
  | ok a t => exact h
  | exc n t => exact fun F2 H2 q => h F2 H2 (s.trans q)
  | bad => exact h
theorem Aft.lift {α : Type} {o : Option α} {Z : α → Tw → Prop} (h : Aft P F (Fm.lift o t) Z) : ∃ a, o = some a ∧ Z a t := by
  cases o with
  | none => exact h.elim
  | some a => exact ⟨a, rfl, h⟩
theorem RpB.mono (s : Same F F') {d : D} (h : RpB P F r σ v d) : RpB P F' r σ v d := h.elim (fun q => .inl (q.mono s)) .inr
theorem RpB.of {d : D} (h : Rp P.K P.T F v d) : RpB P F r σ v d := .inl h
theorem RpB.lst (R : RelP P F r t σ H) {ds : List D} (h : RpB P F r σ v (.lst ds)) : ∃ a xs, v = .ref a ∧ H a = some (.lst xs) ∧ xs.length ≤ sizeLine ∧ RpL P.K P.T F xs ds := by
  rcases h with h | ⟨i, h1, h2⟩
  · cases h with
    | lst h z q => exact ⟨_, _, rfl, R.sub _ _ h, z, q⟩
  · obtain ⟨p, e, o⟩ := R.own i _ h1
    rw [e] at h2
    cases h2
    obtain ⟨vs, a, b, c⟩ := o.at_
    exact ⟨p, vs, rfl, a, b, c⟩
theorem RpB.dct (R : RelP P F r t σ H) {ds : List (Key × D)} (h : RpB P F r σ v (.dct ds)) : ∃ a kvs, v = .ref a ∧ H a = some (.dK kvs) ∧ RpK P.K P.T F kvs ds := by
  rcases h with h | ⟨i, h1, h2⟩
  · cases h with
    | dct h q => exact ⟨_, _, rfl, R.sub _ _ h, q⟩
  · obtain ⟨p, e, o⟩ := R.own i _ h1
    rw [e] at h2
    cases h2
    obtain ⟨vs, a, b, c⟩ := o.at_
    exact ⟨p, vs, rfl, a, c⟩
theorem RpB.rp (R : RelP P F r t σ H) {d : D} (h : RpB P F r σ v d) (n1 : ∀ ds, d ≠ .lst ds) (n2 : ∀ ds, d ≠ .dct ds) : Rp P.K P.T F v d := by
  rcases h with h | ⟨i, h1, h2⟩
  · exact h
  · obtain ⟨p, e, o⟩ := R.own i _ h1
    have q := o.at_
    cases d with
    | lst ds => exact absurd rfl (n1 ds)
    | dct ds => exact absurd rfl (n2 ds)
    | _ => exact q.elim
theorem RpB.int (R : RelP P F r t σ H) {i : Int} (h : RpB P F r σ v (.int i)) : v = .int i := by
  cases h.rp R (fun _ z => by cases z) (fun _ z => by cases z)
  rfl
theorem RpB.bl (R : RelP P F r t σ H) {i : Bool} (h : RpB P F r σ v (.bl i)) : v = .bl i := by
  cases h.rp R (fun _ z => by cases z) (fun _ z => by cases z)
  rfl
theorem RpB.str (R : RelP P F r t σ H) {i : Str} (h : RpB P F r σ v (.str i)) : v = .str i := by
  cases h.rp R (fun _ z => by cases z) (fun _ z => by cases z)
  rfl
theorem RpB.tup (R : RelP P F r t σ H) {ds : List D} (h : RpB P F r σ v (.tup ds)) : ∃ a xs, v = .ref a ∧ SqT P.K F a xs ∧ xs.length ≤ sizeLine ∧ RpL P.K P.T F xs ds := by
  cases h.rp R (fun _ z => by cases z) (fun _ z => by cases z) with
  | tup h2 z q => exact ⟨_, _, rfl, h2, z, q⟩
/-- deep data, whoever has it -/
theorem RpB.dp (R : RelP P F r t σ H) {d : D} (h : RpB P F r σ v d) (l : lay d = true) : Dp P.K H v d.py := by
  cases d with
  | lst ds =>
    obtain ⟨a, xs, rfl, e, _, q⟩ := h.lst R
    exact .lst (SqL.of e) (q.dp R.sub (by simpa only [lay, D.py, PyData.canLay0] using l))
  | dct ds => simp [lay, D.py, PyData.canLay0] at l
  | _ => exact (h.rp R (fun _ z => by cases z) (fun _ z => by cases z)).dp R.sub l
theorem okLen_le {n : Nat} (h : okLen n = true) : n ≤ sizeLine := by
  rw [sizeLine_eq]
  exact of_decide_eq_true h
/-- a test's value -/
theorem RpB.tru (R : RelP P F r t σ H) {d : D} {b : Bool} (h : RpB P F r σ v d) (e : truD d = some b) : TruV P.K v H b := by
  cases d with
  | lst ds =>
    obtain ⟨a, xs, rfl, e2, _, q⟩ := h.lst R
    cases e
    exact .inl ⟨_, SqL.of e2, by cases q <;> rfl⟩
  | dct ds =>
    obtain ⟨a, xs, rfl, e2, q⟩ := h.dct R
    cases e
    exact .inr (.inr ⟨_, e2, by cases q <;> rfl⟩)
  | tup ds =>
    obtain ⟨a, xs, rfl, e2, _, q⟩ := h.tup R
    cases e
    exact .inr (.inl ⟨_, sqT_mono R.sub e2, by cases q <;> rfl⟩)
  | str x =>
    obtain rfl := h.str R
    have e : (if okLen x.length = true then some ((x.length : Int) != 0) else none) = some b := e
    split at e
    · rename_i hl
      cases e
      exact ⟨okLen_le hl, rfl⟩
    · cases e
  | non =>
    cases h.rp R (fun _ z => by cases z) (fun _ z => by cases z)
    cases e
    rfl
  | bl x =>
    obtain rfl := h.bl R
    cases e
    rfl
  | int x =>
    obtain rfl := h.int R
    cases e
    rfl
  | tok => cases e
  | scr ns =>
    cases h.rp R (fun _ z => by cases z) (fun _ z => by cases z)
    cases e
    exact .inl ⟨_, sqL_mono R.sub R.sc, by cases P.T.ns <;> rfl⟩
/-! ### one operand, two operands -/
theorem tB_tD {f : Rho → Tw → Res D} {X : Cx} {e : Expr} (h : PE X e (tD P f)) : PE X e (tB P f) := peMono h fun σ H Q ⟨F, r, t, R, q⟩ =>
  ⟨F, r, t, R, q.mono fun d t' q v F' H' s R' h => q v F' H' s R' (.inl h)⟩
theorem op1 {fa : Rho → Tw → Res D} {f : D → Option D} {rr : V → Hp → VK → Prop}
    (hr : ∀ {x : V} {dx d : D} {F : Hp} {r : Rho} {t : Tw} {σ : L2.St} {H : Hp} {Q : VK}, f dx = some d → RelP P F r t σ H → RpB P F r σ x dx →
      (∀ v F' H', Kp P.T F H F' H' → RelP P F' r t σ H' → Rp P.K P.T F' v d → Q v H') → rr x H Q) (σ : L2.St) (H : Hp) (Q : VK)
    (h : tD P (fun r t => (fa r t).bind fun x t1 => Fm.lift (f x) t1) σ H Q) : tUn rr (tB P fa) σ H Q := by
  obtain ⟨F, r, t, R, h⟩ := h
  refine ⟨F, r, t, R, h.bind.mono fun dx t1 h v F1 H1 s1 R1 rx => ?_⟩
  obtain ⟨d, e, q⟩ := h.lift
  exact hr e R1 rx fun v F' H' s R' h => q v F' H' (s1.trans s) R' h
theorem op2 {fa fb : Rho → Tw → Res D} {f : D → D → Option D} {rr : R2}
    (hr : ∀ {x y : V} {dx dy d : D} {F : Hp} {r : Rho} {t : Tw} {σ : L2.St} {H : Hp} {Q : VK}, f dx dy = some d → RelP P F r t σ H → RpB P F r σ x dx → RpB P F r σ y dy →
      (∀ v F' H', Kp P.T F H F' H' → RelP P F' r t σ H' → Rp P.K P.T F' v d → Q v H') → rr x y H Q) (σ : L2.St) (H : Hp) (Q : VK)
    (h : tD P (fun r t => (fa r t).bind fun x t1 => (fb r t1).bind fun y t2 => Fm.lift (f x y) t2) σ H Q) : tOp rr (tB P fa) (tB P fb) σ H Q := by
  obtain ⟨F, r, t, R, h⟩ := h
  refine ⟨F, r, t, R, h.bind.mono fun dx t1 h v F1 H1 s1 R1 rx => ?_⟩
  refine ⟨F1, r, t1, R1, (h.up s1.1).bind.mono fun dy t2 h w F2 H2 s2 R2 ry => ?_⟩
  obtain ⟨d, e, q⟩ := h.lift
  exact hr e R2 (rx.mono s2.1) ry fun v F' H' s R' h => q v F' H' (s1.trans (s2.trans s)) R' h
/-- a new tuple -/
theorem mkTup {xs : List V} {ds : List D} {Q : VK} (R : RelP P F r t σ H) (z : xs.length ≤ sizeLine) (q : RpL P.K P.T F xs ds) (h : ∀ v F' H', Kp P.T F H F' H' → RelP P F' r t σ H' → Rp P.K P.T F' v (.tup ds) → Q v H') :
    ∀ p, H p = none → Q (.ref p) (upd H p (.tup xs)) := fun p hp => by
  have b := R.toRelH.newF (o := .tup xs) hp
  exact h _ _ _ (Kp.of b) (R.step b) (.tup (SqT.of upd_same) z (q.mono b.base))
/-- a new list, frozen -/
theorem mkLst {xs : List V} {ds : List D} {Q : VK} (R : RelP P F r t σ H) (z : xs.length ≤ sizeLine) (q : RpL P.K P.T F xs ds) (h : ∀ v F' H', Kp P.T F H F' H' → RelP P F' r t σ H' → Rp P.K P.T F' v (.lst ds) → Q v H') :
    ∀ p, H p = none → Q (.ref p) (upd H p (.lst xs)) := fun p hp => by
  have b := R.toRelH.newF (o := .lst xs) hp
  exact h _ _ _ (Kp.of b) (R.step b) (.lst upd_same z (q.mono b.base))
end
/-! ### operators -/
section
variable {P : Pm} {X : Cx} {a b : Expr} {pos : Pos} {fa fb : Rho → Tw → Res D}
abbrev rAddA (K : PySem.W.Frag) : R2 := fun x y H Q => (rI0 fun i j => .int (i + j)) x y H Q ∨ ((fun x y H Q => ∃ i j, x = .str i ∧ y = .str j ∧ i.length + j.length ≤ sizeLine ∧ Q (.str (i ++ j)) H : R2) x y H Q ∨ rCatA K x y H Q)
theorem s_add (hK : X.K = P.K) (ha : PE X a (tB P fa)) (hb : PE X b (tB P fb)) : PE X (.BinOp a .Add b pos) (tD P fun r t => (fa r t).bind fun x t1 => (fb r t1).bind fun y t2 => Fm.lift (addD x y) t2) := by
  refine peMono (pe_op (OpR.or op_add (OpR.or op_add_str op_catA)) ha hb) (op2 fun {x y dx dy d F r t σ H Q} e R rx ry q => ?_)
  cases dx with
  | int i =>
    cases dy with
    | int j =>
      cases e
      exact .inl ⟨i, j, rx.int R, ry.int R, q _ _ _ Kp.refl R (.int _)⟩
    | _ => cases e
  | str i =>
    cases dy with
    | str j =>
      simp only [addD] at e
      split at e
      · rename_i hl
        cases e
        exact .inr (.inl ⟨i, j, rx.str R, ry.str R, okLen_le hl, q _ _ _ Kp.refl R (.str _)⟩)
      · cases e
    | _ => cases e
  | tup xs =>
    cases dy with
    | tup ys =>
      simp only [addD] at e
      split at e
      · rename_i hl
        cases e
        obtain ⟨p1, v1, rfl, e1, z1, q1⟩ := rx.tup R
        obtain ⟨p2, v2, rfl, e2, z2, q2⟩ := ry.tup R
        have hl2 : v1.length + v2.length ≤ sizeLine := by
          rw [q1.length, q2.length]
          exact okLen_le hl
        rw [hK]
        refine .inr (.inr ⟨p1, p2, v1, v2, rfl, rfl, sqT_mono R.sub e1, sqT_mono R.sub e2, hl2, fun h0 => ?_, fun _ h0 => ?_, fun _ _ => ?_⟩)
        · subst h0
          cases q1
          exact q _ _ _ Kp.refl R (.tup e2 z2 q2)
        · subst h0
          cases q2
          refine q _ _ _ Kp.refl R ?_
          rw [List.append_nil]
          exact .tup e1 z1 q1
        · exact mkTup R (by rw [List.length_append]; exact hl2) (q1.append q2) q
      · cases e
    | _ => cases e
  | _ => cases e
theorem s_cat (ha : PE X a (tB P fa)) (hb : PE X b (tB P fb)) : PE X (.BinOp a .Add b pos) (tD P fun r t => (fa r t).bind fun x t1 => (fb r t1).bind fun y t2 => Fm.lift (catD x y) t2) := by
  refine peMono (pe_op op_cat ha hb) (op2 fun {x y dx dy d F r t σ H Q} e R rx ry q => ?_)
  cases dx with
  | lst xs =>
    cases dy with
    | lst ys =>
      simp only [catD] at e
      split at e
      · rename_i hl
        cases e
        obtain ⟨p1, v1, rfl, e1, z1, q1⟩ := rx.lst R
        obtain ⟨p2, v2, rfl, e2, z2, q2⟩ := ry.lst R
        have hl2 : v1.length + v2.length ≤ sizeLine := by
          rw [q1.length, q2.length]
          exact okLen_le hl
        exact ⟨p1, p2, v1, v2, rfl, rfl, e1, e2, hl2, mkLst R (by rw [List.length_append]; exact hl2) (q1.append q2) q⟩
      · cases e
    | _ => cases e
  | _ => cases e
/-- an operator upon two ints -/
theorem s_int2 {op : Operator} {f : D → D → Option D} {C : Int → Int → Prop} {g : Int → Int → Int} (ho : OpR X (binaryOp op) (rI C fun i j => .int (g i j)))
    (hf : ∀ dx dy d, f dx dy = some d → ∃ i j, dx = .int i ∧ dy = .int j ∧ C i j ∧ d = .int (g i j)) (ha : PE X a (tB P fa)) (hb : PE X b (tB P fb)) :
    PE X (.BinOp a op b pos) (tD P fun r t => (fa r t).bind fun x t1 => (fb r t1).bind fun y t2 => Fm.lift (f x y) t2) := by
  refine peMono (pe_op ho ha hb) (op2 fun {x y dx dy d F r t σ H Q} e R rx ry q => ?_)
  obtain ⟨i, j, rfl, rfl, c, rfl⟩ := hf dx dy d e
  exact ⟨i, j, rx.int R, ry.int R, c, q _ _ _ Kp.refl R (.int _)⟩
theorem s_sub (ha : PE X a (tB P fa)) (hb : PE X b (tB P fb)) : PE X (.BinOp a .Sub b pos) (tD P fun r t => (fa r t).bind fun x t1 => (fb r t1).bind fun y t2 => Fm.lift (subD x y) t2) := by
  refine peMono (pe_op op_sub ha hb) (op2 fun {x y dx dy d F r t σ H Q} e R rx ry q => ?_)
  cases dx with
  | int i =>
    cases dy with
    | int j =>
      cases e
      exact ⟨i, j, rx.int R, ry.int R, q _ _ _ Kp.refl R (.int _)⟩
    | _ => cases e
  | _ => cases e
theorem s_mul (ha : PE X a (tB P fa)) (hb : PE X b (tB P fb)) : PE X (.BinOp a .Mult b pos) (tD P fun r t => (fa r t).bind fun x t1 => (fb r t1).bind fun y t2 => Fm.lift (mulD x y) t2) :=
  s_int2 op_mulW (fun dx dy d e => by
    cases dx with
    | int i =>
      cases dy with
      | int j =>
        simp only [mulD] at e
        split at e
        · rename_i h
          cases e
          exact ⟨i, j, rfl, rfl, (of_decide_eq_true h : i.natAbs.log2 + j.natAbs.log2 < 1000000), rfl⟩
        · cases e
      | _ => cases e
    | _ => cases e) ha hb
def CDivA (_ j : Int) : Prop := j ≠ 0 ∧ j.natAbs.log2 < 9000
theorem op_fdivA : OpR X (binaryOp .FloorDiv) (rI CDivA fun i j => .int (i.fdiv j)) := opI fun i j _ _ _ _ _ hc q => floordiv_int hc.1 q (.inl (PyProof.noPylong_of_log2 hc.2))
theorem s_fdiv (ha : PE X a (tB P fa)) (hb : PE X b (tB P fb)) : PE X (.BinOp a .FloorDiv b pos) (tD P fun r t => (fa r t).bind fun x t1 => (fb r t1).bind fun y t2 => Fm.lift (fdivD x y) t2) :=
  s_int2 op_fdivA (fun dx dy d e => by
    cases dx with
    | int i =>
      cases dy with
      | int j =>
        simp only [fdivD] at e
        split at e
        · rename_i h
          cases e
          have h2 := Bool.and_eq_true_iff.mp h
          exact ⟨i, j, rfl, rfl, ⟨of_decide_eq_true h2.1, of_decide_eq_true h2.2⟩, rfl⟩
        · cases e
      | _ => cases e
    | _ => cases e) ha hb
theorem s_mod (ha : PE X a (tB P fa)) (hb : PE X b (tB P fb)) : PE X (.BinOp a .Mod b pos) (tD P fun r t => (fa r t).bind fun x t1 => (fb r t1).bind fun y t2 => Fm.lift (modD x y) t2) :=
  s_int2 op_modN (fun dx dy d e => by
    cases dx with
    | int i =>
      cases dy with
      | int j =>
        simp only [modD] at e
        split at e
        · cases e
        · rename_i h
          cases e
          exact ⟨i, j, rfl, rfl, h, rfl⟩
      | _ => cases e
    | _ => cases e) ha hb
theorem okPow_c {i j : Int} (h : okPow i j = true) : CPow i j := by
  have h1 := Bool.and_eq_true_iff.mp h
  have h2 := Bool.and_eq_true_iff.mp h1.1
  exact ⟨of_decide_eq_true h2.1, of_decide_eq_true h2.2, of_decide_eq_true h1.2⟩
theorem s_pow (ha : PE X a (tB P fa)) (hb : PE X b (tB P fb)) : PE X (.BinOp a .Pow b pos) (tD P fun r t => (fa r t).bind fun x t1 => (fb r t1).bind fun y t2 => Fm.lift (powD x y) t2) :=
  s_int2 op_pow (fun dx dy d e => by
    cases dx with
    | int i =>
      cases dy with
      | int j =>
        simp only [powD] at e
        split at e
        · rename_i h
          cases e
          exact ⟨i, j, rfl, rfl, okPow_c h, rfl⟩
        · cases e
      | _ => cases e
    | _ => cases e) ha hb
theorem s_shl (ha : PE X a (tB P fa)) (hb : PE X b (tB P fb)) : PE X (.BinOp a .LShift b pos) (tD P fun r t => (fa r t).bind fun x t1 => (fb r t1).bind fun y t2 => Fm.lift (shlD x y) t2) :=
  s_int2 op_shl (fun dx dy d e => by
    cases dx with
    | int i =>
      cases dy with
      | int j =>
        simp only [shlD] at e
        split at e
        · rename_i h
          cases e
          exact ⟨i, j, rfl, rfl, okPow_c h, rfl⟩
        · cases e
      | _ => cases e
    | _ => cases e) ha hb
theorem s_neg (ha : PE X a (tB P fa)) : PE X (.UnaryOp .USub a pos) (tD P fun r t => (fa r t).bind fun x t1 => Fm.lift (negD x) t1) := by
  refine peMono (pe_un un_neg ha) (op1 fun {x dx d F r t σ H Q} e R rx q => ?_)
  cases dx with
  | int i =>
    cases e
    exact ⟨i, rx.int R, q _ _ _ Kp.refl R (.int _)⟩
  | _ => cases e
end
end Fm

/-! ### comparisons, tests, subscripts, displays, built-in calls -/
namespace Fm
open PySem PySem.Spec PyProof.Rows L2
theorem pys_map : ∀ xs : List D, pys xs = xs.map D.py
  | [] => by simp only [pys, List.map_nil]
  | x :: xs => by simp only [pys, List.map_cons, pys_map xs]
theorem layAll : ∀ xs : List D, PyData.canLayAll0 (pys xs) = xs.all lay
  | [] => by simp only [pys, PyData.canLayAll0, List.all_nil]
  | x :: xs => by simp only [pys, PyData.canLayAll0, List.all_cons, layAll xs, lay]
section
variable {P : Pm} {X : Cx}
/-- an operator by data: its rule, and that the rule gives what f says -/
def OpS (P : Pm) (X : Cx) (g : Value → Value → Sem Value) (f : D → D → Option D) : Prop :=
  ∃ rr : R2, OpR X g rr ∧ ∀ {x y : V} {dx dy d : D} {F : Hp} {r : Rho} {t : Tw} {σ : L2.St} {H : Hp} {Q : VK}, f dx dy = some d → RelP P F r t σ H → RpB P F r σ x dx → RpB P F r σ y dy →
      (∀ v F' H', Kp P.T F H F' H' → RelP P F' r t σ H' → Rp P.K P.T F' v d → Q v H') → rr x y H Q
theorem intCmp {op : CmpOp} {g : Int → Int → Bool} {f : D → D → Option D} (ho : OpR X (compareOp op) (rI0 fun i j => .bl (g i j))) (hf : ∀ dx dy d, f dx dy = some d → ∃ i j, dx = .int i ∧ dy = .int j ∧ d = .bl (g i j)) : OpS P X (compareOp op) f := by
  refine ⟨_, ho, fun {x y dx dy d F r t σ H Q} e R rx ry q => ?_⟩
  obtain ⟨i, j, rfl, rfl, rfl⟩ := hf dx dy d e
  exact ⟨i, j, rx.int R, ry.int R, q _ _ _ Kp.refl R (.bl _)⟩
def rEqA (K : PySem.W.Frag) (u : Nat) (neg : Bool) : R2 := fun x y H Q => ∃ d e, Dp K H x d ∧ Dp K H y e ∧ d.canLay0 = true ∧ e.canLay0 = true ∧ u + min d.depth e.depth < cLine ∧ Q (.bl (if neg then !PyData.eqv d e else PyData.eqv d e)) H
theorem op_eqA : OpR X (compareOp .Eq) (rEqA X.K X.A.units false) := by
  intro pins s σ H x y v u Q I rx ry h
  obtain ⟨d, e, hd, he, sd, se, hu, q⟩ := h
  obtain ⟨as, r1⟩ := Dp.reads I d x v hd rx
  obtain ⟨bs, r2⟩ := Dp.reads I e y u he ry
  exact SeqAt.compareEq_reads r1 r2 sd se hu ⟨.bl _, H, I, rfl, q⟩
theorem op_neA : OpR X (compareOp .NotEq) (rEqA X.K X.A.units true) := by
  intro pins s σ H x y v u Q I rx ry h
  obtain ⟨d, e, hd, he, sd, se, hu, q⟩ := h
  obtain ⟨as, r1⟩ := Dp.reads I d x v hd rx
  obtain ⟨bs, r2⟩ := Dp.reads I e y u he ry
  exact SeqAt.compareNe_reads r1 r2 sd se hu ⟨.bl _, H, I, rfl, q⟩
theorem okEq_parts {a b : D} (h : okEq a b = true) : lay a = true ∧ lay b = true ∧ min (dep a) (dep b) ≤ 190 := by
  have h1 := Bool.and_eq_true_iff.mp h
  have h2 := Bool.and_eq_true_iff.mp h1.1
  exact ⟨h2.1, h2.2, of_decide_eq_true h1.2⟩
def rInA (K : PySem.W.Frag) (u : Nat) (neg : Bool) : R2 := fun x y H Q => ∃ d ds, Dp K H x d ∧ (Dp K H y (.tuple ds) ∨ Dp K H y (.list ds)) ∧ d.canLay0 = true ∧ PyData.canLayAll0 ds = true ∧ u + 1 + min (PyData.depthAll ds) d.depth < cLine ∧
  Q (.bl (if neg then !(ds.any fun z => PyData.eqv z d) else ds.any fun z => PyData.eqv z d)) H
theorem op_inA : OpR X (compareOp .In) (rInA X.K X.A.units false) := by
  intro pins s σ H x y v u Q I rx ry h
  obtain ⟨d, ds, hd, he, sd, se, hu, q⟩ := h
  obtain ⟨as, r1⟩ := Dp.reads I d x v hd rx
  rcases he with he | he
  · obtain ⟨bs, r2⟩ := Dp.reads I (.tuple ds) y u he ry
    exact SeqAt.in_tuple_reads r2 r1 se sd hu ⟨.bl _, H, I, rfl, q⟩
  · obtain ⟨bs, r2⟩ := Dp.reads I (.list ds) y u he ry
    exact SeqAt.in_list_reads r2 r1 se sd hu ⟨.bl _, H, I, rfl, q⟩
theorem op_notInA : OpR X (compareOp .NotIn) (rInA X.K X.A.units true) := by
  intro pins s σ H x y v u Q I rx ry h
  obtain ⟨d, ds, hd, he, sd, se, hu, q⟩ := h
  obtain ⟨as, r1⟩ := Dp.reads I d x v hd rx
  rcases he with he | he
  · obtain ⟨bs, r2⟩ := Dp.reads I (.tuple ds) y u he ry
    exact SeqAt.notIn_tuple_reads r2 r1 se sd hu ⟨.bl _, H, I, rfl, q⟩
  · obtain ⟨bs, r2⟩ := Dp.reads I (.list ds) y u he ry
    exact SeqAt.notIn_list_reads r2 r1 se sd hu ⟨.bl _, H, I, rfl, q⟩
theorem inB_seq {a : D} {xs : List D} {c : Bool} (h : (if lay a && (xs.all lay) && decide (dep a ≤ 190) then some (xs.any fun z => eqD z a) else none) = some c) :
    lay a = true ∧ PyData.canLayAll0 (pys xs) = true ∧ dep a ≤ 190 ∧ c = (pys xs).any fun z => PyData.eqv z a.py := by
  split at h
  · rename_i h1
    have h2 := Bool.and_eq_true_iff.mp h1
    have h3 := Bool.and_eq_true_iff.mp h2.1
    cases h
    refine ⟨h3.1, (layAll xs).trans h3.2, of_decide_eq_true h2.2, ?_⟩
    rw [pys_map, List.any_map]
    rfl
  · cases h
/-- x in y, by data -/
theorem inS {neg : Bool} {F : Hp} {r : Rho} {t : Tw} {σ : L2.St} {H : Hp} {x y : V} {dx dy : D} {c : Bool} {Q : VK} {u : Nat} (hu : u + 200 < cLine) (e : inB dx dy = some c) (R : RelP P F r t σ H) (rx : RpB P F r σ x dx) (ry : RpB P F r σ y dy)
    (q : Q (.bl (if neg then !c else c)) H) : rInA P.K u neg x y H Q ∨ ∃ (c : Nat) (z : Str), x = .str ⟨#[c]⟩ ∧ y = .str z ∧ Q (.bl (if neg then !decide (c ∈ z.cps.toList) else decide (c ∈ z.cps.toList))) H := by
  cases dy with
  | tup ys =>
    have e : (if lay dx && (ys.all lay) && decide (dep dx ≤ 190) then some (ys.any fun z => eqD z dx) else none) = some c := by
      cases dx <;> exact e
    obtain ⟨l1, l2, l3, rfl⟩ := inB_seq e
    refine .inl ⟨_, _, rx.dp R l1, .inl (ry.dp R (by simpa only [lay, D.py, PyData.canLay0] using l2)), l1, l2, ?_, q⟩
    have : min (PyData.depthAll (pys ys)) dx.py.depth ≤ 190 := Nat.le_trans (Nat.min_le_right _ _) l3
    omega
  | lst ys =>
    have e : (if lay dx && (ys.all lay) && decide (dep dx ≤ 190) then some (ys.any fun z => eqD z dx) else none) = some c := by
      cases dx <;> exact e
    obtain ⟨l1, l2, l3, rfl⟩ := inB_seq e
    refine .inl ⟨_, _, rx.dp R l1, .inr (ry.dp R (by simpa only [lay, D.py, PyData.canLay0] using l2)), l1, l2, ?_, q⟩
    have : min (PyData.depthAll (pys ys)) dx.py.depth ≤ 190 := Nat.le_trans (Nat.min_le_right _ _) l3
    omega
  | str z =>
    cases dx with
    | str w =>
      have e : (if decide (w.cps.size = 1) then some (decide (w.cps.getD 0 0 ∈ z.cps.toList)) else none) = some c := e
      split at e
      · rename_i h1
        cases e
        have h1 := of_decide_eq_true h1
        refine .inr ⟨w.cps.getD 0 0, z, ?_, ry.str R, q⟩
        rw [rx.str R]
        obtain ⟨w⟩ := w
        congr 2
        refine Array.ext (by simpa using h1) fun i h2 h3 => ?_
        have h2 : i < w.size := h2
        have h1 : w.size = 1 := h1
        have hi : i = 0 := by omega
        subst hi
        simp [h1]
      · cases e
    | _ => cases e
  | _ => cases dx <;> cases e
theorem cmpS (hK : X.K = P.K) (hu : X.A.units + 200 < cLine) (op : CmpOp) : OpS P X (compareOp op) (cmpD op) := by
  cases op with
  | Eq =>
    refine ⟨_, op_eqA, fun {x y dx dy d F r t σ H Q} e R rx ry q => ?_⟩
    simp only [cmpD, eqOp] at e
    split at e
    · rename_i h
      cases e
      obtain ⟨h1, h2, h3⟩ := okEq_parts h
      rw [hK]
      exact ⟨_, _, rx.dp R h1, ry.dp R h2, h1, h2, by show X.A.units + min (dep dx) (dep dy) < cLine; omega, q _ _ _ Kp.refl R (.bl _)⟩
    · cases e
  | NotEq =>
    refine ⟨_, op_neA, fun {x y dx dy d F r t σ H Q} e R rx ry q => ?_⟩
    simp only [cmpD, neOp] at e
    split at e
    · rename_i h
      cases e
      obtain ⟨h1, h2, h3⟩ := okEq_parts h
      rw [hK]
      exact ⟨_, _, rx.dp R h1, ry.dp R h2, h1, h2, by show X.A.units + min (dep dx) (dep dy) < cLine; omega, q _ _ _ Kp.refl R (.bl _)⟩
    · cases e
  | Lt =>
    refine ⟨_, OpR.or op_lt op_lt_str, fun {x y dx dy d F r t σ H Q} e R rx ry q => ?_⟩
    cases dx with
    | int i =>
      cases dy with
      | int j =>
        cases e
        exact .inl ⟨i, j, rx.int R, ry.int R, q _ _ _ Kp.refl R (.bl _)⟩
      | _ => cases e
    | str i =>
      cases dy with
      | str j =>
        cases e
        exact .inr ⟨i, j, rx.str R, ry.str R, q _ _ _ Kp.refl R (.bl _)⟩
      | _ => cases e
    | _ => cases dy <;> cases e
  | LtE => exact intCmp op_le fun dx dy d e => by cases dx <;> cases dy <;> first | (cases e; done) | (cases e; exact ⟨_, _, rfl, rfl, rfl⟩)
  | Gt => exact intCmp op_gt fun dx dy d e => by cases dx <;> cases dy <;> first | (cases e; done) | (cases e; exact ⟨_, _, rfl, rfl, rfl⟩)
  | GtE => exact intCmp op_ge fun dx dy d e => by cases dx <;> cases dy <;> first | (cases e; done) | (cases e; exact ⟨_, _, rfl, rfl, rfl⟩)
  | Is =>
    refine ⟨_, op_isN, fun {x y dx dy d F r t σ H Q} e R rx ry q => ?_⟩
    cases dy with
    | non =>
      have e : some (D.bl (isN dx)) = some d := e
      cases e
      cases ry.rp R (fun _ z => by cases z) (fun _ z => by cases z)
      refine ⟨rfl, ?_⟩
      have hx : decide (x = V.non) = isN dx := by
        rcases rx with rx | ⟨i, h1, h2⟩
        · cases rx <;> simp [isN]
        · obtain ⟨p, e, o⟩ := R.own i _ h1
          rw [e] at h2
          cases h2
          have := o.at_
          cases dx <;> first | exact this.elim | simp [isN]
      rw [hx]
      exact q _ _ _ Kp.refl R (.bl _)
    | _ => cases e
  | IsNot =>
    refine ⟨_, op_notN, fun {x y dx dy d F r t σ H Q} e R rx ry q => ?_⟩
    cases dy with
    | non =>
      have e : some (D.bl (!isN dx)) = some d := e
      cases e
      cases ry.rp R (fun _ z => by cases z) (fun _ z => by cases z)
      refine ⟨rfl, ?_⟩
      have hx : decide (x = V.non) = isN dx := by
        rcases rx with rx | ⟨i, h1, h2⟩
        · cases rx <;> simp [isN]
        · obtain ⟨p, e, o⟩ := R.own i _ h1
          rw [e] at h2
          cases h2
          have := o.at_
          cases dx <;> first | exact this.elim | simp [isN]
      rw [hx]
      exact q _ _ _ Kp.refl R (.bl _)
    | _ => cases e
  | In =>
    refine ⟨_, OpR.or op_inA op_in_sign, fun {x y dx dy d F r t σ H Q} e R rx ry q => ?_⟩
    obtain ⟨c, e1, rfl⟩ := Option.map_eq_some_iff.mp (show (inB dx dy).map D.bl = some d from e)
    rw [hK]
    exact inS (neg := false) hu e1 R rx ry (q _ _ _ Kp.refl R (.bl _))
  | NotIn =>
    refine ⟨_, OpR.or op_notInA op_notIn_sign, fun {x y dx dy d F r t σ H Q} e R rx ry q => ?_⟩
    obtain ⟨c, e1, rfl⟩ := Option.map_eq_some_iff.mp (show (inB dx dy).map (fun r => D.bl (!r)) = some d from e)
    rw [hK]
    exact inS (neg := true) hu e1 R rx ry (q _ _ _ Kp.refl R (.bl _))
theorem cmp_bl {op : CmpOp} {x y d : D} (h : cmpD op x y = some d) : ∃ b, d = .bl b := by
  have m : ∀ {o : Option Bool} {f : Bool → Bool}, (o.map fun r => D.bl (f r)) = some d → ∃ b, d = .bl b := fun {o f} h => by
    obtain ⟨b, _, e⟩ := Option.map_eq_some_iff.mp h
    exact ⟨_, e.symm⟩
  cases op with
  | Eq =>
    simp only [cmpD, eqOp] at h
    split at h <;> cases h
    exact ⟨_, rfl⟩
  | NotEq =>
    simp only [cmpD, neOp] at h
    split at h <;> cases h
    exact ⟨_, rfl⟩
  | In => exact m (f := id) h
  | NotIn => exact m (f := Bool.not) h
  | Lt => cases x <;> cases y <;> first | (cases h; done) | (cases h; exact ⟨_, rfl⟩)
  | LtE => cases x <;> cases y <;> first | (cases h; done) | (cases h; exact ⟨_, rfl⟩)
  | Gt => cases x <;> cases y <;> first | (cases h; done) | (cases h; exact ⟨_, rfl⟩)
  | GtE => cases x <;> cases y <;> first | (cases h; done) | (cases h; exact ⟨_, rfl⟩)
  | Is => cases y <;> first | (cases h; done) | (cases h; exact ⟨_, rfl⟩)
  | IsNot => cases y <;> first | (cases h; done) | (cases h; exact ⟨_, rfl⟩)
end
/-! ### tests -/
def tT (P : Pm) (f : Rho → Tw → Res D) : TT := fun σ H Q => ∃ F r t, RelP P F r t σ H ∧ Aft P F (f r t) fun d t' => ∃ b, truD d = some b ∧ ∀ F' H', Kp P.T F H F' H' → RelP P F' r t' σ H' → Q b H'
section
variable {P : Pm} {X : Cx} {a b c : Expr} {pos : Pos} {fa fb fc : Rho → Tw → Res D}
theorem t_plain (hK : X.K = P.K) (ha : PE X a (tB P fa)) (he : ∀ whole, isTrue a X.env whole = (do let v ← whole; standAt a.pos; holding [v] (truthy v))) : PT X a (tT P fa) :=
  ptMono (pt_truth ha he) fun σ H Q ⟨F, r, t, R, h⟩ => ⟨F, r, t, R, h.mono fun d t' ⟨b, e, q⟩ v F' H' s R' rv => ⟨b, by rw [hK]; exact rv.tru R' e, q F' H' s R'⟩⟩
theorem t_not (ha : PT X a (tT P fa)) : PT X (.UnaryOp .Not a pos) (tT P fun r t => (fa r t).bind fun x t1 => Fm.lift (notD x) t1) :=
  ptMono (pt_not ha) fun σ H Q ⟨F, r, t, R, h⟩ => ⟨F, r, t, R, h.bind.mono fun d t' h => by
    obtain ⟨e, h1, b, h2, q⟩ := h.lift
    obtain ⟨b2, h3, rfl⟩ := Option.map_eq_some_iff.mp h1
    cases h2
    exact ⟨b2, h3, q⟩⟩
theorem t_cmp (hK : X.K = P.K) (hu : X.A.units + 200 < cLine) {op : CmpOp} (ha : PE X a (tB P fa)) (hb : PE X b (tB P fb)) (hm : behindInMarks op b = false) :
    PT X (.Compare a [op] [b] pos) (tT P fun r t => (fa r t).bind fun x t1 => (fb r t1).bind fun y t2 => Fm.lift (cmpD op x y) t2) := by
  obtain ⟨rr, ho, hr⟩ := cmpS (P := P) hK hu op
  refine ptMono (pt_cmpR ho ha hb hm) fun σ H Q ⟨F, r, t, R, h⟩ => op2 (P := P) hr σ H _ ⟨F, r, t, R, ?_⟩
  refine Aft.thn (h.bind.mono fun dx t1 h => Aft.thn (h.bind.mono fun dy t2 h => ?_))
  obtain ⟨d, e, b, e2, q⟩ := h.lift
  obtain ⟨k, rfl⟩ := cmp_bl e
  cases e2
  rw [e]
  exact fun v F' H' s R' rv => by
    cases rv
    exact ⟨_, rfl, q F' H' s R'⟩
/-- a comparison as a value -/
theorem s_cmp (hK : X.K = P.K) (hu : X.A.units + 200 < cLine) {op : CmpOp} (ha : PE X a (tB P fa)) (hb : PE X b (tB P fb)) (hm : behindInMarks op b = false) :
    PE X (.Compare a [op] [b] pos) (tD P fun r t => (fa r t).bind fun x t1 => (fb r t1).bind fun y t2 => Fm.lift (cmpD op x y) t2) := by
  obtain ⟨rr, ho, hr⟩ := cmpS (P := P) hK hu op
  exact peMono (pe_cmpR ho ha hb hm) (op2 (P := P) hr)
def chainE (o1 o2 : CmpOp) (fa fb fc : Rho → Tw → Res D) (r : Rho) (t : Tw) : Res D := (fa r t).bind fun x t1 => (fb r t1).bind fun y t2 => match cmpD o1 x y with
    | some (.bl true) => (fc r t2).bind fun z t3 => Fm.lift (cmpD o2 y z) t3
    | some (.bl false) => .ok (.bl false) t2
    | _ => .bad
theorem chain_of {rr rr' : R2} {o1 o2 : CmpOp} (hr : ∀ {x y : V} {dx dy d : D} {F : Hp} {r : Rho} {t : Tw} {σ : L2.St} {H : Hp} {Q : VK}, cmpD o1 dx dy = some d → RelP P F r t σ H → RpB P F r σ x dx → RpB P F r σ y dy →
      (∀ v F' H', Kp P.T F H F' H' → RelP P F' r t σ H' → Rp P.K P.T F' v d → Q v H') → rr x y H Q)
    (hr' : ∀ {x y : V} {dx dy d : D} {F : Hp} {r : Rho} {t : Tw} {σ : L2.St} {H : Hp} {Q : VK}, cmpD o2 dx dy = some d → RelP P F r t σ H → RpB P F r σ x dx → RpB P F r σ y dy →
      (∀ v F' H', Kp P.T F H F' H' → RelP P F' r t σ H' → Rp P.K P.T F' v d → Q v H') → rr' x y H Q) (σ : L2.St) (H : Hp) (Q : VK) (h : tD P (chainE o1 o2 fa fb fc) σ H Q) : tChain rr rr' (tB P fa) (tB P fb) (tB P fc) σ H Q := by
  obtain ⟨F, r, t, R, h⟩ := h
  refine ⟨F, r, t, R, h.bind.mono fun dx t1 h v F1 H1 s1 R1 rx => ?_⟩
  refine ⟨F1, r, t1, R1, (h.up s1.1).bind.mono fun dy t2 h w F2 H2 s2 R2 ry => ?_⟩
  have h := h.up s2.1
  cases e : cmpD o1 dx dy with
  | none =>
    rw [e] at h
    exact h.elim
  | some d =>
    obtain ⟨k, rfl⟩ := cmp_bl e
    rw [e] at h
    refine hr e R2 (rx.mono s2.1) ry fun z F3 H3 s3 R3 rz => ?_
    cases rz
    refine ⟨k, rfl, ?_⟩
    cases k with
    | false => exact h _ _ _ (s1.trans (s2.trans s3)) R3 (.bl false)
    | true =>
      refine ⟨F3, r, t2, R3, ((show Aft P F2 ((fc r t2).bind fun z t3 => Fm.lift (cmpD o2 dy z) t3) _ from h).up s3.1).bind.mono fun dz t4 h u F4 H4 s4 R4 rz => ?_⟩
      obtain ⟨d4, e4, q⟩ := h.lift
      exact hr' e4 R4 (ry.mono (s3.trans s4).1) rz fun v F' H' s R' h => q v F' H' (s1.trans (s2.trans (s3.trans (s4.trans s)))) R' h
theorem s_chain (hK : X.K = P.K) (hu : X.A.units + 200 < cLine) {o1 o2 : CmpOp} (ha : PE X a (tB P fa)) (hb : PE X b (tB P fb)) (hc : PE X c (tB P fc)) (hm : lastMarks [o1, o2] [b, c] = false) :
    PE X (.Compare a [o1, o2] [b, c] pos) (tD P (chainE o1 o2 fa fb fc)) := by
  obtain ⟨rr, ho, hr⟩ := cmpS (P := P) hK hu o1
  obtain ⟨rr', ho', hr'⟩ := cmpS (P := P) hK hu o2
  exact peMono (pe_chain ho ho' ha hb hc hm) (chain_of hr hr')
theorem chain_bl {o1 o2 : CmpOp} {F : Hp} {r : Rho} {t : Tw} {Z : D → Tw → Prop} (h : Aft P F (chainE o1 o2 fa fb fc r t) Z) : Aft P F (chainE o1 o2 fa fb fc r t) fun d t => (∃ k, d = .bl k) ∧ Z d t := by
  unfold chainE at h ⊢
  refine Aft.thn (h.bind.mono fun dx t1 h => Aft.thn (h.bind.mono fun dy t2 h => ?_))
  cases e : cmpD o1 dx dy with
  | none =>
    rw [e] at h
    exact h.elim
  | some d =>
    obtain ⟨k, rfl⟩ := cmp_bl e
    rw [e] at h
    cases k with
    | false => exact ⟨⟨_, rfl⟩, h⟩
    | true =>
      refine Aft.thn ((show Aft P F ((fc r t2).bind fun z t3 => Fm.lift (cmpD o2 dy z) t3) _ from h).bind.mono fun dz t3 h => ?_)
      obtain ⟨d4, e4, q⟩ := h.lift
      rw [e4]
      exact ⟨cmp_bl e4, q⟩
theorem t_chain (hK : X.K = P.K) (hu : X.A.units + 200 < cLine) {o1 o2 : CmpOp} (ha : PE X a (tB P fa)) (hb : PE X b (tB P fb)) (hc : PE X c (tB P fc)) (hm : lastMarks [o1, o2] [b, c] = false) :
    PT X (.Compare a [o1, o2] [b, c] pos) (tT P (chainE o1 o2 fa fb fc)) := by
  obtain ⟨rr, ho, hr⟩ := cmpS (P := P) hK hu o1
  obtain ⟨rr', ho', hr'⟩ := cmpS (P := P) hK hu o2
  refine ptMono (pt_chain ho ho' ha hb hc hm) fun σ H Q ⟨F, r, t, R, h⟩ => chain_of hr hr' σ H _ ⟨F, r, t, R, (chain_bl h).mono fun d t' h => ?_⟩
  obtain ⟨⟨k, rfl⟩, b, e, q⟩ := h
  cases e
  exact fun v F' H' s R' rv => by
    cases rv
    exact ⟨_, rfl, q F' H' s R'⟩
/-! ### not, and, or, if as values -/
theorem s_not (hK : X.K = P.K) (ha : PE X a (tB P fa)) : PE X (.UnaryOp .Not a pos) (tD P fun r t => (fa r t).bind fun x t1 => Fm.lift (notD x) t1) :=
  peMono (pe_notT ha) fun σ H Q ⟨F, r, t, R, h⟩ => ⟨F, r, t, R, h.bind.mono fun d t' h v F' H' s R' rv => by
    obtain ⟨e, h1, q⟩ := h.lift
    obtain ⟨b2, h3, rfl⟩ := Option.map_eq_some_iff.mp h1
    exact ⟨b2, by rw [hK]; exact rv.tru R' h3, q _ _ _ s R' (.bl _)⟩⟩
def andE (fa fb : Rho → Tw → Res D) (r : Rho) (t : Tw) : Res D := (fa r t).bind fun x t1 => match truD x with
    | some true => fb r t1
    | some false => .ok x t1
    | none => .bad
def orE (fa fb : Rho → Tw → Res D) (r : Rho) (t : Tw) : Res D := (fa r t).bind fun x t1 => match truD x with
    | some true => .ok x t1
    | some false => fb r t1
    | none => .bad
def iteE (fc fa fb : Rho → Tw → Res D) (r : Rho) (t : Tw) : Res D := (fc r t).bind fun x t1 => match truD x with
    | some true => fa r t1
    | some false => fb r t1
    | none => .bad
variable {rest : List Expr}
theorem s_and (hK : X.K = P.K) (ha : PE X a (tD P fa)) (hb : PE X (.BoolOp .And (b :: rest) pos) (tD P fb)) : PE X (.BoolOp .And (a :: b :: rest) pos) (tD P (andE fa fb)) :=
  peMono (pe_andT ha hb) fun σ H Q ⟨F, r, t, R, h⟩ => ⟨F, r, t, R, h.bind.mono fun d t' h v F' H' s R' rv => by
    cases e : truD d with
    | none =>
      rw [e] at h
      exact h.elim
    | some k =>
      rw [e] at h
      refine ⟨k, by rw [hK]; exact (RpB.of (r := r) (σ := σ) rv).tru R' e, ?_⟩
      cases k with
      | true => exact ⟨F', r, t', R', ((show Aft P F (fb r t') _ from h).up s.1).mono fun d2 t2 q v2 F2 H2 s2 R2 rv2 => q v2 F2 H2 (s.trans s2) R2 rv2⟩
      | false => exact h v F' H' s R' rv⟩
theorem s_or (hK : X.K = P.K) (ha : PE X a (tD P fa)) (hb : PE X (.BoolOp .Or (b :: rest) pos) (tD P fb)) : PE X (.BoolOp .Or (a :: b :: rest) pos) (tD P (orE fa fb)) :=
  peMono (pe_orT ha hb) fun σ H Q ⟨F, r, t, R, h⟩ => ⟨F, r, t, R, h.bind.mono fun d t' h v F' H' s R' rv => by
    cases e : truD d with
    | none =>
      rw [e] at h
      exact h.elim
    | some k =>
      rw [e] at h
      refine ⟨k, by rw [hK]; exact (RpB.of (r := r) (σ := σ) rv).tru R' e, ?_⟩
      cases k with
      | false => exact ⟨F', r, t', R', ((show Aft P F (fb r t') _ from h).up s.1).mono fun d2 t2 q v2 F2 H2 s2 R2 rv2 => q v2 F2 H2 (s.trans s2) R2 rv2⟩
      | true => exact h v F' H' s R' rv⟩
theorem s_ite (hc : PT X c (tT P fc)) (ha : PE X a (tD P fa)) (hb : PE X b (tD P fb)) : PE X (.IfExp c a b pos) (tD P (iteE fc fa fb)) :=
  peMono (pe_ifExp hc ha hb) fun σ H Q ⟨F, r, t, R, h⟩ => ⟨F, r, t, R, h.bind.mono fun d t' h => by
    cases e : truD d with
    | none =>
      rw [e] at h
      exact h.elim
    | some k =>
      rw [e] at h
      refine ⟨k, rfl, fun F' H' s R' => ?_⟩
      cases k with
      | true => exact ⟨F', r, t', R', ((show Aft P F (fa r t') _ from h).up s.1).mono fun d2 t2 q v2 F2 H2 s2 R2 rv2 => q v2 F2 H2 (s.trans s2) R2 rv2⟩
      | false => exact ⟨F', r, t', R', ((show Aft P F (fb r t') _ from h).up s.1).mono fun d2 t2 q v2 F2 H2 s2 R2 rv2 => q v2 F2 H2 (s.trans s2) R2 rv2⟩⟩
/-- and, or as tests -/
theorem t_and (ha : PT X a (tT P fa)) (hb : PW X (.BoolOp .And (b :: rest) pos) (tT P fb)) : PW X (.BoolOp .And (a :: b :: rest) pos) (tT P (andE fa fb)) :=
  ⟨fun wh pins s0 σ H Q I ⟨F, r, t, R, h⟩ => (pw_and ha hb).run wh pins s0 σ H Q I ⟨F, r, t, R, h.bind.mono fun d t' h => by
    cases e : truD d with
    | none =>
      rw [e] at h
      exact h.elim
    | some k =>
      rw [e] at h
      refine ⟨k, rfl, fun F' H' s R' => ?_⟩
      cases k with
      | true => exact ⟨F', r, t', R', ((show Aft P F (fb r t') _ from h).up s.1).mono fun d2 t2 ⟨b2, e2, q⟩ => ⟨b2, e2, fun F2 H2 s2 R2 => q F2 H2 (s.trans s2) R2⟩⟩
      | false =>
        obtain ⟨b2, e2, q⟩ := h
        rw [e] at e2
        cases e2
        exact q F' H' s R'⟩⟩
theorem t_or (ha : PT X a (tT P fa)) (hb : PW X (.BoolOp .Or (b :: rest) pos) (tT P fb)) : PW X (.BoolOp .Or (a :: b :: rest) pos) (tT P (orE fa fb)) :=
  ⟨fun wh pins s0 σ H Q I ⟨F, r, t, R, h⟩ => (pw_or ha hb).run wh pins s0 σ H Q I ⟨F, r, t, R, h.bind.mono fun d t' h => by
    cases e : truD d with
    | none =>
      rw [e] at h
      exact h.elim
    | some k =>
      rw [e] at h
      refine ⟨k, rfl, fun F' H' s R' => ?_⟩
      cases k with
      | false => exact ⟨F', r, t', R', ((show Aft P F (fb r t') _ from h).up s.1).mono fun d2 t2 ⟨b2, e2, q⟩ => ⟨b2, e2, fun F2 H2 s2 R2 => q F2 H2 (s.trans s2) R2⟩⟩
      | true =>
        obtain ⟨b2, e2, q⟩ := h
        rw [e] at e2
        cases e2
        exact q F' H' s R'⟩⟩
end
end Fm

/-! ### subscripts, displays, built-in calls, dicts -/
namespace Fm
open PySem PySem.Spec PyProof.Rows L2
section
variable {P : Pm} {X : Cx} {a b c : Expr} {pos : Pos} {fa fb fc : Rho → Tw → Res D}
theorem atI_map {ns : List Int} {i v : Int} (e : atI ns i = some v) : atI (ns.map V.int) i = some (.int v) := by
  unfold atI at e ⊢
  rw [List.length_map]
  cases h : ixN ns.length i with
  | none =>
    rw [h] at e
    cases e
  | some j =>
    rw [h] at e
    have e : ns[j]? = some v := e
    show (ns.map V.int)[j]? = _
    rw [List.getElem?_map, e]
    rfl
theorem ix_nat {xs : List V} {ds : List D} {F : Hp} {i : Int} {d : D} (q : RpL P.K P.T F xs ds) (e : atI ds i = some d) : ∃ v, atI xs i = some v ∧ Rp P.K P.T F v d := by
  unfold atI at e ⊢
  rw [q.length]
  cases h : ixN ds.length i with
  | none =>
    rw [h] at e
    cases e
  | some j =>
    rw [h] at e
    obtain ⟨v, e2, r2⟩ := q.get (i := j) e
    exact ⟨v, e2, r2⟩
theorem s_ix (hK : X.K = P.K) (ha : PE X a (tB P fa)) (hb : PE X b (tB P fb)) (hs : PlainIx b) : PE X (.Subscript a b pos) (tD P fun r t => (fa r t).bind fun x t1 => (fb r t1).bind fun y t2 => Fm.lift (ixD x y) t2) := by
  refine peMono (pe_ix ix_seq ha hb hs) (op2 fun {x y dx dy d F r t σ H Q} e R rx ry q => ?_)
  cases dx with
  | tup xs =>
    cases dy with
    | int i =>
      obtain ⟨p1, v1, rfl, e1, z1, q1⟩ := rx.tup R
      obtain ⟨v, e2, r2⟩ := ix_nat q1 e
      rw [hK]
      exact .inr (.inl ⟨p1, v1, i, v, rfl, ry.int R, sqT_mono R.sub e1, e2, q _ _ _ Kp.refl R r2⟩)
    | _ => cases e
  | lst xs =>
    cases dy with
    | int i =>
      obtain ⟨p1, v1, rfl, e1, z1, q1⟩ := rx.lst R
      obtain ⟨v, e2, r2⟩ := ix_nat q1 e
      rw [hK]
      exact .inl ⟨p1, v1, i, v, rfl, ry.int R, SqL.of e1, e2, q _ _ _ Kp.refl R r2⟩
    | _ => cases e
  | str z =>
    cases dy with
    | int i =>
      have e : (if okLen z.length then (atI z.cps.toList i).map fun c => D.str ⟨#[c]⟩ else none) = some d := e
      split at e
      · rename_i hl
        obtain ⟨c, e1, rfl⟩ := Option.map_eq_some_iff.mp e
        exact .inr (.inr ⟨z, i, c, rx.str R, ry.int R, okLen_le hl, e1, q _ _ _ Kp.refl R (.str _)⟩)
      · cases e
    | _ => cases e
  | scr ns =>
    cases dy with
    | int i =>
      have e : (L2.atI ns i).map D.int = some d := e
      obtain ⟨v, e1, rfl⟩ := Option.map_eq_some_iff.mp e
      cases rx.rp R (fun _ z => by cases z) (fun _ z => by cases z)
      rw [hK]
      exact .inl ⟨_, _, i, .int v, rfl, ry.int R, sqL_mono R.sub R.sc, atI_map e1, q _ _ _ Kp.refl R (.int v)⟩
    | _ => cases e
  | _ => cases dy <;> cases e
/-! ### slices -/
def tO (P : Pm) (f : Rho → Tw → Res (Option D)) : TO := fun σ H Q => ∃ F r t, RelP P F r t σ H ∧ Aft P F (f r t) fun o t' => ∃ i, optI o = some i ∧ ∀ F' H', Kp P.T F H F' H' → RelP P F' r t' σ H' → Q i H'
theorem poMono {e : Option Expr} {t u : TO} (h : PO X e t) (i : ∀ σ H Q, u σ H Q → t σ H Q) : PO X e u := ⟨fun pins s σ H Q I q => h.run pins s σ H Q I (i σ H Q q)⟩
theorem s_none : PO X none (tO P fun r t => .ok none t) := poMono po_none fun σ H Q ⟨F, r, t, R, i, e, q⟩ => by
  cases e
  exact q F H Kp.refl R
theorem s_some (ha : PE X a (tB P fa)) : PO X (some a) (tO P fun r t => (fa r t).bind fun x t1 => .ok (some x) t1) := poMono (po_some ha) fun σ H Q ⟨F, r, t, R, h⟩ => ⟨F, r, t, R, h.bind.mono fun d t' ⟨i, e, q⟩ v F' H' s R' rv => by
  cases d with
  | int j =>
    cases e
    exact ⟨j, rv.int R', q F' H' s R'⟩
  | _ => cases e⟩
theorem cut_rel {xs : List V} {ds : List D} {F : Hp} (q : RpL P.K P.T F xs ds) (l h : Option Int) : RpL P.K P.T F (cutV xs l h) (cutL ds l h) := by
  unfold cutV cutL
  rw [q.length]
  exact (q.drop _).take _
def cutE (fa : Rho → Tw → Res D) (fl fh : Rho → Tw → Res (Option D)) (r : Rho) (t : Tw) : Res D := (fa r t).bind fun x t1 => (fl r t1).bind fun l t2 => (Fm.lift (optI l) t2).bind fun l t2 => (fh r t2).bind fun h t3 => (Fm.lift (optI h) t3).bind fun h t3 => Fm.lift (cutD x l h) t3
theorem s_cut (hK : X.K = P.K) {lo hi : Option Expr} {p2 : Pos} {fl fh : Rho → Tw → Res (Option D)} (ha : PE X a (tB P fa)) (hl : PO X lo (tO P fl)) (hh : PO X hi (tO P fh)) :
    PE X (.Subscript a (.Slice lo hi none p2) pos) (tD P (cutE fa fl fh)) := by
  refine peMono (pe_slice (SlR.or sl_tupA sl_list) ha hl hh) fun σ H Q ⟨F, r, t, R, h⟩ => ⟨F, r, t, R, h.bind.mono fun dx t1 h v F1 H1 s1 R1 rx => ?_⟩
  refine ⟨F1, r, t1, R1, (h.up s1.1).bind.mono fun dl t2 h => ?_⟩
  obtain ⟨l, ol, h⟩ := h.bind.lift
  refine ⟨l, ol, fun F2 H2 s2 R2 => ⟨F2, r, t2, R2, (h.up s2.1).bind.mono fun dh t3 h => ?_⟩⟩
  obtain ⟨u, ou, h⟩ := h.bind.lift
  obtain ⟨d, e, q⟩ := h.lift
  refine ⟨u, ou, fun F3 H3 s3 R3 => ?_⟩
  have rx := rx.mono (s2.trans s3).1
  have q : ∀ v F' H', Kp P.T F3 H3 F' H' → RelP P F' r t3 σ H' → Rp P.K P.T F' v d → Q v H' := fun v F' H' s R' h => q v F' H' (s1.trans (s2.trans (s3.trans s))) R' h
  cases dx with
  | tup xs =>
    cases e
    obtain ⟨p1, v1, rfl, e1, z1, q1⟩ := rx.tup R3
    rw [hK]
    refine .inl ⟨p1, v1, rfl, sqT_mono R3.sub e1, fun hw => ?_, fun _ => ?_⟩
    · refine q _ _ _ Kp.refl R3 ?_
      have ec : cutL xs l u = xs := by
        unfold cutL
        rw [← q1.length, hw.1, hw.2]
        simp [q1.length]
      rw [ec]
      exact .tup e1 z1 q1
    · exact mkTup R3 (Nat.le_trans (cutV_length _ _ _) z1) (cut_rel q1 l u) q
  | lst xs =>
    cases e
    obtain ⟨p1, v1, rfl, e1, z1, q1⟩ := rx.lst R3
    exact .inr ⟨p1, v1, rfl, SqL.of e1, mkLst R3 (Nat.le_trans (cutV_length _ _ _) z1) (cut_rel q1 l u) q⟩
  | _ => cases e
/-! ### argument lists, displays -/
theorem s_nil : PA X [] (tDs P fun r t => .ok [] t) := paMono pa_nil fun σ H Q ⟨F, r, t, R, q⟩ => q [] F H Kp.refl R .nil
theorem s_cons {es : List Expr} {fs : Rho → Tw → Res (List D)} (ha : PE X a (tD P fa)) (hr : PA X es (tDs P fs)) (hs : starEach (a :: es) X.env = (false, eval a X.env) :: starEach es X.env) :
    PA X (a :: es) (tDs P fun r t => (fa r t).bind fun x t1 => (fs r t1).bind fun xs t2 => .ok (x :: xs) t2) :=
  paMono (pa_cons ha hr hs) fun σ H Q ⟨F, r, t, R, h⟩ => ⟨F, r, t, R, h.bind.mono fun d t1 h v F1 H1 s1 R1 rv => ⟨F1, r, t1, R1, (h.up s1.1).bind.mono fun ds t2 q vs F2 H2 s2 R2 rvs =>
    q (v :: vs) F2 H2 (s1.trans s2) R2 (.cons (rv.mono s2.1) rvs)⟩⟩
theorem s_tup {es : List Expr} {x1 : Nat} {fs : Rho → Tw → Res (List D)} (h : PA X es (tDs P fs)) : PE X (.Tuple es x1 pos) (tD P fun r t => (fs r t).bind fun xs t1 => if okLen xs.length then .ok (.tup xs) t1 else .bad) :=
  peMono (pe_tup h) fun σ H Q ⟨F, r, t, R, h⟩ => ⟨F, r, t, R, h.bind.mono fun ds t1 h vs F1 H1 s1 R1 rv => by
    split at h
    · rename_i hl
      have z : vs.length ≤ sizeLine := by
        rw [rv.length]
        exact okLen_le hl
      exact ⟨z, mkTup R1 z rv fun v F' H' s R' r => h v F' H' (s1.trans s) R' r⟩
    · exact h.elim⟩
/-! ### an object that is nobody's yet -/
/-- a new object: nobody's -/
structure Fre (P : Pm) (F : Hp) (r : Rho) (σ : L2.St) (H : Hp) (v : V) (d : D) (p : Addr) : Prop where
  v : v = .ref p
  own : Fm.Own P.K P.T P.H0 F H p d
  no : ∀ (i : Nat) (e : D), r[i]? = some (.own e) → σ[i]? ≠ some (some (.ref p))
def tN (P : Pm) (f : Rho → Tw → Res D) : TE := fun σ H Q => ∃ F r t, RelP P F r t σ H ∧ Aft P F (f r t) fun d t' => ∀ v F' H' p, Kp P.T F H F' H' → RelP P F' r t' σ H' → H p = none → Fre P F' r σ H' v d p → Q v H'
/-- .. it may be frozen -/
theorem tNtD_mono {f : Rho → Tw → Res D} (σ : L2.St) (H : Hp) (Q : VK) (z : tD P f σ H Q) : tN P f σ H Q := by
  obtain ⟨F, r, t, R, h⟩ := z
  refine ⟨F, r, t, R, h.mono fun d t' q v F' H' p s R' hp fr => ?_⟩
  obtain ⟨rfl, o, no⟩ := fr
  obtain ⟨ob, ho, _⟩ := o.at_.obj
  have R2 := R'.freeze (o := ob) ho o.fr o.h0 o.n1 o.n2 no
  have s2 : Same F' (upd F' p ob) := same_new o.fr
  refine q _ _ _ ⟨s.1.trans s2, fun c u h => ?_, s.old, s.had⟩ R2 ?_
  · by_cases hc : c = p
    · rw [hc]
      exact .inr hp
    · rw [upd_ne hc] at h
      exact s.new c u h
  have w := o.at_
  cases d with
  | lst ds =>
    obtain ⟨vs, h1, h2, h3⟩ := w
    rw [ho] at h1
    cases h1
    exact .lst upd_same h2 (h3.mono s2)
  | dct es =>
    obtain ⟨vs, h1, h2, h3⟩ := w
    rw [ho] at h1
    cases h1
    exact .dct upd_same (h3.mono s2)
  | _ => exact w.elim
theorem tN_tD {f : Rho → Tw → Res D} {e : Expr} (h : PE X e (tN P f)) : PE X e (tD P f) := peMono h tNtD_mono
/-- laid just now -/
theorem mkNew {F : Hp} {r : Rho} {t : Tw} {σ : L2.St} {H : Hp} {o : HO} {d : D} (R : RelP P F r t σ H) {p : Addr} (hp : H p = none) (h : OwnAt P.K P.T F (upd H p o) p d) :
    RelP P F r t σ (upd H p o) ∧ Kp P.T F H F (upd H p o) ∧ Fre P F r σ (upd H p o) (.ref p) d p := by
  have b := R.toRelH.newO (o := o) hp
  have n1 : p ≠ P.T.a := fun e => by
    rw [e, R.tw.a] at hp
    cases hp
  have n2 : p ≠ P.T.b := fun e => by
    rw [e, R.tw.b] at hp
    cases hp
  refine ⟨R.step b, Kp.of b, rfl, ⟨R.sub.free hp, n1, n2, R.had p hp, h⟩, fun i e h1 h2 => ?_⟩
  obtain ⟨q, e1, w⟩ := R.own i e h1
  rw [h2] at e1
  cases e1
  obtain ⟨o2, ho, _⟩ := w.at_.obj
  rw [hp] at ho
  cases ho
theorem n_lst {es : List Expr} {fs : Rho → Tw → Res (List D)} (h : PA X es (tDs P fs)) : PE X (.List es pos) (tN P fun r t => (fs r t).bind fun xs t1 => if okLen xs.length then .ok (.lst xs) t1 else .bad) :=
  peMono (pe_lst h) fun σ H Q ⟨F, r, t, R, h⟩ => ⟨F, r, t, R, h.bind.mono fun ds t1 h vs F1 H1 s1 R1 rv => by
    split at h
    · rename_i hl
      have z : vs.length ≤ sizeLine := by
        rw [rv.length]
        exact okLen_le hl
      refine ⟨z, fun p hp => ?_⟩
      obtain ⟨R2, k2, fr⟩ := mkNew (o := .lst vs) (d := .lst ds) R1 hp ⟨vs, upd_same, z, rv⟩
      exact h _ _ _ p (s1.trans k2) R2 (s1.had p hp) fr
    · exact h.elim⟩
/-! ### built-in calls of one value -/
def CallS (P : Pm) (X : Cx) (f : Value) (g : D → Option D) : Prop :=
  ∃ rr : List V → Hp → VK → Prop, CallR X f rr ∧ ∀ {x : V} {dx d : D} {F : Hp} {r : Rho} {t : Tw} {σ : L2.St} {H : Hp} {Q : VK}, g dx = some d → RelP P F r t σ H → RpB P F r σ x dx →
      (∀ v F' H', Kp P.T F H F' H' → RelP P F' r t σ H' → Rp P.K P.T F' v d → Q v H') → rr [x] H Q
/-- .. that make a new list, nobody's -/
def CallN (P : Pm) (X : Cx) (f : Value) (g : D → Option D) : Prop :=
  ∃ rr : List V → Hp → VK → Prop, CallR X f rr ∧ ∀ {x : V} {dx d : D} {F : Hp} {r : Rho} {t : Tw} {σ : L2.St} {H : Hp} {Q : VK}, g dx = some d → RelP P F r t σ H → RpB P F r σ x dx →
      (∀ v F' H' p, Kp P.T F H F' H' → RelP P F' r t σ H' → H p = none → Fre P F' r σ H' v d p → Q v H') → rr [x] H Q
theorem cs_abs : CallS P X (.builtin "abs") (blt1 .abs) := by
  refine ⟨_, call_abs, fun {x dx d F r t σ H Q} e R rx q => ?_⟩
  cases dx with
  | int i =>
    cases e
    exact ⟨i, by rw [rx.int R], q _ _ _ Kp.refl R (.int _)⟩
  | _ => cases e
theorem cs_len (hK : X.K = P.K) : CallS P X (.builtin "len") (blt1 .len) := by
  refine ⟨_, CallR.or call_len call_lenD, fun {x dx d F r t σ H Q} e R rx q => ?_⟩
  rw [hK]
  cases dx with
  | tup ds =>
    cases e
    obtain ⟨p1, v1, rfl, e1, z1, q1⟩ := rx.tup R
    exact .inl ⟨_, v1.length, rfl, .inr ⟨v1, sqT_mono R.sub e1, rfl⟩, by rw [q1.length]; exact q _ _ _ Kp.refl R (.int _)⟩
  | lst ds =>
    cases e
    obtain ⟨p1, v1, rfl, e1, z1, q1⟩ := rx.lst R
    exact .inl ⟨_, v1.length, rfl, .inl ⟨v1, SqL.of e1, rfl⟩, by rw [q1.length]; exact q _ _ _ Kp.refl R (.int _)⟩
  | scr ns =>
    cases rx.rp R (fun _ z => by cases z) (fun _ z => by cases z)
    cases e
    exact .inl ⟨_, (P.T.ns.map V.int).length, rfl, .inl ⟨_, sqL_mono R.sub R.sc, rfl⟩, by rw [List.length_map]; exact q _ _ _ Kp.refl R (.int _)⟩
  | str z =>
    have e : (if okLen z.length then some (D.int z.length) else none) = some d := e
    split at e
    · rename_i hl
      cases e
      obtain rfl := rx.str R
      exact .inl ⟨_, z.length, rfl, ⟨okLen_le hl, rfl⟩, q _ _ _ Kp.refl R (.int _)⟩
    · cases e
  | dct es =>
    cases e
    obtain ⟨p1, v1, rfl, e1, q1⟩ := rx.dct R
    exact .inr ⟨p1, v1, rfl, e1, by rw [q1.length]; exact q _ _ _ Kp.refl R (.int _)⟩
  | _ => cases e
theorem cs_all (hK : X.K = P.K) (hc : X.calm = true) : CallS P X (.builtin "all") (blt1 .all) := by
  refine ⟨_, cr_all hc, fun {x dx d F r t σ H Q} e R rx q => ?_⟩
  cases dx with
  | lst ds =>
    obtain ⟨bs, e1, rfl⟩ := Option.map_eq_some_iff.mp (show (bls ds).map (fun bs => D.bl (bs.all id)) = some d from e)
    obtain ⟨p1, v1, rfl, e2, z1, q1⟩ := rx.lst R
    obtain rfl := q1.blsOf e1
    exact ⟨p1, bs, rfl, SqL.of e2, q _ _ _ Kp.refl R (.bl _)⟩
  | _ => cases e
theorem cs_any (hK : X.K = P.K) (hc : X.calm = true) : CallS P X (.builtin "any") (blt1 .any) := by
  refine ⟨_, cr_any hc, fun {x dx d F r t σ H Q} e R rx q => ?_⟩
  cases dx with
  | lst ds =>
    obtain ⟨bs, e1, rfl⟩ := Option.map_eq_some_iff.mp (show (bls ds).map (fun bs => D.bl (bs.any id)) = some d from e)
    obtain ⟨p1, v1, rfl, e2, z1, q1⟩ := rx.lst R
    obtain rfl := q1.blsOf e1
    exact ⟨p1, bs, rfl, SqL.of e2, q _ _ _ Kp.refl R (.bl _)⟩
  | _ => cases e
theorem cs_sum (hK : X.K = P.K) (hc : X.calm = true) : CallS P X (.builtin "sum") (blt1 .sum) := by
  refine ⟨_, cr_sum hc, fun {x dx d F r t σ H Q} e R rx q => ?_⟩
  cases dx with
  | lst ds =>
    obtain ⟨bs, e1, rfl⟩ := Option.map_eq_some_iff.mp (show (intsD ds).map (fun ns => D.int ns.sum) = some d from e)
    obtain ⟨p1, v1, rfl, e2, z1, q1⟩ := rx.lst R
    obtain rfl := q1.intsOf e1
    exact ⟨p1, bs, rfl, SqL.of e2, q _ _ _ Kp.refl R (.int _)⟩
  | _ => cases e
theorem cs_tuple (hK : X.K = P.K) : CallS P X (.type "tuple") (blt1 .tuple) := by
  refine ⟨_, call_tuple_of, fun {x dx d F r t σ H Q} e R rx q => ?_⟩
  rw [hK]
  cases dx with
  | lst ds =>
    cases e
    obtain ⟨p1, v1, rfl, e2, z1, q1⟩ := rx.lst R
    exact ⟨p1, v1, rfl, .inl ⟨SqL.of e2, mkTup R z1 q1 q⟩⟩
  | tup ds =>
    cases e
    obtain ⟨p1, v1, rfl, e2, z1, q1⟩ := rx.tup R
    exact ⟨p1, v1, rfl, .inr ⟨sqT_mono R.sub e2, q _ _ _ Kp.refl R (.tup e2 z1 q1)⟩⟩
  | _ => cases e
theorem cn_list (hK : X.K = P.K) : CallN P X (.type "list") (blt1 .list) := by
  refine ⟨_, call_list_of, fun {x dx d F r t σ H Q} e R rx q => ?_⟩
  rw [hK]
  cases dx with
  | lst ds =>
    cases e
    obtain ⟨p1, v1, rfl, e2, z1, q1⟩ := rx.lst R
    refine ⟨p1, v1, rfl, .inl (SqL.of e2), fun p hp => ?_⟩
    obtain ⟨R2, k2, fr⟩ := mkNew (o := .lst v1) (d := .lst ds) R hp ⟨v1, upd_same, z1, q1⟩
    exact q _ _ _ p k2 R2 hp fr
  | tup ds =>
    cases e
    obtain ⟨p1, v1, rfl, e2, z1, q1⟩ := rx.tup R
    refine ⟨p1, v1, rfl, .inr (sqT_mono R.sub e2), fun p hp => ?_⟩
    obtain ⟨R2, k2, fr⟩ := mkNew (o := .lst v1) (d := .lst ds) R hp ⟨v1, upd_same, z1, q1⟩
    exact q _ _ _ p k2 R2 hp fr
  | _ => cases e
/-! sorted -/
theorem insI_perm (x : Int) : ∀ l : List Int, (insI x l).Perm (x :: l)
  | [] => List.Perm.refl _
  | y :: r => by
    unfold insI
    split
    · exact List.Perm.refl _
    · exact ((insI_perm x r).cons y).trans (List.Perm.swap x y r)
theorem srtI_perm : ∀ l : List Int, (srtI l).Perm l
  | [] => List.Perm.refl _
  | x :: r => (insI_perm x _).trans ((srtI_perm r).cons x)
theorem insI_sorted (x : Int) : ∀ l : List Int, l.Pairwise (· ≤ ·) → (insI x l).Pairwise (· ≤ ·)
  | [], _ => List.pairwise_singleton _ _
  | y :: r, h => by
    obtain ⟨h1, h2⟩ := List.pairwise_cons.mp h
    unfold insI
    split
    · rename_i hx
      refine List.pairwise_cons.mpr ⟨fun z hz => ?_, h⟩
      rcases List.mem_cons.mp hz with rfl | hz
      · exact hx
      · exact Int.le_trans hx (h1 z hz)
    · rename_i hx
      refine List.pairwise_cons.mpr ⟨fun z hz => ?_, insI_sorted x r h2⟩
      rcases List.mem_cons.mp ((insI_perm x r).mem_iff.mp hz) with rfl | hz
      · omega
      · exact h1 z hz
theorem srtI_sorted : ∀ l : List Int, (srtI l).Pairwise (· ≤ ·)
  | [] => List.Pairwise.nil
  | x :: r => insI_sorted x _ (srtI_sorted r)
theorem srtI_one {l m : List Int} (h : m.Perm l) (s : m.Pairwise (· ≤ ·)) : m = srtI l := PySem.W.ksm_same (h.trans (srtI_perm l).symm) s (srtI_sorted l)
theorem keys_of {F : Hp} : ∀ {kvs : List (Key × V)} {es : List (Key × D)} {ns : List Int}, RpK P.K P.T F kvs es → keysI es = some ns → kvs.map (·.1) = ns.map Sum.inl
  | _, _, ns, .nil, h => by
    cases h
    rfl
  | _, _, ns, @RpK.cons _ _ _ k v kvs d es h q, e => by
    cases k with
    | inl i =>
      obtain ⟨ms, e1, rfl⟩ := Option.map_eq_some_iff.mp (show (keysI es).map (i :: ·) = some ns from e)
      simp [keys_of q e1]
    | inr x => cases e
theorem cn_sorted (hK : X.K = P.K) (hc : X.calm = true) : CallN P X (.builtin "sorted") (blt1 .sorted) := by
  refine ⟨_, CallR.or cr_sortedI (call_sortedDI hc), fun {x dx d F r t σ H Q} e R rx q => ?_⟩
  cases dx with
  | lst ds =>
    obtain ⟨ns, e1, rfl⟩ := Option.map_eq_some_iff.mp (show (intsD ds).map (fun ns => D.lst ((srtI ns).map D.int)) = some d from e)
    obtain ⟨p1, v1, rfl, e2, z1, q1⟩ := rx.lst R
    obtain rfl := q1.intsOf e1
    refine .inl ⟨p1, ns, rfl, SqL.of e2, fun ms p h1 h2 hp => ?_⟩
    obtain rfl := srtI_one h1 h2
    obtain ⟨R2, k2, fr⟩ := mkNew (o := .lst ((srtI ns).map V.int)) (d := .lst ((srtI ns).map D.int)) R hp ⟨_, upd_same, by rw [List.length_map, (srtI_perm ns).length_eq]; simpa using z1, RpL.ofInts _⟩
    exact q _ _ _ p k2 R2 hp fr
  | dct es =>
    have e : ((keysI es).bind fun ns => if decide (ns.length < 64) then some (.lst ((srtI ns).map D.int)) else none) = some d := e
    obtain ⟨ns, e1, e2⟩ := Option.bind_eq_some_iff.mp e
    split at e2
    · rename_i hl
      cases e2
      have hl := of_decide_eq_true hl
      obtain ⟨p1, v1, rfl, e3, q1⟩ := rx.dct R
      refine .inr ⟨p1, v1, ns, rfl, .inl e3, keys_of q1 e1, hl, fun ms p h1 h2 hp => ?_⟩
      obtain rfl := srtI_one h1 h2
      obtain ⟨R2, k2, fr⟩ := mkNew (o := .lst ((srtI ns).map V.int)) (d := .lst ((srtI ns).map D.int)) R hp ⟨_, upd_same, by rw [List.length_map, (srtI_perm ns).length_eq, sizeLine_eq]; omega, RpL.ofInts _⟩
      exact q _ _ _ p k2 R2 hp fr
    · cases e2
  | _ => cases e
/-! the call itself -/
variable {x : Str} {p1 : Pos}
theorem call_form {g : D → Option D} {rr : List V → Hp → VK → Prop} (hr : ∀ {x : V} {dx d : D} {F : Hp} {r : Rho} {t : Tw} {σ : L2.St} {H : Hp} {Q : VK}, g dx = some d → RelP P F r t σ H → RpB P F r σ x dx →
      (∀ v F' H', Kp P.T F H F' H' → RelP P F' r t σ H' → Rp P.K P.T F' v d → Q v H') → rr [x] H Q) (σ : L2.St) (H : Hp) (Q : VK) (h : tD P (fun r t => (fa r t).bind fun x t1 => Fm.lift (g x) t1) σ H Q) : tCB rr (tCons (tB P fa) tNil) σ H Q := by
  obtain ⟨F, r, t, R, h⟩ := h
  refine ⟨F, r, t, R, h.bind.mono fun d t1 h v F1 H1 s1 R1 rv => ?_⟩
  obtain ⟨d2, e, q⟩ := h.lift
  exact hr e R1 rv fun v F' H' s R' h => q v F' H' (s1.trans s) R' h
theorem call_formN {g : D → Option D} {rr : List V → Hp → VK → Prop} (hr : ∀ {x : V} {dx d : D} {F : Hp} {r : Rho} {t : Tw} {σ : L2.St} {H : Hp} {Q : VK}, g dx = some d → RelP P F r t σ H → RpB P F r σ x dx →
      (∀ v F' H' p, Kp P.T F H F' H' → RelP P F' r t σ H' → H p = none → Fre P F' r σ H' v d p → Q v H') → rr [x] H Q) (σ : L2.St) (H : Hp) (Q : VK) (h : tN P (fun r t => (fa r t).bind fun x t1 => Fm.lift (g x) t1) σ H Q) : tCB rr (tCons (tB P fa) tNil) σ H Q := by
  obtain ⟨F, r, t, R, h⟩ := h
  refine ⟨F, r, t, R, h.bind.mono fun d t1 h v F1 H1 s1 R1 rv => ?_⟩
  obtain ⟨d2, e, q⟩ := h.lift
  exact hr e R1 rv fun v F' H' p s R' hp h => q v F' H' p (s1.trans s) R' (s1.had p hp) h
theorem s_callB {id : String} {g : D → Option D} (hc : CallS P X (.builtin id) g) (hg : Gl X x) (hm : X.mg x = none) (hv : bootBuiltins x = some (.builtin id)) (ha : PE X a (tB P fa)) (hn : x ≠ "__name__") (hdb : (x == ("__debug__" : Str)) = false)
    (hs : starEach [a] X.env = (false, eval a X.env) :: starEach [] X.env) : PE X (.Call (.Name x p1) [a] [] pos) (tD P fun r t => (fa r t).bind fun x t1 => Fm.lift (g x) t1) := by
  obtain ⟨rr, h1, h2⟩ := hc
  exact peMono (pe_callB h1 hg hm hv (pa_cons ha pa_nil hs) hn hdb hs) (call_form h2)
theorem s_callT {id : String} {g : D → Option D} (hc : CallS P X (.type id) g) (hg : Gl X x) (hm : X.mg x = none) (hv : bootBuiltins x = some (.type id)) (ha : PE X a (tB P fa)) (hn : x ≠ "__name__") (hdb : (x == ("__debug__" : Str)) = false)
    (hs : starEach [a] X.env = (false, eval a X.env) :: starEach [] X.env) : PE X (.Call (.Name x p1) [a] [] pos) (tD P fun r t => (fa r t).bind fun x t1 => Fm.lift (g x) t1) := by
  obtain ⟨rr, h1, h2⟩ := hc
  exact peMono (pe_callTy h1 hg hm hv (pa_cons ha pa_nil hs) hn hdb hs) (call_form h2)
theorem n_callB {id : String} {g : D → Option D} (hc : CallN P X (.builtin id) g) (hg : Gl X x) (hm : X.mg x = none) (hv : bootBuiltins x = some (.builtin id)) (ha : PE X a (tB P fa)) (hn : x ≠ "__name__") (hdb : (x == ("__debug__" : Str)) = false)
    (hs : starEach [a] X.env = (false, eval a X.env) :: starEach [] X.env) : PE X (.Call (.Name x p1) [a] [] pos) (tN P fun r t => (fa r t).bind fun x t1 => Fm.lift (g x) t1) := by
  obtain ⟨rr, h1, h2⟩ := hc
  exact peMono (pe_callB h1 hg hm hv (pa_cons ha pa_nil hs) hn hdb hs) (call_formN h2)
theorem n_callT {id : String} {g : D → Option D} (hc : CallN P X (.type id) g) (hg : Gl X x) (hm : X.mg x = none) (hv : bootBuiltins x = some (.type id)) (ha : PE X a (tB P fa)) (hn : x ≠ "__name__") (hdb : (x == ("__debug__" : Str)) = false)
    (hs : starEach [a] X.env = (false, eval a X.env) :: starEach [] X.env) : PE X (.Call (.Name x p1) [a] [] pos) (tN P fun r t => (fa r t).bind fun x t1 => Fm.lift (g x) t1) := by
  obtain ⟨rr, h1, h2⟩ := hc
  exact peMono (pe_callTy h1 hg hm hv (pa_cons ha pa_nil hs) hn hdb hs) (call_formN h2)
end
end Fm

/-! ### isinstance, dicts, names, calls of the text's own defs -/
namespace Fm
open PySem PySem.Spec PyProof.Rows L2
section
variable {P : Pm} {X : Cx} {a b c : Expr} {pos p1 p2 : Pos} {fa fb fc : Rho → Tw → Res D}
theorem tup_ty {K : PySem.W.Frag} {H : Hp} {p : Addr} {xs : List V} (h : SqT K H p xs) : TyX K H (.ref p) (.type "tuple") := by
  rcases h with (h | ⟨o, h⟩) | ⟨o, its, n, h1, h2, _⟩
  · exact .base (.tup h)
  · exact .fTuple h
  · exact .kTuple h1 h2
theorem isa_of {F : Hp} {r : Rho} {t : Tw} {σ : L2.St} {H : Hp} {x : V} {dx : D} {T : Ty} {k : Bool} (R : RelP P F r t σ H) (rx : RpB P F r σ x dx) (e : isaD dx T = some k) : ∃ t, TyX P.K H x t ∧ PySem.W.kitOne P.K t (.type T.name) = some k := by
  cases dx with
  | non =>
    cases rx.rp R (fun _ z => by cases z) (fun _ z => by cases z)
    refine ⟨_, .base .non, ?_⟩
    cases T <;> cases e <;> exact kit_ty (by decide +kernel)
  | bl z =>
    obtain rfl := rx.bl R
    refine ⟨_, .base (.bl _), ?_⟩
    cases T <;> cases e <;> exact kit_ty (by decide +kernel)
  | int z =>
    obtain rfl := rx.int R
    refine ⟨_, .base (.int _), ?_⟩
    cases T <;> cases e <;> exact kit_ty (by decide +kernel)
  | str z =>
    obtain rfl := rx.str R
    refine ⟨_, .base (.str _), ?_⟩
    cases T <;> cases e <;> exact kit_ty (by decide +kernel)
  | tup z =>
    obtain ⟨p, xs, rfl, h, _, _⟩ := rx.tup R
    refine ⟨_, tup_ty (sqT_mono R.sub h), ?_⟩
    cases T <;> cases e <;> exact kit_ty (by decide +kernel)
  | lst z =>
    obtain ⟨p, xs, rfl, h, _, _⟩ := rx.lst R
    refine ⟨_, .base (.lst h), ?_⟩
    cases T <;> cases e <;> exact kit_ty (by decide +kernel)
  | dct z =>
    obtain ⟨p, xs, rfl, h, _⟩ := rx.dct R
    refine ⟨_, .base (.dK h), ?_⟩
    cases T <;> cases e <;> exact kit_ty (by decide +kernel)
  | tok => cases T <;> cases e
  | scr => cases T <;> cases e
def Ty.nm (T : Ty) : Str := Str.ofString T.name
theorem Ty.boot (T : Ty) : bootBuiltins T.nm = some (.type T.name) := by
  cases T
  · exact PyProof.Rows.boot_int
  · exact PyProof.Rows.boot_bool
  · exact PyProof.Rows.boot_str
  · exact PyProof.Rows.boot_tuple
  · exact PyProof.Rows.boot_list
theorem s_isa (hK : X.K = P.K) {T : Ty} (hg : Gl X "isinstance") (hm : X.mg "isinstance" = none) (hgT : Gl X T.nm) (hmT : X.mg T.nm = none) (ha : PE X a (tB P fa))
    (hs : starEach [a, .Name T.nm p2] X.env = (false, eval a X.env) :: starEach [.Name T.nm p2] X.env) :
    PE X (.Call (.Name "isinstance" p1) [a, .Name T.nm p2] [] pos) (tD P fun r t => (fa r t).bind fun x t1 => Fm.lift ((isaD x T).map D.bl) t1) := by
  have hT : PE X (.Name T.nm p2) (tC (.ty T.name)) := pe_bltn hgT hmT T.boot rfl (by cases T <;> decide) (by cases T <;> decide)
  refine peMono (pe_callB call_isi hg hm PyProof.Rows.boot_isinstance (pa_cons ha (pa_cons hT pa_nil rfl) hs) (by decide) (by decide) hs (by rfl)) fun σ H Q ⟨F, r, t, R, h⟩ => ⟨F, r, t, R, h.bind.mono fun d t1 h v F1 H1 s1 R1 rv => ?_⟩
  obtain ⟨d2, e, q⟩ := h.lift
  obtain ⟨k, e1, rfl⟩ := Option.map_eq_some_iff.mp e
  obtain ⟨ty, h1, h2⟩ := isa_of R1 rv e1
  exact ⟨v, .ty T.name, ty, .type T.name, k, rfl, .ty _, by rw [hK]; exact h1, by rw [hK]; exact h2, q _ _ _ s1 R1 (.bl _)⟩
/-! ### dicts -/
theorem RpK.look {K : PySem.W.Frag} {T : Tn} {F : Hp} (k : Key) : ∀ {kvs : List (Key × V)} {es : List (Key × D)}, RpK K T F kvs es → (∃ v d, valV kvs k = some v ∧ lookD es k = some d ∧ Rp K T F v d) ∨ (valV kvs k = none ∧ lookD es k = none)
  | _, _, .nil => .inr ⟨rfl, rfl⟩
  | _, _, @RpK.cons _ _ _ k' v kvs d es h q => by
    by_cases e : k' = k
    · refine .inl ⟨v, d, valV_pos e, ?_, h⟩
      simp [lookD, List.find?_cons, e]
    · rcases RpK.look k q with ⟨v2, d2, h1, h2, h3⟩ | ⟨h1, h2⟩
      · refine .inl ⟨v2, d2, by rw [valV_neg e]; exact h1, ?_, h3⟩
        simpa [lookD, List.find?_cons, e] using h2
      · refine .inr ⟨by rw [valV_neg e]; exact h1, ?_⟩
        simpa [lookD, List.find?_cons, e] using h2
theorem RpK.any {K : PySem.W.Frag} {T : Tn} {F : Hp} (k : Key) : ∀ {kvs : List (Key × V)} {es : List (Key × D)}, RpK K T F kvs es → (kvs.any fun kv => decide (kv.1 = k)) = es.any fun kv => decide (kv.1 = k)
  | _, _, .nil => rfl
  | _, _, .cons h q => by simp only [List.any_cons, RpK.any k q]
theorem RpK.repl {K : PySem.W.Frag} {T : Tn} {F : Hp} {v : V} {d : D} (k : Key) (h : Rp K T F v d) : ∀ {kvs : List (Key × V)} {es : List (Key × D)}, RpK K T F kvs es →
    RpK K T F (kvs.map fun kv => if kv.1 = k then (kv.1, v) else kv) (es.map fun kv => if kv.1 = k then (kv.1, d) else kv)
  | _, _, .nil => .nil
  | _, _, @RpK.cons _ _ _ k' v' kvs d' es h' q => by
    simp only [List.map_cons]
    by_cases e : k' = k
    · rw [if_pos e, if_pos e]
      exact .cons h (RpK.repl k h q)
    · rw [if_neg e, if_neg e]
      exact .cons h' (RpK.repl k h q)
theorem RpK.snoc {K : PySem.W.Frag} {T : Tn} {F : Hp} {v : V} {d : D} (k : Key) (h : Rp K T F v d) : ∀ {kvs : List (Key × V)} {es : List (Key × D)}, RpK K T F kvs es → RpK K T F (kvs ++ [(k, v)]) (es ++ [(k, d)])
  | _, _, .nil => .cons h .nil
  | _, _, .cons h' q => .cons h' (RpK.snoc k h q)
theorem RpK.put {K : PySem.W.Frag} {T : Tn} {F : Hp} {v : V} {d : D} (k : Key) (h : Rp K T F v d) {kvs : List (Key × V)} {es : List (Key × D)} (q : RpK K T F kvs es) : RpK K T F (L2.putK kvs k v) (putD es k d) := by
  unfold L2.putK putD
  rw [q.any k]
  split
  · exact q.repl k h
  · exact q.snoc k h
theorem key_of' {F : Hp} {r : Rho} {t : Tw} {σ : L2.St} {H : Hp} {x : V} {dx : D} {k : Key} (R : RelP P F r t σ H) (rx : RpB P F r σ x dx) (e : keyD dx = some k) : x = kV k := by
  cases dx with
  | int i =>
    cases e
    exact rx.int R
  | str i =>
    cases e
    exact rx.str R
  | _ => cases e
theorem s_dix (hu : X.A.units + 200 < cLine) (ha : PE X a (tB P fa)) (hb : PE X b (tB P fb)) (hs : PlainIx b) : PE X (.Subscript a b pos) (tD P fun r t => (fa r t).bind fun x t1 => (fb r t1).bind fun y t2 => Fm.lift (dixD x y) t2) := by
  refine peMono (pe_dget (by omega) ha hb hs) fun σ H Q h => op2 (P := P) (rr := fun x y H2 Q => ∃ a v, x = .ref a ∧ DGet H2 a y (some v) ∧ Q v H2) (fun {x y dx dy d F r t σ H Q} e R rx ry q => ?_) σ H Q h
  cases dx with
  | dct es =>
    obtain ⟨k, e1, e2⟩ := Option.bind_eq_some_iff.mp (show ((keyD dy).bind fun k => lookD es k) = some d from e)
    obtain ⟨p, kvs, rfl, h1, h2⟩ := rx.dct R
    obtain rfl := key_of' R ry e1
    rcases h2.look k with ⟨v, d2, h3, h4, h5⟩ | ⟨h3, h4⟩
    · rw [e2] at h4
      cases h4
      exact ⟨p, v, rfl, h3 ▸ DGet.k h1, q _ _ _ Kp.refl R h5⟩
    · rw [e2] at h4
      cases h4
  | _ => cases e
def getE (fa fb fc : Rho → Tw → Res D) (r : Rho) (t : Tw) : Res D := (fa r t).bind fun x t1 => match x with
    | .dct kvs => (fb r t1).bind fun y t2 => (fc r t2).bind fun z t3 => (match keyD y with
      | some k => .ok ((lookD kvs k).getD z) t3
      | none => .bad)
    | _ => .bad
theorem s_get (hu : X.A.units + 200 < cLine) (ha : PE X a (tB P fa)) (hb : PE X b (tB P fb)) (hc : PE X c (tD P fc)) (m : M2 X a "get" p1 b c pos) : PE X (.Call (.Attribute a "get" p1) [b, c] [] pos) (tD P (getE fa fb fc)) := by
  refine peMono (pe_dget2 (by omega) ha hb hc m) fun σ H Q ⟨F, r, t, R, h⟩ => ⟨F, r, t, R, h.bind.mono fun dx t1 h v F1 H1 s1 R1 rx => ?_⟩
  cases dx with
  | dct es =>
    obtain ⟨p, kvs, rfl, h1, h2⟩ := rx.dct R1
    have h : Aft P F ((fb r t1).bind fun y t2 => (fc r t2).bind fun z t3 => (match keyD y with
      | some k => .ok ((lookD es k).getD z) t3
      | none => .bad)) _ := h
    refine ⟨p, rfl, .inl ⟨kvs, .inl h1⟩, F1, r, t1, R1, (h.up s1.1).bind.mono fun dy t2 h w F2 H2 s2 R2 ry => ⟨F2, r, t2, R2, (h.up s2.1).bind.mono fun dz t3 h u F3 H3 s3 R3 rz => ?_⟩⟩
    cases e : keyD dy with
    | none =>
      rw [e] at h
      exact h.elim
    | some k =>
      rw [e] at h
      have h : ∀ v F' H', Kp P.T F H F' H' → RelP P F' r t3 σ H' → Rp P.K P.T F' v ((lookD es k).getD dz) → Q v H' := h
      obtain ⟨p', kvs', e1, h1', h2'⟩ := (rx.mono (s2.trans s3).1).dct R3
      cases e1
      obtain rfl := key_of' R3 (ry.mono s3.1) e
      refine ⟨_, DGet.k h1', h _ _ _ (s1.trans (s2.trans s3)) R3 ?_⟩
      rcases h2'.look k with ⟨v, d2, h3, h4, h5⟩ | ⟨h3, h4⟩
      · rw [h3, h4]
        exact h5
      · rw [h3, h4]
        exact rz
  | _ => exact (show False from h).elim
/-! ### a dict of written texts and constants -/
def Cst.v : Cst → V
  | .non => .non
  | .bl b => .bl b
  | .int i => .int i
  | .str x => .str x
theorem Cst.rp {K : PySem.W.Frag} {T : Tn} {F : Hp} (c : Cst) : Rp K T F c.v c.d := by
  cases c
  · exact .non
  · exact .bl _
  · exact .int _
  · exact .str _
def Cst.k : Cst → Const
  | .non => .none
  | .bl b => .bool b
  | .int i => .int i
  | .str x => .str x
theorem pe_cst {k : Cst} {j : Nat} : PE X (.Constant k.k j pos) (tC k.v) := by
  cases k
  · exact pe_non
  · exact pe_bl
  · exact pe_int
  · exact pe_str
theorem s_cst {k : Cst} {j : Nat} : PE X (.Constant k.k j pos) (tD P fun _ t => .ok k.d t) := peMono pe_cst fun σ H Q ⟨F, r, t, R, q⟩ => q _ _ _ Kp.refl R k.rp
/-- keys and values as they are written -/
inductive DspIs : List (Str × Cst) → List (Option Expr) → List Expr → Prop
  | nil : DspIs [] [] []
  | cons {x : Str} {c : Cst} {kvs : List (Str × Cst)} {ks : List (Option Expr)} {vs : List Expr} {j j' : Nat} {q q' : Pos} : DspIs kvs ks vs → DspIs ((x, c) :: kvs) (some (.Constant (.str x) j q) :: ks) (.Constant c.k j' q' :: vs)
theorem DspIs.pps {kvs : List (Str × Cst)} {ks : List (Option Expr)} {vs : List Expr} (h : DspIs kvs ks vs) : PPs X pos ks vs (kvs.map fun p => (tC (.str p.1), tC p.2.v)) := by
  induction h with
  | nil => exact pps_nil
  | cons h ih => exact pps_cons pe_str pe_cst ih
theorem DspIs.all {kvs : List (Str × Cst)} {ks : List (Option Expr)} {vs : List Expr} (h : DspIs kvs ks vs) : ks.all (·.isSome) = true ∧ ks.length = kvs.length ∧ vs.length = kvs.length := by
  induction h with
  | nil => exact ⟨rfl, rfl, rfl⟩
  | cons h ih => exact ⟨by simp [ih.1], by simp [ih.2.1], by simp [ih.2.2]⟩
theorem tPairs_cst {σ : L2.St} {H : Hp} : ∀ {kvs : List (Str × Cst)} {Q : List (V × V) → Hp → Prop}, Q (kvs.map fun p => (V.str p.1, p.2.v)) H → tPairs (kvs.map fun p => (tC (.str p.1), tC p.2.v)) σ H Q
  | [], _, h => h
  | p :: r, Q, h => tPairs_cst (kvs := r) (Q := fun ps H3 => Q ((V.str p.1, p.2.v) :: ps) H3) h
theorem merge_rel {K : PySem.W.Frag} {T : Tn} {F : Hp} : ∀ {l : List (Str × Cst)} {kvs : List (Key × V)} {es : List (Key × D)}, RpK K T F kvs es →
    RpK K T F (mergeK kvs (l.map fun p => (Sum.inr p.1, p.2.v))) (mergeD es (l.map fun p => (p.1, p.2.d)))
  | [], _, _, q => q
  | p :: r, _, _, q => merge_rel (l := r) (q.put (Sum.inr p.1) p.2.rp)
theorem n_dsp {kvs : List (Str × Cst)} {ks : List (Option Expr)} {vs : List Expr} (h : DspIs kvs ks vs) : PE X (.Dict ks vs pos) (tN P fun _ t => if decide (kvs.length ≤ 15) then .ok (.dct (mergeD [] (kvs.map fun p => (p.1, p.2.d)))) t else .bad) := by
  obtain ⟨a1, a2, a3⟩ := h.all
  by_cases hl : kvs.length ≤ 15
  · obtain rfl | hne : kvs = [] ∨ kvs ≠ [] := by
      cases kvs with
      | nil => exact .inl rfl
      | cons => exact .inr (List.cons_ne_nil _ _)
    · cases h
      refine peMono pe_dnewK fun σ H Q ⟨F, r, t, R, q⟩ p hp => ?_
      have q : ∀ v F' H' p, Kp P.T F H F' H' → RelP P F' r t σ H' → H p = none → Fre P F' r σ H' v (.dct []) p → Q v H' := q
      obtain ⟨R2, k2, fr⟩ := mkNew (o := .dK []) (d := .dct []) R hp ⟨[], upd_same, Nat.zero_le _, .nil⟩
      exact q _ _ _ p k2 R2 hp fr
    · have h0 : ks ≠ [] := fun e => hne (List.length_eq_zero_iff.mp (by rw [← a2, e]; rfl))
      refine peMono (pe_disp h.pps a1 (a2.trans a3.symm) h0 (by rw [a2]; exact hl)) fun σ H Q ⟨F, r, t, R, q⟩ p hp => ?_
      dsimp only at q
      rw [decide_eq_true hl] at q
      have q : ∀ v F' H' p, Kp P.T F H F' H' → RelP P F' r t σ H' → H p = none → Fre P F' r σ H' v (.dct (mergeD [] (kvs.map fun p => (p.1, p.2.d)))) p → Q v H' := q
      refine tPairs_cst ⟨upd_same, kvs.map (fun p => (Sum.inr p.1, p.2.v)), by simp [kV], by simpa using hl, ?_⟩
      rw [upd_upd]
      obtain ⟨R2, k2, fr⟩ := mkNew (o := .dK (mergeK [] (kvs.map fun p => (Sum.inr p.1, p.2.v)))) (d := .dct (mergeD [] (kvs.map fun p => (p.1, p.2.d)))) R hp
        ⟨_, upd_same, by have := length_mergeK (kvs.map fun p => (Sum.inr p.1, p.2.v)) []; rw [sizeLine_eq]; simp at this; omega, merge_rel .nil⟩
      exact q _ _ _ p k2 R2 hp fr
  · exact peMono (t := fun _ _ _ => False) ⟨fun _ _ _ _ _ _ z => False.elim z⟩ fun σ H Q ⟨F, r, t, R, q⟩ => by
      dsimp only at q
      rw [decide_eq_false hl] at q
      exact q
/-! ### names -/
theorem s_var {i : Nat} {x : Str} (hN : X.N[i]? = some x) (hv : Vis X.env.scope x) (hd : (x == ("__debug__" : Str)) = false) (hcd : (x == ("__classdict__" : Str)) = false) :
    PE X (.Name x pos) (tD P fun r t => match r[i]? with
      | some (.val d) => .ok d t
      | _ => .bad) := by
  refine peMono (pe_var hN hv hd hcd) fun σ H Q ⟨F, r, t, R, q⟩ => ?_
  dsimp only at q
  cases e : r[i]? with
  | none =>
    rw [e] at q
    exact q.elim
  | some s =>
    rw [e] at q
    cases s with
    | val d =>
      obtain ⟨v, e1, h⟩ := R.val i d e
      exact ⟨v, e1, q v F H Kp.refl R h⟩
    | _ => exact q.elim
theorem b_var {i : Nat} {x : Str} (hN : X.N[i]? = some x) (hv : Vis X.env.scope x) (hd : (x == ("__debug__" : Str)) = false) (hcd : (x == ("__classdict__" : Str)) = false) :
    PE X (.Name x pos) (tB P fun r t => match r[i]? with
      | some (.val d) => .ok d t
      | some (.own d) => .ok d t
      | _ => .bad) := by
  refine peMono (pe_var hN hv hd hcd) fun σ H Q ⟨F, r, t, R, q⟩ => ?_
  dsimp only at q
  cases e : r[i]? with
  | none =>
    rw [e] at q
    exact q.elim
  | some s =>
    rw [e] at q
    cases s with
    | val d =>
      obtain ⟨v, e1, h⟩ := R.val i d e
      exact ⟨v, e1, q v F H Kp.refl R (.inl h)⟩
    | own d =>
      obtain ⟨p, e1, h⟩ := R.own i d e
      exact ⟨_, e1, q _ F H Kp.refl R (.inr ⟨i, e, e1⟩)⟩
    | _ => exact q.elim
theorem s_glob {x : Str} {v : V} {u : Value} {d : D} (hg : Gl X x) (hm : X.mg x = some u) (rv : RelV v u) (h : Rp P.K P.T (fun _ => none) v d) (hd : (x == ("__debug__" : Str)) = false) : PE X (.Name x pos) (tD P fun _ t => .ok d t) :=
  peMono (pe_glob hg hm rv hd) fun σ H Q ⟨F, r, t, R, q⟩ => q v F H Kp.refl R (h.mono fun _ _ z => by cases z)
end
end Fm

/-! ### targets, what is walked, comprehensions -/
namespace Fm
open PySem PySem.Spec PyProof.Rows L2
/-- only these slots have changed -/
def Chg (is : List Nat) (σ σ' : L2.St) : Prop := σ'.length = σ.length ∧ ∀ j, j ∉ is → σ'[j]? = σ[j]?
mutual
def Tg.slots : Tg → List Nat
  | .name i => [i]
  | .tup ts => ts.slots
def Tgs.slots : Tgs → List Nat
  | .nil => []
  | .cons t ts => t.slots ++ ts.slots
end
theorem Chg.refl {is : List Nat} {σ : L2.St} : Chg is σ σ := ⟨rfl, fun _ _ => rfl⟩
theorem Chg.trans {is js : List Nat} {σ σ1 σ2 : L2.St} (a : Chg is σ σ1) (b : Chg js σ1 σ2) : Chg (is ++ js) σ σ2 :=
  ⟨b.1.trans a.1, fun j h => (b.2 j fun z => h (List.mem_append_right _ z)).trans (a.2 j fun z => h (List.mem_append_left _ z))⟩
theorem wipe_get (σ : L2.St) (j : Nat) : ∀ vs : List Nat, (wipe σ vs)[j]? = if j ∈ vs ∧ j < σ.length then some none else σ[j]?
  | [] => by simp [wipe]
  | v :: vs => by
    unfold wipe
    rw [List.getElem?_set, wipe_get σ j vs, wipe_length]
    by_cases h : v = j
    · subst h
      by_cases hl : v < σ.length
      · simp [hl]
      · simp [hl]
    · simp [h, Ne.symm h]
theorem Chg.wipe {is vs : List Nat} {σ σ' : L2.St} (c : Chg is σ σ') (h : ∀ i ∈ is, i ∈ vs) : wipe σ' vs = wipe σ vs := by
  refine List.ext_getElem? fun j => ?_
  rw [wipe_get, wipe_get, c.1]
  by_cases hj : j ∈ vs
  · by_cases hl : j < σ.length
    · simp [hj, hl]
    · simp only [hj, hl, and_false, if_false]
      rw [List.getElem?_eq_none (by rw [c.1]; omega), List.getElem?_eq_none (by omega)]
  · simp only [hj, false_and, if_false]
    exact c.2 j fun z => hj (h j z)
section
variable {P : Pm} {X : Cx} {a b c : Expr} {pos p1 p2 : Pos} {fa fb fc : Rho → Tw → Res D}
def gT (P : Pm) (tg : Tg) : TG := fun v σ H Q => ∃ F r t d r', RelP P F r t σ H ∧ Rp P.K P.T F v d ∧ setT tg d r = some r' ∧ ∀ σ', RelP P F r' t σ' H → Chg tg.slots σ σ' → Q σ' H
def gTs (P : Pm) (ts : Tgs) : TGs := fun vs σ H Q => ∃ F r t ds r', RelP P F r t σ H ∧ RpL P.K P.T F vs ds ∧ setTs ts ds r = some r' ∧ ∀ σ', RelP P F r' t σ' H → Chg ts.slots σ σ' → Q σ' H
theorem pgMono {tg : Expr} {t u : TG} (h : PG X tg t) (i : ∀ v σ H Q, u v σ H Q → t v σ H Q) : PG X tg u := ⟨fun pins s σ H v w Q I r q => h.run pins s σ H v w Q I r (i v σ H Q q)⟩
theorem pgsMono {tg : List Expr} {t u : TGs} (h : PGs X tg t) (i : ∀ v σ H Q, u v σ H Q → t v σ H Q) : PGs X tg u := ⟨fun pins s σ H v w Q I r q => h.run pins s σ H v w Q I r (i v σ H Q q)⟩
theorem g_name {i : Nat} {x : Str} (hN : X.N.Nodup) (hi : X.N[i]? = some x) (hx : Loc X.env.scope x) (hf : X.fn x = true ∨ X.env.scope.names.lookup x = some .local) : PG X (.Name x pos) (gT P (.name i)) := by
  refine pgMono (pg_name hN hi hx hf) fun v σ H Q ⟨F, r, t, d, r', R, rv, e, q⟩ => ?_
  simp only [setT] at e
  split at e
  · cases e
    refine q _ (R.setVal rv) ⟨by simp, fun j h => ?_⟩
    exact List.getElem?_set_ne (fun z => h (by simp [Tg.slots, z]))
  · cases e
theorem g_nil : PGs X [] (gTs P .nil) := pgsMono pgs_nil fun v σ H Q ⟨F, r, t, ds, r', R, rv, e, q⟩ => by
  cases rv with
  | nil =>
    cases e
    exact ⟨rfl, q σ R Chg.refl⟩
  | cons _ _ => cases e
theorem g_cons {e : Expr} {es : List Expr} {tg : Tg} {ts : Tgs} (h1 : PG X e (gT P tg)) (h2 : PGs X es (gTs P ts)) (hs : (assignEach (e :: es) X.env).map (·.2) = assign e X.env :: (assignEach es X.env).map (·.2)) : PGs X (e :: es) (gTs P (.cons tg ts)) :=
  pgsMono (pgs_cons h1 h2 hs) fun v σ H Q ⟨F, r, t, ds, r', R, rv, e, q⟩ => by
    cases rv with
    | nil => cases e
    | @cons v vs d ds h hr =>
      obtain ⟨r1, e1, e2⟩ := Option.bind_eq_some_iff.mp (show ((setT tg d r).bind fun r1 => setTs ts ds r1) = some r' from e)
      exact ⟨v, vs, rfl, F, r, t, d, r1, R, h, e1, fun σ1 R1 c1 => ⟨F, r1, t, ds, r', R1, hr, e2, fun σ2 R2 c2 => q σ2 R2 (c1.trans c2)⟩⟩
theorem setTs_len : ∀ {ts : Tgs} {ds : List D} {r r' : Rho}, setTs ts ds r = some r' → ∀ {n : Nat}, (∀ ds r r', setTs ts ds r = some r' → ds.length = n) → ds.length = n := fun h n k => k _ _ _ h
def Tgs.count : Tgs → Nat
  | .nil => 0
  | .cons _ ts => ts.count + 1
theorem setTs_count : ∀ {ts : Tgs} {ds : List D} {r r' : Rho}, setTs ts ds r = some r' → ds.length = ts.count
  | .nil, [], _, _, _ => rfl
  | .nil, _ :: _, _, _, h => by cases h
  | .cons _ _, [], _, _, h => by cases h
  | .cons t ts, d :: ds, r, r', h => by
    obtain ⟨r1, e1, e2⟩ := Option.bind_eq_some_iff.mp (show ((setT t d r).bind fun r1 => setTs ts ds r1) = some r' from h)
    show ds.length + 1 = ts.count + 1
    rw [setTs_count e2]
theorem g_tup {es : List Expr} {k : Nat} {ts : Tgs} (hK : X.K = P.K) (hc : X.calm = true) (h : PGs X es (gTs P ts)) (hn : (assignEach es X.env).length = ts.count) (hst : (assignEach es X.env).findIdx? (·.1) = none) :
    PG X (.Tuple es k pos) (gT P (.tup ts)) :=
  pgMono (pg_tup hc h hn hst) fun v σ H Q ⟨F, r, t, d, r', R, rv, e, q⟩ => by
    cases d with
    | tup ds =>
      cases rv with
      | @tup p xs ds h1 z h2 =>
        have e : setTs ts ds r = some r' := by simpa only [setT] using e
        rw [hK]
        exact ⟨p, xs, rfl, sqT_mono R.sub h1, by rw [h2.length]; exact setTs_count e, F, r, t, ds, r', R, h2, e, q⟩
    | _ => simp [setT] at e
/-! ### what is walked -/
structure WD (P : Pm) (J : It) (G : Hp → Prop) (F : Hp) (ds : List D) : Prop where
  goes : ∀ i H, i < ds.length → G H → J.go i H
  stops : ∀ H, G H → J.stop ds.length H
  yields : ∀ i H x H' d, ds[i]? = some d → G H → J.yld i H x H' → (H' = H ∧ Rp P.K P.T F x d) ∨ ∃ p xs es, x = .ref p ∧ H p = none ∧ H' = upd H p (.tup xs) ∧ d = .tup es ∧ xs.length ≤ sizeLine ∧ RpL P.K P.T F xs es
def keepG (P : Pm) (F H : Hp) (H2 : Hp) : Prop := Same F H2 ∧ ∀ a o, H a = some o → a ≠ P.T.a → a ≠ P.T.b → H2 a = some o
/-- G: what must stand while it is walked -/
def tI (P : Pm) (fz : Bool) (f : Rho → Tw → Res (List D)) : TI := fun σ H Q => ∃ F r t, RelP P F r t σ H ∧ Aft P F (f r t) fun ds t' => ∀ J F' H', Kp P.T F H F' H' → RelP P F' r t' σ H' →
  WD P J (if fz then Same F' else keepG P F' H') F' ds → Q J H'
theorem piMono {tg e : Expr} {t u : TI} (h : PI X tg e t) (i : ∀ σ H Q, u σ H Q → t σ H Q) : PI X tg e u := ⟨fun pins s σ H Q I q => h.run pins s σ H Q I (i σ H Q q)⟩
theorem WD.weak {J : It} {G G' : Hp → Prop} {F : Hp} {ds : List D} (w : WD P J G F ds) (h : ∀ H, G' H → G H) : WD P J G' F ds :=
  ⟨fun i H hi g => w.goes i H hi (h H g), fun H g => w.stops H (h H g), fun i H x H' d e g y => w.yields i H x H' d e (h H g) y⟩
theorem WD.fz {J : It} {F H : Hp} {ds : List D} (w : WD P J (Same F) F ds) (b : Bool) : WD P J (if b then Same F else keepG P F H) F ds := by
  cases b
  · exact w.weak fun H g => g.1
  · exact w
/-- a list, a tuple, a text -/
theorem pi_seq {tg : Expr} {tl : TE} (hl : PE X a tl) : PI X tg a (fun σ H R => tl σ H fun x H1 => (∃ p, x = .ref p ∧ (∃ xs, SqL X.K H1 p xs) ∧ R (Itl X.K p) H1) ∨ (∃ p, x = .ref p ∧ (∃ xs, SqT X.K H1 p xs) ∧ R (Itt X.K p) H1) ∨ ∃ z, x = .str z ∧ R (Its z) H1) := by
  constructor
  intro pins s σ H R I h
  have run := hl.run pins s σ H _ I h
  refine thn run fun v s1 ⟨_, H1, I1, rel, q⟩ => ?_
  rcases q with ⟨p, rfl, ⟨_, seq⟩, q⟩ | ⟨p, rfl, ⟨_, seq⟩, q⟩ | ⟨z, rfl, q⟩
  · cases rel
    have ⟨_, _, l, _⟩ := I1.list seq
    exact wpAny_pyIter_list l.isList (pi_one (tk := s1.toks) I1 _ (turn_list p _) ⟨_, Heap.get?_push_size _ rfl, rfl, rfl⟩ q)
  · cases rel
    have ⟨_, _, t, _⟩ := I1.tuple seq
    exact wpAny_pyIter_tuple t (pi_one (tk := s1.toks) I1 _ (turn_tuple p _) ⟨_, Heap.get?_push_size _ rfl, rfl, rfl⟩ q)
  · obtain ⟨t, rfl⟩ := rel
    cases narrow : z.cps.all (· < 128)
    · exact wpAny_pyIter_wide narrow (pi_one (tk := s1.toks) I1 _ (turn_str _ z t "str_iterator" (.inr rfl)) ⟨_, Heap.get?_push_size _ rfl, rfl, rfl⟩ q)
    · exact wpAny_pyIter_ascii narrow (pi_one (tk := s1.toks) I1 _ (turn_str _ z t "str_ascii_iterator" (.inl rfl)) ⟨_, Heap.get?_push_size _ rfl, rfl, rfl⟩ q)
theorem wd_at {J : It} {n : Nat} {G : Hp → Prop} {F : Hp} {xs : List V} {ds : List D} (w : Walk J xs.length G (YAt xs)) (q : RpL P.K P.T F xs ds) : WD P J G F ds := by
  refine ⟨fun i H hi g => w.goes i H (by rw [q.length]; exact hi) g, fun H g => by rw [← q.length]; exact w.stops H g, fun i H x H' d e g y => .inl ?_⟩
  obtain ⟨v, e1, r1⟩ := q.get e
  have hi : i < xs.length := (List.getElem?_eq_some_iff.mp e1).1
  obtain ⟨h1, h2⟩ := w.yields i H x H' hi g y
  rw [e1] at h2
  cases h2
  exact ⟨h1, r1⟩
theorem wd_lst {F : Hp} {p : Addr} {xs : List V} {ds : List D} {K : PySem.W.Frag} (hK : K = P.K) (h : F p = some (.lst xs)) (q : RpL P.K P.T F xs ds) : WD P (Itl K p) (Same F) F ds :=
  wd_at (n := 0) (walk_list.mono (fun H g => SqL.of (g _ _ h)) fun i H x H' _ _ y => y) q
theorem wd_lstO {F H : Hp} {p : Addr} {xs : List V} {ds : List D} {K : PySem.W.Frag} (hK : K = P.K) (h : H p = some (.lst xs)) (n1 : p ≠ P.T.a) (n2 : p ≠ P.T.b) (q : RpL P.K P.T F xs ds) : WD P (Itl K p) (keepG P F H) F ds :=
  wd_at (n := 0) (walk_list.mono (fun H g => SqL.of (g.2 _ _ h n1 n2)) fun i H x H' _ _ y => y) q
theorem wd_tup {F : Hp} {p : Addr} {xs : List V} {ds : List D} {K : PySem.W.Frag} (hK : K = P.K) (h : SqT K F p xs) (q : RpL P.K P.T F xs ds) : WD P (Itt K p) (Same F) F ds :=
  wd_at (n := 0) (walk_tup.mono (fun H g => sqT_mono g h) fun i H x H' _ _ y => y) q
theorem wd_str {F : Hp} {z : Str} : WD P (Its z) (Same F) F (strD z) := by
  have hl : (strD z).length = z.cps.size := by simp [strD]
  have w := walk_str (z := z)
  refine ⟨fun i H hi g => w.goes i H (by rw [← hl]; exact hi) trivial, fun H g => by rw [hl]; exact w.stops H trivial, fun i H x H' d e g y => .inl ?_⟩
  have hi : i < z.cps.size := by
    rw [← hl]
    exact (List.getElem?_eq_some_iff.mp e).1
  obtain ⟨h1, c, h2, rfl⟩ := w.yields i H x H' hi trivial y
  refine ⟨h1, ?_⟩
  have e2 : (strD z)[i]? = some (.str ⟨#[c]⟩) := by
    unfold strD
    rw [List.getElem?_map, Array.getElem?_toList, h2]
    rfl
  rw [e2] at e
  cases e
  exact .str _
def evV (f : Rho → Tw → Res D) (r : Rho) (t : Tw) : Res (List D) := (f r t).bind fun x t1 => match x with
    | .tup xs => .ok xs t1
    | .lst xs => .ok xs t1
    | .str x => .ok (strD x) t1
    | _ => .bad
theorem i_val {tg : Expr} (hK : X.K = P.K) (ha : PE X a (tD P fa)) : PI X tg a (tI P true (evV fa)) := piMono (pi_seq ha) fun σ H Q ⟨F, r, t, R, h⟩ => ⟨F, r, t, R, h.bind.mono fun d t' h v F' H' s R' rv => by
  cases d with
  | tup ds =>
    cases rv with
    | @tup p xs ds h1 z h2 => exact .inr (.inl ⟨p, rfl, ⟨xs, by rw [hK]; exact sqT_mono R'.sub h1⟩, h _ _ _ s R' (wd_tup hK (by rw [hK]; exact h1) h2)⟩)
  | lst ds =>
    cases rv with
    | @lst p xs ds h1 z h2 => exact .inl ⟨p, rfl, ⟨xs, SqL.of (R'.sub _ _ h1)⟩, h _ _ _ s R' (wd_lst hK h1 h2)⟩
  | str z =>
    cases rv
    exact .inr (.inr ⟨z, rfl, h _ _ _ s R' wd_str⟩)
  | _ => exact (show False from h).elim⟩
theorem i_bor {tg : Expr} (hK : X.K = P.K) (ha : PE X a (tB P fa)) : PI X tg a (tI P false (evV fa)) := piMono (pi_seq ha) fun σ H Q ⟨F, r, t, R, h⟩ => ⟨F, r, t, R, h.bind.mono fun d t' h v F' H' s R' rv => by
  cases d with
  | tup ds =>
    obtain ⟨p, xs, rfl, h1, z, h2⟩ := rv.tup R'
    exact .inr (.inl ⟨p, rfl, ⟨xs, by rw [hK]; exact sqT_mono R'.sub h1⟩, h _ _ _ s R' ((wd_tup hK (by rw [hK]; exact h1) h2).fz false)⟩)
  | lst ds =>
    obtain ⟨p, xs, rfl, h1, z, h2⟩ := rv.lst R'
    have n1 : p ≠ P.T.a := fun e => by
      rw [e, R'.tw.a] at h1
      cases h1
    have n2 : p ≠ P.T.b := fun e => by
      rw [e, R'.tw.b] at h1
      cases h1
    exact .inl ⟨p, rfl, ⟨xs, SqL.of h1⟩, h _ _ _ s R' (wd_lstO hK h1 n1 n2 h2)⟩
  | str z =>
    obtain rfl := rv.str R'
    exact .inr (.inr ⟨z, rfl, h _ _ _ s R' (wd_str.fz false)⟩)
  | _ => exact (show False from h).elim⟩
theorem wd_rng {F : Hp} {lo : Int} {n : Nat} : WD P (Itr lo n) (Same F) F (rngD lo n) := by
  have hl : (rngD lo n).length = n := by simp [rngD]
  refine ⟨fun i H hi g => (by rw [hl] at hi; exact hi), fun H g => (by rw [hl]; exact Nat.le_refl _), fun i H x H' d e g y => .inl ?_⟩
  obtain ⟨h1, h2⟩ := y
  refine ⟨h1, ?_⟩
  have hi : i < n := by
    rw [← hl]
    exact (List.getElem?_eq_some_iff.mp e).1
  have e2 : (rngD lo n)[i]? = some (.int (lo + (i : Nat))) := by
    unfold rngD
    rw [List.getElem?_map, List.getElem?_range hi]
    rfl
  rw [e2] at e
  cases e
  rw [h2]
  exact .int _
theorem okRng_of {i : Int} (h : okRng i = true) : -(2 ^ 62) ≤ i ∧ i < 2 ^ 62 := by
  have := Bool.and_eq_true_iff.mp h
  exact ⟨of_decide_eq_true this.1, of_decide_eq_true this.2⟩
theorem i_rng1 {tg : Expr} {fz : Bool} (hg : Gl X "range") (hm : X.mg "range" = none) (ha : PE X a (tB P fa)) (hs : starEach [a] X.env = (false, eval a X.env) :: starEach [] X.env) :
    PI X tg (.Call (.Name "range" p1) [a] [] pos) (tI P fz fun r t => (fa r t).bind fun x t1 => match x with
    | .int j => if okRng j then .ok (rngD 0 j.toNat) t1 else .bad
    | _ => .bad) := piMono (pi_range1 hg hm (pa_cons ha pa_nil hs) hs) fun σ H Q ⟨F, r, t, R, h⟩ => ⟨F, r, t, R, h.bind.mono fun d t' h v F' H' s R' rv => by
  cases d with
  | int j =>
    have h : Aft P F (if okRng j then .ok (rngD 0 j.toNat) t' else .bad) _ := h
    split at h
    · rename_i hr
      obtain ⟨h1, h2⟩ := okRng_of hr
      exact ⟨j, by rw [rv.int R'], h1, h2, h _ _ _ s R' (wd_rng.fz fz)⟩
    · exact h.elim
  | _ => exact (show False from h).elim⟩
theorem i_rng2 {tg : Expr} {fz : Bool} (hg : Gl X "range") (hm : X.mg "range" = none) (ha : PE X a (tB P fa)) (hb : PE X b (tB P fb)) (hs : starEach [a, b] X.env = (false, eval a X.env) :: starEach [b] X.env) (hs2 : starEach [b] X.env = (false, eval b X.env) :: starEach [] X.env) :
    PI X tg (.Call (.Name "range" p1) [a, b] [] pos) (tI P fz fun r t => (fa r t).bind fun x t1 => (fb r t1).bind fun y t2 => match x, y with
    | .int i, .int j => if okRng i && okRng j then .ok (rngD i (j - i).toNat) t2 else .bad
    | _, _ => .bad) := piMono (pi_range2 hg hm (pa_cons ha (pa_cons hb pa_nil hs2) hs) (hs.trans (by rw [hs2]; rfl)) hs2) fun σ H Q ⟨F, r, t, R, h⟩ => ⟨F, r, t, R, h.bind.mono fun dx t1 h v F1 H1 s1 R1 rx => ⟨F1, r, t1, R1, (h.up s1.1).bind.mono fun dy t2 h w F2 H2 s2 R2 ry => by
  cases dx with
  | int i =>
    cases dy with
    | int j =>
      have h : Aft P F1 (if okRng i && okRng j then .ok (rngD i (j - i).toNat) t2 else .bad) _ := h
      split at h
      · rename_i hr
        have hr := Bool.and_eq_true_iff.mp hr
        obtain ⟨h1, h2⟩ := okRng_of hr.1
        obtain ⟨h3, h4⟩ := okRng_of hr.2
        exact ⟨i, j, by rw [rx.int R1, ry.int R2], ⟨h1, h2, h3, h4⟩, h _ _ _ (s1.trans s2) R2 (wd_rng.fz fz)⟩
      · exact h.elim
    | _ => exact (show False from h).elim
  | _ => exact (show False from h).elim⟩⟩
/-! zip, enumerate -/
theorem zipD_len : ∀ xs ys : List D, (zipD xs ys).length = min xs.length ys.length
  | [], ys => by simp [zipD]
  | _ :: _, [] => by simp [zipD]
  | x :: xs, y :: ys => by
    simp only [zipD, List.length_cons, zipD_len xs ys]
    omega
theorem zipD_get : ∀ {xs ys : List D} {i : Nat} {d : D}, (zipD xs ys)[i]? = some d → ∃ a b, xs[i]? = some a ∧ ys[i]? = some b ∧ d = .tup [a, b]
  | [], ys, i, d, h => by simp [zipD] at h
  | _ :: _, [], i, d, h => by simp [zipD] at h
  | x :: xs, y :: ys, 0, d, h => by
    simp only [zipD, List.getElem?_cons_zero, Option.some.injEq] at h
    exact ⟨x, y, rfl, rfl, h.symm⟩
  | x :: xs, y :: ys, i + 1, d, h => by
    simp only [zipD, List.getElem?_cons_succ] at h
    obtain ⟨a, b, h1, h2, h3⟩ := zipD_get h
    exact ⟨a, b, by simpa using h1, by simpa using h2, h3⟩
theorem two_line : (2 : Nat) ≤ sizeLine := by
  rw [sizeLine_eq]
  decide
theorem wd_pair {J : It} {n : Nat} {G : Hp → Prop} {F : Hp} {ds : List D} {f g : Nat → Option V} (w : Walk J n G (YPair f g)) (hl : ds.length = n)
    (h : ∀ i d, ds[i]? = some d → ∃ x y a b, f i = some x ∧ g i = some y ∧ d = .tup [a, b] ∧ Rp P.K P.T F x a ∧ Rp P.K P.T F y b) : WD P J G F ds := by
  refine ⟨fun i H hi g => w.goes i H (by rw [← hl]; exact hi) g, fun H g => by rw [hl]; exact w.stops H g, fun i H x H' d e g y => .inr ?_⟩
  have hi : i < n := by
    rw [← hl]
    exact (List.getElem?_eq_some_iff.mp e).1
  obtain ⟨T, x1, y1, h1, h2, h3, h4, h5⟩ := w.yields i H x H' hi g y
  obtain ⟨x2, y2, a, b, h6, h7, h8, h9, h10⟩ := h i d e
  rw [h4] at h6
  rw [h5] at h7
  cases h6
  cases h7
  exact ⟨T, [x1, y1], [a, b], h1, h2, h3, h8, two_line, .cons h9 (.cons h10 .nil)⟩
theorem zip_both {F : Hp} {xs ys : List V} {ds es : List D} (q1 : RpL P.K P.T F xs ds) (q2 : RpL P.K P.T F ys es) (i : Nat) (d : D) (e : (zipD ds es)[i]? = some d) :
    ∃ x y a b, xs[i]? = some x ∧ ys[i]? = some y ∧ d = .tup [a, b] ∧ Rp P.K P.T F x a ∧ Rp P.K P.T F y b := by
  obtain ⟨a, b, h1, h2, h3⟩ := zipD_get e
  obtain ⟨x, h4, h5⟩ := q1.get h1
  obtain ⟨y, h6, h7⟩ := q2.get h2
  exact ⟨x, y, a, b, h4, h6, h3, h5, h7⟩
def zipE (fa fb : Rho → Tw → Res D) (r : Rho) (t : Tw) : Res (List D) := (fa r t).bind fun x t1 => (fb r t1).bind fun y t2 => match x, y with
    | .tup xs, .tup ys => .ok (zipD xs ys) t2
    | .lst xs, .lst ys => .ok (zipD xs ys) t2
    | _, _ => .bad
theorem own_ne {F H : Hp} {r : Rho} {t : Tw} {σ : L2.St} {p : Addr} {xs : List V} (R : RelP P F r t σ H) (h1 : H p = some (.lst xs)) : p ≠ P.T.a ∧ p ≠ P.T.b := by
  refine ⟨fun e => ?_, fun e => ?_⟩
  · rw [e, R.tw.a] at h1
    cases h1
  · rw [e, R.tw.b] at h1
    cases h1
theorem walk_zipT {K : PySem.W.Frag} {a b : Addr} {xs ys : List V} {n : Nat} (hn : n = min xs.length ys.length) : Walk (RZ.ItzT K a b) n (fun H => SqT K H a xs ∧ SqT K H b ys) (YPair (fun i => xs[i]?) (fun i => ys[i]?)) where
  goes := fun i _ lt ⟨sa, sb⟩ =>
    have la : i < xs.length := by omega
    have lb : i < ys.length := by omega
    ⟨xs, ys, xs[i], ys[i], sa, sb, List.getElem?_eq_getElem la, List.getElem?_eq_getElem lb⟩
  stops := fun _ ⟨sa, sb⟩ => ⟨xs, ys, sa, sb, by omega⟩
  yields := fun _ _ _ _ _ ⟨sa, sb⟩ ⟨T, x, z, ev, new, eH, ia, ib⟩ => ⟨T, x, z, ev, new, eH, ia xs sa, ib ys sb⟩
theorem i_zipB {elts : List Expr} {kk : Nat} {tpos : Pos} (hK : X.K = P.K) (hg : Gl X "zip") (hm : X.mg "zip" = none) (ha : PE X a (tB P fa)) (hb : PE X b (tB P fb)) (hs : starEach [a, b] X.env = (false, eval a X.env) :: starEach [b] X.env) (hs2 : starEach [b] X.env = (false, eval b X.env) :: starEach [] X.env) :
    PI X (.Tuple elts kk tpos) (.Call (.Name "zip" p1) [a, b] [] pos) (tI P false (zipE fa fb)) :=
  piMono (RZ.pi_zipA hg hm (pa_cons ha (pa_cons hb pa_nil hs2) hs) hs (by rw [hs2]; rfl)) fun σ H Q ⟨F, r, t, R, h⟩ => ⟨F, r, t, R, h.bind.mono fun dx t1 h v F1 H1 s1 R1 rx => ⟨F1, r, t1, R1, (h.up s1.1).bind.mono fun dy t2 h w F2 H2 s2 R2 ry => by
    cases dx with
    | tup xs =>
      cases dy with
      | tup ys =>
        obtain ⟨p1, v1, rfl, e1, z1, q1⟩ := (rx.mono s2.1).tup R2
        obtain ⟨p2, v2, rfl, e2, z2, q2⟩ := ry.tup R2
        refine ⟨p1, p2, v1, v2, rfl, .inr ⟨by rw [hK]; exact sqT_mono R2.sub e1, by rw [hK]; exact sqT_mono R2.sub e2, h _ _ _ (s1.trans s2) R2 ?_⟩⟩
        refine (wd_pair (G := fun H => SqT X.K H p1 v1 ∧ SqT X.K H p2 v2) (walk_zipT (n := min v1.length v2.length) rfl) (by rw [zipD_len, q1.length, q2.length]) (zip_both q1 q2)).weak fun H g => ?_
        rw [hK]
        exact ⟨sqT_mono g.1 e1, sqT_mono g.1 e2⟩
      | _ => exact (show False from h).elim
    | lst xs =>
      cases dy with
      | lst ys =>
        obtain ⟨p1, v1, rfl, e1, z1, q1⟩ := (rx.mono s2.1).lst R2
        obtain ⟨p2, v2, rfl, e2, z2, q2⟩ := ry.lst R2
        have n1 := own_ne R2 e1
        have n2 := own_ne R2 e2
        refine ⟨p1, p2, v1, v2, rfl, .inl ⟨SqL.of e1, SqL.of e2, h _ _ _ (s1.trans s2) R2 ?_⟩⟩
        exact (wd_pair (walk_zip (n := min v1.length v2.length) rfl) (by rw [zipD_len, q1.length, q2.length]) (zip_both q1 q2)).weak fun H g => ⟨SqL.of (g.2 _ _ e1 n1.1 n1.2), SqL.of (g.2 _ _ e2 n2.1 n2.2)⟩
      | _ => exact (show False from h).elim
    | _ => exact (show False from h).elim⟩⟩
theorem i_zip {elts : List Expr} {kk : Nat} {tpos : Pos} (hK : X.K = P.K) (hg : Gl X "zip") (hm : X.mg "zip" = none) (ha : PE X a (tD P fa)) (hb : PE X b (tD P fb)) (hs : starEach [a, b] X.env = (false, eval a X.env) :: starEach [b] X.env) (hs2 : starEach [b] X.env = (false, eval b X.env) :: starEach [] X.env) :
    PI X (.Tuple elts kk tpos) (.Call (.Name "zip" p1) [a, b] [] pos) (tI P true (zipE fa fb)) :=
  piMono (RZ.pi_zipA hg hm (pa_cons ha (pa_cons hb pa_nil hs2) hs) hs (by rw [hs2]; rfl)) fun σ H Q ⟨F, r, t, R, h⟩ => ⟨F, r, t, R, h.bind.mono fun dx t1 h v F1 H1 s1 R1 rx => ⟨F1, r, t1, R1, (h.up s1.1).bind.mono fun dy t2 h w F2 H2 s2 R2 ry => by
    have rx := rx.mono s2.1
    cases dx with
    | tup xs =>
      cases dy with
      | tup ys =>
        cases rx with
        | @tup p1 v1 _ e1 z1 q1 =>
        cases ry with
        | @tup p2 v2 _ e2 z2 q2 =>
        refine ⟨p1, p2, v1, v2, rfl, .inr ⟨by rw [hK]; exact sqT_mono R2.sub e1, by rw [hK]; exact sqT_mono R2.sub e2, h _ _ _ (s1.trans s2) R2 ?_⟩⟩
        refine (wd_pair (G := fun H => SqT X.K H p1 v1 ∧ SqT X.K H p2 v2) (walk_zipT (n := min v1.length v2.length) rfl) (by rw [zipD_len, q1.length, q2.length]) (zip_both q1 q2)).weak fun H g => ?_
        rw [hK]
        exact ⟨sqT_mono g e1, sqT_mono g e2⟩
      | _ => exact (show False from h).elim
    | lst xs =>
      cases dy with
      | lst ys =>
        cases rx with
        | @lst p1 v1 _ e1 z1 q1 =>
        cases ry with
        | @lst p2 v2 _ e2 z2 q2 =>
        refine ⟨p1, p2, v1, v2, rfl, .inl ⟨SqL.of (R2.sub _ _ e1), SqL.of (R2.sub _ _ e2), h _ _ _ (s1.trans s2) R2 ?_⟩⟩
        exact (wd_pair (walk_zip (n := min v1.length v2.length) rfl) (by rw [zipD_len, q1.length, q2.length]) (zip_both q1 q2)).weak fun H g => ⟨SqL.of (g _ _ e1), SqL.of (g _ _ e2)⟩
      | _ => exact (show False from h).elim
    | _ => exact (show False from h).elim⟩⟩
theorem enumD_get : ∀ {xs : List D} {k i : Nat} {d : D}, (enumD k xs)[i]? = some d → ∃ a, xs[i]? = some a ∧ d = .tup [.int ((k + i : Nat) : Int), a]
  | [], k, i, d, h => by simp [enumD] at h
  | x :: xs, k, 0, d, h => by
    simp only [enumD, List.getElem?_cons_zero, Option.some.injEq] at h
    exact ⟨x, rfl, h.symm⟩
  | x :: xs, k, i + 1, d, h => by
    simp only [enumD, List.getElem?_cons_succ] at h
    obtain ⟨a, h1, h2⟩ := enumD_get h
    refine ⟨a, by simpa using h1, ?_⟩
    rw [h2, show k + 1 + i = k + (i + 1) by omega]
theorem enumD_len : ∀ (xs : List D) (k : Nat), (enumD k xs).length = xs.length
  | [], _ => rfl
  | x :: xs, k => by simp only [enumD, List.length_cons, enumD_len xs]
theorem enum_one {F : Hp} {xs : List V} {ds : List D} (q1 : RpL P.K P.T F xs ds) (i : Nat) (d : D) (e : (enumD 0 ds)[i]? = some d) :
    ∃ x y a b, (some (V.int (i : Nat)) : Option V) = some x ∧ xs[i]? = some y ∧ d = .tup [a, b] ∧ Rp P.K P.T F x a ∧ Rp P.K P.T F y b := by
  obtain ⟨a, h1, h2⟩ := enumD_get e
  obtain ⟨x, h4, h5⟩ := q1.get h1
  refine ⟨_, x, _, a, rfl, h4, h2, ?_, h5⟩
  rw [Nat.zero_add]
  exact .int _
def enumE (fa : Rho → Tw → Res D) (r : Rho) (t : Tw) : Res (List D) := (fa r t).bind fun x t1 => match x with
    | .lst xs => .ok (enumD 0 xs) t1
    | _ => .bad
theorem i_enumB {elts : List Expr} {kk : Nat} {tpos : Pos} (hK : X.K = P.K) (hg : Gl X "enumerate") (hm : X.mg "enumerate" = none) (ha : PE X a (tB P fa)) (hs : starEach [a] X.env = (false, eval a X.env) :: starEach [] X.env) :
    PI X (.Tuple elts kk tpos) (.Call (.Name "enumerate" p1) [a] [] pos) (tI P false (enumE fa)) :=
  piMono (pi_enum hg hm (pa_cons ha pa_nil hs) hs) fun σ H Q ⟨F, r, t, R, h⟩ => ⟨F, r, t, R, h.bind.mono fun dx t1 h v F1 H1 s1 R1 rx => by
    cases dx with
    | lst xs =>
      obtain ⟨p1, v1, rfl, e1, z1, q1⟩ := rx.lst R1
      have n1 := own_ne R1 e1
      refine ⟨p1, v1, rfl, SqL.of e1, h _ _ _ s1 R1 ?_⟩
      exact (wd_pair walk_enum (by rw [enumD_len, q1.length]) (enum_one q1)).weak fun H g => SqL.of (g.2 _ _ e1 n1.1 n1.2)
    | _ => exact (show False from h).elim⟩
theorem i_enum {elts : List Expr} {kk : Nat} {tpos : Pos} (hK : X.K = P.K) (hg : Gl X "enumerate") (hm : X.mg "enumerate" = none) (ha : PE X a (tD P fa)) (hs : starEach [a] X.env = (false, eval a X.env) :: starEach [] X.env) :
    PI X (.Tuple elts kk tpos) (.Call (.Name "enumerate" p1) [a] [] pos) (tI P true (enumE fa)) :=
  piMono (pi_enum hg hm (pa_cons ha pa_nil hs) hs) fun σ H Q ⟨F, r, t, R, h⟩ => ⟨F, r, t, R, h.bind.mono fun dx t1 h v F1 H1 s1 R1 rx => by
    cases dx with
    | lst xs =>
      cases rx with
      | @lst p1 v1 _ e1 z1 q1 =>
      refine ⟨p1, v1, rfl, SqL.of (R1.sub _ _ e1), h _ _ _ s1 R1 ?_⟩
      exact (wd_pair walk_enum (by rw [enumD_len, q1.length]) (enum_one q1)).weak fun H g => SqL.of (g _ _ e1)
    | _ => exact (show False from h).elim⟩
/-! ### comprehensions -/
/-- a turn's outcome: the element, or nothing -/
def turnE (tg : Tg) (vs : List Nat) (fc : Rho → Tw → Res (Option D)) (fe : Rho → Tw → Res D) (r : Rho) (d : D) (t : Tw) : Res (Option D) := match setT tg d (wipeR r vs) with
        | some r2 => (fc r2 t).bind fun o t => match o with
          | none => (fe r2 t).bind fun x t => .ok (some x) t
          | some y => match truD y with
            | some true => (fe r2 t).bind fun x t => .ok (some x) t
            | some false => .ok none t
            | none => .bad
        | none => .bad
/-- a clause's tests, none or one -/
def tC1 (P : Pm) (f : Rho → Tw → Res (Option D)) : TT := fun σ H Q => ∃ F r t, RelP P F r t σ H ∧ Aft P F (f r t) fun o t' => ∃ b, (match o with | none => some true | some y => truD y) = some b ∧ ∀ F' H', Kp P.T F H F' H' → RelP P F' r t' σ H' → Q b H'
theorem c_none : PTs X [] (tC1 P fun _ t => .ok none t) := ⟨fun pins s σ H Q I ⟨F, r, t, R, b, e, q⟩ => by
  cases e
  exact pts_nil.run pins s σ H Q I (q F H Kp.refl R)⟩
theorem c_some (ha : PT X a (tT P fa)) : PTs X [a] (tC1 P fun r t => (fa r t).bind fun x t1 => .ok (some x) t1) := ⟨fun pins s σ H Q I ⟨F, r, t, R, h⟩ =>
  (pts_one ha).run pins s σ H Q I ⟨F, r, t, R, h.bind.mono fun d t' q => q⟩⟩
end
end Fm

/-! ### zip of two tuples, the pair kept under a name -/
namespace Fm
open PySem PySem.Spec PyProof.Rows L2 RZ
section
variable {prog : Program} {w : World} {A : Around} {E : Value → Shared → Prop} {s : Shared}
theorem drawsT {it a : Addr} {items : Array Value} (hh : A.handled = none) (hne : it ≠ a) : Draws prog w A it [it, a] items.size (fun i x => items[i]? = some x) (fun i h => h.IsTupleIter it a i ∧ h.IsTuple a items) where
  live := fun i h st => let ⟨⟨o, ho, _⟩, _⟩ := st; ⟨o, ho⟩
  frame := fun i h h' st k => ⟨st.1.at fun o q => k it (by simp) o q, let ⟨o, ho, r⟩ := st.2; ⟨o, k a (by simp) o ho, r⟩⟩
  item := fun i s Q E hi st hQ => nextOf_tuple_item st.1 st.2 (Array.getElem?_eq_getElem hi) fun h' h1 sb => hQ _ h' s.toks (Array.getElem?_eq_getElem hi) ⟨h1, let ⟨o, ho, r⟩ := st.2; ⟨o, (sb.2 a (Ne.symm hne)).trans ho, r⟩⟩ sb
  done := fun s Q E st hE => nextOf_tuple_end hh st.1 st.2 (Array.getElem?_eq_none (Nat.le_refl _)) hE
end
/-- whatever is not named is as it was -/
def Out (S : List Addr) (h h' : Heap) : Prop := ∀ b o, b ∉ S → h.get? b = some o → h'.get? b = some o
theorem Out.refl (S : List Addr) (h : Heap) : Out S h h := fun _ _ _ q => q
theorem Out.then {S : List Addr} {h h1 h2 : Heap} (p : Out S h h1) (q : Out S h1 h2) : Out S h h2 := fun b o n e => q b o n (p b o n e)
theorem Out.same {S : List Addr} {a : Addr} {h h' : Heap} (m : a ∈ S) (q : Heap.SameBut a h h') : Out S h h' := fun b _ n e => (q.2 b fun z => n (z ▸ m)).trans e
theorem Out.ext {S : List Addr} {a : Addr} {h h' : Heap} (m : a ∈ S) (q : Heap.ExtBut a h h') : Out S h h' := fun b o n e => q b o (fun z => n (z ▸ m)) e
theorem Out.push {S : List Addr} {h : Heap} (o : Obj) : Out S h (h.push o) := fun _ _ _ => Heap.get?_push_of_some _
abbrev zipO (TI TO : Addr) (v0 : Value) (f : Bool) : Obj := { cls := .type "zip", dict := none, data := .fields #[v0, .bool f, .bool false, .ref TI, .ref TO], slots := #[] }
section
variable {prog : Program} {w : World} {A : Around} {E : Value → Shared → Prop} {s : Shared} {z TI TO : Addr} {v0 : Value} {f : Bool}
theorem wpAny_alive {M : Model} {T : Addr} {Q : Option Obj → Shared → Prop} (q : Q (s.heap.get? T) s) : wpAny M A (loadIfAlive T) Q E s := fun Γ p hΓ => by
  show Sem.wp M Γ (.loadIfAlive T .pure) _ _ p s
  rw [Sem.wp_loadIfAlive]
  exact wpAny_pure (M := M) (A := A) q Γ p hΓ
/-- the tuple that was given out is gone, or somebody holds it -/
theorem owned_or {Q : Bool → Shared → Prop} (hv : v0 = .none ∨ ∃ T : Addr, v0 = rawInt T) (hz : s.heap.get? z = some (zipO TI TO v0 f)) (free : Q true s) (held : ∀ h', h'.get? z = some (zipO TI TO v0 true) → Heap.SameBut z s.heap h' → Q false { s with heap := h' }) :
    wpAny (model prog w) A (Builtin.SmallTypes.ownedTupleIsFree (.ref z)) Q E s := by
  rcases hv with rfl | ⟨T, rfl⟩
  · exact wpAny_bind (wpAny_field hz rfl (x := .none) rfl (wpAny_pure free))
  · cases alive : s.heap.get? T with
    | some o => exact wpAny_tupleHeld_zip hz alive held
    | none =>
      refine wpAny_bind (wpAny_field hz rfl (x := rawInt T) rfl (wpAny_bind (m := loadIfAlive ((T : Int).toNat)) (wpAny_alive ?_)))
      rw [Int.toNat_natCast, alive]
      exact wpAny_pure free
/-- a walk does not see what it does not own -/
theorem Draws.off {i a : Addr} {fp : List Addr} {n k : Nat} {P : Nat → Value → Prop} {St : Nat → Heap → Prop} {h h' : Heap} (D : Draws prog w A i fp n P St) (na : a ∉ fp) (same : Heap.SameBut a h h') (st : St k h) : St k h' :=
  D.frame _ _ _ st fun b hb o e => (same.2 b fun q => na (q ▸ hb)).trans e
/-- the addresses of a zip over two walks are apart -/
structure ZAp (z TI TO i1 i2 : Addr) (f1 f2 : List Addr) : Prop where
  src : TI ∉ [z, TO, i1, i2]
  own : TO ≠ z ∧ TO ≠ i1 ∧ TO ≠ i2
  zip : z ≠ i1 ∧ z ≠ i2
  one : z ∉ f1 ∧ TO ∉ f1 ∧ i2 ∉ f1
  two : z ∉ f2 ∧ TO ∉ f2 ∧ i1 ∉ f2
/-- k pairs were drawn -/
structure Zp (S1 S2 : Nat → Heap → Prop) (z TI TO i1 i2 : Addr) (k : Nat) (h : Heap) : Prop where
  zip : ∃ v0 f, (v0 = .none ∨ ∃ T : Addr, v0 = rawInt T) ∧ h.get? z = some (zipO TI TO v0 f)
  src : IsPair h TI (.ref i1) (.ref i2)
  own : ∃ x y, IsPair h TO x y
  one : S1 k h
  two : S2 k h
variable {i1 i2 : Addr} {f1 f2 : List Addr} {n1 n2 k : Nat} {P1 P2 : Nat → Value → Prop} {S1 S2 : Nat → Heap → Prop}
theorem zip_next_ok {Q : Value → Shared → Prop} (ap : ZAp z TI TO i1 i2 f1 f2) (D1 : Draws prog w A i1 f1 n1 P1 S1) (D2 : Draws prog w A i2 f2 n2 P2 S2) (Z : Zp S1 S2 z TI TO i1 i2 k s.heap) (l1 : k < n1) (l2 : k < n2)
    (hQ : ∀ h' tk x y, P1 k x → P2 k y → Zp S1 S2 z TI TO i1 i2 (k + 1) h' → IsPair h' s.heap.objs.size x y → h'.objs.size = s.heap.objs.size + 1 → Out [z, TO, i1, i2] s.heap h' → Q (.ref s.heap.objs.size) { s with heap := h', toks := tk }) :
    wpAny (model prog w) A (Builtin.«zip.__next__» ⟨[.ref z], []⟩) (fun fin s' => ∃ v, fin = .done (.ret v) ∧ Q v s') E s := by
  obtain ⟨⟨v0, f, hv, hz⟩, src, ⟨a, b, own⟩, st1, st2⟩ := Z
  refine wpAny_bind (m := field (.ref z) 2) (wpAny_field hz rfl (x := .bool false) rfl (wpAny_bind (m := field (.ref z) 3) (wpAny_field hz rfl (x := .ref TI) rfl (wpAny_bind (wpAny_seqItems src rfl ?_)))))
  refine wpAny_bind (m := Builtin.SmallTypes.ownedTupleIsFree (.ref z)) (owned_or hv hz ?_ ?_)
  · rw [if_pos rfl]
    refine wpAny_bind (wpAny_rule (wpAny_bind (m := field (.ref z) 4) (wpAny_field hz rfl (x := .ref TO) rfl (wpAny_bind (wpAny_setField_rec hz (k := 0) (x := .ellipsis) (by simp) fun h1 hz1 e1 => ?_)))))
    have own1 : IsPair h1 TO a b := (e1.2 _ ap.own.1).trans own
    simp only [List.zipIdx_cons, List.zipIdx_nil, List.forIn_cons, List.forIn_nil]
    refine wpAny_bind (wpAny_bind (wpAny_bind (wpAny_onRaise (wpAny_bind (m := Builtin.SmallTypes.nextOf (.ref i1)) (D1.item k _ _ _ l1 (Draws.off D1 ap.one.1 e1 st1) fun x h2 t2 px st1' e2 => wpAny_pure ?_)))))
    have own2 : IsPair h2 TO a b := (e2.2 _ ap.own.2.1).trans own1
    refine wpAny_bind (wpAny_seqItems own2 rfl (wpAny_bind (wpAny_updateSeq_pair own2 fun h3 own3 e3 => wpAny_bind (wpAny_letGo (wpAny_pure ?_)))))
    replace own3 : IsPair h3 TO x b := own3
    have st2' : S2 k h3 := Draws.off D2 ap.two.2.1 e3 (Draws.off D2 ap.two.2.2 e2 (Draws.off D2 ap.two.1 e1 st2))
    refine wpAny_bind (wpAny_bind (wpAny_onRaise (wpAny_bind (m := Builtin.SmallTypes.nextOf (.ref i2)) (D2.item k _ _ _ l2 st2' fun y h4 t4 py st2'' e4 => wpAny_pure ?_))))
    have own4 : IsPair h4 TO x b := (e4.2 _ ap.own.2.2).trans own3
    refine wpAny_bind (wpAny_seqItems own4 rfl (wpAny_bind (wpAny_updateSeq_pair own4 fun h5 own5 e5 => wpAny_bind (wpAny_letGo (wpAny_pure (wpAny_pure ?_))))))
    replace own5 : IsPair h5 TO x y := own5
    refine wpAny_bind (wpAny_seqItems own5 rfl (wpAny_bind (wpAny_newTuple ?_)))
    -- the pair is given out: the zip tells its place
    have S : Out [z, TO, i1, i2] s.heap h5 := (Out.same (by simp) e1).then ((Out.same (by simp) e2).then ((Out.same (by simp) e3).then ((Out.same (by simp) e4).then (Out.same (by simp) e5))))
    have size5 : h5.objs.size = s.heap.objs.size := by rw [e5.1, e4.1, e3.1, e2.1, e1.1]
    have hz5 : h5.get? z = some (zipO TI TO .ellipsis f) := (e5.2 _ ap.own.1.symm).trans ((e4.2 _ ap.zip.2).trans ((e3.2 _ ap.own.1.symm).trans ((e2.2 _ ap.zip.1).trans hz1)))
    have pair6 := Heap.get?_push_size (o := { cls := .type "tuple", data := .seq #[x, y] }) h5 rfl
    have new : s.heap.objs.size ≠ z := Nat.ne_of_gt (Heap.lt_size hz)
    rw [size5] at pair6 ⊢
    refine wpAny_bind (wpAny_bind (m := setField (.ref z) 0 (rawInt s.heap.objs.size)) (wpAny_setField_rec (Heap.get?_push_of_some _ hz5) (by simp) fun h7 hz7 e7 => wpAny_setField_rec hz7 (by simp) fun h8 hz8 e8 => wpAny_pure ⟨_, rfl, ?_⟩))
    have off : ∀ {c : Addr} {o : Obj}, c ≠ z → h5.get? c = some o → h8.get? c = some o := fun n q => (e8.2 _ n).trans ((e7.2 _ n).trans (Heap.get?_push_of_some _ q))
    have st1z : S1 (k + 1) h5 := Draws.off D1 ap.one.2.1 e5 (Draws.off D1 ap.one.2.2 e4 (Draws.off D1 ap.one.2.1 e3 st1'))
    have st2z : S2 (k + 1) h5 := Draws.off D2 ap.two.2.1 e5 st2''
    refine hQ h8 _ x y px py ⟨⟨_, false, .inr ⟨_, rfl⟩, hz8⟩, off (fun q => ap.src (by simp [q])) (S _ _ ap.src src), ⟨x, y, off ap.own.1 own5⟩, D1.frame _ _ _ st1z fun b hb o q => off (fun e => ap.one.1 (e ▸ hb)) q, D2.frame _ _ _ st2z fun b hb o q => off (fun e => ap.two.1 (e ▸ hb)) q⟩ ((e8.2 _ new).trans ((e7.2 _ new).trans pair6)) ?_ (S.then fun b o n q => off (fun e => n (by simp [e])) q)
    rw [e8.1, e7.1, Heap.size_push, size5]
  · intro h1 hz1 same1
    rw [if_neg Bool.false_ne_true]
    refine wpAny_bind ?_
    rw [← Array.forIn_toList]
    simp only [List.forIn_cons, List.forIn_nil]
    have live1 : S1 k h1 := Draws.off D1 ap.one.1 same1 st1
    refine wpAny_bind (wpAny_bind (wpAny_holding (wpAny_bind (m := Builtin.SmallTypes.nextOf (.ref i1)) (D1.item k _ _ _ l1 live1 fun x h2 t2 px st1' e2 => wpAny_pure (wpAny_pure ?_)))))
    have live2 : S2 k h2 := Draws.off D2 ap.two.2.2 e2 (Draws.off D2 ap.two.1 same1 st2)
    refine wpAny_bind (wpAny_bind (wpAny_holding (wpAny_bind (m := Builtin.SmallTypes.nextOf (.ref i2)) (D2.item k _ _ _ l2 live2 fun y h3 t3 py st2' e3 => wpAny_pure (wpAny_pure (wpAny_pure ?_))))))
    refine wpAny_bind (wpAny_newTuple (wpAny_pure ⟨_, rfl, ?_⟩) (show 2 ≤ sizeLine by decide))
    have size3 : h3.objs.size = s.heap.objs.size := by rw [e3.1, e2.1, same1.1]
    have S : Out [z, TO, i1, i2] s.heap h3 := (Out.same (by simp) same1).then ((Out.same (by simp) e2).then (Out.same (by simp) e3))
    have up : ∀ {c : Addr} {o : Obj}, h3.get? c = some o → (h3.push { cls := .type "tuple", data := .seq #[x, y] }).get? c = some o := Heap.get?_push_of_some _
    have pair := Heap.get?_push_size (o := { cls := .type "tuple", data := .seq #[x, y] }) h3 rfl
    have hz3 : h3.get? z = some (zipO TI TO v0 true) := (e3.2 _ ap.zip.2).trans ((e2.2 _ ap.zip.1).trans hz1)
    have own3 : IsPair h3 TO a b := (e3.2 _ ap.own.2.2).trans ((e2.2 _ ap.own.2.1).trans ((same1.2 _ ap.own.1).trans own))
    rw [size3] at pair ⊢
    refine hQ _ _ x y px py ⟨⟨v0, true, hv, up hz3⟩, up (S _ _ ap.src src), ⟨a, b, up own3⟩, D1.frame _ _ _ (Draws.off D1 ap.one.2.2 e3 st1') fun b hb o q => up q, D2.frame _ _ _ st2' fun b hb o q => up q⟩ pair (by rw [Heap.size_push, size3]) (S.then fun b o n q => up q)
/-- a walk tells its end -/
def EndsAt (prog : Program) (w : World) (A : Around) (i : Addr) (St : Nat → Heap → Prop) (k : Nat) : Prop := ∀ (s : Shared) (Q : Value → Shared → Prop) (E : Value → Shared → Prop), St k s.heap →
  (∀ h' e, Heap.ExtBut i s.heap h' → (∃ o, h'.get? e = some o ∧ o.cls = .type "StopIteration") → E (.ref e) { s with heap := h' }) → wpAny (model prog w) A (Builtin.SmallTypes.nextOf (.ref i)) Q E s
/-- one of the two has ended -/
theorem zip_next_out {Q : Fin → Shared → Prop} (ap : ZAp z TI TO i1 i2 f1 f2) (D1 : Draws prog w A i1 f1 n1 P1 S1) (D2 : Draws prog w A i2 f2 n2 P2 S2) (Z : Zp S1 S2 z TI TO i1 i2 k s.heap) (fin : EndsAt prog w A i1 S1 k ∨ k < n1 ∧ EndsAt prog w A i2 S2 k)
    (hE : ∀ h' e tk, Out [z, TO, i1, i2] s.heap h' → (∃ o, h'.get? e = some o ∧ o.cls = .type "StopIteration") → E (.ref e) { s with heap := h', toks := tk }) : wpAny (model prog w) A (Builtin.«zip.__next__» ⟨[.ref z], []⟩) Q E s := by
  obtain ⟨⟨v0, f, hv, hz⟩, src, ⟨a, b, own⟩, st1, st2⟩ := Z
  refine wpAny_bind (m := field (.ref z) 2) (wpAny_field hz rfl (x := .bool false) rfl (wpAny_bind (m := field (.ref z) 3) (wpAny_field hz rfl (x := .ref TI) rfl (wpAny_bind (wpAny_seqItems src rfl ?_)))))
  refine wpAny_bind (m := Builtin.SmallTypes.ownedTupleIsFree (.ref z)) (owned_or hv hz ?_ ?_)
  · rw [if_pos rfl]
    refine wpAny_bind (wpAny_rule (wpAny_bind (m := field (.ref z) 4) (wpAny_field hz rfl (x := .ref TO) rfl (wpAny_bind (wpAny_setField_rec hz (k := 0) (x := .ellipsis) (by simp) fun h1 hz1 e1 => ?_)))))
    have own1 : IsPair h1 TO a b := (e1.2 _ ap.own.1).trans own
    -- where a source is used up, the zip forgets its tuple and the end goes on
    have over : ∀ {h h' : Heap} {e : Addr} {i : Addr} {tk : Nat}, z ≠ i → i ∈ [z, TO, i1, i2] → Out [z, TO, i1, i2] s.heap h → h.get? z = some (zipO TI TO .ellipsis f) → Heap.ExtBut i h h' → (∃ o, h'.get? e = some o ∧ o.cls = .type "StopIteration") →
        wpAny (model prog w) A (setField (.ref z) 0 .none) (fun _ s2 => E (.ref e) s2) E { s with heap := h', toks := tk } := fun {h h' e i tk} ne mem out hzh ext stop =>
      wpAny_setField_rec (ext _ _ ne hzh) (by simp) fun h2 _ same => hE h2 e tk (out.then ((Out.ext mem ext).then (Out.same (by simp) same))) (by
        obtain ⟨o, ho, c⟩ := stop
        exact ⟨o, (same.2 _ (by rintro rfl; rw [ext _ _ ne hzh] at ho; obtain rfl := Option.some.inj ho; exact absurd (Value.type.inj c) (by decide))).trans ho, c⟩)
    simp only [List.zipIdx_cons, List.zipIdx_nil, List.forIn_cons, List.forIn_nil]
    have live1 : S1 k h1 := Draws.off D1 ap.one.1 e1 st1
    rcases fin with end1 | ⟨lt, end2⟩
    rotate_left
    · refine wpAny_bind (wpAny_bind (wpAny_bind (wpAny_onRaise (wpAny_bind (m := Builtin.SmallTypes.nextOf (.ref i1)) (D1.item k _ _ _ lt live1 fun x h2 t2 px st1' e2 => wpAny_pure ?_)))))
      have own2 : IsPair h2 TO a b := (e2.2 _ ap.own.2.1).trans own1
      refine wpAny_bind (wpAny_seqItems own2 rfl (wpAny_bind (wpAny_updateSeq_pair own2 fun h3 own3 e3 => wpAny_bind (wpAny_letGo (wpAny_pure ?_)))))
      have live2 : S2 k h3 := Draws.off D2 ap.two.2.1 e3 (Draws.off D2 ap.two.2.2 e2 (Draws.off D2 ap.two.1 e1 st2))
      have hz3 : h3.get? z = some (zipO TI TO .ellipsis f) := (e3.2 _ ap.own.1.symm).trans ((e2.2 _ ap.zip.1).trans hz1)
      have out3 : Out [z, TO, i1, i2] s.heap h3 := (Out.same (by simp) e1).then ((Out.same (by simp) e2).then (Out.same (by simp) e3))
      exact wpAny_bind (wpAny_bind (wpAny_onRaise (wpAny_bind (m := Builtin.SmallTypes.nextOf (.ref i2)) (end2 _ _ _ live2 fun h4 e ext stop => over ap.zip.2 (by simp) out3 hz3 ext stop))))
    · exact wpAny_bind (wpAny_bind (wpAny_bind (wpAny_onRaise (wpAny_bind (m := Builtin.SmallTypes.nextOf (.ref i1)) (end1 _ _ _ live1 fun h2 e ext stop => over ap.zip.1 (by simp) (Out.same (by simp) e1) hz1 ext stop)))))
  · intro h1 hz1 same1
    rw [if_neg Bool.false_ne_true]
    refine wpAny_bind ?_
    rw [← Array.forIn_toList]
    simp only [List.forIn_cons, List.forIn_nil]
    have live1 : S1 k h1 := Draws.off D1 ap.one.1 same1 st1
    have out1 : Out [z, TO, i1, i2] s.heap h1 := Out.same (by simp) same1
    rcases fin with end1 | ⟨lt, end2⟩
    rotate_left
    · refine wpAny_bind (wpAny_bind (wpAny_holding (wpAny_bind (m := Builtin.SmallTypes.nextOf (.ref i1)) (D1.item k _ _ _ lt live1 fun x h2 t2 px st1' e2 => wpAny_pure (wpAny_pure ?_)))))
      have live2 : S2 k h2 := Draws.off D2 ap.two.2.2 e2 (Draws.off D2 ap.two.1 same1 st2)
      exact wpAny_bind (wpAny_bind (wpAny_holding (wpAny_bind (m := Builtin.SmallTypes.nextOf (.ref i2)) (end2 _ _ _ live2 fun h3 e ext stop => hE h3 e _ (out1.then ((Out.same (by simp) e2).then (Out.ext (by simp) ext))) stop))))
    · exact wpAny_bind (wpAny_bind (wpAny_holding (wpAny_bind (m := Builtin.SmallTypes.nextOf (.ref i1)) (end1 _ _ _ live1 fun h2 e ext stop => hE h2 e _ (out1.then (Out.ext (by simp) ext)) stop))))
/-- next(zip) from its slot -/
theorem zip_pyNext {Q : Option Value → Shared → Prop} (Z : Zp S1 S2 z TI TO i1 i2 k s.heap)
    (h : wpAny (model prog w) A.in1 (Builtin.«zip.__next__» ⟨[.ref z], []⟩) (fun fin s' => ∃ v, fin = .done (.ret v) ∧ Q (some v) s') (fun e s' => wpAny (model prog w) A (isInstance e (.type "StopIteration")) (fun b s2 => b = true ∧ Q none s2) E s') s) : wpAny (model prog w) A (pyNext (.ref z)) Q E s := by
  obtain ⟨v0, f, _, hz⟩ := Z.zip
  have kind : s.TypeIs (.ref z) "zip" := ⟨_, hz, rfl⟩
  refine wpAny_bind (wpAny_attempt (wpAny_callSpecial?_slot (name := Str.ofString "__next__") kind F.slot_zip_next (wpAny_call_entry F.slot_zip_next kind F.entry_zip_next (wpAny_mono h ?_ ?_) (F.args_zip_next_1 _))))
  · exact fun fin s' ⟨v, ev, q⟩ => ⟨v, ev, wpAny_pure q⟩
  · exact fun e s' q => wpAny_bind (wpAny_mono q (fun b s2 ⟨eb, q⟩ => by rw [eb]; exact wpAny_pure q) fun _ _ z => z)
theorem Zp.imp {S1' S2' : Nat → Heap → Prop} {h : Heap} (Z : Zp S1 S2 z TI TO i1 i2 k h) (g1 : S1 k h → S1' k h) (g2 : S2 k h → S2' k h) : Zp S1' S2' z TI TO i1 i2 k h := { Z with one := g1 Z.one, two := g2 Z.two }
end
/-- the walk of zip(tuple, tuple) -/
abbrev ZpT (a b z TI TO i1 i2 : Addr) : Nat → Heap → Prop := Zp (fun i h => h.IsTupleIter i1 a i) (fun i h => h.IsTupleIter i2 b i) z TI TO i1 i2
section
variable {a b z TI TO i1 i2 : Addr}
theorem zap (D : ZipApart z TI TO i1 i2 a b) : ZAp z TI TO i1 i2 [i1, a] [i2, b] where
  src := by simp [D.TIz, D.TITO, D.TIi1, D.TIi2]
  own := ⟨D.TOz, D.TOi1, D.TOi2⟩
  zip := ⟨D.i1z.symm, D.i2z.symm⟩
  one := by simp [D.i1z.symm, D.l1z.symm, D.TOi1, D.l1TO.symm, D.i12.symm, D.l1i2.symm]
  two := by simp [D.i2z.symm, D.l2z.symm, D.TOi2, D.l2TO.symm, D.i12, D.l2i1.symm]
theorem ZpT.live {i : Nat} {h : Heap} (Z : ZpT a b z TI TO i1 i2 i h) : ∀ c ∈ [z, TI, TO, i1, i2], ∃ o, h.get? c = some o ∧ ∀ v, o.data ≠ .cell v := by
  have ⟨_, _, _, hz⟩ := Z.zip
  have ⟨_, _, own⟩ := Z.own
  have walk : ∀ {j l : Addr}, h.IsTupleIter j l i → ∃ o, h.get? j = some o ∧ ∀ v, o.data ≠ .cell v := fun ⟨o, ho, _, dd⟩ => ⟨o, ho, fun v q => nomatch dd.symm.trans q⟩
  simp only [List.mem_cons, List.not_mem_nil, or_false, forall_eq_or_imp, forall_eq]
  exact ⟨⟨_, hz, nofun⟩, ⟨_, Z.src, nofun⟩, ⟨_, own, nofun⟩, walk Z.one, walk Z.two⟩
theorem ZpT.kept {i : Nat} {h h' : Heap} (Z : ZpT a b z TI TO i1 i2 i h) (k : ∀ c ∈ [z, TI, TO, i1, i2], ∀ o, h.get? c = some o → h'.get? c = some o) : ZpT a b z TI TO i1 i2 i h' where
  zip := let ⟨v, f, hv, q⟩ := Z.zip; ⟨v, f, hv, k z (by simp) _ q⟩
  src := k TI (by simp) _ Z.src
  own := let ⟨x, y, q⟩ := Z.own; ⟨x, y, k TO (by simp) _ q⟩
  one := Z.one.at (k i1 (by simp))
  two := Z.two.at (k i2 (by simp))
theorem turn_zipN {P : Program} {w : World} {K : PySem.W.Frag} {nm : Str} {tpos : Pos} (D : ZipApart z TI TO i1 i2 a b) : Turn P w K (.Name nm tpos) (ItzT K a b) [z, TI, TO, i1, i2] z (ZpT a b z TI TO i1 i2) where
  mem := List.mem_cons_self
  obj := fun _ _ Z => Z.live
  keep := fun _ _ _ Z => Z.kept
  self := fun _ _ _ _ _ Z q => let ⟨_, _, _, hz⟩ := Z.zip; wpAny_pyIter_slot ⟨_, hz, rfl⟩ F.slot_zip_iter (wpAny_call_entry F.slot_zip_iter ⟨_, hz, rfl⟩ F.entry_zip_iter (wpAny_pure ⟨_, rfl, "zip", _, ⟨_, hz, rfl⟩, F.slot_zip_next.lookup, q⟩) (F.args_zip_iter_1 _))
  item := by
    rintro X rfl rfl rfl hc i pins s σ H E I foot Z ⟨xs, ys, x, y, sa, sb, hx, hy⟩
    have ⟨us, ra, ta, _⟩ := I.tuple sa
    have ⟨vs, rb, tb, _⟩ := I.tuple sb
    obtain ⟨u, hu, rx⟩ := ra.get hx
    obtain ⟨v, hv, ry⟩ := rb.get hy
    have lu : i < us.toArray.size := by simpa using (List.getElem?_eq_some_iff.mp hu).1
    have lv : i < vs.toArray.size := by simpa using (List.getElem?_eq_some_iff.mp hv).1
    refine zip_pyNext Z (zip_next_ok (zap D) (drawsT (items := us.toArray) (I.ok.hd hc) D.l1i1.symm) (drawsT (items := vs.toArray) (I.ok.hd hc) D.l2i2.symm) (Z.imp (fun q => ⟨q, ta⟩) fun q => ⟨q, tb⟩) lu lv fun h2 tk u2 v2 eu ev Z2 pair size out => ⟨_, rfl, wpAny_pure ?_⟩)
    obtain rfl : u2 = u := Option.some.inj ((show us.toArray[i]? = some u2 from eu).symm.trans (by simpa using hu))
    obtain rfl : v2 = v := Option.some.inj ((show vs.toArray[i]? = some v2 from ev).symm.trans (by simpa using hv))
    refine ⟨.ref s.heap.objs.size, _, I.turnedNew (ch := [z, TI, TO, i1, i2]) (T := s.heap.objs.size) (ob := .tup [x, y]) (fun c o n q => out c o (fun m => n (by grind)) q) foot (Nat.le_refl _) ⟨by show 2 ≤ sizeLine; decide, [u2, v2], .cons rx (.cons ry .nil), _, pair, rfl, _, rfl⟩, rfl, ?_, Z2.imp And.left And.left, fun c hcm => ?_⟩
    · exact ⟨_, x, y, rfl, I.hok.fresh (Nat.le_refl _), rfl, fun xs' q => I.tuple_inj q sa ▸ hx, fun ys' q => I.tuple_inj q sb ▸ hy⟩
    · obtain ⟨o, ho, _⟩ := Z.live c hcm
      exact (upd_ne (Nat.ne_of_lt (Heap.lt_size ho))).trans (foot c hcm).1
  done := by
    rintro X rfl rfl rfl hc i pins s σ H E I foot Z ⟨xs, ys, sa, sb, fin⟩
    have ⟨us, ra, ta, _⟩ := I.tuple sa
    have ⟨vs, rb, tb, _⟩ := I.tuple sb
    have used : ∀ {j l : Addr} {ws : Array Value}, ws[i]? = none → EndsAt X.prog X.w X.A.in1 j (fun i h => h.IsTupleIter j l i ∧ h.IsTuple l ws) i := fun none_ _ _ _ st q => nextOf_tuple_end (I.ok.hd hc) st.1 st.2 none_ q
    have over : EndsAt X.prog X.w X.A.in1 i1 (fun i h => h.IsTupleIter i1 a i ∧ h.IsTuple a us.toArray) i ∨ i < us.toArray.size ∧ EndsAt X.prog X.w X.A.in1 i2 (fun i h => h.IsTupleIter i2 b i ∧ h.IsTuple b vs.toArray) i := by
      rcases Nat.lt_or_ge i us.toArray.size with lt | ge
      · refine .inr ⟨lt, used (Array.getElem?_eq_none ?_)⟩
        have n1 := ra.length
        have n2 := rb.length
        rw [List.size_toArray] at lt ⊢
        omega
      · exact .inl (used (Array.getElem?_eq_none ge))
    refine zip_pyNext Z (zip_next_out (zap D) (drawsT (items := us.toArray) (I.ok.hd hc) D.l1i1.symm) (drawsT (items := vs.toArray) (I.ok.hd hc) D.l2i2.symm) (Z.imp (fun q => ⟨q, ta⟩) fun q => ⟨q, tb⟩) over fun h2 e tk out stop => ?_)
    obtain ⟨o, ho, c⟩ := stop
    refine wpAny_isInstance (T := "StopIteration") (b := true) ⟨o, ho, c⟩ isSubtype_stop ⟨rfl, rfl, ?_⟩
    exact I.turnedL (t' := tk) (ch := [z, TI, TO, i1, i2]) (fun c o n q => out c o (fun m => n (by grind)) q) foot
end
def iZipN (K : PySem.W.Frag) (ta : TA) : TI := fun σ H R => ta σ H fun vs H1 => ∃ a b xs ys, vs = [.ref a, .ref b] ∧ SqT K H1 a xs ∧ SqT K H1 b ys ∧ R (ItzT K a b) H1
theorem pi_zipN {X : Cx} {e e2 : Expr} {ta : TA} {p pos tpos : Pos} {nm : Str} (hg : Gl X "zip") (hm : X.mg "zip" = none) (ha : PA X [e, e2] ta) (hs : starEach [e, e2] X.env = (false, eval e X.env) :: starEach [e2] X.env := by rfl) (hpl : (backTo pos (starEach [e2] X.env)).any (·.1) = false := by rfl) : PI X (.Name nm tpos) (.Call (.Name "zip" p) [e, e2] [] pos) (iZipN X.K ta) := by
  constructor
  intro pins s σ H R I h
  have args := ha.run pos pins s σ H _ I h
  refine Call_ (ld_blt I hg hm PyProof.Rows.boot_zip (PyProof.Rows.callWith_type1 (thn args fun us s1 ⟨vs, H1, I1, rel, a, b, xs, ys, ev, sa, sb, q⟩ => ?_) hs hpl))
  subst ev
  obtain ⟨ua, ub, rfl, ra, rb⟩ := vals2 rel
  cases (show ua = .ref a from ra)
  cases (show ub = .ref b from rb)
  have ⟨_, _, ta, _⟩ := I1.tuple sa
  have ⟨_, _, tb, _⟩ := I1.tuple sb
  have la : a < s1.heap.objs.size := let ⟨_, q, _⟩ := ta; Heap.lt_size q
  have lb : b < s1.heap.objs.size := let ⟨_, q, _⟩ := tb; Heap.lt_size q
  refine call_zipT ta tb fun h2 hz src own w1 w2 _ kept => wpAny_pyIter_zip hz ⟨_, [_, s1.heap.objs.size + 2, s1.heap.objs.size + 3, s1.heap.objs.size, s1.heap.objs.size + 1], _, _, H1, rfl, I1.kept (t' := s1.toks) kept, turn_zipN (PySem.W.ktu_apart s1.heap.objs.size a b la lb), ⟨⟨_, _, .inl rfl, hz⟩, src, ⟨_, _, own⟩, w1, w2⟩, ?_, q⟩
  have new : ∀ n, FpOk X pins H1 (s1.heap.objs.size + n) := fun n => I1.fpOk (Nat.le_add_right _ _) (I1.hok.fresh (Nat.le_add_right _ _))
  simp only [List.mem_cons, List.not_mem_nil, or_false, forall_eq_or_imp, forall_eq]
  exact ⟨new 4, new 2, new 3, new 0, new 1⟩
section
variable {P : Pm} {X : Cx} {a b : Expr} {pos p1 : Pos} {fa fb : Rho → Tw → Res D}
def zipNE (fa fb : Rho → Tw → Res D) (r : Rho) (t : Tw) : Res (List D) := (fa r t).bind fun x t1 => (fb r t1).bind fun y t2 => match x, y with
    | .tup xs, .tup ys => .ok (zipD xs ys) t2
    | _, _ => .bad
theorem i_zipN {nm : Str} {tpos : Pos} {fz : Bool} (hK : X.K = P.K) (hg : Gl X "zip") (hm : X.mg "zip" = none) (ha : PE X a (tB P fa)) (hb : PE X b (tB P fb)) (hs : starEach [a, b] X.env = (false, eval a X.env) :: starEach [b] X.env) (hs2 : starEach [b] X.env = (false, eval b X.env) :: starEach [] X.env) :
    PI X (.Name nm tpos) (.Call (.Name "zip" p1) [a, b] [] pos) (tI P fz (zipNE fa fb)) :=
  piMono (pi_zipN hg hm (pa_cons ha (pa_cons hb pa_nil hs2) hs) hs (by rw [hs2]; rfl)) fun σ H Q ⟨F, r, t, R, h⟩ => ⟨F, r, t, R, h.bind.mono fun dx t1 h v F1 H1 s1 R1 rx => ⟨F1, r, t1, R1, (h.up s1.1).bind.mono fun dy t2 h w F2 H2 s2 R2 ry => by
    cases dx with
    | tup xs =>
      cases dy with
      | tup ys =>
        obtain ⟨p1, v1, rfl, e1, z1, q1⟩ := (rx.mono s2.1).tup R2
        obtain ⟨p2, v2, rfl, e2, z2, q2⟩ := ry.tup R2
        refine ⟨p1, p2, v1, v2, rfl, by rw [hK]; exact sqT_mono R2.sub e1, by rw [hK]; exact sqT_mono R2.sub e2, h _ _ _ (s1.trans s2) R2 ?_⟩
        refine WD.fz ?_ fz
        refine (wd_pair (G := fun H => SqT X.K H p1 v1 ∧ SqT X.K H p2 v2) (walk_zipT (n := min v1.length v2.length) rfl) (by rw [zipD_len, q1.length, q2.length]) (zip_both q1 q2)).weak fun H g => ?_
        rw [hK]
        exact ⟨sqT_mono g e1, sqT_mono g e2⟩
      | _ => exact (show False from h).elim
    | _ => exact (show False from h).elim⟩⟩
end
/-! ### x[::-1] -/
section
variable {prog : Program} {w : World} {A : Around} {E : Value → Shared → Prop} {s : Shared}
theorem pick_rev (xs : Array Value) : ((List.range xs.size).filterMap fun (k : Nat) => xs[(((xs.size : Int) - 1) + (k : Int) * (-1)).toNat]?) = xs.toList.reverse := by
  have e : ∀ k ∈ List.range xs.size, xs[(((xs.size : Int) - 1) + (k : Int) * (-1)).toNat]? = xs.toList.reverse[k]? := fun k hk => by
    have hk := List.mem_range.mp hk
    have : (((xs.size : Int) - 1) + (k : Int) * (-1)).toNat = xs.size - 1 - k := by omega
    rw [this, List.getElem?_reverse (by simpa using hk)]
    simp
  have fm : ∀ (l : List Nat) (f g : Nat → Option Value), (∀ k ∈ l, f k = g k) → l.filterMap f = l.filterMap g := fun l f g hh => by
    induction l with
    | nil => rfl
    | cons a l ih =>
      rw [List.filterMap_cons, List.filterMap_cons, hh a List.mem_cons_self, ih fun k hk => hh k (List.mem_cons_of_mem _ hk)]
  rw [fm _ _ _ e]
  have h2 : ∀ (l : List Value), (List.range l.length).filterMap (fun k => l[k]?) = l := fun l => by
    induction l with
    | nil => rfl
    | cons a l ih =>
      rw [List.length_cons, List.range_succ_eq_map, List.filterMap_cons]
      simp only [List.getElem?_cons_zero, List.filterMap_map, Function.comp_def, List.getElem?_cons_succ]
      rw [ih]
  have h3 := h2 xs.toList.reverse
  rw [List.length_reverse, Array.length_toList] at h3
  exact h3
/-- the object of a new tuple -/
abbrev tupO (its : List Value) : Obj := { cls := .type "tuple", data := .seq its.toArray }
theorem places_rev (n : Nat) : Builtin.Slice.slicePlaces ((n : Int) - 1) (-1) (-1) = n := by
  have down : ¬ ((-1 : Int) > 0) := by decide
  unfold Builtin.Slice.slicePlaces
  simp only [down, if_false, Int.neg_neg, Int.ediv_one]
  split <;> omega
/-- what the slice [::-1] means for so many items -/
theorem applied_rev {sl : Addr} {vs : Value} {n : Nat} {Q : Int × Int × Nat → Shared → Prop} (hs : s.heap.IsSliceOf sl .none .none vs) (ps : IsPart vs (some (-1))) (h : Q ((n : Int) - 1, -1, n) s) : wpAny (model prog w) A (Builtin.Slice.sliceApplied (.ref sl) (pure (n : Int))) Q E s := by
  obtain ⟨o, ho, _, dd⟩ := hs
  have third : ∀ {Q : Value × Value × Value → Shared → Prop}, Q (.none, .none, vs) s → wpAny (model prog w) A (Builtin.Slice.sliceFields (.ref sl)) Q E s := fun q =>
    wpAny_bind (wpAny_field ho dd (x := .none) rfl (wpAny_bind (wpAny_field ho dd (x := .none) rfl (wpAny_bind (wpAny_field ho dd (x := vs) rfl (wpAny_pure q))))))
  have h : Q ((n : Int) - 1, -1, Builtin.Slice.slicePlaces ((n : Int) - 1) (-1) (-1)) s := (places_rev n).symm ▸ h
  refine wpAny_bind (third (wpAny_bind (HT.slicePart_ ps ?_)))
  rw [if_neg (by decide)]
  exact wpAny_bind (HT.slicePart_ .none (wpAny_bind (HT.slicePart_ .none (wpAny_bind (wpAny_pure (wpAny_pure h))))))
theorem getItem_tuple_rev {t sl : Addr} {items : Array Value} {vs : Value} {Q : Value → Shared → Prop} (ht : IsTup s.heap t items) (hs : s.heap.IsSliceOf sl .none .none vs) (ps : IsPart vs (some (-1)))
    (h : Q (.ref s.heap.objs.size) { s with heap := s.heap.push (tupO items.toList.reverse) }) (few : items.size ≤ sizeLine) : wpAny (model prog w) A (getItem (.ref t) (.ref sl)) Q E s := by
  have ok : sizeOk (.seq items.toList.reverse.toArray) := by
    rw [← Array.length_toList, ← List.length_reverse] at few
    exact few
  have isSlice : s.TypeIs (.ref sl) "slice" := let ⟨o, ho, c, _⟩ := hs; ⟨o, ho, c⟩
  unfold getItem
  try with_reducible refine wpAny_holding ?_
  try refine wpAny_bind (wpAny_pure ?_)
  refine wpAny_bind (wpAny_sequenceKey ht.typeIs (by decide) (wpAny_bind (wpAny_callSpecial?_slot (name := Str.ofString "__getitem__") ht.typeIs PyProof.Rows.slot_tuple_getitem (wpAny_call_entry PyProof.Rows.slot_tuple_getitem ht.typeIs entry_tuple_getitem ?_ (args_tuple_getitem _ _)))))
  refine wpAny_bind (m := Builtin.Tuple.tupleItemsOf (.ref t)) (tupleItemsOf_ ht (wpAny_bind (wpAny_typeOf isSlice ?_)))
  rw [if_pos (by decide)]
  refine wpAny_bind (applied_rev hs ps ?_)
  dsimp only
  rw [if_neg (by simp), pick_rev]
  have made {R : Value → Shared → Prop} (q : R (.ref s.heap.objs.size) { s with heap := s.heap.push (tupO items.toList.reverse) }) : wpAny (model prog w) A.in1 (Builtin.Tuple.tupleExact items.toList.reverse.toArray) R E s := wpAny_newObj_type q ok
  first
    | exact wpAny_bind (made ⟨_, rfl, wpAny_pure h⟩)
    | exact wpAny_bind (made (wpAny_pure ⟨_, rfl, wpAny_pure h⟩))
    | exact wpAny_bind (wpAny_bind (made (wpAny_pure ⟨_, rfl, wpAny_pure h⟩)))
end
theorem RpL.reverse {K : PySem.W.Frag} {T : Tn} {F : Hp} : ∀ {vs : List V} {ds : List D}, RpL K T F vs ds → RpL K T F vs.reverse ds.reverse
  | _, _, .nil => .nil
  | _, _, .cons h r => by
    rw [List.reverse_cons, List.reverse_cons]
    exact r.reverse.append (.cons h .nil)
def tRevT (K : PySem.W.Frag) (te : TE) : TE := fun σ H Q => te σ H fun x H1 => ∃ a xs, x = .ref a ∧ ((SqL K H1 a xs ∧ ∀ p, H1 p = none → Q (.ref p) (upd H1 p (.lst xs.reverse))) ∨ (SqT K H1 a xs ∧ ∀ p, H1 p = none → Q (.ref p) (upd H1 p (.tup xs.reverse))))
section
variable {X : Cx} {P : Pm} {fa fb : Rho → Tw → Res D}
/-- a slice's parts, one behind the other; its object is new -/
theorem slice_runs {pins : List (Addr × Obj)} {σ : L2.St} {H : Hp} {s : Shared} {l u t : Option Expr} {tl tu tt : TO} {p : Pos} {R : Option Int → Option Int → Option Int → Hp → Prop} (hl : PO X l tl) (hu : PO X u tu) (ht : PO X t tt) (I : Inv X pins σ H s) (h : tl σ H fun a H1 => tu σ H1 fun b H2 => tt σ H2 fun c H3 => R a b c H3) :
    wpAny (model X.prog X.w) X.A (eval (.Slice l u t p) X.env) (fun v s' => ∃ sl vl vu vt a b c H', v = .ref sl ∧ s'.heap.IsSliceOf sl vl vu vt ∧ IsPart vl a ∧ IsPart vu b ∧ IsPart vt c ∧ Inv X pins σ H' s' ∧ R a b c H') X.xe s := by
  have one := hl.run pins s σ H _ I h
  refine wpAny_Slice (thn one fun vl s2 ⟨a, H2, I2, pl, q⟩ => thn (hu.run pins s2 σ H2 _ I2 q) fun vu s3 ⟨b, H3, I3, pu, q⟩ => thn (ht.run pins s3 σ H3 _ I3 q) fun vt s4 ⟨c, H4, I4, pt, q⟩ => ?_)
  exact ⟨_, vl, vu, vt, a, b, c, H4, rfl, Heap.IsSliceOf.new _ vl vu vt, pl, pu, pt, I4.kept (t' := s4.toks) fun _ _ => Heap.get?_push_of_some _, q⟩
theorem pe_revT {e : Expr} {te : TE} {k : Nat} {p1 p2 p3 pos : Pos} (he : PE X e te) : PE X (.Subscript e (.Slice none none (some (.UnaryOp .USub (.Constant (.int 1) k p1) p2)) p3) pos) (tRevT X.K te) := by
  constructor
  intro pins s σ H Q I h
  have run := he.run pins s σ H _ I h
  refine Subscript_ (thn run fun v s1 ⟨_, H1, I1, rel, a, xs, ev, want⟩ => ?_)
  subst ev
  cases (show v = .ref a from rel)
  have key := slice_runs (p := p3) (R := fun a b c H' => a = none ∧ b = none ∧ c = some (-1) ∧ H' = H1) po_none po_none (po_some (pe_un (pos := p2) un_neg (pe_int (i := 1) (j := k) (pos := p1)))) I1 ⟨1, rfl, -1, rfl, rfl, rfl, rfl, rfl⟩
  refine thn key fun kv s2 ⟨sl, vl, vu, vt, _, _, _, H2, ek, isS, pl, pu, pt, I2, ea, eb, ec, eH⟩ => ?_
  subst ek ea eb ec eH
  rcases want with ⟨seq, new⟩ | ⟨seq, new⟩
  · have ⟨its, r, lst, few⟩ := I2.list seq
    refine tail_any (ops := [.ref a, .ref sl]) lst.isList.typeIs PySem.slot_list_getitem.lookup (wpAny_getItem_list_slice lst.isList isS pl pu pt (by decide) ?_ (by rw [List.size_toArray, ← r.length]; exact few)) (by with_unfolding_all rfl)
    rw [PySem.W.krv_pick]
    exact ⟨.ref s2.heap.objs.size, _, I2.laid (t' := s2.toks) (o := .lst xs.reverse) (fun _ _ => Heap.get?_push_of_some _) (Nat.le_refl _) ⟨by rw [List.length_reverse]; exact few, _, 0, r.reverse, Heap.get?_push_size _ rfl⟩, rfl, new _ (I2.hok.fresh (Nat.le_refl _))⟩
  · have ⟨its, r, tup, few⟩ := I2.tuple seq
    cases pl
    cases pu
    exact tail_any (ops := [.ref a, .ref sl]) tup.typeIs PyProof.Rows.slot_tuple_getitem.lookup (getItem_tuple_rev tup isS pt ⟨.ref s2.heap.objs.size, _, I2.laid (t' := s2.toks) (o := .tup xs.reverse) (fun _ _ => Heap.get?_push_of_some _) (Nat.le_refl _) ⟨by rw [List.length_reverse]; exact few, _, by simpa using r.reverse, IsTup.new _ _⟩, rfl, new _ (I2.hok.fresh (Nat.le_refl _))⟩ (by rw [List.size_toArray, ← r.length]; exact few)) (by with_unfolding_all rfl)
theorem s_rev (hK : X.K = P.K) {a : Expr} {k : Nat} {p1 p2 p3 pos : Pos} (ha : PE X a (tB P fa)) : PE X (.Subscript a (.Slice none none (some (.UnaryOp .USub (.Constant (.int 1) k p1) p2)) p3) pos) (tD P fun r t => (fa r t).bind fun x t1 => Fm.lift (revD x) t1) := by
  refine peMono (pe_revT ha) fun σ H Q ⟨F, r, t, R, h⟩ => ⟨F, r, t, R, h.bind.mono fun dx t1 h v F1 H1 s1 R1 rx => ?_⟩
  obtain ⟨d, e, q⟩ := h.lift
  have q : ∀ v F' H', Kp P.T F1 H1 F' H' → RelP P F' r t1 σ H' → Rp P.K P.T F' v d → Q v H' := fun v F' H' s R' h => q v F' H' (s1.trans s) R' h
  cases dx with
  | tup xs =>
    cases e
    obtain ⟨p1, v1, rfl, e1, z1, q1⟩ := rx.tup R1
    rw [hK]
    exact ⟨p1, v1, rfl, .inr ⟨sqT_mono R1.sub e1, mkTup R1 (by rw [List.length_reverse]; exact z1) q1.reverse q⟩⟩
  | lst xs =>
    cases e
    obtain ⟨p1, v1, rfl, e1, z1, q1⟩ := rx.lst R1
    exact ⟨p1, v1, rfl, .inl ⟨SqL.of e1, mkLst R1 (by rw [List.length_reverse]; exact z1) q1.reverse q⟩⟩
  | _ => cases e
theorem n_cat {a b : Expr} {pos : Pos} (ha : PE X a (tB P fa)) (hb : PE X b (tB P fb)) : PE X (.BinOp a .Add b pos) (tN P fun r t => (fa r t).bind fun x t1 => (fb r t1).bind fun y t2 => Fm.lift (catD x y) t2) := by
  refine peMono (pe_op op_cat ha hb) fun σ H Q ⟨F, r, t, R, h⟩ => ?_
  refine ⟨F, r, t, R, h.bind.mono fun dx t1 h v F1 H1 s1 R1 rx => ?_⟩
  refine ⟨F1, r, t1, R1, (h.up s1.1).bind.mono fun dy t2 h w F2 H2 s2 R2 ry => ?_⟩
  obtain ⟨d, e, q⟩ := h.lift
  have rx := rx.mono s2.1
  cases dx with
  | lst xs =>
    cases dy with
    | lst ys =>
      simp only [catD] at e
      split at e
      · rename_i hl
        cases e
        obtain ⟨p1, v1, rfl, e1, z1, q1⟩ := rx.lst R2
        obtain ⟨p2, v2, rfl, e2, z2, q2⟩ := ry.lst R2
        have hl2 : v1.length + v2.length ≤ sizeLine := by
          rw [q1.length, q2.length]
          exact okLen_le hl
        refine ⟨p1, p2, v1, v2, rfl, rfl, e1, e2, hl2, fun p hp => ?_⟩
        obtain ⟨R3, k3, fr⟩ := mkNew (o := .lst (v1 ++ v2)) (d := .lst (xs ++ ys)) R2 hp ⟨_, upd_same, by rw [List.length_append]; exact hl2, q1.append q2⟩
        exact q _ _ _ p (s1.trans (s2.trans k3)) R3 (s1.had p (s2.had p hp)) fr
      · cases e
    | _ => cases e
  | _ => cases e
end
end Fm

/-! ### comprehensions; statements -/
namespace Fm
open PySem PySem.Spec PyProof.Rows L2
/-- without exceptions -/
abbrev Pm.nox (P : Pm) : Pm := { P with XE := fun _ _ => False }
section
variable {P : Pm} {X : Cx}
/-- an object of ours that no slot has is changed -/
theorem Rel.upd {F H : Hp} {r : Rho} {t : Tw} {σ : L2.St} {p : Addr} {o : HO} {K : PySem.W.Frag} {T : Tn} {F0 H0 : Hp} (R : Rel K T F0 H0 F r t σ H) (hp : H p ≠ none) (f : F p = none) (h0 : H0 p = none) (n1 : p ≠ T.a) (n2 : p ≠ T.b)
    (no : ∀ (i : Nat) (e : D), r[i]? = some (.own e) → σ[i]? ≠ some (some (.ref p))) : Rel K T F0 H0 F r t σ (L2.upd H p o) := by
  have nF : ∀ b u, F b = some u → b ≠ p := fun b u h e => by
    rw [e, f] at h
    cases h
  refine ⟨⟨fun b u h => ?_, R.new, R.base, fun b u h m1 m2 => ?_, fun b h => R.had b (upd_none h).1, ⟨?_, ?_, R.tw.ne, R.tw.small⟩, R.tF1, R.tF2, R.sc⟩, R.len, R.val, fun i d h => ?_, R.inj⟩
  · rw [upd_ne (nF b u h)]
    exact R.sub b u h
  · have : b ≠ p := fun e => by
      rw [e, h0] at h
      cases h
    rw [upd_ne this]
    exact R.old b u h m1 m2
  · rw [upd_ne (Ne.symm n1)]
    exact R.tw.a
  · rw [upd_ne (Ne.symm n2)]
    exact R.tw.b
  · obtain ⟨q, e, w⟩ := R.own i d h
    have nq : q ≠ p := fun z => no i d h (z ▸ e)
    exact ⟨q, e, ⟨w.fr, w.n1, w.n2, w.h0, w.at_.keep (Same.refl F) fun o h => by rw [upd_ne nq]; exact h⟩⟩
theorem wipe_wipe (σ : L2.St) (vs : List Nat) : wipe (wipe σ vs) vs = wipe σ vs := by
  refine List.ext_getElem? fun j => ?_
  rw [wipe_get, wipe_get, wipe_length]
  by_cases h : j ∈ vs ∧ j < σ.length
  · rw [if_pos h, if_pos h]
  · rw [if_neg h, if_neg h]
def compE (tg : Tg) (vs : List Nat) (fi : Rho → Tw → Res (List D)) (fc : Rho → Tw → Res (Option D)) (fe : Rho → Tw → Res D) (r : Rho) (t : Tw) : Res D :=
  (fi r t).bind fun xs t1 => if okLen xs.length then (compL (turnE tg vs fc fe r) xs t1).bind fun ys t2 => .ok (.lst ys) t2 else .bad
/-- the invariant of a comprehension's turns -/
structure CInv (P : Pm) (f : D → Tw → Res (Option D)) (r : Rho) (σ : L2.St) (F1 H1 : Hp) (D : Addr) (ds ys : List Fm.D) (t2 : Tw) (i : Nat) (H : Hp) (F2 : Hp) (t' : Tw) (vacc : List V) (acc rest : List Fm.D) : Prop where
  k : Kp P.T F1 H1 F2 H
  R : RelP P F2 r t' σ H
  d : H D = some (.lst vacc)
  q : RpL P.K P.T F2 vacc acc
  l : vacc.length ≤ i
  e : compL f (ds.drop i) t' = .ok rest t2
  y : ys = acc ++ rest
theorem turn_ok {tg : Tg} {vs : List Nat} {fc : Rho → Tw → Res (Option D)} {fe : Rho → Tw → Res D} {r : Rho} {d : D} {t t1 : Tw} {o : Option D} (h : turnE tg vs fc fe r d t = .ok o t1) :
    ∃ r2 oc tc b, setT tg d (wipeR r vs) = some r2 ∧ fc r2 t = .ok oc tc ∧ (match oc with | none => some true | some y => truD y) = some b ∧
      ((b = true ∧ ∃ x, fe r2 tc = .ok x t1 ∧ o = some x) ∨ (b = false ∧ o = none ∧ tc = t1)) := by
  unfold turnE at h
  cases e : setT tg d (wipeR r vs) with
  | none =>
    rw [e] at h
    cases h
  | some r2 =>
    rw [e] at h
    dsimp only at h
    cases e2 : fc r2 t with
    | bad =>
      rw [e2] at h
      cases h
    | exc n t3 =>
      rw [e2] at h
      cases h
    | ok oc tc =>
      rw [e2] at h
      simp only [Res.bind_ok] at h
      have fin : ∀ {res : Res D}, (res.bind fun x t => Res.ok (some x) t) = .ok o t1 → ∃ x, res = .ok x t1 ∧ o = some x := fun {res} h => by
        cases res with
        | ok x t =>
          cases h
          exact ⟨x, rfl, rfl⟩
        | exc n t => cases h
        | bad => cases h
      cases oc with
      | none => exact ⟨r2, none, tc, true, rfl, e2, rfl, .inl ⟨rfl, fin h⟩⟩
      | some y =>
        dsimp only at h
        cases e3 : truD y with
        | none =>
          rw [e3] at h
          cases h
        | some b =>
          rw [e3] at h
          cases b with
          | true => exact ⟨r2, some y, tc, true, rfl, e2, e3, .inl ⟨rfl, fin h⟩⟩
          | false =>
            have h : Res.ok none tc = Res.ok o t1 := h
            injection h with h1 h2
            exact ⟨r2, some y, tc, false, rfl, e2, e3, .inr ⟨rfl, h1.symm, h2⟩⟩
theorem comp_read {tg : Tg} {vs : List Nat} {fi : Rho → Tw → Res (List D)} {fc : Rho → Tw → Res (Option D)} {fe : Rho → Tw → Res D} (hsl : ∀ i ∈ tg.slots, i ∈ vs) (σ : L2.St) (H : Hp) (Q : VK) (h : tN P (compE tg vs fi fc fe) σ H Q) :
    tLc (tI P false fi) (gT P.nox tg) (tC1 P.nox fc) (tD P.nox fe) vs σ H Q := by
  obtain ⟨F, r, t, R, h⟩ := h
  refine ⟨F, r, t, R, h.bind.mono fun ds t1 h J F1 H1 s1 R1 w D hD => ?_⟩
  have w : WD P J (keepG P F1 H1) F1 ds := w
  split at h
  rotate_left
  · exact h.elim
  rename_i hok
  -- what the turns give
  obtain ⟨ys, t2, ec, h⟩ : ∃ ys t2, compL (turnE tg vs fc fe r) ds t1 = .ok ys t2 ∧ ∀ v F' H' p, Kp P.T F H F' H' → RelP P F' r t2 σ H' → H p = none → Fre P F' r σ H' v (.lst ys) p → Q v H' := by
    cases e : compL (turnE tg vs fc fe r) ds t1 with
    | ok ys t2 =>
      rw [e] at h
      exact ⟨ys, t2, rfl, h⟩
    | exc n t2 =>
      exfalso
      have no : ∀ (l : List Fm.D) (t : Tw) (n : Nat) (t2 : Tw), compL (turnE tg vs fc fe r) l t ≠ .exc n t2 := by
        intro l
        induction l with
        | nil =>
          intro t n t2 z
          cases z
        | cons d l ih =>
          intro t n t2 z
          unfold compL at z
          split at z
          · rename_i o t3 _
            cases e4 : compL (turnE tg vs fc fe r) l t3 with
            | ok a b =>
              rw [e4] at z
              cases z
            | exc a b => exact ih _ _ _ e4
            | bad =>
              rw [e4] at z
              cases z
          · cases z
      exact no _ _ _ _ e
    | bad =>
      rw [e] at h
      exact h.elim
  have nTa : D ≠ P.T.a := fun e => by
    rw [e, R1.tw.a] at hD
    cases hD
  have nTb : D ≠ P.T.b := fun e => by
    rw [e, R1.tw.b] at hD
    cases hD
  have no : ∀ (i : Nat) (e : Fm.D), r[i]? = some (.own e) → σ[i]? ≠ some (some (.ref D)) := fun i e h1 h2 => by
    obtain ⟨q, e1, w⟩ := R1.own i e h1
    rw [h2] at e1
    cases e1
    obtain ⟨o2, ho, _⟩ := w.at_.obj
    rw [hD] at ho
    cases ho
  have FD : ∀ {F2 H2 : Hp}, Kp P.T F1 H1 F2 H2 → H2 D ≠ none → True := fun _ _ => trivial
  have b0 := R1.toRelH.newO (o := .lst []) hD
  -- D is never frozen while it is filled
  refine ⟨fun i m H => m = ds.length - i ∧ i ≤ ds.length ∧ ∃ F2 t' vacc acc rest, CInv P (turnE tg vs fc fe r) r σ F1 H1 D ds ys t2 i H F2 t' vacc acc rest ∧ F2 D = none, ⟨ds.length, by simp, Nat.zero_le _, F1, t1, [], [], ys, ?_, ?_⟩, fun i m H2 hW => ?_⟩
  · exact ⟨Kp.of b0, R1.step b0, upd_same, .nil, Nat.zero_le _, by simpa using ec, rfl⟩
  · exact R1.sub.free hD
  · obtain ⟨rfl, hi, F2, t', vacc, acc, rest, ⟨k, R2, hd, q, hl, e, ey⟩, fD⟩ := hW
    have hG : keepG P F1 H1 H2 := ⟨k.base.trans R2.sub, k.old⟩
    by_cases hlt : i < ds.length
    · refine .inr ⟨w.goes i H2 hlt hG, fun H' => ∃ F2 t' vacc acc rest, CInv P (turnE tg vs fc fe r) r σ F1 H1 D ds ys t2 (i + 1) H' F2 t' vacc acc rest ∧ F2 D = none, fun H' hn => ⟨_, by omega, rfl, hlt, hn⟩, fun x H' hy => ?_⟩
      have hdi : ds[i]? = some ds[i] := List.getElem?_eq_getElem hlt
      -- the turn
      have e' : compL (turnE tg vs fc fe r) (ds[i] :: ds.drop (i + 1)) t' = .ok rest t2 := by
        rw [← List.drop_eq_getElem_cons hlt]
        exact e
      unfold compL at e'
      cases et : turnE tg vs fc fe r ds[i] t' with
      | exc n t3 =>
        rw [et] at e'
        cases e'
      | bad =>
        rw [et] at e'
        cases e'
      | ok o t3 =>
        rw [et] at e'
        dsimp only at e'
        obtain ⟨rest', er, eo⟩ : ∃ rest', compL (turnE tg vs fc fe r) (ds.drop (i + 1)) t3 = .ok rest' t2 ∧ rest = consO o rest' := by
          cases e4 : compL (turnE tg vs fc fe r) (ds.drop (i + 1)) t3 with
          | ok a b =>
            rw [e4] at e'
            simp only [Res.bind_ok] at e'
            cases e'
            exact ⟨a, rfl, rfl⟩
          | exc a b =>
            rw [e4] at e'
            cases e'
          | bad =>
            rw [e4] at e'
            cases e'
        obtain ⟨r2, oc, tc, b, es, efc, eb, alt⟩ := turn_ok et
        -- the item
        obtain ⟨F3, k3, R3, rx⟩ : ∃ F3, Kp P.T F2 H2 F3 H' ∧ RelP P F3 r t' σ H' ∧ Rp P.K P.T F3 x ds[i] := by
          rcases w.yields i H2 x H' _ hdi hG hy with ⟨rfl, rx⟩ | ⟨p, xs, es', rfl, hp, rfl, ed, z, qx⟩
          · exact ⟨F2, Kp.refl, R2, rx.mono k.base⟩
          · have b := R2.toRelH.newF (o := .tup xs) hp
            refine ⟨_, Kp.of b, R2.step b, ?_⟩
            rw [ed]
            exact .tup (SqT.of upd_same) z (qx.mono (k.base.trans b.base))
        refine ⟨F3, wipeR r vs, t', ds[i], r2, R3.wipe vs, rx, es, fun σ' R4 c => ⟨(c.wipe hsl).trans (wipe_wipe σ vs), ?_⟩⟩
        refine ⟨F3, r2, t', R4, ?_⟩
        rw [efc]
        refine ⟨b, eb, fun F4 H4 k4 R5 => ?_⟩
        rcases alt with ⟨rfl, y, efe, rfl⟩ | ⟨rfl, rfl, rfl⟩
        · rw [if_pos rfl]
          refine ⟨F4, r2, tc, R5, ?_⟩
          rw [efe]
          intro v F5 H5 k5 R6 rv
          have k6 : Kp P.T F2 H2 F5 H5 := k3.trans (k4.trans k5)
          have hd5 : H5 D = some (.lst vacc) := k6.old D _ hd nTa nTb
          have fD5 : F5 D = none := by
            cases z : F5 D with
            | none => rfl
            | some u =>
              rcases k6.new D u z with z | z
              · rw [fD] at z
                cases z
              · rw [hd] at z
                cases z
          have hsz : vacc.length < sizeLine := by
            have := of_decide_eq_true hok
            rw [sizeLine_eq]
            omega
          have R7 : RelP P F5 r t3 σ H5 := R2.step (Kp.relH (P := P.nox) k6 R6)
          have R8 : RelP P F5 r t3 σ (L2.upd H5 D (.lst (vacc ++ [v]))) := Rel.upd R7 (by rw [hd5]; simp) fD5 (R1.had D hD) nTa nTb no
          refine ⟨vacc, hd5, hsz, F5, t3, vacc ++ [v], acc ++ [y], rest', ⟨?_, R8, upd_same, (q.mono k6.base).append (.cons rv .nil), ?_, er, ?_⟩, fD5⟩
          · have k7 := k.trans k6
            refine ⟨k7.base, k7.new, fun a o ha m1 m2 => ?_, fun a ha => k7.had a (upd_none ha).1⟩
            have : a ≠ D := fun e => by
              rw [e, hD] at ha
              cases ha
            rw [upd_ne this]
            exact k7.old a o ha m1 m2
          · rw [List.length_append, List.length_singleton]
            omega
          · rw [ey, eo]
            simp [consO]
        · rw [if_neg (by decide)]
          have k6 : Kp P.T F2 H2 F4 H4 := k3.trans k4
          have R7 : RelP P F4 r tc σ H4 := R2.step (Kp.relH (P := P.nox) k6 R5)
          refine ⟨F4, tc, vacc, acc, rest', ⟨k.trans k6, R7, k6.old D _ hd nTa nTb, q.mono k6.base, by omega, er, ?_⟩, ?_⟩
          · rw [ey, eo]; rfl
          · cases z : F4 D with
            | none => rfl
            | some u =>
              rcases k6.new D u z with z | z
              · rw [fD] at z
                cases z
              · rw [hd] at z
                cases z
    · have ei : i = ds.length := by omega
      subst ei
      refine .inl ⟨w.stops H2 hG, ?_⟩
      rw [List.drop_length] at e
      cases e
      rw [List.append_nil] at ey
      subst ey
      refine h _ _ _ D (s1.trans k) R2 (s1.had D hD) ⟨rfl, ⟨fD, nTa, nTb, R1.had D hD, vacc, hd, ?_, q⟩, no⟩
      have := of_decide_eq_true hok
      rw [sizeLine_eq]
      omega
theorem n_comp {elt tg iter : Expr} {ifs : List Expr} {scope : Scope} {own : List (Str × Nat)} {pos : Pos} {tgt : Tg} {fi : Rho → Tw → Res (List D)} {fc : Rho → Tw → Res (Option D)} {fe : Rho → Tw → Res D} (hc : X.calm = true) (hN : X.N.Nodup)
    (hi : PI X tg iter (tI P false fi)) (ok : BlkOk X.N X.env.scope scope own) (hg : ∀ (s : Shared) (H : Hp) (C : Addr) (cl : List (Str × Addr)) (fp : List Addr), PG (X.blk s H scope (compEnvC scope cl C X.env) fp) tg (gT P.nox tgt))
    (ht : ∀ (s : Shared) (H : Hp) (C : Addr) (cl : List (Str × Addr)) (fp : List Addr), PTs (X.blk s H scope (compEnvC scope cl C X.env) fp) ifs (tC1 P.nox fc))
    (he : ∀ (s : Shared) (H : Hp) (C : Addr) (cl : List (Str × Addr)) (fp : List Addr), PE (X.blk s H scope (compEnvC scope cl C X.env) fp) elt (tD P.nox fe)) (hs : ∀ x, foldedSetIterable iter X.env x = pure x) (hsl : ∀ i ∈ tgt.slots, i ∈ own.map (·.2)) :
    PE X (.ListComp elt [⟨tg, iter, ifs, 0⟩] scope pos) (tN P (compE tgt (own.map (·.2)) fi fc fe)) :=
  peMono (pe_lc hc hN hi ok hg ht he hs) (comp_read hsl)
/-! ### calls of own defs -/
/-- what a def promises: its value by data -/
def spD (K : PySem.W.Frag) (T : Tn) (cl : Nat → Addr) (np : Nat) (Γ : List D → Tw → Res D) : Sp := fun vs H Q E => ∃ F t ds, RelH K T F H F t H ∧ RpL K T F vs ds ∧ ds.length = np ∧ match Γ ds t with
  | .ok d t' => ∀ v F' H', RelH K T F H F' t' H' → Rp K T F' v d → Q v H'
  | .exc n t' => ∀ F' H', RelH K T F H F' t' H' → E (.ref (cl n)) none H'
  | .bad => False
/-- an exception's wish -/
def EX (cl : Nat → Addr) (XE : Nat → Hp → Prop) : XK := fun c d H => ∃ n, c = .ref (cl n) ∧ d = none ∧ XE n H
theorem sp_call {cl : Nat → Addr} {np : Nat} {Γ : List D → Tw → Res D} {F H : Hp} {r : Rho} {t : Tw} {σ : L2.St} {vs : List V} {ds : List D} {Q : VK} (R : RelP P F r t σ H) (rv : RpL P.K P.T F vs ds) (hl : ds.length = np)
    (h : Aft P F (Γ ds t) fun d t' => ∀ v F' H', Kp P.T F H F' H' → RelP P F' r t' σ H' → Rp P.K P.T F' v d → Q v H') : spD P.K P.T cl np Γ vs H Q (EX cl P.XE) := by
  refine ⟨F, t, ds, R.toRelH.refl, rv, hl, ?_⟩
  cases e : Γ ds t with
  | ok d t' =>
    rw [e] at h
    exact fun v F' H' b rv => h v F' H' (Kp.of b) (R.step b) rv
  | exc n t' =>
    rw [e] at h
    exact fun F' H' b => ⟨n, rfl, rfl, h F' H' b.base (R.toRelH.trans b)⟩
  | bad =>
    rw [e] at h
    exact h
variable {k np : Nat} {f : Addr} {fd : FuncData} {ps ks : List Str} {x : Str} {p pos : Pos} {e : Expr} {es : List Expr} {kws : List Keyword} {cl : Nat → Addr} {Γ : List D → Tw → Res D} {fs gs : Rho → Tw → Res (List D)} {dvs : List V} {ds : List Value} {dds : List D}
theorem s_call (F : FnOk X.prog X.w X.K X.mg X.base (CX X.prog X.w) k f fd ps (spD P.K P.T cl np Γ)) (hr : Room k X.A) (hg : Gl X x) (hm : X.mg x = some (.ref f)) (hk : PySem.W.keepIn X.K (.ref f) = true) (hb : Binds X.K fd ps ds) (hd : Vals dvs ds)
    (hdd : ∀ F, RpL P.K P.T F dvs dds) (tk : Takes X fun c d _ H => EX cl P.XE c d H) (ha : PA X (e :: es) (tDs P fs)) (hnp : ∀ r t xs t1, fs r t = .ok xs t1 → xs.length + dds.length = np) (hdb : (x == ("__debug__" : Str)) = false)
    (he : starEach (e :: es) X.env = (false, eval e X.env) :: starEach es X.env) (hpl : (backTo pos (starEach es X.env)).any (·.1) = false) :
    PE X (.Call (.Name x p) (e :: es) [] pos) (tD P fun r t => (fs r t).bind fun xs t1 => Γ (xs ++ dds) t1) :=
  peMono (pe_call F hr hg hm hk hb hd (passes_call tk fun _ _ _ _ h => h) ha hdb he hpl) fun σ H Q ⟨F, r, t, R, h⟩ => ⟨F, r, t, R, by
    dsimp only at h
    cases ef : fs r t with
    | ok xs t1 =>
      rw [ef] at h
      intro vs F1 H1 s1 R1 rv
      exact sp_call R1 (rv.append (hdd F1)) (by rw [List.length_append]; exact hnp r t xs t1 ef) (((show Aft P F (Γ (xs ++ dds) t1) _ from h).up s1.1).mono fun d t' q v F' H' s R' rv => q v F' H' (s1.trans s) R' rv)
    | exc n t1 =>
      rw [ef] at h
      exact h
    | bad =>
      rw [ef] at h
      exact h⟩
theorem s_call0 (F : FnOk X.prog X.w X.K X.mg X.base (CX X.prog X.w) k f fd ps (spD P.K P.T cl np Γ)) (hr : Room k X.A) (hg : Gl X x) (hm : X.mg x = some (.ref f)) (hk : PySem.W.keepIn X.K (.ref f) = true) (hb : Binds X.K fd ps ds) (hd : Vals dvs ds)
    (hdd : ∀ F, RpL P.K P.T F dvs dds) (tk : Takes X fun c d _ H => EX cl P.XE c d H) (hnp : dds.length = np) (hdb : (x == ("__debug__" : Str)) = false) :
    PE X (.Call (.Name x p) [] [] pos) (tD P fun r t => Γ dds t) :=
  peMono (pe_call0 F hr hg hm hk hb hd (passes_call tk fun _ _ _ _ h => h) hdb) fun σ H Q ⟨F, r, t, R, h⟩ => sp_call R (by simpa using hdd F) hnp h
/-- keywords' values -/
theorem pkMono {t u : TA} (h : PK X kws t) (i : ∀ σ H Q, u σ H Q → t σ H Q) : PK X kws u := ⟨fun pos pins s σ H Q I q => h.run pos pins s σ H Q I (i σ H Q q)⟩
theorem k_nil : PK X [] (tDs P fun _ t => .ok [] t) := pkMono pk_nil fun σ H Q ⟨F, r, t, R, q⟩ => q [] F H Kp.refl R .nil
theorem k_cons {fa : Rho → Tw → Res D} {nm : Option Str} {kpos : Pos} (ha : PE X e (tD P fa)) (hr : PK X kws (tDs P fs)) : PK X (⟨nm, e, kpos⟩ :: kws) (tDs P fun r t => (fa r t).bind fun x t1 => (fs r t1).bind fun xs t2 => .ok (x :: xs) t2) :=
  pkMono (pk_cons ha hr) fun σ H Q ⟨F, r, t, R, h⟩ => ⟨F, r, t, R, h.bind.mono fun d t1 h v F1 H1 s1 R1 rv => ⟨F1, r, t1, R1, (h.up s1.1).bind.mono fun ds t2 q vs F2 H2 s2 R2 rvs =>
    q (v :: vs) F2 H2 (s1.trans s2) R2 (.cons (rv.mono s2.1) rvs)⟩⟩
theorem s_callK {n : Nat} {g : List Value → List Value → List Value} (F : FnOk X.prog X.w X.K X.mg X.base (CX X.prog X.w) k f fd ps (spD P.K P.T cl np Γ)) (hr : Room k X.A) (hg : Gl X x) (hm : X.mg x = some (.ref f)) (hk : PySem.W.keepIn X.K (.ref f) = true)
    (hb : KBn X.K fd ps n ks g (fun vs zs => vs ++ zs ++ dvs)) (hdd : ∀ F, RpL P.K P.T F dvs dds) (tk : Takes X fun c d _ H => EX cl P.XE c d H) (ha : PA X (e :: es) (tDs P fs)) (hkw : PK X kws (tDs P gs))
    (hn1 : ∀ r t xs t1, fs r t = .ok xs t1 → xs.length = n) (hn2 : ∀ r t xs t1, gs r t = .ok xs t1 → xs.length = ks.length) (hnp : n + ks.length + dds.length = np)
    (hall : (backToKw pos (keywordEach kws X.env)).all (·.1.isSome) = true) (hks : (backToKw pos (keywordEach kws X.env)).filterMap (·.1) = ks)
    (hdb : (x == ("__debug__" : Str)) = false) (he : starEach (e :: es) X.env = (false, eval e X.env) :: starEach es X.env)
    (hpl : ((backTo pos (starEach (e :: es) X.env)).any (·.1) || (backToKw pos (keywordEach kws X.env)).any (·.1.isNone)) = false) :
    PE X (.Call (.Name x p) (e :: es) kws pos) (tD P fun r t => (fs r t).bind fun xs t1 => (gs r t1).bind fun ys t2 => Γ (xs ++ ys ++ dds) t2) :=
  peMono (pe_callN F hr hg hm hk hb (passes_call tk fun _ _ _ _ h => h) ha hkw hall hks hdb he hpl) fun σ H Q ⟨F, r, t, R, h⟩ => ⟨F, r, t, R, by
    dsimp only at h
    cases ef : fs r t with
    | ok xs t1 =>
      rw [ef] at h
      intro vs F1 H1 s1 R1 rv
      have h : Aft P F ((gs r t1).bind fun ys t2 => Γ (xs ++ ys ++ dds) t2) _ := h
      refine ⟨F1, r, t1, R1, ?_⟩
      have h := h.up s1.1
      cases eg : gs r t1 with
      | ok ys t2 =>
        rw [eg] at h
        intro zs F2 H2 s2 R2 rz
        have l1 := hn1 r t xs t1 ef
        have l2 := hn2 r t1 ys t2 eg
        refine ⟨by rw [rv.length]; exact l1, by rw [rz.length]; exact l2, sp_call R2 (((rv.mono s2.1).append rz).append (hdd F2)) (by rw [List.length_append, List.length_append]; omega) (((show Aft P F1 (Γ (xs ++ ys ++ dds) t2) _ from h).up s2.1).mono fun d t' q v F' H' s R' rv => q v F' H' (s1.trans (s2.trans s)) R' rv)⟩
      | exc n t1 =>
        rw [eg] at h
        exact h
      | bad =>
        rw [eg] at h
        exact h
    | exc n t1 =>
      rw [ef] at h
      exact h
    | bad =>
      rw [ef] at h
      exact h⟩
end
end Fm

/-! ### statements -/
namespace Fm
open PySem PySem.Spec PyProof.Rows L2
def aftS (P : Pm) (F : Hp) (D : Ends) (p : Fl × Rho) (t' : Tw) : Prop := match p.1 with
  | .nx => ∀ F' σ' H', Same F F' → RelP P F' p.2 t' σ' H' → D.nx σ' H'
  | .brk => ∀ F' σ' H', Same F F' → RelP P F' p.2 t' σ' H' → D.bk σ' H'
  | .cont => ∀ F' σ' H', Same F F' → RelP P F' p.2 t' σ' H' → D.ct σ' H'
  | .ret d => ∀ v F' H', Same F F' → RelH P.K P.T P.F0 P.H0 F' t' H' → Rp P.K P.T F' v d → D.rt v H'
def tS (P : Pm) (f : Rho → Tw → Res (Fl × Rho)) : TS := fun D σ H => ∃ F r t, RelP P F r t σ H ∧ Aft P F (f r t) (aftS P F D)
section
variable {P : Pm} {X : Cx} {a b c : Expr} {pos p1 p2 : Pos} {fa fb fc : Rho → Tw → Res D} {st : Stmt} {rest : List Stmt} {f g : Rho → Tw → Res (Fl × Rho)}
theorem aftS.up {F F' : Hp} {D : Ends} {p : Fl × Rho} {t : Tw} (h : aftS P F D p t) (s : Same F F') : aftS P F' D p t := by
  obtain ⟨fl, r⟩ := p
  cases fl with
  | nx => exact fun F2 σ2 H2 s2 => h F2 σ2 H2 (s.trans s2)
  | brk => exact fun F2 σ2 H2 s2 => h F2 σ2 H2 (s.trans s2)
  | cont => exact fun F2 σ2 H2 s2 => h F2 σ2 H2 (s.trans s2)
  | ret d => exact fun v F2 H2 s2 => h v F2 H2 (s.trans s2)
def nilE (r : Rho) (t : Tw) : Res (Fl × Rho) := .ok (.nx, r) t
def consE (f g : Rho → Tw → Res (Fl × Rho)) (r : Rho) (t : Tw) : Res (Fl × Rho) := (f r t).bind fun p t1 => match p with
    | (.nx, r1) => g r1 t1
    | q => .ok q t1
theorem ss_nil : PSs X [] (tS P nilE) := pssMono pss_nil fun D σ H ⟨F, r, t, R, h⟩ => h F σ H (Same.refl F) R
theorem seq_aft {F : Hp} {D : Ends} {r : Rho} {t : Tw} (h : Aft P F (consE f g r t) (aftS P F D)) : Aft P F (f r t) (aftS P F { D with nx := tS P g D }) := by
  unfold consE at h
  refine h.bind.mono fun p t1 h => ?_
  obtain ⟨fl, r1⟩ := p
  cases fl with
  | nx => exact fun F' σ' H' s R => ⟨F', r1, t1, R, ((show Aft P F (g r1 t1) (aftS P F D) from h).up s).mono fun p t2 q => q.up s⟩
  | brk => exact h
  | cont => exact h
  | ret d => exact h
theorem ss_cons (h1 : PS X st (tS P f)) (h2 : PSs X rest (tS P g)) : PSs X (st :: rest) (tS P (consE f g)) := pssMono (pss_cons h1 h2) fun D σ H ⟨F, r, t, R, h⟩ => ⟨F, r, t, R, seq_aft h⟩
theorem st_ret (ha : PE X a (tD P fa)) : PS X (.Return (some a) pos) (tS P fun r t => (fa r t).bind fun x t1 => .ok (.ret x, r) t1) :=
  psMono (ps_ret ha) fun D σ H ⟨F, r, t, R, h⟩ => ⟨F, r, t, R, h.bind.mono fun d t' q v F' H' s R' rv => q v F' H' s.1 R'.toRelH rv⟩
theorem st_exp (ha : PE X a (tD P fa)) (hs : swapsWith a none pos.line X.env = pure false) : PS X (.Expr a pos) (tS P fun r t => (fa r t).bind fun _ t1 => .ok (.nx, r) t1) :=
  psMono (ps_expr ha hs) fun D σ H ⟨F, r, t, R, h⟩ => ⟨F, r, t, R, h.bind.mono fun d t' q v F' H' s R' rv => q F' σ H' s.1 R'⟩
def iteS (fc : Rho → Tw → Res D) (f g : Rho → Tw → Res (Fl × Rho)) (r : Rho) (t : Tw) : Res (Fl × Rho) := (fc r t).bind fun x t1 => match truD x with
    | some true => f r t1
    | some false => g r t1
    | none => .bad
theorem st_ite {as bs : List Stmt} (hc : PT X c (tT P fc)) (ha : PSs X as (tS P f)) (hb : PSs X bs (tS P g)) : PS X (.If c as bs pos) (tS P (iteS fc f g)) :=
  psMono (ps_if hc ha hb) fun D σ H ⟨F, r, t, R, h⟩ => ⟨F, r, t, R, h.bind.mono fun d t' h => by
    cases e : truD d with
    | none =>
      rw [e] at h
      exact h.elim
    | some k =>
      rw [e] at h
      refine ⟨k, rfl, fun F' H' s R' => ?_⟩
      cases k with
      | true => exact ⟨F', r, t', R', ((show Aft P F (f r t') _ from h).up s.1).mono fun p t2 q => q.up s.1⟩
      | false => exact ⟨F', r, t', R', ((show Aft P F (g r t') _ from h).up s.1).mono fun p t2 q => q.up s.1⟩⟩
theorem st_brk : PS X (.Break pos) (tS P fun r t => .ok (.brk, r) t) := psMono ps_break fun D σ H ⟨F, r, t, R, h⟩ => h F σ H (Same.refl F) R
theorem st_cont : PS X (.Continue pos) (tS P fun r t => .ok (.cont, r) t) := psMono ps_continue fun D σ H ⟨F, r, t, R, h⟩ => h F σ H (Same.refl F) R
/-! ### assignments -/
/-- name = e -/
theorem st_set {i : Nat} {y : Str} {py : Pos} (h : PS X (.Assign [.Name y py] a pos) (tAsg (tD P fa) (gName i))) : PS X (.Assign [.Name y py] a pos) (tS P fun r t => (fa r t).bind fun x t1 => Fm.lift ((setT (.name i) x r).map fun r1 => (.nx, r1)) t1) :=
  psMono h fun D σ H ⟨F, r, t, R, h⟩ => ⟨F, r, t, R, h.bind.mono fun d t' h v F' H' s R' rv => by
    obtain ⟨p, e, q⟩ := h.lift
    obtain ⟨r1, e1, rfl⟩ := Option.map_eq_some_iff.mp e
    simp only [setT] at e1
    split at e1
    · cases e1
      exact q F' _ H' s.1 (R'.setVal rv)
    · cases e1⟩
theorem st_new {i : Nat} {y : Str} {py : Pos} (h : PS X (.Assign [.Name y py] a pos) (tAsg (tN P fa) (gName i))) : PS X (.Assign [.Name y py] a pos) (tS P fun r t => (fa r t).bind fun x t1 => okSet r i (.own x) t1) :=
  psMono h fun D σ H ⟨F, r, t, R, h⟩ => ⟨F, r, t, R, h.bind.mono fun d t' h v F' H' p s R' hp fr => by
    unfold okSet at h
    split at h
    · obtain ⟨rfl, o, no⟩ := fr
      exact h F' _ H' s.1 (R'.setOwn o fun j e h1 _ => no j e h1)
    · exact h.elim⟩
theorem asg_plain {i : Nat} {y : Str} {py : Pos} {te : TE} (hN : X.N.Nodup) (hi : X.N[i]? = some y) (hx : Loc X.env.scope y) (ha : PE X a te) (hs : swapsWith a (some (.Name y py)) pos.line X.env = pure false) (hf : X.fn y = true ∨ X.env.scope.names.lookup y = some .local) :
    PS X (.Assign [.Name y py] a pos) (tAsg te (gName i)) := ps_set hN hi hx ha hs hf
/-- targets = e -/
theorem st_asg {tg : Expr} {tt : Tg} (ha : PE X a (tD P fa)) (hg : PG X tg (gT P tt)) (hs : swapsWithSole [tg] a pos.line X.env = pure false) (hw : swappedStores [tg] a X.env = pure none)
    (h1 : (assignEach [tg] X.env).map (·.2) = [assign tg X.env]) : PS X (.Assign [tg] a pos) (tS P fun r t => (fa r t).bind fun x t1 => Fm.lift ((setT tt x r).map fun r1 => (.nx, r1)) t1) :=
  psMono (ps_asg ha hg hs hw h1) fun D σ H ⟨F, r, t, R, h⟩ => ⟨F, r, t, R, h.bind.mono fun d t' h v F' H' s R' rv => by
    obtain ⟨p, e, q⟩ := h.lift
    obtain ⟨r1, e1, rfl⟩ := Option.map_eq_some_iff.mp e
    exact ⟨F', r, t', d, r1, R', rv, e1, fun σ' R2 _ => q F' σ' H' s.1 R2⟩⟩
def parE (is : List Nat) (fs : Rho → Tw → Res (List D)) (r : Rho) (t : Tw) : Res (Fl × Rho) := (fs r t).bind fun xs t1 => Fm.lift ((setAll is xs r).map fun r1 => (.nx, r1)) t1
theorem st_par2 {i j : Nat} {x y : Str} {fs : Rho → Tw → Res (List D)} {px py pt pt2 : Pos} {kt k2 : Nat} (hc : X.calm = true) (hN : X.N.Nodup) (hi : X.N[i]? = some x) (hj : X.N[j]? = some y) (hij : i ≠ j)
    (hx : X.env.scope.names.lookup x = some .local) (hy : X.env.scope.names.lookup y = some .local) (ha : PA X [a, b] (tDs P fs))
    (hw : swappedStores [.Tuple [.Name x px, .Name y py] kt pt] (.Tuple [a, b] k2 pt2) X.env = pure (some [x, y])) :
    PS X (.Assign [.Tuple [.Name x px, .Name y py] kt pt] (.Tuple [a, b] k2 pt2) pos) (tS P (parE [i, j] fs)) :=
  psMono (ps_par hc hN hi hj hij hx hy ha hw) fun D σ H ⟨F, r, t, R, h⟩ => ⟨F, r, t, R, h.bind.mono fun ds t' h vs F' H' s R' rv => by
    obtain ⟨p, e, q⟩ := h.lift
    obtain ⟨r1, e1, rfl⟩ := Option.map_eq_some_iff.mp e
    cases rv with
    | nil => simp [setAll] at e1
    | @cons v1 _ d1 _ h1 rv =>
      cases rv with
      | nil => simp [setAll] at e1
      | @cons v2 _ d2 _ h2 rv =>
        cases rv with
        | nil =>
          simp only [setAll] at e1
          split at e1
          · split at e1
            · cases e1
              exact ⟨v1, v2, rfl, q F' _ H' s.1 ((R'.setVal h1).setVal h2)⟩
            · cases e1
          · cases e1
        | cons _ _ =>
          simp only [setAll] at e1
          split at e1
          · split at e1
            · cases e1
            · cases e1
          · cases e1⟩
theorem st_par3 {i j l : Nat} {x y z : Str} {fs : Rho → Tw → Res (List D)} {px py pz pt pt2 : Pos} {kt k2 : Nat} (hc : X.calm = true) (hN : X.N.Nodup) (hi : X.N[i]? = some x) (hj : X.N[j]? = some y) (hl : X.N[l]? = some z) (hij : i ≠ j) (hil : i ≠ l) (hjl : j ≠ l)
    (hx : X.env.scope.names.lookup x = some .local) (hy : X.env.scope.names.lookup y = some .local) (hz : X.env.scope.names.lookup z = some .local) (ha : PA X [a, b, c] (tDs P fs))
    (hw : swappedStores [.Tuple [.Name x px, .Name y py, .Name z pz] kt pt] (.Tuple [a, b, c] k2 pt2) X.env = pure (some [x, y, z])) :
    PS X (.Assign [.Tuple [.Name x px, .Name y py, .Name z pz] kt pt] (.Tuple [a, b, c] k2 pt2) pos) (tS P (parE [i, j, l] fs)) :=
  psMono (ps_par3 hc hN hi hj hl hij hil hjl hx hy hz ha hw) fun D σ H ⟨F, r, t, R, h⟩ => ⟨F, r, t, R, h.bind.mono fun ds t' h vs F' H' s R' rv => by
    obtain ⟨p, e, q⟩ := h.lift
    obtain ⟨r1, e1, rfl⟩ := Option.map_eq_some_iff.mp e
    cases rv with
    | nil => simp [setAll] at e1
    | @cons v1 _ d1 _ h1 rv =>
      cases rv with
      | nil => simp [setAll] at e1
      | @cons v2 _ d2 _ h2 rv =>
        cases rv with
        | nil => simp [setAll] at e1
        | @cons v3 _ d3 _ h3 rv =>
          cases rv with
          | nil =>
            simp only [setAll] at e1
            split at e1
            · split at e1
              · split at e1
                · cases e1
                  exact ⟨v1, v2, v3, rfl, q F' _ H' s.1 (((R'.setVal h1).setVal h2).setVal h3)⟩
                · cases e1
              · cases e1
            · cases e1
          | cons _ _ => simp [setAll] at e1⟩
/-! ### freezing a slot -/
theorem Rel.frzSlot {F H : Hp} {r : Rho} {t : Tw} {σ : L2.St} {i : Nat} {d : D} (R : RelP P F r t σ H) (e : r[i]? = some (.own d)) : ∃ F', Same F F' ∧ RelP P F' (r.set i (.val d)) t σ H := by
  obtain ⟨p, e1, o⟩ := R.own i d e
  obtain ⟨ob, ho, _⟩ := o.at_.obj
  have hi : i < r.length := (List.getElem?_eq_some_iff.mp e).1
  have s2 : Same F (L2.upd F p ob) := same_new o.fr
  have cs : ∀ {j : Nat} {s : Sl}, (r.set i (.val d))[j]? = some s → (i = j ∧ s = .val d) ∨ (i ≠ j ∧ r[j]? = some s) := fun {j s} q => by
    by_cases hj : i = j
    · subst hj
      rw [List.getElem?_set_self hi] at q
      exact .inl ⟨rfl, (Option.some.inj q).symm⟩
    · rw [List.getElem?_set_ne hj] at q
      exact .inr ⟨hj, q⟩
  refine ⟨_, s2, R.toRelH.freeze ho o.fr o.h0 o.n1 o.n2, by simpa using R.len, fun j e2 h2 => ?_, fun j e2 h2 => ?_, fun j k e2 e3 q h1 h2 h3 h4 => ?_⟩
  · rcases cs h2 with ⟨rfl, z⟩ | ⟨hj, z⟩
    · cases z
      refine ⟨_, e1, ?_⟩
      have w := o.at_
      cases d with
      | lst ds =>
        obtain ⟨vs, h1, h2, h3⟩ := w
        rw [ho] at h1
        cases h1
        exact .lst upd_same h2 (h3.mono s2)
      | dct es =>
        obtain ⟨vs, h1, h2, h3⟩ := w
        rw [ho] at h1
        cases h1
        exact .dct upd_same (h3.mono s2)
      | _ => exact w.elim
    · obtain ⟨v, e4, q⟩ := R.val j e2 z
      exact ⟨v, e4, q.mono s2⟩
  · rcases cs h2 with ⟨rfl, z⟩ | ⟨hj, z⟩
    · cases z
    · obtain ⟨q, e4, w⟩ := R.own j e2 z
      have nq : q ≠ p := fun z2 => by
        subst z2
        exact hj (R.inj i j d e2 q e z e1 e4)
      exact ⟨q, e4, ⟨by rw [upd_ne nq]; exact w.fr, w.n1, w.n2, w.h0, w.at_.keep s2 fun o h => h⟩⟩
  · rcases cs h1 with ⟨rfl, z⟩ | ⟨_, z⟩
    · cases z
    · rcases cs h2 with ⟨rfl, z2⟩ | ⟨_, z2⟩
      · cases z2
      · exact R.inj j k e2 e3 q z z2 h3 h4
def frzE (i : Nat) (r : Rho) (t : Tw) : Res (Fl × Rho) := match r[i]? with
    | some (.own d) => .ok (.nx, r.set i (.val d)) t
    | some (.val _) => .ok (.nx, r) t
    | _ => .bad
theorem ss_frz {i : Nat} (h2 : PSs X rest (tS P g)) : PSs X rest (tS P (consE (frzE i) g)) := pssMono h2 fun D σ H ⟨F, r, t, R, h⟩ => by
  unfold consE frzE at h
  cases e : r[i]? with
  | none =>
    rw [e] at h
    exact h.elim
  | some s =>
    rw [e] at h
    cases s with
    | un => exact h.elim
    | val d => exact ⟨F, r, t, R, h⟩
    | own d =>
      obtain ⟨F', s', R'⟩ := Rel.frzSlot R e
      exact ⟨F', _, t, R', ((show Aft P F (g (r.set i (.val d)) t) (aftS P F D) from h).up s').mono fun p t2 q => q.up s'⟩
/-! ### an object of ours is changed -/
theorem Rel.updOwn {F H : Hp} {r : Rho} {t : Tw} {σ : L2.St} {i : Nat} {d d' : D} {p : Addr} {o : HO} (R : RelP P F r t σ H) (e : r[i]? = some (.own d)) (e1 : σ[i]? = some (some (.ref p))) (h : OwnAt P.K P.T F (L2.upd H p o) p d') :
    RelP P F (r.set i (.own d')) t σ (L2.upd H p o) := by
  obtain ⟨p', e2, w⟩ := R.own i d e
  rw [e1] at e2
  cases e2
  have hi : i < r.length := (List.getElem?_eq_some_iff.mp e).1
  obtain ⟨ob, ho, _⟩ := w.at_.obj
  have cs : ∀ {j : Nat} {s : Sl}, (r.set i (.own d'))[j]? = some s → (i = j ∧ s = .own d') ∨ (i ≠ j ∧ r[j]? = some s) := fun {j s} q => by
    by_cases hj : i = j
    · subst hj
      rw [List.getElem?_set_self hi] at q
      exact .inl ⟨rfl, (Option.some.inj q).symm⟩
    · rw [List.getElem?_set_ne hj] at q
      exact .inr ⟨hj, q⟩
  have nF : ∀ b u, F b = some u → b ≠ p := fun b u h e => by
    rw [e, w.fr] at h
    cases h
  refine ⟨⟨fun b u h => ?_, R.new, R.base, fun b u h m1 m2 => ?_, fun b h => R.had b (upd_none h).1, ⟨?_, ?_, R.tw.ne, R.tw.small⟩, R.tF1, R.tF2, R.sc⟩, by simpa using R.len, fun j e2 h2 => ?_, fun j e2 h2 => ?_, fun j k e2 e3 q h1 h2 h3 h4 => ?_⟩
  · rw [upd_ne (nF b u h)]
    exact R.sub b u h
  · have : b ≠ p := fun e => by
      rw [e, w.h0] at h
      cases h
    rw [upd_ne this]
    exact R.old b u h m1 m2
  · rw [upd_ne (Ne.symm w.n1)]
    exact R.tw.a
  · rw [upd_ne (Ne.symm w.n2)]
    exact R.tw.b
  · rcases cs h2 with ⟨rfl, z⟩ | ⟨hj, z⟩
    · cases z
    · exact R.val j e2 z
  · rcases cs h2 with ⟨rfl, z⟩ | ⟨hj, z⟩
    · cases z
      exact ⟨p, e1, ⟨w.fr, w.n1, w.n2, w.h0, h⟩⟩
    · obtain ⟨q, e4, w2⟩ := R.own j e2 z
      have nq : q ≠ p := fun z2 => by
        subst z2
        exact hj (R.inj i j d e2 q e z e1 e4)
      exact ⟨q, e4, ⟨w2.fr, w2.n1, w2.n2, w2.h0, w2.at_.keep (Same.refl F) fun o h => by rw [upd_ne nq]; exact h⟩⟩
  · have own : ∀ {j : Nat} {e2 : D}, (r.set i (.own d'))[j]? = some (.own e2) → ∃ e3, r[j]? = some (.own e3) := fun {j e2} q => by
      rcases cs q with ⟨rfl, z⟩ | ⟨_, z⟩
      · exact ⟨d, e⟩
      · exact ⟨e2, z⟩
    obtain ⟨e4, z1⟩ := own h1
    obtain ⟨e5, z2⟩ := own h2
    exact R.inj j k e4 e5 q z1 z2 h3 h4
def borE (i : Nat) (r : Rho) (t : Tw) : Res D := match r[i]? with
    | some (.val d) => .ok d t
    | some (.own d) => .ok d t
    | _ => .bad
/-- the slot itself -/
theorem pe_slot {i : Nat} {x : Str} (hN : X.N[i]? = some x) (hv : Vis X.env.scope x) (hd : (x == ("__debug__" : Str)) = false) (hcd : (x == ("__classdict__" : Str)) = false) : PE X (.Name x pos) (tVar i) := pe_var hN hv hd hcd
def appE (i : Nat) (fa : Rho → Tw → Res D) (r : Rho) (t : Tw) : Res (Fl × Rho) := match r[i]? with
    | some (.own (.lst xs)) => (fa r t).bind fun x t1 => if decide (xs.length < 16777216) then .ok (.nx, r.set i (.own (.lst (xs ++ [x])))) t1 else .bad
    | _ => .bad
/-- the list that a slot has -/
theorem own_lst {F H : Hp} {r : Rho} {t : Tw} {σ : L2.St} {i : Nat} {xs : List D} (R : RelP P F r t σ H) (e : r[i]? = some (.own (.lst xs))) : ∃ p vs, σ[i]? = some (some (.ref p)) ∧ H p = some (.lst vs) ∧ vs.length ≤ sizeLine ∧ RpL P.K P.T F vs xs := by
  obtain ⟨p, e1, w⟩ := R.own i _ e
  obtain ⟨vs, h1, h2, h3⟩ := w.at_
  exact ⟨p, vs, e1, h1, h2, h3⟩
theorem own_dct {F H : Hp} {r : Rho} {t : Tw} {σ : L2.St} {i : Nat} {xs : List (Key × D)} (R : RelP P F r t σ H) (e : r[i]? = some (.own (.dct xs))) : ∃ p vs, σ[i]? = some (some (.ref p)) ∧ H p = some (.dK vs) ∧ vs.length ≤ sizeLine ∧ RpK P.K P.T F vs xs := by
  obtain ⟨p, e1, w⟩ := R.own i _ e
  obtain ⟨vs, h1, h2, h3⟩ := w.at_
  exact ⟨p, vs, e1, h1, h2, h3⟩
theorem appE_ok {i : Nat} {F : Hp} {r : Rho} {t : Tw} {Z : Fl × Rho → Tw → Prop} (h : Aft P F (appE i fa r t) Z) : ∃ xs, r[i]? = some (.own (.lst xs)) ∧ Aft P F ((fa r t).bind fun x t1 => if decide (xs.length < 16777216) then .ok (.nx, r.set i (.own (.lst (xs ++ [x])))) t1 else .bad) Z := by
  unfold appE at h
  split at h
  · rename_i xs e
    exact ⟨xs, e, h⟩
  · exact h.elim
theorem st_app {i : Nat} {y : Str} (hK : X.K = P.K) (hN : X.N[i]? = some y) (hv : Vis X.env.scope y) (hd : (y == ("__debug__" : Str)) = false) (hcd : (y == ("__classdict__" : Str)) = false) (ha : PE X a (tD P fa)) (hline : (p1.endLine == p2.line) = true)
    (hs : starEach [a] X.env = (false, eval a X.env) :: starEach [] X.env) {q : Pos} : PS X (.Expr (.Call (.Attribute (.Name y q) "append" p1) [a] [] p2) pos) (tS P (appE i fa)) := by
  have hfew : ((backTo p2 (starEach [a] X.env)).all (fun x => !x.1) && (backToKw p2 (keywordEach [] X.env)).all (fun x => x.1.isSome)
      && decide (([a] : List Expr).length + ([] : List Keyword).length + (if ([] : List Keyword).isEmpty then 0 else 1) < 30)) = true := by
    rw [hs]
    rfl
  refine psMono (ps_expr (pe_bm PySem.F.plainAttrs_list PySem.F.slot_list_append PySem.F.type_list_append mt_append (pe_slot hN hv hd hcd) (pa_cons ha pa_nil hs) rfl hfew hline hs rfl) rfl) fun D σ H ⟨F, r, t, R, h⟩ => ?_
  obtain ⟨xs, e, h⟩ := appE_ok h
  obtain ⟨p, vs, e1, h1, h2, h3⟩ := own_lst R e
  refine ⟨_, e1, .inl ⟨rfl, vs, SqL.of h1⟩, F, r, t, R, h.bind.mono fun d t' h v F' H' s R' rv => ?_⟩
  split at h
  · rename_i hl
    have hl := of_decide_eq_true hl
    obtain ⟨p', vs', e1', h1', h2', h3'⟩ := own_lst R' e
    rw [e1] at e1'
    cases e1'
    have hz : vs'.length < sizeLine := by
      rw [h3'.length, sizeLine_eq]
      exact hl
    refine ⟨p, vs', v, rfl, rfl, h1', hz, h F' σ _ s.1 (Rel.updOwn R' e e1 ⟨_, upd_same, ?_, h3'.append (.cons rv .nil)⟩)⟩
    rw [List.length_append, List.length_singleton]
    omega
  · exact h.elim
def putE (i : Nat) (fk fa : Rho → Tw → Res D) (r : Rho) (t : Tw) : Res (Fl × Rho) := match r[i]? with
    | some (.own (.dct kvs)) => (fa r t).bind fun x t1 => (fk r t1).bind fun y t2 => (match keyD y with
      | some k => if decide (kvs.length < 16777216) then .ok (.nx, r.set i (.own (.dct (putD kvs k x)))) t2 else .bad
      | none => .bad)
    | _ => .bad
theorem putE_ok {i : Nat} {fk : Rho → Tw → Res D} {F : Hp} {r : Rho} {t : Tw} {Z : Fl × Rho → Tw → Prop} (h : Aft P F (putE i fk fa r t) Z) : ∃ kvs, r[i]? = some (.own (.dct kvs)) ∧ Aft P F ((fa r t).bind fun x t1 => (fk r t1).bind fun y t2 => (match keyD y with
      | some k => if decide (kvs.length < 16777216) then .ok (.nx, r.set i (.own (.dct (putD kvs k x)))) t2 else .bad
      | none => .bad)) Z := by
  unfold putE at h
  split at h
  · rename_i xs e
    exact ⟨xs, e, h⟩
  · exact h.elim
theorem st_put {i : Nat} {y : Str} {q : Pos} (hu : X.A.units + 200 < cLine) (hN : X.N[i]? = some y) (hv : Vis X.env.scope y) (hd : (y == ("__debug__" : Str)) = false) (hcd : (y == ("__classdict__" : Str)) = false) (hb : PE X b (tB P fb)) (ha : PE X a (tD P fa))
    (hs : swapsWith a (some (.Subscript (.Name y q) b p1)) pos.line X.env = pure false) : PS X (.Assign [.Subscript (.Name y q) b p1] a pos) (tS P (putE i fb fa)) := by
  refine psMono (ps_dput (by omega) (pe_slot hN hv hd hcd) hb ha hs) fun D σ H ⟨F, r, t, R, h⟩ => ?_
  obtain ⟨xs, e, h⟩ := putE_ok h
  obtain ⟨p, vs, e1, h1, h2, h3⟩ := own_dct R e
  refine ⟨F, r, t, R, h.bind.mono fun d t1 h v F1 H1 s1 R1 rv => ⟨_, e1, F1, r, t1, R1, (h.up s1.1).bind.mono fun dk t2 h w F2 H2 s2 R2 rw' => ?_⟩⟩
  cases ek : keyD dk with
  | none =>
    rw [ek] at h
    exact h.elim
  | some k =>
    rw [ek] at h
    obtain rfl := key_of' R2 rw' ek
    have h : Aft P F1 (if decide (xs.length < 16777216) then .ok (.nx, r.set i (.own (.dct (putD xs k d)))) t2 else .bad) (aftS P F D) := h
    split at h
    · rename_i hl
      have hl := of_decide_eq_true hl
      obtain ⟨p', vs', e1', h1', h2', h3'⟩ := own_dct R2 e
      rw [e1] at e1'
      cases e1'
      have hz : vs'.length < sizeLine := by
        rw [h3'.length, sizeLine_eq]
        exact hl
      refine ⟨p, _, rfl, DPut.k h1' hz, h F2 σ _ (s1.1.trans s2.1) (Rel.updOwn R2 e e1 ⟨_, upd_same, ?_, h3'.put k (rv.mono s2.1)⟩)⟩
      have := length_putK vs' k v
      omega
    · exact h.elim
def putLE (i : Nat) (fk fa : Rho → Tw → Res D) (r : Rho) (t : Tw) : Res (Fl × Rho) := match r[i]? with
    | some (.own (.lst xs)) => (fa r t).bind fun x t1 => (fk r t1).bind fun y t2 => (match y with
      | .int j => (match L2.ixN xs.length j with
        | some n => .ok (.nx, r.set i (.own (.lst (xs.set n x)))) t2
        | none => .bad)
      | _ => .bad)
    | _ => .bad
theorem putLE_ok {i : Nat} {fk : Rho → Tw → Res D} {F : Hp} {r : Rho} {t : Tw} {Z : Fl × Rho → Tw → Prop} (h : Aft P F (putLE i fk fa r t) Z) : ∃ xs, r[i]? = some (.own (.lst xs)) ∧ Aft P F ((fa r t).bind fun x t1 => (fk r t1).bind fun y t2 => (match y with
      | .int j => (match L2.ixN xs.length j with
        | some n => .ok (.nx, r.set i (.own (.lst (xs.set n x)))) t2
        | none => .bad)
      | _ => .bad)) Z := by
  unfold putLE at h
  split at h
  · rename_i xs e
    exact ⟨xs, e, h⟩
  · exact h.elim
theorem st_putL {i : Nat} {y : Str} {q : Pos} (hN : X.N[i]? = some y) (hv : Vis X.env.scope y) (hd : (y == ("__debug__" : Str)) = false) (hcd : (y == ("__classdict__" : Str)) = false) (hb : PE X b (tB P fb)) (ha : PE X a (tD P fa))
    (hasg : ∀ v, assign (.Subscript (.Name y q) b p1) X.env v = (do
      let ov ← holding [v] (eval (.Name y q) X.env)
      let iv ← holding [v, ov] (eval b X.env)
      standAt p1
      holding [v, ov, iv] (setItem ov iv v)
      release [v, ov, iv] []))
    (hs : swapsWithSole [.Subscript (.Name y q) b p1] a pos.line X.env = pure false) (hw : swappedStores [.Subscript (.Name y q) b p1] a X.env = pure none) : PS X (.Assign [.Subscript (.Name y q) b p1] a pos) (tS P (putLE i fb fa)) := by
  refine psMono (ps_asg ha (pg_sub (pe_slot hN hv hd hcd) hb set_list hasg) hs hw rfl) fun D σ H ⟨F, r, t, R, h⟩ => ?_
  obtain ⟨xs, e, h⟩ := putLE_ok h
  obtain ⟨p, vs, e1, h1, h2, h3⟩ := own_lst R e
  refine ⟨F, r, t, R, h.bind.mono fun d t1 h v F1 H1 s1 R1 rv => ⟨_, e1, F1, r, t1, R1, (h.up s1.1).bind.mono fun dk t2 h w F2 H2 s2 R2 rw' => ?_⟩⟩
  cases dk with
  | int j =>
    obtain rfl := rw'.int R2
    obtain ⟨p', vs', e1', h1', h2', h3'⟩ := own_lst R2 e
    rw [e1] at e1'
    cases e1'
    have h : Aft P F1 (match L2.ixN xs.length j with
        | some n => .ok (.nx, r.set i (.own (.lst (xs.set n d)))) t2
        | none => .bad) (aftS P F D) := h
    cases en : L2.ixN xs.length j with
    | none =>
      rw [en] at h
      exact h.elim
    | some n =>
      rw [en] at h
      refine ⟨p, vs', j, n, rfl, rfl, h1', by rw [h3'.length]; exact en, ?_⟩
      exact h F2 σ _ (s1.1.trans s2.1) (Rel.updOwn R2 e e1 ⟨_, upd_same, by rw [List.length_set]; exact h2', h3'.set (rv.mono s2.1) n⟩)
  | _ => exact (show False from h).elim
/-! ### name op= e, of ints -/
def augE (i : Nat) (op : Operator) (fa : Rho → Tw → Res D) (r : Rho) (t : Tw) : Res (Fl × Rho) := match r[i]? with
    | some (.val x) => (fa r t).bind fun y t1 => match x, y with
      | .int _, .int _ => Fm.lift ((binD op x y).map fun z => (.nx, r.set i (.val z))) t1
      | _, _ => .bad
    | _ => .bad
theorem augE_ok {i : Nat} {op : Operator} {F : Hp} {r : Rho} {t : Tw} {Z : Fl × Rho → Tw → Prop} (h : Aft P F (augE i op fa r t) Z) : ∃ x, r[i]? = some (.val x) ∧ Aft P F ((fa r t).bind fun y t1 => match x, y with
      | .int _, .int _ => Fm.lift ((binD op x y).map fun z => (.nx, r.set i (.val z))) t1
      | _, _ => .bad) Z := by
  unfold augE at h
  split at h
  · rename_i xs e
    exact ⟨xs, e, h⟩
  · exact h.elim
/-- the rule of an in-place operator upon ints -/
def IpS (X : Cx) (op : Operator) : Prop := ∃ (C : Int → Int → Prop) (g : Int → Int → Int), OpR X (inplaceOp op) (rI C fun i j => .int (g i j)) ∧ ∀ i j d, binD op (.int i) (.int j) = some d → C i j ∧ d = .int (g i j)
theorem ip_of {op : Operator} (h : op = .Add ∨ op = .Sub ∨ op = .Mult ∨ op = .FloorDiv ∨ op = .Mod) : IpS X op := by
  rcases h with rfl | rfl | rfl | rfl | rfl
  · exact ⟨fun _ _ => True, fun i j => i + j, opI fun _ _ _ _ _ _ _ _ q => iadd_int q, fun i j d e => by cases e; exact ⟨trivial, rfl⟩⟩
  · exact ⟨fun _ _ => True, fun i j => i - j, opI fun _ _ _ _ _ _ _ _ q => isub_int q, fun i j d e => by cases e; exact ⟨trivial, rfl⟩⟩
  · refine ⟨CMulW, fun i j => i * j, opI fun _ _ _ _ _ _ _ hc q => imul_int q hc.ok, fun i j d e => ?_⟩
    simp only [binD, mulD] at e
    split at e
    · rename_i h
      cases e
      exact ⟨(of_decide_eq_true h : i.natAbs.log2 + j.natAbs.log2 < 1000000), rfl⟩
    · cases e
  · refine ⟨CDivA, fun i j => i.fdiv j, opI fun i j _ _ _ _ _ hc q => ifloordiv_int hc.1 q (.inl (PyProof.noPylong_of_log2 hc.2)), fun i j d e => ?_⟩
    simp only [binD, fdivD] at e
    split at e
    · rename_i h
      cases e
      have h2 := Bool.and_eq_true_iff.mp h
      exact ⟨⟨of_decide_eq_true h2.1, of_decide_eq_true h2.2⟩, rfl⟩
    · cases e
  · refine ⟨fun _ j => j ≠ 0, fun i j => i.fmod j, opI fun i j _ _ _ _ _ hc q => imod_int hc q, fun i j d e => ?_⟩
    simp only [binD, modD] at e
    split at e
    · cases e
    · rename_i h
      cases e
      exact ⟨h, rfl⟩
theorem st_aug {i : Nat} {y : Str} {q : Pos} {op : Operator} (hop : IpS X op) (hN : X.N.Nodup) (hi : X.N[i]? = some y) (hx : Loc X.env.scope y) (hf : X.fn y = true ∨ X.env.scope.names.lookup y = some .local) (ha : PE X a (tB P fa)) :
    PS X (.AugAssign (.Name y q) op a pos) (tS P (augE i op fa)) := by
  obtain ⟨C, g, ho, hg⟩ := hop
  refine psMono (ps_aug hN hi hx ha ho hf) fun D σ H ⟨F, r, t, R, h⟩ => ?_
  obtain ⟨x, e, h⟩ := augE_ok h
  obtain ⟨v, e1, rv⟩ := R.val i x e
  refine ⟨v, e1, F, r, t, R, h.bind.mono fun d t' h w F' H' s R' rw' => ?_⟩
  cases x with
  | int m =>
    cases d with
    | int n =>
      obtain ⟨p, e2, q⟩ := Aft.lift h
      obtain ⟨z, e3, rfl⟩ := Option.map_eq_some_iff.mp e2
      obtain ⟨c, rfl⟩ := hg m n z e3
      cases rv
      exact ⟨m, n, rfl, rw'.int R', c, q F' _ H' s.1 (R'.setVal (.int _))⟩
    | _ => exact (show False from h).elim
  | _ => exact (show False from h).elim
end
end Fm

/-! ### loops, starred targets, raise -/
namespace Fm
open PySem PySem.Spec PyProof.Rows L2
section
variable {P : Pm} {X : Cx} {a b c : Expr} {pos p1 p2 : Pos} {fa fb fc : Rho → Tw → Res D} {st : Stmt} {rest : List Stmt} {f g : Rho → Tw → Res (Fl × Rho)}
def forE (tg : Tg) (fi : Rho → Tw → Res (List D)) (f : Rho → Tw → Res (Fl × Rho)) (r : Rho) (t : Tw) : Res (Fl × Rho) := (fi r t).bind fun xs t1 => loopF (fun d r t => match setT tg d r with
    | some r1 => f r1 t
    | none => .bad) xs r t1
theorem for_turn {tg : Tg} {d : D} {ds : List D} {F : Hp} {r : Rho} {t : Tw} {D' : Ends} (h : Aft P F (loopF (fun d r t => match setT tg d r with
    | some r1 => f r1 t
    | none => .bad) (d :: ds) r t) (aftS P F D')) : ∃ r1, setT tg d r = some r1 ∧ Aft P F (f r1 t) fun p t1 => match p with
      | (.nx, r2) => Aft P F (loopF (fun d r t => match setT tg d r with
        | some r1 => f r1 t
        | none => .bad) ds r2 t1) (aftS P F D')
      | (.cont, r2) => Aft P F (loopF (fun d r t => match setT tg d r with
        | some r1 => f r1 t
        | none => .bad) ds r2 t1) (aftS P F D')
      | (.brk, r2) => aftS P F D' (.nx, r2) t1
      | (.ret d, r2) => aftS P F D' (.ret d, r2) t1 := by
  simp only [loopF] at h
  cases e : setT tg d r with
  | none =>
    rw [e] at h
    exact h.elim
  | some r1 =>
    rw [e] at h
    refine ⟨r1, rfl, h.bind.mono fun p t1 h => ?_⟩
    obtain ⟨fl, r2⟩ := p
    cases fl with
    | nx => exact h
    | cont => exact h
    | brk => exact h
    | ret d => exact h
theorem st_for {tg iter : Expr} {tt : Tg} {body : List Stmt} {fi : Rho → Tw → Res (List D)} (hp : PassesOwn (model X.prog X.w) X.A X.env X.xe) (hc : X.calm = true) (hi : PI X tg iter (tI P true fi)) (hg : PG X tg (gT P tt)) (hb : PSs X body (tS P f))
    (hs : ∀ x, foldedSetIterable iter X.env x = pure x) : PS X (.For tg iter body [] pos) (tS P (forE tt fi f)) := by
  refine psMono (ps_for hp hc hi hg hb hs) fun D σ H ⟨F, r, t, R, h⟩ => ⟨F, r, t, R, h.bind.mono fun ds t1 h J F1 H1 s1 R1 w => ?_⟩
  have w : WD P J (Same F1) F1 ds := w
  refine ⟨fun i m σ H => m = ds.length - i ∧ i ≤ ds.length ∧ ∃ F2 r2 t2, Same F1 F2 ∧ RelP P F2 r2 t2 σ H ∧ Aft P F2 (loopF (fun d r t => match setT tt d r with
    | some r1 => f r1 t
    | none => .bad) (ds.drop i) r2 t2) (aftS P F2 D), ⟨ds.length, by simp, Nat.zero_le _, F1, r, t1, Same.refl F1, R1, (h.up s1.1).mono fun p t2 q => q.up s1.1⟩, fun i m σ2 H2 hW => ?_⟩
  obtain ⟨rfl, hi, F2, r2, t2, s2, R2, h⟩ := hW
  have hG : Same F1 H2 := s2.trans R2.sub
  by_cases hlt : i < ds.length
  · refine .inr ⟨w.goes i H2 hlt hG, fun σ' H' => ∃ F2 r2 t2, Same F1 F2 ∧ RelP P F2 r2 t2 σ' H' ∧ Aft P F2 (loopF (fun d r t => match setT tt d r with
      | some r1 => f r1 t
      | none => .bad) (ds.drop (i + 1)) r2 t2) (aftS P F2 D), fun σ' H' hn => ⟨_, by omega, rfl, hlt, hn⟩, fun x H' hy => ?_⟩
    have hdi : ds[i]? = some ds[i] := List.getElem?_eq_getElem hlt
    rw [List.drop_eq_getElem_cons hlt] at h
    obtain ⟨r3, e3, h⟩ := for_turn h
    obtain ⟨F3, s3, R3, rx⟩ : ∃ F3, Same F2 F3 ∧ RelP P F3 r2 t2 σ2 H' ∧ Rp P.K P.T F3 x ds[i] := by
      rcases w.yields i H2 x H' _ hdi hG hy with ⟨rfl, rx⟩ | ⟨p, xs, es', rfl, hp, rfl, ed, z, qx⟩
      · exact ⟨F2, Same.refl F2, R2, rx.mono s2⟩
      · have b := R2.toRelH.newF (o := .tup xs) hp
        refine ⟨_, b.base, R2.step b, ?_⟩
        rw [ed]
        exact .tup (SqT.of upd_same) z (qx.mono (s2.trans b.base))
    refine ⟨F3, r2, t2, ds[i], r3, R3, rx, e3, fun σ4 R4 _ => ⟨F3, r3, t2, R4, (h.up s3).mono fun p t4 h => ?_⟩⟩
    obtain ⟨fl, r4⟩ := p
    cases fl with
    | nx => exact fun F5 σ5 H5 s5 R5 => ⟨F5, r4, t4, (s2.trans s3).trans s5, R5, ((show Aft P F2 _ (aftS P F2 D) from h).up (s3.trans s5)).mono fun p t q => q.up (s3.trans s5)⟩
    | cont => exact fun F5 σ5 H5 s5 R5 => ⟨F5, r4, t4, (s2.trans s3).trans s5, R5, ((show Aft P F2 _ (aftS P F2 D) from h).up (s3.trans s5)).mono fun p t q => q.up (s3.trans s5)⟩
    | brk => exact fun F5 σ5 H5 s5 R5 => h F5 σ5 H5 (s3.trans s5) R5
    | ret d => exact fun v F5 H5 s5 R5 rv => h v F5 H5 (s3.trans s5) R5 rv
  · have ei : i = ds.length := by omega
    subst ei
    refine .inl ⟨w.stops H2 hG, ?_⟩
    rw [List.drop_length] at h
    exact h F2 σ2 H2 (Same.refl F2) R2
theorem st_while {body : List Stmt} (hp : PassesOwn (model X.prog X.w) X.A X.env X.xe) (hc : PT X c (tT P fc)) (hb : PSs X body (tS P f)) : PS X (.While c body [] pos) (tS P (loopW fc f)) := by
  refine psMono (ps_while hp hc hb) fun D σ H ⟨F, r, t, R, h⟩ => ?_
  obtain ⟨n, hn⟩ := loopW_not (c := fc) (f := f) (r := r) (t := t) fun e => by
    rw [e] at h
    exact h
  refine ⟨fun m σ H => ∃ F2 r2 t2 v, RelP P F2 r2 t2 σ H ∧ loopN fc f m r2 t2 = some v ∧ Aft P F2 v (aftS P F2 D), ⟨n, F, r, t, _, R, hn, h⟩, fun m σ2 H2 hW => ?_⟩
  obtain ⟨F2, r2, t2, v, R2, hm, h⟩ := hW
  cases m with
  | zero => simp [loopN] at hm
  | succ m =>
    simp only [loopN] at hm
    refine ⟨F2, r2, t2, R2, ?_⟩
    cases ec : fc r2 t2 with
    | exc k t3 =>
      rw [ec] at hm
      cases hm
      exact h
    | bad =>
      rw [ec] at hm
      cases hm
      exact h
    | ok x t3 =>
      rw [ec] at hm
      dsimp only at hm
      cases ex : truD x with
      | none =>
        rw [ex] at hm
        cases hm
        exact h.elim
      | some k =>
        rw [ex] at hm
        refine ⟨k, ex, fun F3 H3 s3 R3 => ?_⟩
        cases k with
        | false =>
          cases hm
          rw [if_neg (by decide)]
          exact h F3 σ2 H3 s3.1 R3
        | true =>
          rw [if_pos rfl]
          dsimp only at hm
          refine ⟨fun σ' H' => ∃ F2 r2 t2 v, RelP P F2 r2 t2 σ' H' ∧ loopN fc f m r2 t2 = some v ∧ Aft P F2 v (aftS P F2 D), fun σ' H' q => ⟨m, by omega, q⟩, F3, r2, t3, R3, ?_⟩
          cases ef : f r2 t3 with
          | exc k t4 =>
            rw [ef] at hm
            cases hm
            exact Aft.up h s3.1
          | bad =>
            rw [ef] at hm
            cases hm
            exact h
          | ok p t4 =>
            rw [ef] at hm
            obtain ⟨fl, r4⟩ := p
            cases fl with
            | nx => exact fun F5 σ5 H5 s5 R5 => ⟨F5, r4, t4, v, R5, hm, (h.up (s3.1.trans s5)).mono fun p t q => q.up (s3.1.trans s5)⟩
            | cont => exact fun F5 σ5 H5 s5 R5 => ⟨F5, r4, t4, v, R5, hm, (h.up (s3.1.trans s5)).mono fun p t q => q.up (s3.1.trans s5)⟩
            | brk =>
              cases hm
              exact fun F5 σ5 H5 s5 R5 => h F5 σ5 H5 (s3.1.trans s5) R5
            | ret d =>
              cases hm
              exact fun v F5 H5 s5 R5 rv => h v F5 H5 (s3.1.trans s5) R5 rv
/-! ### x, *y = e -/
theorem star_unpack {prog : Program} {w : World} {A : Around} {E : Value → Shared → Prop} {s : Shared} {l : Addr} {y : Value} {ys : List Value} {Q : List Value → Shared → Prop} (hl : IsTup s.heap l (y :: ys).toArray) (hh : A.handled = none) (hz : ys.length < 16384)
    (h : ∀ (h' : Heap) (tk : Nat), (∀ b o, s.heap.get? b = some o → h'.get? b = some o) → Q [y, .ref h'.objs.size] { s with heap := h'.push { cls := .type "list", data := .seq ys.toArray }, toks := tk }) :
    wpAny (model prog w) A (unpackItems (.ref l) 2 (some 1)) Q E s := by
  have hlt : l ≠ s.heap.objs.size := let ⟨_, ho, _⟩ := hl; Nat.ne_of_lt (Heap.lt_size ho)
  have iterable : ∀ {R : Bool → Shared → Prop}, R false s → wpAny (model prog w) A (notIterableAtAll (.ref l)) R E s := fun q => wpAny_bind (wpAny_specialOf hl.typeIs slot_tuple_iter.lookup (wpAny_pure q))
  unfold unpackItems
  refine wpAny_bind (iterable ?_)
  rw [if_neg Bool.false_ne_true]
  refine wpAny_bind (wpAny_holding (iter_tuple hl (?_)))
  refine wpAny_bind (wpAny_holding (draw_tuple hlt 1 0 _ _ ⟨_, Heap.get?_push_size _ rfl, rfl, rfl⟩ (hl.push _) (by simp) fun h₁ hit₁ hs₁ => ?_))
  have hl₁ : IsTup h₁ l (y :: ys).toArray := (hl.push _).extBut hs₁.extBut hlt
  rw [Nat.zero_add] at hit₁
  have hit₁' := hit₁
  obtain ⟨oi, hoi, _⟩ := hit₁'
  have hl₁' := hl₁
  obtain ⟨ol, hol, _⟩ := hl₁'
  refine wpAny_bind (wpAny_holding (PySem.W.kun_collect (s := { s with heap := h₁ }) (T := "tuple_iterator") (.inr (.inr (.inr rfl))) (Walks.tuple (A := A.in1) hh s.heap.objs.size l hlt (y :: ys).toArray) (fun j u st => st.1.typeIs) (k := 1) (by simp) ⟨hit₁, hl₁⟩ (Heap.lt_size hoi) (Heap.lt_size hol) (fun h₂ tk hk => ?_) (by rw [sizeLine_eq]; simp; omega)))
  show wpAny _ _ (newList (ys.take (ys.length - 0)) >>= fun d => pure ([y] ++ [d] ++ ys.drop (ys.length - 0))) _ _ _
  have e1 : ys.take (ys.length - 0) = ys := by simp
  have e2 : ys.drop (ys.length - 0) = [] := by simp
  rw [e1, e2]
  have he : ∀ b o, s.heap.get? b = some o → h₂.get? b = some o := fun b o e => by
    have nb : b ≠ s.heap.objs.size := Nat.ne_of_lt (Heap.lt_size e)
    exact hk b o nb (hs₁.extBut b o nb (Heap.get?_push_of_some _ e))
  refine wpAny_bind (wpAny_newList (wpAny_pure ?_) (by rw [sizeLine_eq]; omega))
  exact h h₂ tk he
def starE (i j : Nat) (fa : Rho → Tw → Res D) (r : Rho) (t : Tw) : Res (Fl × Rho) := (fa r t).bind fun x t1 => match x with
    | .tup (y :: ys) => if decide (i < r.length) && decide (j < r.length) && decide (ys.length < 16384) then .ok (.nx, (r.set i (.val y)).set j (.val (.lst ys))) t1 else .bad
    | _ => .bad
def gSt (P : Pm) (i j : Nat) : TG := fun v σ H Q => ∃ F r t y ys, RelP P F r t σ H ∧ Rp P.K P.T F v (.tup (y :: ys)) ∧ ys.length < 16384 ∧ ∀ F' σ' H', Same F F' → RelP P F' ((r.set i (.val y)).set j (.val (.lst ys))) t σ' H' → Q σ' H'
theorem g_star {i j : Nat} {x y : Str} {k : Nat} {q1 q2 q3 : Pos} (hK : X.K = P.K) (hc : X.calm = true) (hN : X.N.Nodup) (hi : X.N[i]? = some x) (hj : X.N[j]? = some y) (hx : Loc X.env.scope x) (hy : Loc X.env.scope y)
    (hfx : X.fn x = true ∨ X.env.scope.names.lookup x = some .local) (hfy : X.fn y = true ∨ X.env.scope.names.lookup y = some .local) : PG X (.Tuple [.Name x q1, .Starred (.Name y q2) q3] k pos) (gSt P i j) := by
  refine ⟨fun pins s σ H v u Q I rv h => ?_⟩
  obtain ⟨F, r, t, d, ds, R, rd, hl, q⟩ := h
  cases rd with
  | @tup p xs _ h1 z h2 =>
  cases h2 with
  | @cons v1 vs _ _ r1 r2 =>
  cases rv
  have h1' : SqT X.K H p (v1 :: vs) := by
    rw [hK]
    exact sqT_mono R.sub h1
  obtain ⟨its, rv, ht, hz⟩ := I.tuple h1'
  cases rv with
  | @cons _ u1 _ us ru rus =>
  rw [assign_Tuple]
  refine wpAny_bind (wpAny_standAt ?_)
  unfold unpack
  show wpAny _ _ (assignInOrder _ =<< holding [.ref p] (unpackItems (.ref p) 2 (some 1))) _ _ _
  have hlen : vs.length = us.length := rus.length
  have hvs : vs.length = ds.length := r2.length
  refine wpAny_bind (wpAny_holding (star_unpack ht (I.ok.hd hc) (by omega) fun h' tk hk => ?_))
  have I1 : Inv X pins σ H { s with heap := h', toks := tk } := I.kept hk
  have hf : H h'.objs.size = none := I1.hok.fresh (Nat.le_refl _)
  have hzz : vs.length ≤ sizeLine := by
    rw [sizeLine_eq]
    omega
  have I2 : Inv X pins σ (L2.upd H h'.objs.size (.lst vs)) { s with heap := h'.push { cls := .type "list", data := .seq us.toArray }, toks := tk } := I1.lnew rus hzz
  have b := R.toRelH.newF (o := .lst vs) hf
  have R2 := R.step b
  have pgs : PGs X [.Name x q1, .Name y q2] (gCons (gName i) (gCons (gName j) gNil)) := pgs_cons (pg_name hN hi hx hfx) (pgs_cons (pg_name hN hj hy hfy) pgs_nil rfl) rfl
  refine pgs.run pins _ σ _ [v1, .ref h'.objs.size] [u1, .ref h'.objs.size] Q I2 (.cons ru (.cons rfl .nil)) ⟨v1, _, rfl, .ref _, [], rfl, rfl, ?_⟩
  exact q _ _ _ b.base ((R2.setVal (r1.mono b.base)).setVal (.lst upd_same hzz (r2.mono b.base)))
theorem st_star {i j : Nat} {x y : Str} {k : Nat} {q1 q2 q3 q4 : Pos} (hK : X.K = P.K) (hc : X.calm = true) (hN : X.N.Nodup) (hi : X.N[i]? = some x) (hj : X.N[j]? = some y) (hx : Loc X.env.scope x) (hy : Loc X.env.scope y)
    (hfx : X.fn x = true ∨ X.env.scope.names.lookup x = some .local) (hfy : X.fn y = true ∨ X.env.scope.names.lookup y = some .local) (ha : PE X a (tD P fa)) (hs : swapsWithSole [.Tuple [.Name x q1, .Starred (.Name y q2) q3] k q4] a pos.line X.env = pure false)
    (hw : swappedStores [.Tuple [.Name x q1, .Starred (.Name y q2) q3] k q4] a X.env = pure none) : PS X (.Assign [.Tuple [.Name x q1, .Starred (.Name y q2) q3] k q4] a pos) (tS P (starE i j fa)) :=
  psMono (ps_asg ha (g_star (P := P) hK hc hN hi hj hx hy hfx hfy) hs hw rfl) fun D σ H ⟨F, r, t, R, h⟩ => ⟨F, r, t, R, h.bind.mono fun d t' h v F' H' s R' rv => by
    cases d with
    | tup xs =>
      cases xs with
      | nil => exact (show False from h).elim
      | cons y ys =>
        have h : Aft P F (if decide (i < r.length) && decide (j < r.length) && decide (ys.length < 16384) then .ok (.nx, (r.set i (.val y)).set j (.val (.lst ys))) t' else .bad) (aftS P F D) := h
        split at h
        · rename_i hb
          exact ⟨F', r, t', y, ys, R', rv, of_decide_eq_true (Bool.and_eq_true_iff.mp hb).2, fun F2 σ2 H2 s2 R2 => h F2 σ2 H2 (s.1.trans s2) R2⟩
        · exact h.elim
    | _ => exact (show False from h).elim⟩
/-! ### raise -/
theorem st_raise {n : Nat} {C : Addr} {cl : Nat → Addr} {x m : Str} {j : Nat} {p3 p4 : Pos} {bmB : List Value} {B newId initId : String} (hc : X.calm = true) (tk : Takes X fun c d _ H => EX cl P.XE c d H) (F : ExcBaseFacts B newId initId bmB)
    (q : PySem.W.excIn X.K (cl n) bmB newId = true) (gC : X.mg x = some (.ref (cl n))) (kC : PySem.W.keepIn X.K (.ref (cl n)) = true) (rC : Raises X (.ref (cl n))) (hg : Gl X x) (hdb : (x == ("__debug__" : Str)) = false) :
    PS X (.Raise (some (.Call (.Name x p1) [.Constant (.str m) j p2] [] p3)) none p4) (tS P fun _ t => .exc n t) :=
  psMono (ps_raise hc tk (pmk_own F q gC kC rC hg hdb)) fun D σ H ⟨F, r, t, R, h⟩ => ⟨n, rfl, rfl, h F H (Same.refl F) R.toRelH⟩
end
end Fm

/-! ### the town of the draws -/
namespace Fm
open PySem PySem.Spec PyProof.Rows L2
section
variable {P : Pm} {X : Cx} {a b c : Expr} {pos p1 p2 : Pos} {fa fb fc : Rho → Tw → Res D} {i : Nat} {y : Str} {q : Pos} {j : Nat}
theorem tok_at {F H : Hp} {r : Rho} {t : Tw} {σ : L2.St} (R : RelP P F r t σ H) (e : r[i]? = some (.val .tok)) : σ[i]? = some (some (.ref P.T.a)) := by
  obtain ⟨v, e1, h⟩ := R.val i _ e
  cases h
  exact e1
/-- the town is changed -/
theorem Rel.town {F H H' : Hp} {r : Rho} {t t' : Tw} {σ : L2.St} (R : RelP P F r t σ H) (hn : ∀ b, b ≠ P.T.a → b ≠ P.T.b → H' b = H b) (tw : Town P.T t' H') : RelP P F r t' σ H' := by
  have fa := R.tF1
  have fb := R.tF2
  refine ⟨⟨fun b o h => ?_, R.new, R.base, fun b o h n1 n2 => ?_, fun b h => ?_, tw, fa, fb, R.sc⟩, R.len, R.val, fun i d h => ?_, R.inj⟩
  · have n1 : b ≠ P.T.a := fun e => by
      rw [e, fa] at h
      cases h
    have n2 : b ≠ P.T.b := fun e => by
      rw [e, fb] at h
      cases h
    rw [hn b n1 n2]
    exact R.sub b o h
  · rw [hn b n1 n2]
    exact R.old b o h n1 n2
  · by_cases n1 : b = P.T.a
    · subst n1
      rw [tw.a] at h
      cases h
    · by_cases n2 : b = P.T.b
      · subst n2
        rw [tw.b] at h
        cases h
      · rw [hn b n1 n2] at h
        exact R.had b h
  · obtain ⟨p, e, w⟩ := R.own i d h
    exact ⟨p, e, ⟨w.fr, w.n1, w.n2, w.h0, w.at_.keep (Same.refl F) fun o h => by rw [hn p w.n1 w.n2]; exact h⟩⟩
def tcountE (i : Nat) (r : Rho) (t : Tw) : Res D := match r[i]? with
    | some (.val .tok) => .ok (.int t.count) t
    | _ => .bad
def tgetE (i : Nat) (fk fd : Rho → Tw → Res D) (r : Rho) (t : Tw) : Res D := match r[i]? with
    | some (.val .tok) => (fk r t).bind fun y t1 => (fd r t1).bind fun z t2 => (match y, z with
      | .int a, .int b => .ok (.int ((lkT t2.rests a).getD b)) t2
      | _, _ => .bad)
    | _ => .bad
def tcntE (i : Nat) (fa : Rho → Tw → Res D) (r : Rho) (t : Tw) : Res (Fl × Rho) := match r[i]? with
    | some (.val .tok) => (fa r t).bind fun x t1 => (match x with
      | .int c => .ok (.nx, r) { t1 with count := c }
      | _ => .bad)
    | _ => .bad
def trstE (i : Nat) (fk fa : Rho → Tw → Res D) (r : Rho) (t : Tw) : Res (Fl × Rho) := match r[i]? with
    | some (.val .tok) => (fa r t).bind fun x t1 => (fk r t1).bind fun y t2 => (match x, y with
      | .int v, .int a => if decide (t2.rests.length < 1000000) then .ok (.nx, r) { t2 with rests := putT t2.rests a v } else .bad
      | _, _ => .bad)
    | _ => .bad
theorem tok_of {α : Type} {F : Hp} {r : Rho} {m : Res α} {Z : α → Tw → Prop} (h : Aft P F (match r[i]? with
    | some (.val .tok) => m
    | _ => .bad) Z) : r[i]? = some (.val .tok) ∧ Aft P F m Z := by
  split at h
  · rename_i e
    exact ⟨e, h⟩
  · exact h.elim
theorem valV_rests (rs : List (Int × Int)) (k : Int) : valV (rs.map fun p => ((.inl p.1 : Key), V.int p.2)) (.inl k) = (lkT rs k).map V.int := by
  induction rs with
  | nil => rfl
  | cons p r ih =>
    by_cases e : p.1 = k
    · rw [List.map_cons, valV_pos (by rw [e])]
      simp [lkT, List.find?_cons, e]
    · rw [List.map_cons, valV_neg (by simpa using e), ih]
      simp [lkT, List.find?_cons, e]
theorem putK_rests (rs : List (Int × Int)) (k v : Int) : putK (rs.map fun p => ((.inl p.1 : Key), V.int p.2)) (.inl k) (.int v) = (putT rs k v).map fun p => ((.inl p.1 : Key), V.int p.2) := by
  unfold putK putT
  have e : ((rs.map fun p => ((.inl p.1 : Key), V.int p.2)).any fun kv => decide (kv.1 = (.inl k : Key))) = rs.any fun p => decide (p.1 = k) := by
    rw [List.any_map]
    congr 1
    funext p
    simp
  rw [e]
  split
  · rw [List.map_map, List.map_map]
    refine List.map_congr_left fun p _ => ?_
    simp only [Function.comp]
    by_cases e : p.1 = k
    · simp [e]
    · simp [e]
  · simp
theorem putT_len (rs : List (Int × Int)) (k v : Int) : (putT rs k v).length ≤ rs.length + 1 := by
  unfold putT
  split <;> simp
/-- town['count'] -/
theorem s_tcount (hu : X.A.units + 200 < cLine) (hN : X.N[i]? = some y) (hv : Vis X.env.scope y) (hd : (y == ("__debug__" : Str)) = false) (hcd : (y == ("__classdict__" : Str)) = false) : PE X (.Subscript (.Name y q) (.Constant (.str "count") j p1) pos) (tD P (tcountE i)) := by
  refine peMono (pe_dget (by omega) (pe_slot hN hv hd hcd) pe_str (fun _ _ => rfl)) fun σ H Q ⟨F, r, t, R, h⟩ => ?_
  obtain ⟨e, h⟩ := tok_of h
  refine ⟨_, tok_at R e, P.T.a, .int t.count, rfl, DGet.k (k := .inr "count") R.tw.a, h _ _ _ Kp.refl R (.int _)⟩
theorem town_rests (hu : X.A.units + 200 < cLine) (hN : X.N[i]? = some y) (hv : Vis X.env.scope y) (hd : (y == ("__debug__" : Str)) = false) (hcd : (y == ("__classdict__" : Str)) = false) :
    PE X (.Subscript (.Name y q) (.Constant (.str "rests") j p1) pos) (fun σ H Q => ∃ F r t, RelP P F r t σ H ∧ r[i]? = some (.val .tok) ∧ Q (.ref P.T.b) H) := by
  refine peMono (pe_dget (by omega) (pe_slot hN hv hd hcd) pe_str (fun _ _ => rfl)) fun σ H Q ⟨F, r, t, R, e, h⟩ => ?_
  refine ⟨_, tok_at R e, P.T.a, .ref P.T.b, rfl, ?_, h⟩
  have := DGet.k (k := .inr "rests") R.tw.a
  exact this
theorem s_tget (hu : X.A.units + 200 < cLine) (hN : X.N[i]? = some y) (hv : Vis X.env.scope y) (hd : (y == ("__debug__" : Str)) = false) (hcd : (y == ("__classdict__" : Str)) = false) {p3 p4 : Pos} (hb : PE X b (tB P fb)) (hc : PE X c (tD P fc))
    (m : M2 X (.Subscript (.Name y q) (.Constant (.str "rests") j p1) pos) "get" p3 b c p4) : PE X (.Call (.Attribute (.Subscript (.Name y q) (.Constant (.str "rests") j p1) pos) "get" p3) [b, c] [] p4) (tD P (tgetE i fb fc)) := by
  refine peMono (pe_dget2 (by omega) (town_rests (P := P) hu hN hv hd hcd) hb hc m) fun σ H Q ⟨F, r, t, R, h⟩ => ?_
  obtain ⟨e, h⟩ := tok_of h
  refine ⟨F, r, t, R, e, P.T.b, rfl, .inl ⟨_, .inl R.tw.b⟩, F, r, t, R, h.bind.mono fun dy t1 h v F1 H1 s1 R1 ry => ⟨F1, r, t1, R1, (h.up s1.1).bind.mono fun dz t2 h u F2 H2 s2 R2 rz => ?_⟩⟩
  cases dy with
  | int k =>
    cases dz with
    | int z =>
      obtain rfl := (ry.mono s2.1).int R2
      cases rz
      refine ⟨_, DGet.k (k := .inl k) R2.tw.b, ?_⟩
      rw [valV_rests]
      have := h (.int ((lkT t2.rests k).getD z)) F2 H2 (s1.trans s2) R2 (.int _)
      cases e2 : lkT t2.rests k with
      | none =>
        rw [e2] at this
        exact this
      | some w =>
        rw [e2] at this
        exact this
    | _ => exact (show False from h).elim
  | _ => exact (show False from h).elim
/-- town['count'] = e -/
theorem st_tcnt (hu : X.A.units + 200 < cLine) (hN : X.N[i]? = some y) (hv : Vis X.env.scope y) (hd : (y == ("__debug__" : Str)) = false) (hcd : (y == ("__classdict__" : Str)) = false) (ha : PE X a (tD P fa))
    (hs : swapsWith a (some (.Subscript (.Name y q) (.Constant (.str "count") j p1) p2)) pos.line X.env = pure false) : PS X (.Assign [.Subscript (.Name y q) (.Constant (.str "count") j p1) p2] a pos) (tS P (tcntE i fa)) := by
  refine psMono (ps_dput (by omega) (pe_slot hN hv hd hcd) pe_str ha hs) fun D σ H ⟨F, r, t, R, h⟩ => ?_
  obtain ⟨e, h⟩ := tok_of h
  refine ⟨F, r, t, R, h.bind.mono fun d t1 h v F1 H1 s1 R1 rv => ⟨_, tok_at R1 e, ?_⟩⟩
  split at h
  · rename_i c
    cases rv
    have d := DPut.k (k := .inr "count") (v := .int c) R1.tw.a (by rw [sizeLine_eq]; simp)
    refine ⟨P.T.a, _, rfl, d, h F1 σ _ s1.1 (Rel.town R1 (fun b n1 n2 => upd_ne n1) ⟨?_, ?_, R1.tw.ne, R1.tw.small⟩)⟩
    · rw [upd_same]
      rfl
    · rw [upd_ne (Ne.symm R1.tw.ne)]
      exact R1.tw.b
  · exact h.elim
/-- town['rests'][k] = e -/
theorem st_trst (hu : X.A.units + 200 < cLine) (hN : X.N[i]? = some y) (hv : Vis X.env.scope y) (hd : (y == ("__debug__" : Str)) = false) (hcd : (y == ("__classdict__" : Str)) = false) {p3 : Pos} (hb : PE X b (tB P fb)) (ha : PE X a (tD P fa))
    (hs : swapsWith a (some (.Subscript (.Subscript (.Name y q) (.Constant (.str "rests") j p1) p2) b p3)) pos.line X.env = pure false) : PS X (.Assign [.Subscript (.Subscript (.Name y q) (.Constant (.str "rests") j p1) p2) b p3] a pos) (tS P (trstE i fb fa)) := by
  refine psMono (ps_dput (by omega) (town_rests (P := P) hu hN hv hd hcd) hb ha hs) fun D σ H ⟨F, r, t, R, h⟩ => ?_
  obtain ⟨e, h⟩ := tok_of h
  refine ⟨F, r, t, R, h.bind.mono fun d t1 h v F1 H1 s1 R1 rv => ⟨F1, r, t1, R1, e, F1, r, t1, R1, (h.up s1.1).bind.mono fun dk t2 h w F2 H2 s2 R2 rk => ?_⟩⟩
  cases d with
  | int z =>
    cases dk with
    | int k =>
      obtain rfl := rk.int R2
      have rv := rv.mono s2.1
      cases rv
      have h : Aft P F1 (if decide (t2.rests.length < 1000000) then .ok (.nx, r) { t2 with rests := putT t2.rests k z } else .bad) (aftS P F D) := h
      split at h
      · rename_i hl
        have hl := of_decide_eq_true hl
        have d := DPut.k (k := .inl k) (v := .int z) R2.tw.b (by rw [List.length_map, sizeLine_eq]; omega)
        rw [putK_rests] at d
        refine ⟨P.T.b, _, rfl, d, h F2 σ _ (s1.1.trans s2.1) (Rel.town R2 (fun b n1 n2 => upd_ne n2) ⟨?_, ?_, R2.tw.ne, ?_⟩)⟩
        · rw [upd_ne R2.tw.ne]
          exact R2.tw.a
        · rw [upd_same]
        · have := putT_len t2.rests k z
          show (putT t2.rests k z).length ≤ 1000000
          omega
      · exact h.elim
    | _ => exact (show False from h).elim
  | _ => exact (show False from h).elim
end
end Fm

/-! ### the text is the one of a Core text: a check by computation -/
namespace Fm
open PySem PySem.Spec PyProof.Rows L2
/-- a call's form: the def's name, positional values, keywords' names, what fills up -/
structure Sh where
  name : Str
  np : Nat
  ks : List Str
  dfl : List Cst
  fn : Nat
structure Tb where
  sh : List Sh
  cs : List Str
  ex : List Str
/-- a block's names: its scope; the names whose cells are its own -/
structure Cs where
  sc : Scope
  fn : Str → Bool
def nameB (x : Str) : Bool := !(x == ("__debug__" : Str)) && !(x == ("__classdict__" : Str)) && decide (x ≠ "__name__")
def visB (c : Cs) (x : Str) : Bool := match c.sc.names.lookup x with
  | some .local => true
  | some .cell => true
  | some .free => true
  | _ => false
def locB (c : Cs) (x : Str) : Bool := match c.sc.names.lookup x with
  | some .local => true
  | some .cell => c.fn x
  | _ => false
def lclB (c : Cs) (x : Str) : Bool := match c.sc.names.lookup x with
  | some .local => true
  | _ => false
def glB (c : Cs) (x : Str) : Bool := nameB x && match c.sc.names.lookup x with
  | some .globalImplicit => true
  | _ => false
def varB (N : List Str) (c : Cs) (i : Nat) (x : Str) : Bool := decide (N[i]? = some x) && visB c x && nameB x
def tgtB (N : List Str) (c : Cs) (i : Nat) (x : Str) : Bool := decide (N[i]? = some x) && locB c x && nameB x
def nStar : Expr → Bool
  | .Starred _ _ => false
  | _ => true
def nSlice : Expr → Bool
  | .Slice _ _ _ _ => false
  | _ => true
def nSet : Expr → Bool
  | .Set _ _ _ => false
  | _ => true
def nComp : Expr → Bool
  | .ListComp _ _ _ _ => false
  | .SetComp _ _ _ _ => false
  | .DictComp _ _ _ _ _ => false
  | _ => true
def nCall : Expr → Bool
  | .Call _ _ _ _ => false
  | _ => true
def isTupB : Expr → Bool
  | .Tuple _ _ _ => true
  | _ => false
def isNmB : Expr → Bool
  | .Name _ _ => true
  | _ => false
def opB : Operator → Bool
  | .Add => true
  | .Sub => true
  | .Mult => true
  | .FloorDiv => true
  | .Mod => true
  | .Pow => true
  | .LShift => true
  | _ => false
def Blt.nm : Blt → Str
  | .len => "len"
  | .abs => "abs"
  | .all => "all"
  | .any => "any"
  | .sum => "sum"
  | .tuple => "tuple"
  | .list => "list"
  | .sorted => "sorted"
  | .int => "int"
def bltB : Blt → Bool
  | .int => false
  | _ => true
mutual
def mTg (N : List Str) (c : Cs) : Tg → Expr → Bool
  | .name i, .Name x _ => tgtB N c i x
  | .tup ts, .Tuple es _ _ => mTgs N c ts es
  | _, _ => false
def mTgs (N : List Str) (c : Cs) : Tgs → List Expr → Bool
  | .nil, [] => true
  | .cons t ts, e :: es => nStar e && mTg N c t e && mTgs N c ts es
  | _, _ => false
end
def mDsp : List (Str × Cst) → List (Option Expr) → List Expr → Bool
  | [], [], [] => true
  | (x, k) :: r, some (.Constant (.str y) _ _) :: ks, .Constant k' _ _ :: vs => decide (x = y) && decide (k.k = k') && mDsp r ks vs
  | _, _, _ => false
def isStr (x : Str) : Expr → Bool
  | .Constant (.str y) _ _ => decide (y = x)
  | _ => false
/-- a block of a comprehension -/
def blkCs (c : Cs) (scope : Scope) : Cs := ⟨relS scope c.sc, fun x => scope.names.lookup x == some .cell⟩
mutual
def mE (tb : Tb) (N : List Str) (c : Cs) (fl : Bool) : E → Expr → Bool
  | .cst k, .Constant k' _ _ => decide (k.k = k')
  | .var i, .Name x _ => varB N c i x
  | .bor i, .Name x _ => fl && varB N c i x
  | .glob g, .Name x _ => decide (tb.cs[g]? = some x) && glB c x
  | .bin op a b, .BinOp ea op' eb _ => decide (op = op') && opB op && mE tb N c true a ea && mE tb N c true b eb
  | .cat a b, .BinOp ea .Add eb _ => mE tb N c true a ea && mE tb N c true b eb
  | .neg a, .UnaryOp .USub ea _ => mE tb N c true a ea
  | .not a, .UnaryOp .Not ea _ => mE tb N c true a ea
  | .and a b, .BoolOp .And (x :: y :: r) pos => mE tb N c false a x && (match r with
    | [] => mE tb N c false b y
    | z :: r' => mE tb N c false b (.BoolOp .And (y :: z :: r') pos))
  | .or a b, .BoolOp .Or (x :: y :: r) pos => mE tb N c false a x && (match r with
    | [] => mE tb N c false b y
    | z :: r' => mE tb N c false b (.BoolOp .Or (y :: z :: r') pos))
  | .ite k a b, .IfExp ek ea eb _ => mE tb N c true k ek && mE tb N c false a ea && mE tb N c false b eb
  | .cmp op a b, .Compare ea [op'] [eb] _ => decide (op = op') && !behindInMarks op eb && mE tb N c true a ea && mE tb N c true b eb
  | .chain o1 o2 a b k, .Compare ea [o1', o2'] [eb, ek] _ => decide (o1 = o1') && decide (o2 = o2') && !lastMarks [o1, o2] [eb, ek] && mE tb N c true a ea && mE tb N c true b eb && mE tb N c true k ek
  | .cut a lo hi, .Subscript ea (.Slice l h none _) _ => mE tb N c true a ea && mO tb N c lo l && mO tb N c hi h
  | .ix a b, .Subscript ea eb _ => nSlice eb && mE tb N c true a ea && mE tb N c true b eb
  | .dix a b, .Subscript ea eb _ => nSlice eb && mE tb N c true a ea && mE tb N c true b eb
  | .tup es, .Tuple xs _ _ => mEs tb N c es xs
  | .lst es, .List xs _ => mEs tb N c es xs
  | .call i es ks, .Call (.Name x _) xs kws _ => (match tb.sh[i]? with
    | some sh => decide (sh.name = x) && glB c x && decide (xs.length = sh.np) && decide (kws.map (·.arg) = sh.ks.map some) && (decide (kws = []) || !decide (xs = [])) && mEs tb N c es xs && mKs tb N c ks kws
    | none => false)
  | .blt b a, .Call (.Name x _) [ea] [] _ => bltB b && decide (b.nm = x) && glB c x && nStar ea && mE tb N c true a ea
  | .isa a T, .Call (.Name x _) [ea, .Name y _] [] _ => decide (x = "isinstance") && decide (T.nm = y) && glB c x && glB c y && nStar ea && mE tb N c true a ea
  | .get a k d, .Call (.Attribute ea m p) [ek, ed] [] cp => decide (m = "get") && nCall ea && (p.endLine == cp.line) && nStar ek && nStar ed && mE tb N c true a ea && mE tb N c true k ek && mE tb N c false d ed
  | .tcount i, .Subscript (.Name y _) eb _ => varB N c i y && isStr "count" eb
  | .tget i k d, .Call (.Attribute (.Subscript (.Name y _) eb _) m p) [ek, ed] [] cp => varB N c i y && isStr "rests" eb && decide (m = "get") && (p.endLine == cp.line) && nStar ek && nStar ed && mE tb N c true k ek && mE tb N c false d ed
  | .dsp kvs, .Dict ks vs _ => mDsp kvs ks vs
  | .rev a, .Subscript ea (.Slice none none (some (.UnaryOp .USub (.Constant (.int z) _ _) _)) _) _ => decide (z = 1) && mE tb N c true a ea
  | .comp own elt tg it cd, .ListComp ee [⟨et, ei, ifs, z⟩] scope _ => decide (z = 0) && blkC N c.sc scope own && (tg.slots.all fun i => (own.map (·.2)).contains i) && mI tb N c false et it ei && nSet ei && mTg N (blkCs c scope) tg et && mCd tb N (blkCs c scope) cd ifs && mE tb N (blkCs c scope) false elt ee
  | _, _ => false
def mO (tb : Tb) (N : List Str) (c : Cs) : O → Option Expr → Bool
  | .none, none => true
  | .some e, some x => mE tb N c true e x
  | _, _ => false
def mCd (tb : Tb) (N : List Str) (c : Cs) : O → List Expr → Bool
  | .none, [] => true
  | .some k, [x] => mE tb N c true k x
  | _, _ => false
def mEs (tb : Tb) (N : List Str) (c : Cs) : Es → List Expr → Bool
  | .nil, [] => true
  | .cons e es, x :: xs => nStar x && mE tb N c false e x && mEs tb N c es xs
  | _, _ => false
def mKs (tb : Tb) (N : List Str) (c : Cs) : Es → List Keyword → Bool
  | .nil, [] => true
  | .cons e es, ⟨_, x, _⟩ :: xs => mE tb N c false e x && mKs tb N c es xs
  | _, _ => false
def mI (tb : Tb) (N : List Str) (c : Cs) (fz : Bool) (tg : Expr) : I → Expr → Bool
  | .val e, x => mE tb N c (!fz) e x
  | .rng1 a, .Call (.Name x _) [ea] [] _ => decide (x = "range") && glB c x && nStar ea && mE tb N c true a ea
  | .rng2 a b, .Call (.Name x _) [ea, eb] [] _ => decide (x = "range") && glB c x && nStar ea && nStar eb && mE tb N c true a ea && mE tb N c true b eb
  | .zip a b, .Call (.Name x _) [ea, eb] [] _ => isTupB tg && decide (x = "zip") && glB c x && nStar ea && nStar eb && mE tb N c (!fz) a ea && mE tb N c (!fz) b eb
  | .zipN a b, .Call (.Name x _) [ea, eb] [] _ => isNmB tg && decide (x = "zip") && glB c x && nStar ea && nStar eb && mE tb N c true a ea && mE tb N c true b eb
  | .enum a, .Call (.Name x _) [ea] [] _ => isTupB tg && decide (x = "enumerate") && glB c x && nStar ea && mE tb N c (!fz) a ea
  | _, _ => false
end
end Fm

/-! ### soundness of expressions -/
namespace Fm
open PySem PySem.Spec PyProof.Rows L2
/-- a def that may be called -/
structure CallOk (X : Cx) (P : Pm) (cl : Nat → Addr) (sh : Sh) (g : List D → List D → Tw → Res D) : Prop where
  ex : ∃ k f fd ps Γ, FnOk X.prog X.w X.K X.mg X.base (CX X.prog X.w) k f fd ps (spD P.K P.T cl (sh.np + sh.ks.length + sh.dfl.length) Γ) ∧ Room k X.A ∧ X.mg sh.name = some (.ref f) ∧ PySem.W.keepIn X.K (.ref f) = true ∧
    (sh.ks = [] → ∃ ds, Vals (sh.dfl.map Cst.v) ds ∧ Binds X.K fd ps ds) ∧ (sh.ks ≠ [] → ∃ gg, KBn X.K fd ps sh.np sh.ks gg (fun vs zs => vs ++ zs ++ sh.dfl.map Cst.v)) ∧ ∀ xs ys t, g xs ys t = Γ (xs ++ ys ++ sh.dfl.map Cst.d) t
structure ExcOk (X : Cx) (C : Addr) (x : Str) : Prop where
  q : PySem.W.excIn X.K C He.veBase "ValueError.__new__" = true
  g : X.mg x = some (.ref C)
  k : PySem.W.keepIn X.K (.ref C) = true
  r : Raises X (.ref C)
def freeNames : List Str := ["len", "abs", "all", "any", "sum", "tuple", "list", "sorted", "isinstance", "int", "bool", "str", "range", "zip", "enumerate"]
structure Ok (tb : Tb) (N : List Str) (G : Gam) (cs : Nat → D) (cl : Nat → Addr) (X : Cx) (P : Pm) (c : Cs) : Prop where
  hK : X.K = P.K
  hN : X.N = N
  nd : N.Nodup
  sc : X.env.scope = c.sc
  fn : X.fn = c.fn
  calm : X.calm = true
  hu : X.A.units + 200 < cLine
  free : ∀ x ∈ freeNames, X.mg x = none
  con : ∀ g x, tb.cs[g]? = some x → ∃ u v, X.mg x = some u ∧ RelV v u ∧ Rp P.K P.T (fun _ => none) v (cs g)
  call : ∀ i sh, tb.sh[i]? = some sh → CallOk X P cl sh (G i)
  tk : Takes X fun cc d _ H => EX cl P.XE cc d H
  own : PassesOwn (model X.prog X.w) X.A X.env X.xe
  exc : ∀ n x, tb.ex[n]? = some x → ExcOk X (cl n) x
structure Snd (X : Cx) (P : Pm) (f : Rho → Tw → Res D) (fl : Bool) (e : Expr) : Prop where
  b : PE X e (tB P f)
  d : fl = false → PE X e (tD P f)
  t : PT X e (tT P f)
  w : ∀ op vs pos, e = .BoolOp op vs pos → PW X e (tT P f)
theorem Snd.plain {X : Cx} {P : Pm} {f : Rho → Tw → Res D} {fl : Bool} {e : Expr} (hK : X.K = P.K) (h : PE X e (tD P f)) (he : ∀ whole, isTrue e X.env whole = (do let v ← whole; standAt e.pos; holding [v] (truthy v))) (nw : ∀ op vs pos, e ≠ .BoolOp op vs pos) : Snd X P f fl e :=
  ⟨tB_tD h, fun _ => h, t_plain hK (tB_tD h) he, fun op vs pos z => absurd z (nw op vs pos)⟩
section
variable {tb : Tb} {N : List Str} {G : Gam} {cs : Nat → D} {cl : Nat → Addr} {X : Cx} {P : Pm} {c : Cs}
theorem and2 {a b : Bool} (h : (a && b) = true) : a = true ∧ b = true := Bool.and_eq_true_iff.mp h
theorem nameB_of {x : Str} (h : nameB x = true) : (x == ("__debug__" : Str)) = false ∧ (x == ("__classdict__" : Str)) = false ∧ x ≠ "__name__" := by
  obtain ⟨h1, h3⟩ := and2 h
  obtain ⟨h1, h2⟩ := and2 h1
  exact ⟨by simpa using h1, by simpa using h2, of_decide_eq_true h3⟩
theorem varB_of (ok : Ok tb N G cs cl X P c) {i : Nat} {x : Str} (h : varB N c i x = true) : X.N[i]? = some x ∧ Vis X.env.scope x ∧ (x == ("__debug__" : Str)) = false ∧ (x == ("__classdict__" : Str)) = false := by
  obtain ⟨h1, h3⟩ := and2 h
  obtain ⟨h1, h2⟩ := and2 h1
  obtain ⟨n1, n2, _⟩ := nameB_of h3
  refine ⟨by rw [ok.hN]; exact of_decide_eq_true h1, ?_, n1, n2⟩
  rw [ok.sc]
  unfold visB at h2
  unfold Vis
  split at h2
  · rename_i e
    exact .inl e
  · rename_i e
    exact .inr (.inl e)
  · rename_i e
    exact .inr (.inr e)
  · cases h2
theorem tgtB_of (ok : Ok tb N G cs cl X P c) {i : Nat} {x : Str} (h : tgtB N c i x = true) : X.N[i]? = some x ∧ Loc X.env.scope x ∧ (X.fn x = true ∨ X.env.scope.names.lookup x = some .local) := by
  obtain ⟨h1, h3⟩ := and2 h
  obtain ⟨h1, h2⟩ := and2 h1
  refine ⟨by rw [ok.hN]; exact of_decide_eq_true h1, ?_⟩
  rw [ok.sc, ok.fn]
  unfold locB at h2
  unfold L2.Loc
  split at h2
  · rename_i e
    exact ⟨.inl e, .inr e⟩
  · rename_i e
    exact ⟨.inr e, .inl h2⟩
  · cases h2
theorem glB_of (ok : Ok tb N G cs cl X P c) {x : Str} (h : glB c x = true) : Gl X x ∧ (x == ("__debug__" : Str)) = false ∧ x ≠ "__name__" := by
  obtain ⟨h1, h2⟩ := and2 h
  obtain ⟨n1, n2, n3⟩ := nameB_of h1
  refine ⟨?_, n1, n3⟩
  show X.env.scope.names.lookup x = _
  rw [ok.sc]
  split at h2
  · rename_i e
    exact e
  · cases h2
theorem star_of {e : Expr} {es : List Expr} {env : Env} (h : nStar e = true) : starEach (e :: es) env = (false, eval e env) :: starEach es env := by
  cases e <;> first | rfl | (cases h; done)
theorem plain_of {b : Expr} (h : nSlice b = true) : PlainIx b := by
  intro o i
  cases b <;> first | rfl | (cases h; done)
theorem fold_of {e : Expr} {env : Env} (h : nSet e = true) : ∀ x, foldedSetIterable e env x = pure x := by
  intro x
  cases e <;> first | rfl | (cases h; done)
theorem base_of {e : Expr} {m : Str} {env : Env} (h : nCall e = true) : attributeBase e m env (eval e env) = eval e env := by
  cases e <;> first | rfl | (cases h; done)
/-- in a comprehension's block -/
theorem Ok.blk (ok : Ok tb N G cs cl X P c) (scope : Scope) (s : Shared) (H : Hp) (C : Addr) (cls : List (Str × Addr)) (fp : List Addr) : Ok tb N G cs cl (X.blk s H scope (compEnvC scope cls C X.env) fp) P.nox (blkCs c scope) where
  hK := ok.hK
  hN := ok.hN
  nd := ok.nd
  sc := by
    show relS scope X.env.scope = relS scope c.sc
    rw [ok.sc]
  fn := rfl
  calm := ok.calm
  hu := ok.hu
  free := ok.free
  con := ok.con
  call := fun i sh e => by
    obtain ⟨k, f, fd, ps, Γ, h1, h2, h3⟩ := (ok.call i sh e).ex
    exact ⟨k, f, fd, ps, Γ, h1, h2, h3⟩
  tk := fun u s' ⟨a, B, sI, pins, σ, H, cls, d, e, I, nb, up, sky, na, os, ag, w⟩ => by
    obtain ⟨n, _, _, z⟩ := w
    exact z
  own := PassesOwn.never
  exc := fun n x e => by
    obtain ⟨h1, h2, h3, h4⟩ := ok.exc n x e
    exact ⟨h1, h2, h3, h4⟩
theorem dsp_of : ∀ {kvs : List (Str × Cst)} {ks : List (Option Expr)} {vs : List Expr}, mDsp kvs ks vs = true → DspIs kvs ks vs
  | [], [], [], _ => .nil
  | (x, k) :: r, some (.Constant (.str y) j q) :: ks, .Constant k' j' q' :: vs, h => by
    obtain ⟨h1, h2⟩ := and2 (show (decide (x = y) && decide (k.k = k') && mDsp r ks vs) = true from h)
    obtain ⟨h3, h4⟩ := and2 h1
    obtain rfl := of_decide_eq_true h3
    obtain rfl := of_decide_eq_true h4
    exact .cons (dsp_of h2)
mutual
theorem sTg (ok : Ok tb N G cs cl X P c) : ∀ {t : Tg} {e : Expr}, mTg N c t e = true → PG X e (gT P t)
  | .name i, .Name x p, h => by
    obtain ⟨h1, h2, h3⟩ := tgtB_of ok (show tgtB N c i x = true from h)
    exact g_name (by rw [ok.hN]; exact ok.nd) h1 h2 h3
  | .tup ts, .Tuple es k p, h => by
    have h : mTgs N c ts es = true := h
    obtain ⟨h1, h2, h3⟩ := sTgs ok h
    exact g_tup ok.hK ok.calm h1 h2 h3
theorem sTgs (ok : Ok tb N G cs cl X P c) : ∀ {ts : Tgs} {es : List Expr}, mTgs N c ts es = true → PGs X es (gTs P ts) ∧ (assignEach es X.env).length = ts.count ∧ (assignEach es X.env).findIdx? (·.1) = none
  | .nil, [], _ => ⟨g_nil, rfl, rfl⟩
  | .cons t ts, e :: es, h => by
    obtain ⟨h1, h2⟩ := and2 (show (nStar e && mTg N c t e && mTgs N c ts es) = true from h)
    obtain ⟨h3, h4⟩ := and2 h1
    obtain ⟨g1, g2, g3⟩ := sTgs ok h2
    have ea : assignEach (e :: es) X.env = (false, assign e X.env) :: assignEach es X.env := by
      cases e <;> first | rfl | (cases h3; done)
    refine ⟨g_cons (sTg ok h4) g1 (by rw [ea]; rfl), ?_, ?_⟩
    · rw [ea, List.length_cons, g2]
      rfl
    · rw [ea, List.findIdx?_cons]
      simp [g3]
end
end
end Fm

namespace Fm
open PySem PySem.Spec PyProof.Rows L2
section
variable {G : Gam} {cs : Nat → D}
theorem ev_cst (k : Cst) : ev G cs (.cst k) = fun _ t => .ok k.d t := by funext r t; rw [ev]
theorem ev_var (i : Nat) : ev G cs (.var i) = fun r t => match r[i]? with
    | some (.val d) => .ok d t
    | _ => .bad := by funext r t; first | (rw [ev]; done) | (rw [ev]; rfl)
theorem ev_bor (i : Nat) : ev G cs (.bor i) = fun r t => match r[i]? with
    | some (.val d) => .ok d t
    | some (.own d) => .ok d t
    | _ => .bad := by funext r t; first | (rw [ev]; done) | (rw [ev]; rfl)
theorem ev_glob (g : Nat) : ev G cs (.glob g) = fun _ t => .ok (cs g) t := by funext r t; rw [ev]
theorem ev_bin (op : Operator) (a b : E) : ev G cs (.bin op a b) = fun r t => (ev G cs a r t).bind fun x t1 => (ev G cs b r t1).bind fun y t2 => lift (binD op x y) t2 := by funext r t; rw [ev]
theorem ev_cat (a b : E) : ev G cs (.cat a b) = fun r t => (ev G cs a r t).bind fun x t1 => (ev G cs b r t1).bind fun y t2 => lift (catD x y) t2 := by funext r t; rw [ev]
theorem ev_neg (a : E) : ev G cs (.neg a) = fun r t => (ev G cs a r t).bind fun x t1 => lift (negD x) t1 := by funext r t; rw [ev]
theorem ev_not (a : E) : ev G cs (.not a) = fun r t => (ev G cs a r t).bind fun x t1 => lift (notD x) t1 := by funext r t; rw [ev]
theorem ev_and (a b : E) : ev G cs (.and a b) = andE (ev G cs a) (ev G cs b) := by funext r t; first | (rw [ev]; done) | (rw [ev]; rfl)
theorem ev_or (a b : E) : ev G cs (.or a b) = orE (ev G cs a) (ev G cs b) := by funext r t; first | (rw [ev]; done) | (rw [ev]; rfl)
theorem ev_ite (k a b : E) : ev G cs (.ite k a b) = iteE (ev G cs k) (ev G cs a) (ev G cs b) := by funext r t; first | (rw [ev]; done) | (rw [ev]; rfl)
theorem ev_cmp (op : CmpOp) (a b : E) : ev G cs (.cmp op a b) = fun r t => (ev G cs a r t).bind fun x t1 => (ev G cs b r t1).bind fun y t2 => lift (cmpD op x y) t2 := by funext r t; rw [ev]
theorem ev_chain (o1 o2 : CmpOp) (a b k : E) : ev G cs (.chain o1 o2 a b k) = chainE o1 o2 (ev G cs a) (ev G cs b) (ev G cs k) := by funext r t; first | (rw [ev]; done) | (rw [ev]; rfl)
theorem ev_ix (a b : E) : ev G cs (.ix a b) = fun r t => (ev G cs a r t).bind fun x t1 => (ev G cs b r t1).bind fun y t2 => lift (ixD x y) t2 := by funext r t; rw [ev]
theorem ev_dix (a b : E) : ev G cs (.dix a b) = fun r t => (ev G cs a r t).bind fun x t1 => (ev G cs b r t1).bind fun y t2 => lift (dixD x y) t2 := by funext r t; rw [ev]
theorem ev_cut (a : E) (lo hi : O) : ev G cs (.cut a lo hi) = cutE (ev G cs a) (evO G cs lo) (evO G cs hi) := by funext r t; first | (rw [ev]; done) | (rw [ev]; rfl)
theorem ev_tup (es : Es) : ev G cs (.tup es) = fun r t => (evs G cs es r t).bind fun xs t1 => if okLen xs.length then .ok (.tup xs) t1 else .bad := by funext r t; rw [ev]
theorem ev_lst (es : Es) : ev G cs (.lst es) = fun r t => (evs G cs es r t).bind fun xs t1 => if okLen xs.length then .ok (.lst xs) t1 else .bad := by funext r t; rw [ev]
theorem ev_call (i : Nat) (es ks : Es) : ev G cs (.call i es ks) = fun r t => (evs G cs es r t).bind fun xs t1 => (evs G cs ks r t1).bind fun ys t2 => G i xs ys t2 := by funext r t; rw [ev]
theorem ev_blt (b : Blt) (a : E) : ev G cs (.blt b a) = fun r t => (ev G cs a r t).bind fun x t1 => lift (blt1 b x) t1 := by funext r t; rw [ev]
theorem ev_isa (a : E) (T : Ty) : ev G cs (.isa a T) = fun r t => (ev G cs a r t).bind fun x t1 => lift ((isaD x T).map D.bl) t1 := by funext r t; rw [ev]
theorem ev_comp (own : List (Str × Nat)) (elt : E) (tg : Tg) (it : I) (cd : O) : ev G cs (.comp own elt tg it cd) = compE tg (own.map (·.2)) (evI G cs it) (evO G cs cd) (ev G cs elt) := by funext r t; first | (rw [ev]; done) | (rw [ev]; rfl)
theorem ev_get (a k d : E) : ev G cs (.get a k d) = getE (ev G cs a) (ev G cs k) (ev G cs d) := by funext r t; first | (rw [ev]; done) | (rw [ev]; rfl)
theorem ev_dsp (kvs : List (Str × Cst)) : ev G cs (.dsp kvs) = fun _ t => if decide (kvs.length ≤ 15) then .ok (.dct (mergeD [] (kvs.map fun p => (p.1, p.2.d)))) t else .bad := by funext r t; rw [ev]
theorem ev_rev (a : E) : ev G cs (.rev a) = fun r t => (ev G cs a r t).bind fun x t1 => lift (revD x) t1 := by funext r t; rw [ev]
theorem ev_tcount (i : Nat) : ev G cs (.tcount i) = tcountE i := by funext r t; first | (rw [ev]; done) | (rw [ev]; rfl)
theorem ev_tget (i : Nat) (k d : E) : ev G cs (.tget i k d) = tgetE i (ev G cs k) (ev G cs d) := by funext r t; first | (rw [ev]; done) | (rw [ev]; rfl)
theorem evO_none : evO G cs .none = fun _ t => .ok none t := by funext r t; rw [evO]
theorem evO_some (e : E) : evO G cs (.some e) = fun r t => (ev G cs e r t).bind fun x t1 => .ok (some x) t1 := by funext r t; rw [evO]
theorem evs_nil : evs G cs .nil = fun _ t => .ok [] t := by funext r t; rw [evs]
theorem evs_cons (e : E) (es : Es) : evs G cs (.cons e es) = fun r t => (ev G cs e r t).bind fun x t1 => (evs G cs es r t1).bind fun xs t2 => .ok (x :: xs) t2 := by funext r t; rw [evs]
theorem evI_val (e : E) : evI G cs (.val e) = evV (ev G cs e) := by funext r t; first | (rw [evI]; done) | (rw [evI]; rfl)
theorem evI_rng1 (a : E) : evI G cs (.rng1 a) = fun r t => (ev G cs a r t).bind fun x t1 => match x with
    | .int j => if okRng j then .ok (rngD 0 j.toNat) t1 else .bad
    | _ => .bad := by funext r t; first | (rw [evI]; done) | (rw [evI]; rfl)
theorem evI_rng2 (a b : E) : evI G cs (.rng2 a b) = fun r t => (ev G cs a r t).bind fun x t1 => (ev G cs b r t1).bind fun y t2 => match x, y with
    | .int i, .int j => if okRng i && okRng j then .ok (rngD i (j - i).toNat) t2 else .bad
    | _, _ => .bad := by funext r t; first | (rw [evI]; done) | (rw [evI]; rfl)
theorem evI_zip (a b : E) : evI G cs (.zip a b) = zipE (ev G cs a) (ev G cs b) := by funext r t; first | (rw [evI]; done) | (rw [evI]; rfl)
theorem evI_zipN (a b : E) : evI G cs (.zipN a b) = zipNE (ev G cs a) (ev G cs b) := by funext r t; first | (rw [evI]; done) | (rw [evI]; rfl)
theorem evI_enum (a : E) : evI G cs (.enum a) = enumE (ev G cs a) := by funext r t; first | (rw [evI]; done) | (rw [evI]; rfl)
theorem evs_len {xs : List Expr} {tb : Tb} {N : List Str} {c : Cs} : ∀ {es : Es} {xs : List Expr}, mEs tb N c es xs = true → ∀ r t ys t1, evs G cs es r t = .ok ys t1 → ys.length = xs.length
  | .nil, [], _, r, t, ys, t1, e => by
    rw [evs_nil] at e
    cases e
    rfl
  | .cons k es, x :: xs, h, r, t, ys, t1, e => by
    obtain ⟨_, h2⟩ := and2 (show (nStar x && mE tb N c false k x && mEs tb N c es xs) = true from h)
    rw [evs_cons] at e
    cases e1 : ev G cs k r t with
    | ok y t2 =>
      simp only [e1, Res.bind_ok] at e
      cases e2 : evs G cs es r t2 with
      | ok zs t3 =>
        simp only [e2, Res.bind_ok] at e
        cases e
        rw [List.length_cons, List.length_cons, evs_len (xs := xs) h2 r t2 zs _ e2]
      | exc n t3 =>
        simp only [e2] at e
        cases e
      | bad =>
        simp only [e2] at e
        cases e
    | exc n t2 =>
      simp only [e1] at e
      cases e
    | bad =>
      simp only [e1] at e
      cases e
theorem evs_lenK {tb : Tb} {N : List Str} {c : Cs} : ∀ {es : Es} {xs : List Keyword}, mKs tb N c es xs = true → ∀ r t ys t1, evs G cs es r t = .ok ys t1 → ys.length = xs.length
  | .nil, [], _, r, t, ys, t1, e => by
    rw [evs_nil] at e
    cases e
    rfl
  | .cons k es, ⟨nm, x, p⟩ :: xs, h, r, t, ys, t1, e => by
    obtain ⟨_, h2⟩ := and2 (show (mE tb N c false k x && mKs tb N c es xs) = true from h)
    rw [evs_cons] at e
    cases e1 : ev G cs k r t with
    | ok y t2 =>
      simp only [e1, Res.bind_ok] at e
      cases e2 : evs G cs es r t2 with
      | ok zs t3 =>
        simp only [e2, Res.bind_ok] at e
        cases e
        rw [List.length_cons, List.length_cons, evs_lenK h2 r t2 zs _ e2]
      | exc n t3 =>
        simp only [e2] at e
        cases e
      | bad =>
        simp only [e2] at e
        cases e
    | exc n t2 =>
      simp only [e1] at e
      cases e
    | bad =>
      simp only [e1] at e
      cases e
end
/-- a new object is told as nobody's -/
def freshB : E → Bool
  | .lst _ => true
  | .comp _ _ _ _ _ => true
  | .blt .list _ => true
  | .blt .sorted _ => true
  | .dsp _ => true
  | .cat _ _ => true
  | _ => false
theorem t_ite {X : Cx} {P : Pm} {a b c : Expr} {pos : Pos} {fa fb fc : Rho → Tw → Res D} (hc : PT X c (tT P fc)) (ha : PT X a (tT P fa)) (hb : PT X b (tT P fb)) : PT X (.IfExp c a b pos) (tT P (iteE fc fa fb)) := by
  refine ⟨fun pins s0 σ H Q I ⟨F, r, t, R, h⟩ => ?_⟩
  show wpAny _ _ (isTrue c X.env (eval c X.env) >>= fun d => if d = true then isTrue a X.env (eval a X.env) else isTrue b X.env (eval b X.env)) _ _ _
  refine wpAny_bind (thn (hc.run pins s0 σ H (fun k H1 => if k = true then tT P fa σ H1 Q else tT P fb σ H1 Q) I ⟨F, r, t, R, h.bind.mono fun d t' h => ?_⟩) fun d s1 ⟨H1, I1, q1⟩ => ?_)
  · cases e : truD d with
    | none =>
      rw [e] at h
      exact h.elim
    | some k =>
      rw [e] at h
      refine ⟨k, rfl, fun F' H' s R' => ?_⟩
      cases k with
      | true => exact ⟨F', r, t', R', ((show Aft P F (fa r t') _ from h).up s.1).mono fun d2 t2 ⟨b2, e2, q⟩ => ⟨b2, e2, fun F2 H2 s2 R2 => q F2 H2 (s.trans s2) R2⟩⟩
      | false => exact ⟨F', r, t', R', ((show Aft P F (fb r t') _ from h).up s.1).mono fun d2 t2 ⟨b2, e2, q⟩ => ⟨b2, e2, fun F2 H2 s2 R2 => q F2 H2 (s.trans s2) R2⟩⟩
  · cases d with
    | true => exact ha.run pins s1 σ H1 Q I1 q1
    | false => exact hb.run pins s1 σ H1 Q I1 q1
section
variable {tb : Tb} {N : List Str} {G : Gam} {cs : Nat → D} {cl : Nat → Addr}
theorem notWord {X : Cx} {P : Pm} {f : Rho → Tw → Res D} {e : Expr} (nw : ∀ op vs pos, e ≠ .BoolOp op vs pos) : ∀ op vs pos, e = .BoolOp op vs pos → PW X e (tT P f) := fun op vs pos z => absurd z (nw op vs pos)
theorem s_callA {X : Cx} {P : Pm} {c : Cs} (ok : Ok tb N G cs cl X P c) {i : Nat} {sh : Sh} {x : Str} {p pos : Pos} {xs : List Expr} {kws : List Keyword} {es ks : Es} (hsh : tb.sh[i]? = some sh) (hx : sh.name = x) (hg : glB c x = true) (hl : xs.length = sh.np)
    (hk : kws.map (·.arg) = sh.ks.map some) (h0 : kws = [] ∨ xs ≠ []) (he : mEs tb N c es xs = true) (hke : mKs tb N c ks kws = true) (pa : PA X xs (tDs P (evs G cs es))) (pk : PK X kws (tDs P (evs G cs ks))) :
    PE X (.Call (.Name x p) xs kws pos) (tD P (ev G cs (.call i es ks))) := by
  subst hx
  obtain ⟨k, f, fd, ps, Γ, F, hr, hm, hkp, hb0, hb1, hG⟩ := (ok.call i sh hsh).ex
  obtain ⟨g1, g2, g3⟩ := glB_of ok hg
  have lk : kws.length = sh.ks.length := by
    have := congrArg List.length hk
    simpa using this
  have dd : ∀ F, RpL P.K P.T F (sh.dfl.map Cst.v) (sh.dfl.map Cst.d) := fun F => by
    induction sh.dfl with
    | nil => exact .nil
    | cons d r ih => exact .cons d.rp ih
  have ld : (sh.dfl.map Cst.d).length = sh.dfl.length := List.length_map ..
  rw [ev_call]
  by_cases hks : sh.ks = []
  · obtain ⟨ds, hv, hb⟩ := hb0 hks
    rw [hks] at lk F
    have ek : kws = [] := List.length_eq_zero_iff.mp lk
    subst ek
    cases ks with
    | cons _ _ => cases hke
    | nil =>
      cases xs with
      | nil =>
        cases es with
        | cons _ _ => cases he
        | nil =>
          have e : (fun r t => (evs G cs .nil r t).bind fun xs t1 => (evs G cs .nil r t1).bind fun ys t2 => G i xs ys t2) = fun (r : Rho) t => Γ (sh.dfl.map Cst.d) t := by
            funext r t
            simp only [evs_nil, Res.bind_ok, hG, List.nil_append]
          rw [e]
          have hl : 0 = sh.np := hl
          exact s_call0 F hr g1 hm hkp hb hv dd ok.tk (by rw [ld, ← hl]; simp) g2
      | cons y ys =>
        have e : (fun r t => (evs G cs es r t).bind fun xs t1 => (evs G cs .nil r t1).bind fun ys t2 => G i xs ys t2) = fun (r : Rho) t => (evs G cs es r t).bind fun xs t1 => Γ (xs ++ sh.dfl.map Cst.d) t1 := by
          funext r t
          simp only [evs_nil, Res.bind_ok, hG, List.append_nil]
        rw [e]
        have hst : starEach (y :: ys) X.env = (false, eval y X.env) :: starEach ys X.env := by
          cases es with
          | nil => cases he
          | cons k0 es0 =>
            obtain ⟨h1, _⟩ := and2 (show (nStar y && mE tb N c false k0 y && mEs tb N c es0 ys) = true from he)
            exact star_of (and2 h1).1
        have hpl : ∀ {es0 : Es} {ys : List Expr}, mEs tb N c es0 ys = true → (backTo pos (starEach ys X.env)).any (·.1) = false := by
          intro es0 ys
          induction ys generalizing es0 with
          | nil => intro _; rfl
          | cons z zs ih =>
            intro h
            cases es0 with
            | nil => cases h
            | cons k0 es1 =>
              obtain ⟨h1, h2⟩ := and2 (show (nStar z && mE tb N c false k0 z && mEs tb N c es1 zs) = true from h)
              rw [star_of (and2 h1).1]
              exact ih h2
        have hys : ∃ es0, mEs tb N c es0 ys = true := by
          cases es with
          | nil => cases he
          | cons k0 es0 => exact ⟨es0, (and2 (show (nStar y && mE tb N c false k0 y && mEs tb N c es0 ys) = true from he)).2⟩
        obtain ⟨es0, hys⟩ := hys
        refine s_call F hr g1 hm hkp hb hv dd ok.tk pa (fun r t zs t1 e1 => ?_) g2 hst (hpl hys)
        rw [evs_len (xs := y :: ys) he r t zs t1 e1, ld, hl]
        simp
  · obtain ⟨gg, hb⟩ := hb1 hks
    have kne : kws ≠ [] := fun e => hks (List.length_eq_zero_iff.mp (by rw [← lk, e]; rfl))
    rcases h0 with h0 | h0
    · exact absurd h0 kne
    cases xs with
    | nil => exact absurd rfl h0
    | cons y ys =>
      have hst : starEach (y :: ys) X.env = (false, eval y X.env) :: starEach ys X.env := by
        cases es with
        | nil => cases he
        | cons k0 es0 =>
          obtain ⟨h1, _⟩ := and2 (show (nStar y && mE tb N c false k0 y && mEs tb N c es0 ys) = true from he)
          exact star_of (and2 h1).1
      have hpl : ∀ {es0 : Es} {ys : List Expr}, mEs tb N c es0 ys = true → (backTo pos (starEach ys X.env)).any (·.1) = false := by
        intro es0 ys
        induction ys generalizing es0 with
        | nil => intro _; rfl
        | cons z zs ih =>
          intro h
          cases es0 with
          | nil => cases h
          | cons k0 es1 =>
            obtain ⟨h1, h2⟩ := and2 (show (nStar z && mE tb N c false k0 z && mEs tb N c es1 zs) = true from h)
            rw [star_of (and2 h1).1]
            exact ih h2
      have kwl : ∀ {kws : List Keyword} {l : List Str}, kws.map (·.arg) = l.map some → (backToKw pos (keywordEach kws X.env)).all (·.1.isSome) = true ∧ (backToKw pos (keywordEach kws X.env)).filterMap (·.1) = l ∧ (backToKw pos (keywordEach kws X.env)).any (·.1.isNone) = false := by
        intro kws
        induction kws with
        | nil =>
          intro l h
          cases l with
          | nil => exact ⟨rfl, rfl, rfl⟩
          | cons _ _ => cases h
        | cons k0 kr ih =>
          intro l h
          cases l with
          | nil => cases h
          | cons z zs =>
            obtain ⟨nm, e0, p0⟩ := k0
            simp only [List.map_cons, List.cons.injEq] at h
            obtain ⟨h1, h2⟩ := h
            subst h1
            obtain ⟨i1, i2, i3⟩ := ih h2
            refine ⟨?_, ?_, ?_⟩
            · show (true && (backToKw pos (keywordEach kr X.env)).all (·.1.isSome)) = true
              rw [i1]
              rfl
            · show z :: (backToKw pos (keywordEach kr X.env)).filterMap (·.1) = z :: zs
              rw [i2]
            · show (false || (backToKw pos (keywordEach kr X.env)).any (·.1.isNone)) = false
              rw [i3]
              rfl
      obtain ⟨k1, k2, k3⟩ := kwl hk
      have e : (fun r t => (evs G cs es r t).bind fun xs t1 => (evs G cs ks r t1).bind fun ys t2 => G i xs ys t2) = fun (r : Rho) t => (evs G cs es r t).bind fun xs t1 => (evs G cs ks r t1).bind fun ys t2 => Γ (xs ++ ys ++ sh.dfl.map Cst.d) t2 := by
        funext r t
        simp only [hG]
      rw [e]
      refine s_callK F hr g1 hm hkp hb dd ok.tk pa pk (fun r t zs t1 e1 => ?_) (fun r t zs t1 e1 => ?_) (by rw [ld]) k1 k2 g2 hst ?_
      · rw [evs_len (xs := y :: ys) he r t zs t1 e1, hl]
      · rw [evs_lenK hke r t zs t1 e1, lk]
      · rw [hpl he, k3]
        rfl
end
end Fm

namespace Fm
open PySem PySem.Spec PyProof.Rows L2
section
variable {tb : Tb} {N : List Str} {c : Cs} {fl : Bool}
theorem mE_cst {k : Cst} {e : Expr} (h : mE tb N c fl (.cst k) e = true) : ∃ k' j p, e = .Constant k' j p ∧ (decide (k.k = k')) = true := by
  cases e
  all_goals first
    | (cases h; done)
    | exact ⟨_, _, _, rfl, h⟩
theorem mE_var {i : Nat} {e : Expr} (h : mE tb N c fl (.var i) e = true) : ∃ x p, e = .Name x p ∧ (varB N c i x) = true := by
  cases e
  all_goals first
    | (cases h; done)
    | exact ⟨_, _, rfl, h⟩
theorem mE_bor {i : Nat} {e : Expr} (h : mE tb N c fl (.bor i) e = true) : ∃ x p, e = .Name x p ∧ (fl && varB N c i x) = true := by
  cases e
  all_goals first
    | (cases h; done)
    | exact ⟨_, _, rfl, h⟩
theorem mE_glob {g : Nat} {e : Expr} (h : mE tb N c fl (.glob g) e = true) : ∃ x p, e = .Name x p ∧ (decide (tb.cs[g]? = some x) && glB c x) = true := by
  cases e
  all_goals first
    | (cases h; done)
    | exact ⟨_, _, rfl, h⟩
theorem mE_bin {op : Operator} {a b : E} {e : Expr} (h : mE tb N c fl (.bin op a b) e = true) : ∃ ea op' eb p, e = .BinOp ea op' eb p ∧ (decide (op = op') && opB op && mE tb N c true a ea && mE tb N c true b eb) = true := by
  cases e
  all_goals first
    | (cases h; done)
    | exact ⟨_, _, _, _, rfl, h⟩
theorem mE_cat {a b : E} {e : Expr} (h : mE tb N c fl (.cat a b) e = true) : ∃ ea eb p, e = .BinOp ea .Add eb p ∧ (mE tb N c true a ea && mE tb N c true b eb) = true := by
  cases e
  all_goals first
    | (cases h; done)
    | exact ⟨_, _, _, rfl, h⟩
    | (rename_i a1 a2 a3 a4; cases a2 <;> first | (cases h; done) | exact ⟨_, _, _, rfl, h⟩)
theorem mE_neg {a : E} {e : Expr} (h : mE tb N c fl (.neg a) e = true) : ∃ ea p, e = .UnaryOp .USub ea p ∧ (mE tb N c true a ea) = true := by
  cases e
  all_goals first
    | (cases h; done)
    | exact ⟨_, _, rfl, h⟩
    | (rename_i a1 a2 a3; cases a1 <;> first | (cases h; done) | exact ⟨_, _, rfl, h⟩)
theorem mE_not {a : E} {e : Expr} (h : mE tb N c fl (.not a) e = true) : ∃ ea p, e = .UnaryOp .Not ea p ∧ (mE tb N c true a ea) = true := by
  cases e
  all_goals first
    | (cases h; done)
    | exact ⟨_, _, rfl, h⟩
    | (rename_i a1 a2 a3; cases a1 <;> first | (cases h; done) | exact ⟨_, _, rfl, h⟩)
def mAnd (tb : Tb) (N : List Str) (c : Cs) (b : E) (y : Expr) (r : List Expr) (p : Pos) : Bool := match r with
    | [] => mE tb N c false b y
    | z :: r' => mE tb N c false b (.BoolOp .And (y :: z :: r') p)
theorem mE_and {a b : E} {e : Expr} (h : mE tb N c fl (.and a b) e = true) : ∃ x y r p, e = .BoolOp .And (x :: y :: r) p ∧ (mE tb N c false a x && mAnd tb N c b y r p) = true := by
  cases e
  all_goals first
    | (cases h; done)
    | exact ⟨_, _, _, _, rfl, h⟩
    | (rename_i a1 a2 a3; cases a1 <;> first | (cases h; done) | (cases a2 with | nil => (cases h; done) | cons x a2 => cases a2 with | nil => (cases h; done) | cons y r => exact ⟨_, _, _, _, rfl, h⟩))
def mOr (tb : Tb) (N : List Str) (c : Cs) (b : E) (y : Expr) (r : List Expr) (p : Pos) : Bool := match r with
    | [] => mE tb N c false b y
    | z :: r' => mE tb N c false b (.BoolOp .Or (y :: z :: r') p)
theorem mE_or {a b : E} {e : Expr} (h : mE tb N c fl (.or a b) e = true) : ∃ x y r p, e = .BoolOp .Or (x :: y :: r) p ∧ (mE tb N c false a x && mOr tb N c b y r p) = true := by
  cases e
  all_goals first
    | (cases h; done)
    | exact ⟨_, _, _, _, rfl, h⟩
    | (rename_i a1 a2 a3; cases a1 <;> first | (cases h; done) | (cases a2 with | nil => (cases h; done) | cons x a2 => cases a2 with | nil => (cases h; done) | cons y r => exact ⟨_, _, _, _, rfl, h⟩))
theorem mE_ite {k a b : E} {e : Expr} (h : mE tb N c fl (.ite k a b) e = true) : ∃ ek ea eb p, e = .IfExp ek ea eb p ∧ (mE tb N c true k ek && mE tb N c false a ea && mE tb N c false b eb) = true := by
  cases e
  all_goals first
    | (cases h; done)
    | exact ⟨_, _, _, _, rfl, h⟩
theorem mE_cmp {op : CmpOp} {a b : E} {e : Expr} (h : mE tb N c fl (.cmp op a b) e = true) : ∃ ea op' eb p, e = .Compare ea [op'] [eb] p ∧ (decide (op = op') && !behindInMarks op eb && mE tb N c true a ea && mE tb N c true b eb) = true := by
  cases e
  all_goals first
    | (cases h; done)
    | exact ⟨_, _, _, _, rfl, h⟩
    | (rename_i a1 a2 a3 a4; cases a2 with | nil => (cases h; done) | cons o1 a2 => cases a2 with | nil => (cases a3 with | nil => (cases h; done) | cons x a3 => cases a3 with | nil => exact ⟨_, _, _, _, rfl, h⟩ | cons _ _ => (cases h; done)) | cons o2 a2 => cases a2 with | cons _ _ => (cases a3 <;> (cases h; done)) | nil => (cases a3 with | nil => (cases h; done) | cons x a3 => cases a3 with | nil => (cases h; done) | cons y a3 => cases a3 with | nil => (cases h; done) | cons _ _ => (cases h; done)))
theorem mE_chain {o1 o2 : CmpOp} {a b k : E} {e : Expr} (h : mE tb N c fl (.chain o1 o2 a b k) e = true) : ∃ ea o1' o2' eb ek p, e = .Compare ea [o1', o2'] [eb, ek] p ∧ (decide (o1 = o1') && decide (o2 = o2') && !lastMarks [o1, o2] [eb, ek] && mE tb N c true a ea && mE tb N c true b eb && mE tb N c true k ek) = true := by
  cases e
  all_goals first
    | (cases h; done)
    | exact ⟨_, _, _, _, _, _, rfl, h⟩
    | (rename_i a1 a2 a3 a4; cases a2 with | nil => (cases h; done) | cons o1 a2 => cases a2 with | nil => (cases a3 with | nil => (cases h; done) | cons x a3 => cases a3 with | nil => (cases h; done) | cons _ _ => (cases h; done)) | cons o2 a2 => cases a2 with | cons _ _ => (cases a3 <;> (cases h; done)) | nil => (cases a3 with | nil => (cases h; done) | cons x a3 => cases a3 with | nil => (cases h; done) | cons y a3 => cases a3 with | nil => exact ⟨_, _, _, _, _, _, rfl, h⟩ | cons _ _ => (cases h; done)))
theorem mE_cut {a : E} {lo hi : O} {e : Expr} (h : mE tb N c fl (.cut a lo hi) e = true) : ∃ ea l u p2 p, e = .Subscript ea (.Slice l u none p2) p ∧ (mE tb N c true a ea && mO tb N c lo l && mO tb N c hi u) = true := by
  cases e
  all_goals first
    | (cases h; done)
    | exact ⟨_, _, _, _, _, rfl, h⟩
    | (rename_i a1 a2 a3; cases a2 <;> first | (cases h; done) | (rename_i l u st p2; cases st <;> first | (cases h; done) | exact ⟨_, _, _, _, _, rfl, h⟩))
theorem mE_ix {a b : E} {e : Expr} (h : mE tb N c fl (.ix a b) e = true) : ∃ ea eb p, e = .Subscript ea eb p ∧ (nSlice eb && mE tb N c true a ea && mE tb N c true b eb) = true := by
  cases e
  all_goals first
    | (cases h; done)
    | exact ⟨_, _, _, rfl, h⟩
    | (rename_i a1 a2 a3; cases a2 <;> first | exact ⟨_, _, _, rfl, h⟩ | (rename_i l u st p2; cases st <;> first | exact ⟨_, _, _, rfl, h⟩ | (cases h; done)))
theorem mE_dix {a b : E} {e : Expr} (h : mE tb N c fl (.dix a b) e = true) : ∃ ea eb p, e = .Subscript ea eb p ∧ (nSlice eb && mE tb N c true a ea && mE tb N c true b eb) = true := by
  cases e
  all_goals first
    | (cases h; done)
    | exact ⟨_, _, _, rfl, h⟩
    | (rename_i a1 a2 a3; cases a2 <;> first | exact ⟨_, _, _, rfl, h⟩ | (rename_i l u st p2; cases st <;> first | exact ⟨_, _, _, rfl, h⟩ | (cases h; done)))
theorem mE_tup {es : Es} {e : Expr} (h : mE tb N c fl (.tup es) e = true) : ∃ xs k p, e = .Tuple xs k p ∧ (mEs tb N c es xs) = true := by
  cases e
  all_goals first
    | (cases h; done)
    | exact ⟨_, _, _, rfl, h⟩
theorem mE_lst {es : Es} {e : Expr} (h : mE tb N c fl (.lst es) e = true) : ∃ xs p, e = .List xs p ∧ (mEs tb N c es xs) = true := by
  cases e
  all_goals first
    | (cases h; done)
    | exact ⟨_, _, rfl, h⟩
def mCall (tb : Tb) (N : List Str) (c : Cs) (i : Nat) (es ks : Es) (x : Str) (xs : List Expr) (kws : List Keyword) : Bool := match tb.sh[i]? with
    | some sh => decide (sh.name = x) && glB c x && decide (xs.length = sh.np) && decide (kws.map (·.arg) = sh.ks.map some) && (decide (kws = []) || !decide (xs = [])) && mEs tb N c es xs && mKs tb N c ks kws
    | none => false
theorem mE_call {i : Nat} {es ks : Es} {e : Expr} (h : mE tb N c fl (.call i es ks) e = true) : ∃ x q xs kws p, e = .Call (.Name x q) xs kws p ∧ (mCall tb N c i es ks x xs kws) = true := by
  cases e
  all_goals first
    | (cases h; done)
    | exact ⟨_, _, _, _, _, rfl, h⟩
    | (rename_i f0 xs kws p; cases f0 <;> first | (cases h; done) | exact ⟨_, _, _, _, _, rfl, h⟩)
theorem mE_blt {b : Blt} {a : E} {e : Expr} (h : mE tb N c fl (.blt b a) e = true) : ∃ x q ea p, e = .Call (.Name x q) [ea] [] p ∧ (bltB b && decide (b.nm = x) && glB c x && nStar ea && mE tb N c true a ea) = true := by
  cases e
  all_goals first
    | (cases h; done)
    | exact ⟨_, _, _, _, rfl, h⟩
    | (rename_i f0 xs kws p; cases f0 <;> first | (cases h; done) | (cases xs with | nil => (cases h; done) | cons y xs => cases xs with | cons _ _ => (cases h; done) | nil => cases kws with | cons _ _ => (cases h; done) | nil => exact ⟨_, _, _, _, rfl, h⟩))
theorem mE_isa {a : E} {T : Ty} {e : Expr} (h : mE tb N c fl (.isa a T) e = true) : ∃ x q ea y q2 p, e = .Call (.Name x q) [ea, .Name y q2] [] p ∧ (decide (x = "isinstance") && decide (T.nm = y) && glB c x && glB c y && nStar ea && mE tb N c true a ea) = true := by
  cases e
  all_goals first
    | (cases h; done)
    | exact ⟨_, _, _, _, _, _, rfl, h⟩
    | (rename_i f0 xs kws p; cases f0 <;> first | (cases h; done) | (cases xs with | nil => (cases h; done) | cons y xs => cases xs with | nil => (cases h; done) | cons z xs => cases xs with | cons _ _ => (cases z <;> (cases h; done)) | nil => cases kws with | cons _ _ => (cases z <;> (cases h; done)) | nil => (cases z <;> first | (cases h; done) | exact ⟨_, _, _, _, _, _, rfl, h⟩)))
theorem mE_get {a k d : E} {e : Expr} (h : mE tb N c fl (.get a k d) e = true) : ∃ ea m q ek ed cp, e = .Call (.Attribute ea m q) [ek, ed] [] cp ∧ (decide (m = "get") && nCall ea && (q.endLine == cp.line) && nStar ek && nStar ed && mE tb N c true a ea && mE tb N c true k ek && mE tb N c false d ed) = true := by
  cases e
  all_goals first
    | (cases h; done)
    | exact ⟨_, _, _, _, _, _, rfl, h⟩
    | (rename_i f0 xs kws p; cases f0 <;> first | (cases h; done) | (cases xs with | nil => (cases h; done) | cons y xs => cases xs with | nil => (cases h; done) | cons z xs => cases xs with | cons _ _ => (cases h; done) | nil => cases kws with | cons _ _ => (cases h; done) | nil => exact ⟨_, _, _, _, _, _, rfl, h⟩))
theorem mE_tcount {i : Nat} {e : Expr} (h : mE tb N c fl (.tcount i) e = true) : ∃ y q eb p, e = .Subscript (.Name y q) eb p ∧ (varB N c i y && isStr "count" eb) = true := by
  cases e
  all_goals first
    | (cases h; done)
    | exact ⟨_, _, _, _, rfl, h⟩
    | (rename_i a1 a2 a3; cases a1 <;> first | (cases h; done) | exact ⟨_, _, _, _, rfl, h⟩)
theorem mE_tget {i : Nat} {k d : E} {e : Expr} (h : mE tb N c fl (.tget i k d) e = true) : ∃ y q eb q2 m p ek ed cp, e = .Call (.Attribute (.Subscript (.Name y q) eb q2) m p) [ek, ed] [] cp ∧ (varB N c i y && isStr "rests" eb && decide (m = "get") && (p.endLine == cp.line) && nStar ek && nStar ed && mE tb N c true k ek && mE tb N c false d ed) = true := by
  cases e
  all_goals first
    | (cases h; done)
    | exact ⟨_, _, _, _, _, _, _, _, _, rfl, h⟩
    | (rename_i f0 xs kws p; cases f0 <;> first | (cases h; done) | (rename_i ob m p1; cases ob <;> first | (cases h; done) | (rename_i ob2 eb q2; cases ob2 <;> first | (cases h; done) | (cases xs with | nil => (cases h; done) | cons y xs => cases xs with | nil => (cases h; done) | cons z xs => cases xs with | cons _ _ => (cases h; done) | nil => cases kws with | cons _ _ => (cases h; done) | nil => exact ⟨_, _, _, _, _, _, _, _, _, rfl, h⟩))))
theorem mE_rev {a : E} {e : Expr} (h : mE tb N c fl (.rev a) e = true) : ∃ ea z j q1 q2 q3 p, e = .Subscript ea (.Slice none none (some (.UnaryOp .USub (.Constant (.int z) j q1) q2)) q3) p ∧ (decide (z = 1) && mE tb N c true a ea) = true := by
  cases e
  all_goals first
    | (cases h; done)
    | exact ⟨_, _, _, _, _, _, _, rfl, h⟩
    | (rename_i a1 a2 a3; cases a2 <;> first | (cases h; done) | (rename_i l u st p2; cases l <;> cases u <;> cases st <;> first | (cases h; done) | (rename_i o; cases o <;> first | (cases h; done) | (rename_i op oa q2; cases op <;> first | (cases h; done) | (cases oa <;> first | (cases h; done) | (rename_i cv j q1; cases cv <;> first | (cases h; done) | exact ⟨_, _, _, _, _, _, _, rfl, h⟩))))))
theorem mE_dsp {kvs : List (Str × Cst)} {e : Expr} (h : mE tb N c fl (.dsp kvs) e = true) : ∃ ks vs p, e = .Dict ks vs p ∧ (mDsp kvs ks vs) = true := by
  cases e
  all_goals first
    | (cases h; done)
    | exact ⟨_, _, _, rfl, h⟩
theorem mE_comp {own : List (Str × Nat)} {elt : E} {tg : Tg} {it : I} {cd : O} {e : Expr} (h : mE tb N c fl (.comp own elt tg it cd) e = true) : ∃ ee et ei ifs z scope p, e = .ListComp ee [⟨et, ei, ifs, z⟩] scope p ∧ (decide (z = 0) && blkC N c.sc scope own && (tg.slots.all fun i => (own.map (·.2)).contains i) && mI tb N c false et it ei && nSet ei && mTg N (blkCs c scope) tg et && mCd tb N (blkCs c scope) cd ifs && mE tb N (blkCs c scope) false elt ee) = true := by
  cases e
  all_goals first
    | (cases h; done)
    | exact ⟨_, _, _, _, _, _, _, rfl, h⟩
    | (rename_i ee gs scope p; cases gs with | nil => (cases h; done) | cons g gs => cases g with | mk et ei ifs z => cases gs with | cons _ _ => (cases h; done) | nil => exact ⟨_, _, _, _, _, _, _, rfl, h⟩)
theorem mI_rng1 {a : E} {e : Expr} {fz : Bool} {tg : Expr} (h : mI tb N c fz tg (.rng1 a) e = true) : ∃ x q ea p, e = .Call (.Name x q) [ea] [] p ∧ (decide (x = "range") && glB c x && nStar ea && mE tb N c true a ea) = true := by
  cases e
  all_goals first
    | (cases h; done)
    | exact ⟨_, _, _, _, rfl, h⟩
    | (rename_i f0 xs kws p; cases f0 <;> first | (cases h; done) | (cases xs with | nil => (cases h; done) | cons y xs => cases xs with | cons _ _ => (cases h; done) | nil => cases kws with | cons _ _ => (cases h; done) | nil => exact ⟨_, _, _, _, rfl, h⟩))
theorem mI_rng2 {a b : E} {e : Expr} {fz : Bool} {tg : Expr} (h : mI tb N c fz tg (.rng2 a b) e = true) : ∃ x q ea eb p, e = .Call (.Name x q) [ea, eb] [] p ∧ (decide (x = "range") && glB c x && nStar ea && nStar eb && mE tb N c true a ea && mE tb N c true b eb) = true := by
  cases e
  all_goals first
    | (cases h; done)
    | exact ⟨_, _, _, _, _, rfl, h⟩
    | (rename_i f0 xs kws p; cases f0 <;> first | (cases h; done) | (cases xs with | nil => (cases h; done) | cons y xs => cases xs with | nil => (cases h; done) | cons z xs => cases xs with | cons _ _ => (cases h; done) | nil => cases kws with | cons _ _ => (cases h; done) | nil => exact ⟨_, _, _, _, _, rfl, h⟩))
theorem mI_zip {a b : E} {e : Expr} {fz : Bool} {tg : Expr} (h : mI tb N c fz tg (.zip a b) e = true) : ∃ x q ea eb p, e = .Call (.Name x q) [ea, eb] [] p ∧ (isTupB tg && decide (x = "zip") && glB c x && nStar ea && nStar eb && mE tb N c (!fz) a ea && mE tb N c (!fz) b eb) = true := by
  cases e
  all_goals first
    | (cases h; done)
    | exact ⟨_, _, _, _, _, rfl, h⟩
    | (rename_i f0 xs kws p; cases f0 <;> first | (cases h; done) | (cases xs with | nil => (cases h; done) | cons y xs => cases xs with | nil => (cases h; done) | cons z xs => cases xs with | cons _ _ => (cases h; done) | nil => cases kws with | cons _ _ => (cases h; done) | nil => exact ⟨_, _, _, _, _, rfl, h⟩))
theorem mI_zipN {a b : E} {e : Expr} {fz : Bool} {tg : Expr} (h : mI tb N c fz tg (.zipN a b) e = true) : ∃ x q ea eb p, e = .Call (.Name x q) [ea, eb] [] p ∧ (isNmB tg && decide (x = "zip") && glB c x && nStar ea && nStar eb && mE tb N c true a ea && mE tb N c true b eb) = true := by
  cases e
  all_goals first
    | (cases h; done)
    | exact ⟨_, _, _, _, _, rfl, h⟩
    | (rename_i f0 xs kws p; cases f0 <;> first | (cases h; done) | (cases xs with | nil => (cases h; done) | cons y xs => cases xs with | nil => (cases h; done) | cons z xs => cases xs with | cons _ _ => (cases h; done) | nil => cases kws with | cons _ _ => (cases h; done) | nil => exact ⟨_, _, _, _, _, rfl, h⟩))
theorem mI_enum {a : E} {e : Expr} {fz : Bool} {tg : Expr} (h : mI tb N c fz tg (.enum a) e = true) : ∃ x q ea p, e = .Call (.Name x q) [ea] [] p ∧ (isTupB tg && decide (x = "enumerate") && glB c x && nStar ea && mE tb N c (!fz) a ea) = true := by
  cases e
  all_goals first
    | (cases h; done)
    | exact ⟨_, _, _, _, rfl, h⟩
    | (rename_i f0 xs kws p; cases f0 <;> first | (cases h; done) | (cases xs with | nil => (cases h; done) | cons y xs => cases xs with | cons _ _ => (cases h; done) | nil => cases kws with | cons _ _ => (cases h; done) | nil => exact ⟨_, _, _, _, rfl, h⟩))
end
end Fm

/-! ### soundness of expressions, all together -/
namespace Fm
open PySem PySem.Spec PyProof.Rows L2
section
variable {tb : Tb} {N : List Str} {G : Gam} {cs : Nat → D} {cl : Nat → Addr}
theorem s_bin {X : Cx} {P : Pm} {a b : Expr} {pos : Pos} {fa fb : Rho → Tw → Res D} (hK : X.K = P.K) {op : Operator} (h : opB op = true) (ha : PE X a (tB P fa)) (hb : PE X b (tB P fb)) :
    PE X (.BinOp a op b pos) (tD P fun r t => (fa r t).bind fun x t1 => (fb r t1).bind fun y t2 => Fm.lift (binD op x y) t2) := by
  cases op with
  | Add => exact s_add hK ha hb
  | Sub => exact s_sub ha hb
  | Mult => exact s_mul ha hb
  | FloorDiv => exact s_fdiv ha hb
  | Mod => exact s_mod ha hb
  | Pow => exact s_pow ha hb
  | LShift => exact s_shl ha hb
  | _ => cases h
theorem mem_free {x : Str} (h : x ∈ freeNames) : x ∈ freeNames := h
theorem s_blt {X : Cx} {P : Pm} {c : Cs} (ok : Ok tb N G cs cl X P c) {a : Expr} {p1 pos : Pos} {fa : Rho → Tw → Res D} {b : Blt} (hb : bltB b = true) (hg : glB c b.nm = true) (hs : nStar a = true) (ha : PE X a (tB P fa)) :
    PE X (.Call (.Name b.nm p1) [a] [] pos) (tD P fun r t => (fa r t).bind fun x t1 => Fm.lift (blt1 b x) t1) ∧ (freshB (.blt b (.cst .non)) = true → PE X (.Call (.Name b.nm p1) [a] [] pos) (tN P fun r t => (fa r t).bind fun x t1 => Fm.lift (blt1 b x) t1)) := by
  obtain ⟨g1, g2, g3⟩ := glB_of ok hg
  have st := star_of (es := []) (env := X.env) hs
  cases b with
  | len => exact ⟨s_callB (cs_len ok.hK) g1 (ok.free _ (by decide)) PySem.boot_len ha g3 g2 st, fun z => by cases z⟩
  | abs => exact ⟨s_callB cs_abs g1 (ok.free _ (by decide)) PyProof.Rows.boot_abs ha g3 g2 st, fun z => by cases z⟩
  | all => exact ⟨s_callB (cs_all ok.hK ok.calm) g1 (ok.free _ (by decide)) PyProof.Rows.boot_all ha g3 g2 st, fun z => by cases z⟩
  | any => exact ⟨s_callB (cs_any ok.hK ok.calm) g1 (ok.free _ (by decide)) PyProof.Rows.boot_any ha g3 g2 st, fun z => by cases z⟩
  | sum => exact ⟨s_callB (cs_sum ok.hK ok.calm) g1 (ok.free _ (by decide)) PyProof.Rows.boot_sum ha g3 g2 st, fun z => by cases z⟩
  | tuple => exact ⟨s_callT (cs_tuple ok.hK) g1 (ok.free _ (by decide)) PyProof.Rows.boot_tuple ha g3 g2 st, fun z => by cases z⟩
  | list =>
    have h := n_callT (cn_list ok.hK) g1 (ok.free _ (by decide)) PyProof.Rows.boot_list ha g3 g2 st (p1 := p1) (pos := pos)
    exact ⟨tN_tD h, fun _ => h⟩
  | sorted =>
    have h := n_callB (cn_sorted ok.hK ok.calm) g1 (ok.free _ (by decide)) PyProof.Rows.boot_sorted ha g3 g2 st (p1 := p1) (pos := pos)
    exact ⟨tN_tD h, fun _ => h⟩
  | int => cases hb
theorem isTup_of {e : Expr} (h : isTupB e = true) : ∃ elts k p, e = .Tuple elts k p := by
  cases e <;> first | (cases h; done) | exact ⟨_, _, _, rfl⟩
theorem isNm_of {e : Expr} (h : isNmB e = true) : ∃ x p, e = .Name x p := by
  cases e <;> first | (cases h; done) | exact ⟨_, _, rfl⟩
theorem isStr_of {x : Str} {e : Expr} (h : isStr x e = true) : ∃ j p, e = .Constant (.str x) j p := by
  unfold isStr at h
  split at h
  · obtain rfl := of_decide_eq_true h
    exact ⟨_, _, rfl⟩
  · cases h
mutual
theorem sE : ∀ (k : E) {X : Cx} {P : Pm} {c : Cs} {fl : Bool} {e : Expr}, Ok tb N G cs cl X P c → mE tb N c fl k e = true → Snd X P (ev G cs k) fl e
  | .cst k, X, P, c, fl, e, ok, h => by
    obtain ⟨k', j, p, rfl, h⟩ := mE_cst h
    obtain rfl : k.k = k' := of_decide_eq_true h
    rw [ev_cst]
    exact .plain ok.hK s_cst (fun _ => rfl) (fun _ _ _ z => by cases z)
  | .var i, X, P, c, fl, e, ok, h => by
    obtain ⟨x, p, rfl, h⟩ := mE_var h
    obtain ⟨h1, h2, h3, h4⟩ := varB_of ok h
    rw [ev_var]
    exact .plain ok.hK (s_var h1 h2 h3 h4) (fun _ => rfl) (fun _ _ _ z => by cases z)
  | .bor i, X, P, c, fl, e, ok, h => by
    obtain ⟨x, p, rfl, h⟩ := mE_bor h
    obtain ⟨h0, h⟩ := and2 h
    obtain ⟨h1, h2, h3, h4⟩ := varB_of ok h
    rw [ev_bor]
    have hb := b_var (P := P) (pos := p) h1 h2 h3 h4
    exact ⟨hb, fun z => (by rw [z] at h0; cases h0), t_plain ok.hK hb (fun _ => rfl), notWord (fun _ _ _ z => by cases z)⟩
  | .glob g, X, P, c, fl, e, ok, h => by
    obtain ⟨x, p, rfl, h⟩ := mE_glob h
    obtain ⟨h1, h2⟩ := and2 h
    obtain ⟨g1, g2, g3⟩ := glB_of ok h2
    obtain ⟨u, v, m1, m2, m3⟩ := ok.con g x (of_decide_eq_true h1)
    rw [ev_glob]
    exact .plain ok.hK (s_glob g1 m1 m2 m3 g2) (fun _ => rfl) (fun _ _ _ z => by cases z)
  | .bin op a b, X, P, c, fl, e, ok, h => by
    obtain ⟨ea, op', eb, p, rfl, h⟩ := mE_bin h
    obtain ⟨h, h4⟩ := and2 h
    obtain ⟨h, h3⟩ := and2 h
    obtain ⟨h1, h2⟩ := and2 h
    obtain rfl := of_decide_eq_true h1
    rw [ev_bin]
    exact .plain ok.hK (s_bin ok.hK h2 (sE a ok h3).b (sE b ok h4).b) (fun _ => rfl) (fun _ _ _ z => by cases z)
  | .cat a b, X, P, c, fl, e, ok, h => by
    obtain ⟨ea, eb, p, rfl, h⟩ := mE_cat h
    obtain ⟨h3, h4⟩ := and2 h
    rw [ev_cat]
    exact .plain ok.hK (s_cat (sE a ok h3).b (sE b ok h4).b) (fun _ => rfl) (fun _ _ _ z => by cases z)
  | .neg a, X, P, c, fl, e, ok, h => by
    obtain ⟨ea, p, rfl, h⟩ := mE_neg h
    rw [ev_neg]
    exact .plain ok.hK (s_neg (sE a ok h).b) (fun _ => rfl) (fun _ _ _ z => by cases z)
  | .not a, X, P, c, fl, e, ok, h => by
    obtain ⟨ea, p, rfl, h⟩ := mE_not h
    have ha := sE a ok h
    rw [ev_not]
    have hd := s_not ok.hK ha.b (pos := p)
    exact ⟨tB_tD hd, fun _ => hd, t_not ha.t, notWord (fun _ _ _ z => by cases z)⟩
  | .and a b, X, P, c, fl, e, ok, h => by
    obtain ⟨x, y, r, p, rfl, h⟩ := mE_and h
    obtain ⟨h1, h2⟩ := and2 h
    have ha := sE a ok h1
    rw [ev_and]
    cases r with
    | nil =>
      have hb := sE b ok (show mE tb N c false b y = true from h2)
      have hd := s_and ok.hK (ha.d rfl) (pe_one (op := .And) (pos := p) (hb.d rfl))
      have hw := t_and ha.t (pw_and1 (pos := p) hb.t)
      exact ⟨tB_tD hd, fun _ => hd, hw.pt, fun _ _ _ _ => hw⟩
    | cons z r' =>
      have hb := sE b ok (show mE tb N c false b (.BoolOp .And (y :: z :: r') p) = true from h2)
      have hd := s_and ok.hK (ha.d rfl) (hb.d rfl)
      have hw := t_and ha.t (hb.w _ _ _ rfl)
      exact ⟨tB_tD hd, fun _ => hd, hw.pt, fun _ _ _ _ => hw⟩
  | .or a b, X, P, c, fl, e, ok, h => by
    obtain ⟨x, y, r, p, rfl, h⟩ := mE_or h
    obtain ⟨h1, h2⟩ := and2 h
    have ha := sE a ok h1
    rw [ev_or]
    cases r with
    | nil =>
      have hb := sE b ok (show mE tb N c false b y = true from h2)
      have hd := s_or ok.hK (ha.d rfl) (pe_one (op := .Or) (pos := p) (hb.d rfl))
      have hw := t_or ha.t (pw_or1 (pos := p) hb.t)
      exact ⟨tB_tD hd, fun _ => hd, hw.pt, fun _ _ _ _ => hw⟩
    | cons z r' =>
      have hb := sE b ok (show mE tb N c false b (.BoolOp .Or (y :: z :: r') p) = true from h2)
      have hd := s_or ok.hK (ha.d rfl) (hb.d rfl)
      have hw := t_or ha.t (hb.w _ _ _ rfl)
      exact ⟨tB_tD hd, fun _ => hd, hw.pt, fun _ _ _ _ => hw⟩
  | .ite k a b, X, P, c, fl, e, ok, h => by
    obtain ⟨ek, ea, eb, p, rfl, h⟩ := mE_ite h
    obtain ⟨h, h3⟩ := and2 h
    obtain ⟨h1, h2⟩ := and2 h
    have hk := sE k ok h1
    have ha := sE a ok h2
    have hb := sE b ok h3
    rw [ev_ite]
    have hd := s_ite hk.t (ha.d rfl) (hb.d rfl) (pos := p)
    exact ⟨tB_tD hd, fun _ => hd, t_ite hk.t ha.t hb.t, notWord (fun _ _ _ z => by cases z)⟩
  | .cmp op a b, X, P, c, fl, e, ok, h => by
    obtain ⟨ea, op', eb, p, rfl, h⟩ := mE_cmp h
    obtain ⟨h, h4⟩ := and2 h
    obtain ⟨h, h3⟩ := and2 h
    obtain ⟨h1, h2⟩ := and2 h
    obtain rfl := of_decide_eq_true h1
    have hm : behindInMarks op eb = false := by simpa using h2
    have ha := sE a ok h3
    have hb := sE b ok h4
    rw [ev_cmp]
    have hd := s_cmp ok.hK ok.hu ha.b hb.b hm (pos := p)
    exact ⟨tB_tD hd, fun _ => hd, t_cmp ok.hK ok.hu ha.b hb.b hm, notWord (fun _ _ _ z => by cases z)⟩
  | .chain o1 o2 a b k, X, P, c, fl, e, ok, h => by
    obtain ⟨ea, o1', o2', eb, ek, p, rfl, h⟩ := mE_chain h
    obtain ⟨h, h6⟩ := and2 h
    obtain ⟨h, h5⟩ := and2 h
    obtain ⟨h, h4⟩ := and2 h
    obtain ⟨h, h3⟩ := and2 h
    obtain ⟨h1, h2⟩ := and2 h
    obtain rfl := of_decide_eq_true h1
    obtain rfl := of_decide_eq_true h2
    have hm : lastMarks [o1, o2] [eb, ek] = false := by simpa using h3
    have ha := sE a ok h4
    have hb := sE b ok h5
    have hk := sE k ok h6
    rw [ev_chain]
    have hd := s_chain ok.hK ok.hu ha.b hb.b hk.b hm (pos := p)
    exact ⟨tB_tD hd, fun _ => hd, t_chain ok.hK ok.hu ha.b hb.b hk.b hm, notWord (fun _ _ _ z => by cases z)⟩
  | .cut a lo hi, X, P, c, fl, e, ok, h => by
    obtain ⟨ea, l, u, p2, p, rfl, h⟩ := mE_cut h
    obtain ⟨h, h3⟩ := and2 h
    obtain ⟨h1, h2⟩ := and2 h
    rw [ev_cut]
    exact .plain ok.hK (s_cut ok.hK (sE a ok h1).b (sO lo ok h2) (sO hi ok h3)) (fun _ => rfl) (fun _ _ _ z => by cases z)
  | .ix a b, X, P, c, fl, e, ok, h => by
    obtain ⟨ea, eb, p, rfl, h⟩ := mE_ix h
    obtain ⟨h, h3⟩ := and2 h
    obtain ⟨h1, h2⟩ := and2 h
    rw [ev_ix]
    exact .plain ok.hK (s_ix ok.hK (sE a ok h2).b (sE b ok h3).b (plain_of h1)) (fun _ => rfl) (fun _ _ _ z => by cases z)
  | .dix a b, X, P, c, fl, e, ok, h => by
    obtain ⟨ea, eb, p, rfl, h⟩ := mE_dix h
    obtain ⟨h, h3⟩ := and2 h
    obtain ⟨h1, h2⟩ := and2 h
    rw [ev_dix]
    exact .plain ok.hK (s_dix ok.hu (sE a ok h2).b (sE b ok h3).b (plain_of h1)) (fun _ => rfl) (fun _ _ _ z => by cases z)
  | .tup es, X, P, c, fl, e, ok, h => by
    obtain ⟨xs, k, p, rfl, h⟩ := mE_tup h
    rw [ev_tup]
    exact .plain ok.hK (s_tup (sEs es ok h)) (fun _ => rfl) (fun _ _ _ z => by cases z)
  | .lst es, X, P, c, fl, e, ok, h => by
    obtain ⟨xs, p, rfl, h⟩ := mE_lst h
    rw [ev_lst]
    exact .plain ok.hK (tN_tD (n_lst (sEs es ok h))) (fun _ => rfl) (fun _ _ _ z => by cases z)
  | .call i es ks, X, P, c, fl, e, ok, h => by
    obtain ⟨x, q, xs, kws, p, rfl, hc⟩ := mE_call h
    clear h
    have h := hc
    unfold mCall at h
    cases e : tb.sh[i]? with
    | none =>
      rw [e] at h
      cases h
    | some sh =>
      rw [e] at h
      obtain ⟨h, h7⟩ := and2 h
      obtain ⟨h, h6⟩ := and2 h
      obtain ⟨h, h5⟩ := and2 h
      obtain ⟨h, h4⟩ := and2 h
      obtain ⟨h, h3⟩ := and2 h
      obtain ⟨h1, h2⟩ := and2 h
      refine .plain ok.hK (s_callA ok e (of_decide_eq_true h1) h2 (of_decide_eq_true h3) (of_decide_eq_true h4) ?_ h6 h7 (sEs es ok h6) (sKs ks ok h7)) (fun _ => rfl) (fun _ _ _ z => by cases z)
      rcases Bool.or_eq_true_iff.mp h5 with h5 | h5
      · exact .inl (of_decide_eq_true h5)
      · exact .inr (by simpa using h5)
  | .blt b a, X, P, c, fl, e, ok, h => by
    obtain ⟨x, q, ea, p, rfl, h⟩ := mE_blt h
    obtain ⟨h, h5⟩ := and2 h
    obtain ⟨h, h4⟩ := and2 h
    obtain ⟨h, h3⟩ := and2 h
    obtain ⟨h1, h2⟩ := and2 h
    obtain rfl := of_decide_eq_true h2
    rw [ev_blt]
    exact .plain ok.hK (s_blt ok h1 h3 h4 (sE a ok h5).b).1 (fun _ => rfl) (fun _ _ _ z => by cases z)
  | .isa a T, X, P, c, fl, e, ok, h => by
    obtain ⟨x, q, ea, y, q2, p, rfl, h⟩ := mE_isa h
    obtain ⟨h, h6⟩ := and2 h
    obtain ⟨h, h5⟩ := and2 h
    obtain ⟨h, h4⟩ := and2 h
    obtain ⟨h, h3⟩ := and2 h
    obtain ⟨h1, h2⟩ := and2 h
    obtain rfl := of_decide_eq_true h1
    obtain rfl := of_decide_eq_true h2
    rw [ev_isa]
    have mT : T.nm ∈ freeNames := by cases T <;> decide
    exact .plain ok.hK (s_isa ok.hK (glB_of ok h3).1 (ok.free _ (by decide)) (glB_of ok h4).1 (ok.free _ mT) (sE a ok h6).b (star_of h5)) (fun _ => rfl) (fun _ _ _ z => by cases z)
  | .get a k d, X, P, c, fl, e, ok, h => by
    obtain ⟨ea, m, q, ek, ed, cp, rfl, h⟩ := mE_get h
    obtain ⟨h, h8⟩ := and2 h
    obtain ⟨h, h7⟩ := and2 h
    obtain ⟨h, h6⟩ := and2 h
    obtain ⟨h, h5⟩ := and2 h
    obtain ⟨h, h4⟩ := and2 h
    obtain ⟨h, h3⟩ := and2 h
    obtain ⟨h1, h2⟩ := and2 h
    obtain rfl := of_decide_eq_true h1
    rw [ev_get]
    have hst : starEach [ek, ed] X.env = [(false, eval ek X.env), (false, eval ed X.env)] := by
      rw [star_of h4, star_of h5]
      rfl
    have m2 : M2 X ea "get" q ek ed cp := ⟨base_of h2, by rw [hst]; rfl, h3, by rw [hst]; rfl⟩
    exact .plain ok.hK (s_get ok.hu (sE a ok h6).b (sE k ok h7).b ((sE d ok h8).d rfl) m2) (fun _ => rfl) (fun _ _ _ z => by cases z)
  | .tcount i, X, P, c, fl, e, ok, h => by
    obtain ⟨y, q, eb, p, rfl, h⟩ := mE_tcount h
    obtain ⟨h1, h2⟩ := and2 h
    obtain ⟨a1, a2, a3, a4⟩ := varB_of ok h1
    obtain ⟨j, q2, rfl⟩ := isStr_of h2
    rw [ev_tcount]
    exact .plain ok.hK (s_tcount ok.hu a1 a2 a3 a4) (fun _ => rfl) (fun _ _ _ z => by cases z)
  | .tget i k d, X, P, c, fl, e, ok, h => by
    obtain ⟨y, q, eb, q2, m, p, ek, ed, cp, rfl, h⟩ := mE_tget h
    obtain ⟨h, h8⟩ := and2 h
    obtain ⟨h, h7⟩ := and2 h
    obtain ⟨h, h6⟩ := and2 h
    obtain ⟨h, h5⟩ := and2 h
    obtain ⟨h, h4⟩ := and2 h
    obtain ⟨h, h3⟩ := and2 h
    obtain ⟨h1, h2⟩ := and2 h
    obtain rfl := of_decide_eq_true h3
    obtain ⟨a1, a2, a3, a4⟩ := varB_of ok h1
    obtain ⟨j, q3, rfl⟩ := isStr_of h2
    rw [ev_tget]
    have hst : starEach [ek, ed] X.env = [(false, eval ek X.env), (false, eval ed X.env)] := by
      rw [star_of h5, star_of h6]
      rfl
    exact .plain ok.hK (s_tget ok.hu a1 a2 a3 a4 (sE k ok h7).b ((sE d ok h8).d rfl) ⟨rfl, by rw [hst]; rfl, h4, by rw [hst]; rfl⟩) (fun _ => rfl) (fun _ _ _ z => by cases z)
  | .dsp kvs, X, P, c, fl, e, ok, h => by
    obtain ⟨ks, vs, p, rfl, h⟩ := mE_dsp h
    rw [ev_dsp]
    exact .plain ok.hK (tN_tD (n_dsp (dsp_of h))) (fun _ => rfl) (fun _ _ _ z => by cases z)
  | .rev a, X, P, c, fl, e, ok, h => by
    obtain ⟨ea, z, j, q1, q2, q3, p, rfl, h⟩ := mE_rev h
    obtain ⟨h1, h2⟩ := and2 h
    obtain rfl := of_decide_eq_true h1
    rw [ev_rev]
    exact .plain ok.hK (s_rev ok.hK (sE a ok h2).b) (fun _ => rfl) (fun _ _ _ z => by cases z)
  | .comp own elt tg it cd, X, P, c, fl, e, ok, h => by
    obtain ⟨ee, et, ei, ifs, z, scope, p, rfl, h⟩ := mE_comp h
    obtain ⟨h, h8⟩ := and2 h
    obtain ⟨h, h7⟩ := and2 h
    obtain ⟨h, h6⟩ := and2 h
    obtain ⟨h, h5⟩ := and2 h
    obtain ⟨h, h4⟩ := and2 h
    obtain ⟨h, h3⟩ := and2 h
    obtain ⟨h1, h2⟩ := and2 h
    obtain rfl := of_decide_eq_true h1
    rw [ev_comp]
    have hsl : ∀ i ∈ tg.slots, i ∈ own.map (·.2) := fun i hi => by
      have := List.all_eq_true.mp h3 i hi
      simpa using this
    refine .plain ok.hK (tN_tD (n_comp ok.calm (by rw [ok.hN]; exact ok.nd) (sI it ok h4) (by rw [ok.hN, ok.sc]; exact blkOk_by h2) (fun s H C cl' fp => sTg (ok.blk scope s H C cl' fp) h6) (fun s H C cl' fp => ?_)
      (fun s H C cl' fp => (sE elt (ok.blk scope s H C cl' fp) h8).d rfl) (fold_of h5) hsl)) (fun _ => rfl) (fun _ _ _ z => by cases z)
    cases cd with
    | none =>
      cases ifs with
      | nil =>
        rw [evO_none]
        exact c_none
      | cons _ _ => cases h7
    | some k =>
      cases ifs with
      | nil => cases h7
      | cons x xs =>
        cases xs with
        | nil =>
          rw [evO_some]
          exact c_some (sE k (ok.blk scope s H C cl' fp) (show mE tb N (blkCs c scope) true k x = true from h7)).t
        | cons _ _ => cases h7
theorem sO : ∀ (o : O) {X : Cx} {P : Pm} {c : Cs} {e : Option Expr}, Ok tb N G cs cl X P c → mO tb N c o e = true → PO X e (tO P (evO G cs o))
  | .none, X, P, c, none, ok, h => by
    rw [evO_none]
    exact s_none
  | .some k, X, P, c, some e, ok, h => by
    rw [evO_some]
    exact s_some (sE k ok h).b
theorem sEs : ∀ (es : Es) {X : Cx} {P : Pm} {c : Cs} {xs : List Expr}, Ok tb N G cs cl X P c → mEs tb N c es xs = true → PA X xs (tDs P (evs G cs es))
  | .nil, X, P, c, [], ok, h => by
    rw [evs_nil]
    exact s_nil
  | .cons k es, X, P, c, x :: xs, ok, h => by
    obtain ⟨h, h3⟩ := and2 h
    obtain ⟨h1, h2⟩ := and2 h
    rw [evs_cons]
    exact s_cons ((sE k ok h2).d rfl) (sEs es ok h3) (star_of h1)
theorem sKs : ∀ (es : Es) {X : Cx} {P : Pm} {c : Cs} {xs : List Keyword}, Ok tb N G cs cl X P c → mKs tb N c es xs = true → PK X xs (tDs P (evs G cs es))
  | .nil, X, P, c, [], ok, h => by
    rw [evs_nil]
    exact k_nil
  | .cons k es, X, P, c, ⟨nm, x, p⟩ :: xs, ok, h => by
    obtain ⟨h2, h3⟩ := and2 h
    rw [evs_cons]
    exact k_cons ((sE k ok h2).d rfl) (sKs es ok h3)
theorem sI : ∀ (i : I) {X : Cx} {P : Pm} {c : Cs} {fz : Bool} {tg e : Expr}, Ok tb N G cs cl X P c → mI tb N c fz tg i e = true → PI X tg e (tI P fz (evI G cs i))
  | .val k, X, P, c, fz, tg, e, ok, h => by
    have h : mE tb N c (!fz) k e = true := h
    rw [evI_val]
    cases fz with
    | true => exact i_val ok.hK ((sE k ok h).d rfl)
    | false => exact i_bor ok.hK (sE k ok h).b
  | .rng1 a, X, P, c, fz, tg, e, ok, h => by
    obtain ⟨x, q, ea, p, rfl, h⟩ := mI_rng1 h
    obtain ⟨h, h4⟩ := and2 h
    obtain ⟨h, h3⟩ := and2 h
    obtain ⟨h1, h2⟩ := and2 h
    obtain rfl := of_decide_eq_true h1
    rw [evI_rng1]
    exact i_rng1 (glB_of ok h2).1 (ok.free _ (by decide)) (sE a ok h4).b (star_of h3)
  | .rng2 a b, X, P, c, fz, tg, e, ok, h => by
    obtain ⟨x, q, ea, eb, p, rfl, h⟩ := mI_rng2 h
    obtain ⟨h, h6⟩ := and2 h
    obtain ⟨h, h5⟩ := and2 h
    obtain ⟨h, h4⟩ := and2 h
    obtain ⟨h, h3⟩ := and2 h
    obtain ⟨h1, h2⟩ := and2 h
    obtain rfl := of_decide_eq_true h1
    rw [evI_rng2]
    exact i_rng2 (glB_of ok h2).1 (ok.free _ (by decide)) (sE a ok h5).b (sE b ok h6).b (star_of h3) (star_of h4)
  | .zip a b, X, P, c, fz, tg, e, ok, h => by
    obtain ⟨x, q, ea, eb, p, rfl, h⟩ := mI_zip h
    obtain ⟨h, h6⟩ := and2 h
    obtain ⟨h, h5⟩ := and2 h
    obtain ⟨h, h4⟩ := and2 h
    obtain ⟨h, h3⟩ := and2 h
    obtain ⟨h, h2⟩ := and2 h
    obtain ⟨h0, h1⟩ := and2 h
    obtain rfl := of_decide_eq_true h1
    obtain ⟨elts, kk, tpos, rfl⟩ := isTup_of h0
    rw [evI_zip]
    cases fz with
    | true => exact i_zip ok.hK (glB_of ok h2).1 (ok.free _ (by decide)) ((sE a ok h5).d rfl) ((sE b ok h6).d rfl) (star_of h3) (star_of h4)
    | false => exact i_zipB ok.hK (glB_of ok h2).1 (ok.free _ (by decide)) (sE a ok h5).b (sE b ok h6).b (star_of h3) (star_of h4)
  | .zipN a b, X, P, c, fz, tg, e, ok, h => by
    obtain ⟨x, q, ea, eb, p, rfl, h⟩ := mI_zipN h
    obtain ⟨h, h6⟩ := and2 h
    obtain ⟨h, h5⟩ := and2 h
    obtain ⟨h, h4⟩ := and2 h
    obtain ⟨h, h3⟩ := and2 h
    obtain ⟨h, h2⟩ := and2 h
    obtain ⟨h0, h1⟩ := and2 h
    obtain rfl := of_decide_eq_true h1
    obtain ⟨nm, tpos, rfl⟩ := isNm_of h0
    rw [evI_zipN]
    exact i_zipN ok.hK (glB_of ok h2).1 (ok.free _ (by decide)) (sE a ok h5).b (sE b ok h6).b (star_of h3) (star_of h4)
  | .enum a, X, P, c, fz, tg, e, ok, h => by
    obtain ⟨x, q, ea, p, rfl, h⟩ := mI_enum h
    obtain ⟨h, h5⟩ := and2 h
    obtain ⟨h, h3⟩ := and2 h
    obtain ⟨h, h2⟩ := and2 h
    obtain ⟨h0, h1⟩ := and2 h
    obtain rfl := of_decide_eq_true h1
    obtain ⟨elts, kk, tpos, rfl⟩ := isTup_of h0
    rw [evI_enum]
    cases fz with
    | true => exact i_enum ok.hK (glB_of ok h2).1 (ok.free _ (by decide)) ((sE a ok h5).d rfl) (star_of h3)
    | false => exact i_enumB ok.hK (glB_of ok h2).1 (ok.free _ (by decide)) (sE a ok h5).b (star_of h3)
end
end
end Fm

/-! ### statements: the check by computation -/
namespace Fm
open PySem PySem.Spec PyProof.Rows L2
def augB : Operator → Bool
  | .Add => true
  | .Sub => true
  | .Mult => true
  | .FloorDiv => true
  | .Mod => true
  | _ => false
def isComp : E → Bool
  | .comp _ _ _ _ _ => true
  | _ => false
/-- of name = [..]: the name is stored ahead of the block's names' going, or not -/
def swT (c : Cs) (y : Str) (py : Pos) : Expr → Bool
  | .ListComp _ _ scope p => decide (c.sc.kind = .function) && lclB c y && (py.line == p.line) && !(scope.names.any fun (n, k) => n == y && (k == .local || k == .cell))
  | _ => false
def swF (c : Cs) (y : Str) (py : Pos) (v : Expr) : Bool := nComp v || match v with
  | .ListComp _ _ scope p => decide (c.sc.names.lookup y = some .cell) || !(py.line == p.line)
  | _ => false
def nonLoc (c : Cs) : Expr → Bool
  | .Name x _ => !lclB c x
  | _ => true
def noneB (c : Cs) (ts : List Expr) : Expr → Bool
  | .Tuple vs _ _ => !(ts.length == 2 || ts.length == 3) || ts.any (nonLoc c) || vs.all (foldedForSure 8)
  | _ => true
def mAsg (tb : Tb) (N : List Str) (c : Cs) (tg : Tg) (k : E) : Expr → Expr → Bool
  | .Name y py, v => mTg N c tg (.Name y py) && (swF c y py v || (isComp k && swT c y py v)) && mE tb N c false k v
  | .Tuple ts a p, v => mTg N c tg (.Tuple ts a p) && nComp v && noneB c ts v && mE tb N c false k v
  | _, _ => false
def locAt (N : List Str) (c : Cs) (i : Nat) (x : Str) : Bool := decide (N[i]? = some x) && lclB c x
def mPar (tb : Tb) (N : List Str) (c : Cs) (is : List Nat) (es : Es) (ts vs : List Expr) : Bool := decide (c.sc.kind = .function) && !vs.any (fun e => !nStar e) && !vs.all (foldedForSure 8) && !vs.all (constantsAlone 8) && mEs tb N c es vs &&
  (match is, ts, vs with
    | [i, j], [.Name x px, .Name y py], [_, _] => decide (i ≠ j) && locAt N c i x && locAt N c j y && decide (x ≠ y) && (py.line == px.line)
    | [i, j, l], [.Name x px, .Name y py, .Name z pz], [_, _, _] => decide (i ≠ j) && decide (i ≠ l) && decide (j ≠ l) && locAt N c i x && locAt N c j y && locAt N c l z && decide (x ≠ y) && decide (x ≠ z) && decide (y ≠ z) && (py.line == px.line) && (pz.line == px.line)
    | _, _, _ => false)
def nTup : Expr → Bool
  | .Tuple _ _ _ => false
  | _ => true
def mStar (tb : Tb) (N : List Str) (c : Cs) (i j : Nat) (k : E) (t v : Expr) : Bool := match t with
  | .Tuple [.Name x _, .Starred (.Name y _) _] _ _ => tgtB N c i x && tgtB N c j y && nComp v && nTup v && mE tb N c false k v
  | _ => false
def mNew (tb : Tb) (N : List Str) (c : Cs) (i : Nat) (k : E) (t v : Expr) : Bool := match t with
  | .Name y py => freshB k && tgtB N c i y && (swF c y py v || (isComp k && swT c y py v)) && mE tb N c false k v
  | _ => false
def mApp (tb : Tb) (N : List Str) (c : Cs) (i : Nat) (k : E) : Expr → Bool
  | .Call (.Attribute (.Name y _) m p1) [a] [] p2 => decide (m = "append") && varB N c i y && (p1.endLine == p2.line) && nStar a && mE tb N c false k a
  | _ => false
def mPut (tb : Tb) (N : List Str) (c : Cs) (i : Nat) (k e : E) (t v : Expr) : Bool := match t with
  | .Subscript (.Name y _) b _ => varB N c i y && nSlice b && nComp v && mE tb N c true k b && mE tb N c false e v
  | _ => false
def mAug (tb : Tb) (N : List Str) (c : Cs) (i : Nat) (op : Operator) (k : E) (t : Expr) (op' : Operator) (v : Expr) : Bool := match t with
  | .Name y _ => decide (op = op') && augB op && tgtB N c i y && mE tb N c true k v
  | _ => false
def mRaise (tb : Tb) (c : Cs) (n : Nat) (m : Str) (a b : Option Expr) : Bool := match a, b with
  | some (.Call (.Name x _) [.Constant (.str m') _ _] [] _), none => decide (m = m') && decide (tb.ex[n]? = some x) && glB c x
  | _, _ => false
def mTcnt (tb : Tb) (N : List Str) (c : Cs) (i : Nat) (k : E) (t v : Expr) : Bool := match t with
  | .Subscript (.Name y _) eb _ => varB N c i y && isStr "count" eb && nComp v && mE tb N c false k v
  | _ => false
def mTrst (tb : Tb) (N : List Str) (c : Cs) (i : Nat) (k a : E) (t v : Expr) : Bool := match t with
  | .Subscript (.Subscript (.Name y _) eb _) b _ => varB N c i y && isStr "rests" eb && nComp v && mE tb N c true k b && mE tb N c false a v
  | _ => false
def isFrz : S → Option Nat
  | .frz i => some i
  | _ => none
mutual
def mS (tb : Tb) (N : List Str) (c : Cs) : S → Stmt → Bool
  | .asg tg k, .Assign [t] v _ => mAsg tb N c tg k t v
  | .par is es, .Assign [.Tuple ts _ _] (.Tuple vs _ _) _ => mPar tb N c is es ts vs
  | .star i j k, .Assign [t] v _ => mStar tb N c i j k t v
  | .aug i op k, .AugAssign t op' v _ => mAug tb N c i op k t op' v
  | .ret k, .Return (some v) _ => mE tb N c false k v
  | .ite k a b, .If ek sa sb _ => mE tb N c true k ek && mSs tb N c a sa && mSs tb N c b sb
  | .for tg it b, .For et ei sb [] _ => nSet ei && mTg N c tg et && mI tb N c true et it ei && mSs tb N c b sb
  | .while k b, .While ek sb [] _ => mE tb N c true k ek && mSs tb N c b sb
  | .exp k, .Expr v _ => nComp v && mE tb N c false k v
  | .new i k, .Assign [t] v _ => mNew tb N c i k t v
  | .app i k, .Expr v _ => mApp tb N c i k v
  | .put i k e, .Assign [t] v _ => mPut tb N c i k e t v
  | .putL i k e, .Assign [t] v _ => mPut tb N c i k e t v
  | .tcnt i k, .Assign [t] v _ => mTcnt tb N c i k t v
  | .trst i k e, .Assign [t] v _ => mTrst tb N c i k e t v
  | .brk, .Break _ => true
  | .cont, .Continue _ => true
  | .raise n m, .Raise a b _ => mRaise tb c n m a b
  | _, _ => false
def mSs (tb : Tb) (N : List Str) (c : Cs) : Ss → List Stmt → Bool
  | .nil, [] => true
  | .nil, _ :: _ => false
  | .cons s r, ss => match isFrz s with
    | some _ => mSs tb N c r ss
    | none => match ss with
      | st :: rest => mS tb N c s st && mSs tb N c r rest
      | [] => false
end
section
variable {tb : Tb} {N : List Str} {c : Cs}
theorem mS_asg {tg : Tg} {k : E} {e : Stmt} (h : mS tb N c (.asg tg k) e = true) : ∃ t v p, e = .Assign [t] v p ∧ (mAsg tb N c tg k t v) = true := by
  cases e
  all_goals first
    | (cases h; done)
    | exact ⟨_, _, _, rfl, h⟩
    | (rename_i ts v p; cases ts with | nil => (cases h; done) | cons t ts => cases ts with | nil => exact ⟨_, _, _, rfl, h⟩ | cons _ _ => (cases h; done))
theorem mS_star {i j : Nat} {k : E} {e : Stmt} (h : mS tb N c (.star i j k) e = true) : ∃ t v p, e = .Assign [t] v p ∧ (mStar tb N c i j k t v) = true := by
  cases e
  all_goals first
    | (cases h; done)
    | exact ⟨_, _, _, rfl, h⟩
    | (rename_i ts v p; cases ts with | nil => (cases h; done) | cons t ts => cases ts with | nil => exact ⟨_, _, _, rfl, h⟩ | cons _ _ => (cases h; done))
theorem mS_new {i : Nat} {k : E} {e : Stmt} (h : mS tb N c (.new i k) e = true) : ∃ t v p, e = .Assign [t] v p ∧ (mNew tb N c i k t v) = true := by
  cases e
  all_goals first
    | (cases h; done)
    | exact ⟨_, _, _, rfl, h⟩
    | (rename_i ts v p; cases ts with | nil => (cases h; done) | cons t ts => cases ts with | nil => exact ⟨_, _, _, rfl, h⟩ | cons _ _ => (cases h; done))
theorem mS_put {i : Nat} {k a : E} {e : Stmt} (h : mS tb N c (.put i k a) e = true) : ∃ t v p, e = .Assign [t] v p ∧ (mPut tb N c i k a t v) = true := by
  cases e
  all_goals first
    | (cases h; done)
    | exact ⟨_, _, _, rfl, h⟩
    | (rename_i ts v p; cases ts with | nil => (cases h; done) | cons t ts => cases ts with | nil => exact ⟨_, _, _, rfl, h⟩ | cons _ _ => (cases h; done))
theorem mS_putL {i : Nat} {k a : E} {e : Stmt} (h : mS tb N c (.putL i k a) e = true) : ∃ t v p, e = .Assign [t] v p ∧ (mPut tb N c i k a t v) = true := by
  cases e
  all_goals first
    | (cases h; done)
    | exact ⟨_, _, _, rfl, h⟩
    | (rename_i ts v p; cases ts with | nil => (cases h; done) | cons t ts => cases ts with | nil => exact ⟨_, _, _, rfl, h⟩ | cons _ _ => (cases h; done))
theorem mS_tcnt {i : Nat} {k : E} {e : Stmt} (h : mS tb N c (.tcnt i k) e = true) : ∃ t v p, e = .Assign [t] v p ∧ (mTcnt tb N c i k t v) = true := by
  cases e
  all_goals first
    | (cases h; done)
    | exact ⟨_, _, _, rfl, h⟩
    | (rename_i ts v p; cases ts with | nil => (cases h; done) | cons t ts => cases ts with | nil => exact ⟨_, _, _, rfl, h⟩ | cons _ _ => (cases h; done))
theorem mS_trst {i : Nat} {k a : E} {e : Stmt} (h : mS tb N c (.trst i k a) e = true) : ∃ t v p, e = .Assign [t] v p ∧ (mTrst tb N c i k a t v) = true := by
  cases e
  all_goals first
    | (cases h; done)
    | exact ⟨_, _, _, rfl, h⟩
    | (rename_i ts v p; cases ts with | nil => (cases h; done) | cons t ts => cases ts with | nil => exact ⟨_, _, _, rfl, h⟩ | cons _ _ => (cases h; done))
theorem mS_par {is : List Nat} {es : Es} {e : Stmt} (h : mS tb N c (.par is es) e = true) : ∃ ts kt pt vs kv pv p, e = .Assign [.Tuple ts kt pt] (.Tuple vs kv pv) p ∧ (mPar tb N c is es ts vs) = true := by
  cases e
  all_goals first
    | (cases h; done)
    | exact ⟨_, _, _, _, _, _, _, rfl, h⟩
    | (rename_i ts v p; cases ts with | nil => (cases h; done) | cons t ts => cases t <;> first | (cases h; done) | (cases ts with | nil => (cases v <;> first | (cases h; done) | exact ⟨_, _, _, _, _, _, _, rfl, h⟩) | cons _ _ => (cases h; done)))
theorem mS_aug {i : Nat} {op : Operator} {k : E} {e : Stmt} (h : mS tb N c (.aug i op k) e = true) : ∃ t op' v p, e = .AugAssign t op' v p ∧ (mAug tb N c i op k t op' v) = true := by
  cases e
  all_goals first
    | (cases h; done)
    | exact ⟨_, _, _, _, rfl, h⟩
theorem mS_ret {k : E} {e : Stmt} (h : mS tb N c (.ret k) e = true) : ∃ v p, e = .Return (some v) p ∧ (mE tb N c false k v) = true := by
  cases e
  all_goals first
    | (cases h; done)
    | exact ⟨_, _, rfl, h⟩
    | (rename_i v p; cases v with | none => (cases h; done) | some v => exact ⟨_, _, rfl, h⟩)
theorem mS_ite {k : E} {a b : Ss} {e : Stmt} (h : mS tb N c (.ite k a b) e = true) : ∃ ek sa sb p, e = .If ek sa sb p ∧ (mE tb N c true k ek && mSs tb N c a sa && mSs tb N c b sb) = true := by
  cases e
  all_goals first
    | (cases h; done)
    | exact ⟨_, _, _, _, rfl, h⟩
theorem mS_for {tg : Tg} {it : I} {b : Ss} {e : Stmt} (h : mS tb N c (.for tg it b) e = true) : ∃ et ei sb p, e = .For et ei sb [] p ∧ (nSet ei && mTg N c tg et && mI tb N c true et it ei && mSs tb N c b sb) = true := by
  cases e
  all_goals first
    | (cases h; done)
    | exact ⟨_, _, _, _, rfl, h⟩
    | (rename_i et ei sb el p; cases el with | nil => exact ⟨_, _, _, _, rfl, h⟩ | cons _ _ => (cases h; done))
theorem mS_while {k : E} {b : Ss} {e : Stmt} (h : mS tb N c (.while k b) e = true) : ∃ ek sb p, e = .While ek sb [] p ∧ (mE tb N c true k ek && mSs tb N c b sb) = true := by
  cases e
  all_goals first
    | (cases h; done)
    | exact ⟨_, _, _, rfl, h⟩
    | (rename_i ek sb el p; cases el with | nil => exact ⟨_, _, _, rfl, h⟩ | cons _ _ => (cases h; done))
theorem mS_exp {k : E} {e : Stmt} (h : mS tb N c (.exp k) e = true) : ∃ v p, e = .Expr v p ∧ (nComp v && mE tb N c false k v) = true := by
  cases e
  all_goals first
    | (cases h; done)
    | exact ⟨_, _, rfl, h⟩
theorem mS_app {i : Nat} {k : E} {e : Stmt} (h : mS tb N c (.app i k) e = true) : ∃ v p, e = .Expr v p ∧ (mApp tb N c i k v) = true := by
  cases e
  all_goals first
    | (cases h; done)
    | exact ⟨_, _, rfl, h⟩
theorem mS_brk  {e : Stmt} (h : mS tb N c .brk e = true) : ∃ p, e = .Break p ∧ (true) = true := by
  cases e
  all_goals first
    | (cases h; done)
    | exact ⟨_, rfl, h⟩
theorem mS_cont  {e : Stmt} (h : mS tb N c .cont e = true) : ∃ p, e = .Continue p ∧ (true) = true := by
  cases e
  all_goals first
    | (cases h; done)
    | exact ⟨_, rfl, h⟩
theorem mS_raise {n : Nat} {m : Str} {e : Stmt} (h : mS tb N c (.raise n m) e = true) : ∃ a b p, e = .Raise a b p ∧ (mRaise tb c n m a b) = true := by
  cases e
  all_goals first
    | (cases h; done)
    | exact ⟨_, _, _, rfl, h⟩
theorem mSs_frz {i : Nat} {r : Ss} {ss : List Stmt} (h : mSs tb N c (.cons (.frz i) r) ss = true) : mSs tb N c r ss = true := h
theorem mSs_cons {s : S} {r : Ss} {ss : List Stmt} (hf : isFrz s = none) (h : mSs tb N c (.cons s r) ss = true) : ∃ st rest, ss = st :: rest ∧ mS tb N c s st = true ∧ mSs tb N c r rest = true := by
  cases s <;> first | (cases hf; done) | (cases ss with | nil => (cases h; done) | cons st rest => exact ⟨st, rest, rfl, and2 h⟩)
end
end Fm

/-! ### statements: soundness -/
namespace Fm
open PySem PySem.Spec PyProof.Rows L2
section
variable {tb : Tb} {N : List Str} {G : Gam} {cs : Nat → D} {cl : Nat → Addr} {X : Cx} {P : Pm} {c : Cs}
theorem sw_plain {v : Expr} {t : Option Expr} {l : Nat} {env : Env} (h : nComp v = true) : swapsWith v t l env = pure false := by
  cases v <;> first | rfl | (cases h; done)
theorem sw_sole {v t : Expr} {l : Nat} {env : Env} (h : nComp v = true) : swapsWithSole [t] v l env = pure false := sw_plain h
theorem sw_off {elt : Expr} {gs : List Comprehension} {scope : Scope} {pos py : Pos} {y : Str} {l : Nat} {env : Env} (h : env.scope.names.lookup y = some .cell ∨ (py.line == pos.line) = false) : swapsWith (.ListComp elt gs scope pos) (some (.Name y py)) l env = pure false := by
  unfold swapsWith
  rcases h with h | h
  · have ky : env.kindOf y = some .cell := h
    simp only [ky, Expr.pos]
    have : ((some NameKind.cell : Option NameKind) == some NameKind.local) = false := rfl
    simp only [this, Bool.and_false, Bool.false_and]
  · simp only [Expr.pos, h, Bool.and_false, Bool.false_and]
theorem lclB_of {x : Str} (h : lclB c x = true) : c.sc.names.lookup x = some .local := by
  unfold lclB at h
  split at h
  · assumption
  · cases h
theorem swF_of (ok : Ok tb N G cs cl X P c) {y : Str} {py : Pos} {v : Expr} {l : Nat} (h : swF c y py v = true) : swapsWith v (some (.Name y py)) l X.env = pure false := by
  unfold swF at h
  rcases Bool.or_eq_true_iff.mp h with h | h
  · exact sw_plain h
  · split at h
    · refine sw_off ?_
      rw [ok.sc]
      rcases Bool.or_eq_true_iff.mp h with h | h
      · exact .inl (of_decide_eq_true h)
      · exact .inr (by simpa using h)
    · cases h
theorem sCd (ok : Ok tb N G cs cl X P c) {cd : O} {ifs : List Expr} (h7 : mCd tb N c cd ifs = true) : PTs X ifs (tC1 P (evO G cs cd)) := by
  cases cd with
  | none =>
    cases ifs with
    | nil =>
      rw [evO_none]
      exact c_none
    | cons _ _ => cases h7
  | some k =>
    cases ifs with
    | nil => cases h7
    | cons x xs =>
      cases xs with
      | nil =>
        rw [evO_some]
        exact c_some (sE k ok (show mE tb N c true k x = true from h7)).t
      | cons _ _ => cases h7
/-- what is new is told as nobody's -/
theorem sN (ok : Ok tb N G cs cl X P c) {k : E} {v : Expr} (hf : freshB k = true) (hv : mE tb N c false k v = true) : PE X v (tN P (ev G cs k)) := by
  cases k with
  | lst es =>
    obtain ⟨xs, p, rfl, h⟩ := mE_lst hv
    rw [ev_lst]
    exact n_lst (sEs es ok h)
  | dsp kvs =>
    obtain ⟨ks, vs, p, rfl, h⟩ := mE_dsp hv
    rw [ev_dsp]
    exact n_dsp (dsp_of h)
  | comp own elt tg it cd =>
    obtain ⟨ee, et, ei, ifs, z, scope, p, rfl, h⟩ := mE_comp hv
    obtain ⟨h, h8⟩ := and2 h
    obtain ⟨h, h7⟩ := and2 h
    obtain ⟨h, h6⟩ := and2 h
    obtain ⟨h, h5⟩ := and2 h
    obtain ⟨h, h4⟩ := and2 h
    obtain ⟨h, h3⟩ := and2 h
    obtain ⟨h1, h2⟩ := and2 h
    obtain rfl := of_decide_eq_true h1
    have hsl : ∀ i ∈ tg.slots, i ∈ own.map (·.2) := fun i hi => by
      have := List.all_eq_true.mp h3 i hi
      simpa using this
    rw [ev_comp]
    exact n_comp ok.calm (by rw [ok.hN]; exact ok.nd) (sI it ok h4) (by rw [ok.hN, ok.sc]; exact blkOk_by h2) (fun s H C cl' fp => sTg (ok.blk scope s H C cl' fp) h6) (fun s H C cl' fp => sCd (ok.blk scope s H C cl' fp) h7)
      (fun s H C cl' fp => (sE elt (ok.blk scope s H C cl' fp) h8).d rfl) (fold_of h5) hsl
  | cat a b =>
    obtain ⟨ea, eb, p, rfl, h⟩ := mE_cat hv
    obtain ⟨h3, h4⟩ := and2 h
    rw [ev_cat]
    exact n_cat (sE a ok h3).b (sE b ok h4).b
  | blt b a =>
    obtain ⟨x, q, ea, p, rfl, h⟩ := mE_blt hv
    obtain ⟨h, h5⟩ := and2 h
    obtain ⟨h, h4⟩ := and2 h
    obtain ⟨h, h3⟩ := and2 h
    obtain ⟨h1, h2⟩ := and2 h
    obtain rfl := of_decide_eq_true h2
    rw [ev_blt]
    exact (s_blt ok h1 h3 h4 (sE a ok h5).b).2 (by cases b <;> first | rfl | (cases hf; done))
  | _ => cases hf
/-- name = value, the value told as it may be -/
theorem asgN (ok : Ok tb N G cs cl X P c) {i : Nat} {y : Str} {py pos : Pos} {k : E} {v : Expr} {te : TE} (ht : tgtB N c i y = true) (hs : swF c y py v = true) (hv : PE X v te) : PS X (.Assign [.Name y py] v pos) (tAsg te (gName i)) := by
  obtain ⟨h1, h2, h3⟩ := tgtB_of ok ht
  exact asg_plain (by rw [ok.hN]; exact ok.nd) h1 h2 hv (swF_of ok hs) h3
theorem asgC (ok : Ok tb N G cs cl X P c) {i : Nat} {y : Str} {py pos : Pos} {k : E} {v : Expr} (ht : tgtB N c i y = true) (hi : isComp k = true) (hs : swT c y py v = true) (hv : mE tb N c false k v = true) : PS X (.Assign [.Name y py] v pos) (tAsg (tN P (ev G cs k)) (gName i)) := by
  obtain ⟨t1, t2, t3⟩ := tgtB_of ok ht
  cases k <;> first | (cases hi; done) | skip
  rename_i own elt tg it cd
  obtain ⟨ee, et, ei, ifs, z, scope, p, rfl, h⟩ := mE_comp hv
  obtain ⟨h, h8⟩ := and2 h
  obtain ⟨h, h7⟩ := and2 h
  obtain ⟨h, h6⟩ := and2 h
  obtain ⟨h, h5⟩ := and2 h
  obtain ⟨h, h4⟩ := and2 h
  obtain ⟨h, h3⟩ := and2 h
  obtain ⟨h1, h2⟩ := and2 h
  obtain rfl := of_decide_eq_true h1
  have hs : (decide (c.sc.kind = .function) && lclB c y && (py.line == p.line) && !(scope.names.any fun (n, k) => n == y && (k == .local || k == .cell))) = true := hs
  obtain ⟨hs, s4⟩ := and2 hs
  obtain ⟨hs, s3⟩ := and2 hs
  obtain ⟨s1, s2⟩ := and2 hs
  have hsl : ∀ i ∈ tg.slots, i ∈ own.map (·.2) := fun i hi => by
    have := List.all_eq_true.mp h3 i hi
    simpa using this
  have hyl : X.env.scope.names.lookup y = some .local := by rw [ok.sc]; exact lclB_of s2
  rw [ev_comp]
  refine psMono (ps_setLc ok.calm (by rw [ok.hN]; exact ok.nd) t1 hyl (sw_true (by rw [ok.sc]; exact of_decide_eq_true s1) hyl s3 (by simpa using s4)) (sI it ok h4) (by rw [ok.hN, ok.sc]; exact blkOk_by h2) (fun s H C cl' fp => sTg (ok.blk scope s H C cl' fp) h6) (fun s H C cl' fp => sCd (ok.blk scope s H C cl' fp) h7)
    (fun s H C cl' fp => (sE elt (ok.blk scope s H C cl' fp) h8).d rfl) (fold_of h5)) fun D σ H h => comp_read hsl σ H _ h
theorem asgD (ok : Ok tb N G cs cl X P c) {i : Nat} {y : Str} {py pos : Pos} {k : E} {v : Expr} (ht : tgtB N c i y = true) (hs : (swF c y py v || (isComp k && swT c y py v)) = true) (hv : mE tb N c false k v = true) :
    PS X (.Assign [.Name y py] v pos) (tAsg (tD P (ev G cs k)) (gName i)) ∧ (freshB k = true → PS X (.Assign [.Name y py] v pos) (tAsg (tN P (ev G cs k)) (gName i))) := by
  rcases Bool.or_eq_true_iff.mp hs with hs | hs
  · exact ⟨asgN (k := k) ok ht hs ((sE k ok hv).d rfl), fun hf => asgN (k := k) ok ht hs (sN ok hf hv)⟩
  · obtain ⟨h1, h2⟩ := and2 hs
    have h := asgC (pos := pos) ok ht h1 h2 hv
    exact ⟨psMono h fun D σ H q => tNtD_mono σ H _ q, fun _ => h⟩
/-- no stores exchanged -/
theorem none_of (hsc : X.env.scope = c.sc) {ts : List Expr} {v : Expr} {k : Nat} {p : Pos} (h : noneB c ts v = true) : swappedStores [.Tuple ts k p] v X.env = pure none := by
  cases v <;> try rfl
  rename_i vs kv pv
  have h : (!(ts.length == 2 || ts.length == 3) || ts.any (nonLoc c) || vs.all (foldedForSure 8)) = true := h
  unfold swappedStores
  simp only
  by_cases h1 : (!(ts.length == 2 || ts.length == 3) || vs.length != ts.length || X.env.blockKind != .function) = true
  · simp only [h1, if_true]
  · rw [if_neg h1]
    split
    · rfl
    · split
      · rfl
      · rename_i h3
        split
        · rfl
        · rename_i h4
          exfalso
          rcases Bool.or_eq_true_iff.mp h with h | h
          · rcases Bool.or_eq_true_iff.mp h with h | h
            · exact h1 (by rw [h]; rfl)
            · refine h3 (Bool.or_eq_true_iff.mpr (.inl ?_))
              refine bne_iff_ne.mpr fun z => ?_
              have z := List.filterMap_length_eq_length.mp z
              obtain ⟨e, m, q⟩ := List.any_eq_true.mp h
              have z := z e m
              cases e with
              | Name x px =>
                have q : (!lclB c x) = true := q
                simp only at z
                split at z
                · rename_i w
                  have w1 := (and2 w).1
                  have : X.env.kindOf x = some .local := eq_of_beq w1
                  have : X.env.scope.names.lookup x = some .local := this
                  rw [hsc] at this
                  unfold lclB at q
                  rw [this] at q
                  cases q
                · cases z
              | _ => cases z
          · exact h4 h
theorem blk_fn {env : Env} (h : env.scope.kind = .function) : env.blockKind = .function := by
  unfold Env.blockKind
  rw [h]
  rfl
theorem nstar_any {vs : List Expr} (h : (!vs.any fun e => !nStar e) = true) : (vs.any fun | .Starred .. => true | _ => false) = false := by
  induction vs with
  | nil => rfl
  | cons e r ih =>
    simp only [List.any_cons, Bool.not_or, Bool.not_not] at h ⊢
    obtain ⟨h1, h2⟩ := and2 h
    rw [ih h2]
    cases e <;> first | rfl | (cases h1; done)
theorem par2_of (hsc : X.env.scope = c.sc) {x y : Str} {px py : Pos} {a b : Expr} {k k2 : Nat} {p p2 : Pos} (hk : c.sc.kind = .function) (h1 : (!([a, b] : List Expr).any fun e => !nStar e) = true) (h2 : (([a, b] : List Expr).all (foldedForSure 8)) = false) (h3 : (([a, b] : List Expr).all (constantsAlone 8)) = false)
    (hx : c.sc.names.lookup x = some .local) (hy : c.sc.names.lookup y = some .local) (hxy : x ≠ y) (hl : (py.line == px.line) = true) : swappedStores [.Tuple [.Name x px, .Name y py] k p] (.Tuple [a, b] k2 p2) X.env = pure (some [x, y]) := by
  have kx : X.env.kindOf x = some .local := by show X.env.scope.names.lookup x = _; rw [hsc]; exact hx
  have ky : X.env.kindOf y = some .local := by show X.env.scope.names.lookup y = _; rw [hsc]; exact hy
  have hb := blk_fn (env := X.env) (by rw [hsc]; exact hk)
  have s := nstar_any h1
  unfold swappedStores
  simp only [hb, h2, h3, List.head?_cons, Option.map_some, Option.getD_some, Expr.pos, List.filterMap_cons, kx, ky, hl, beq_self_eq_true, Bool.and_self, if_true, List.filterMap_nil]
  have e : ([x, y] : List Str).eraseDups = [x, y] := by
    simp [List.eraseDups_cons, Ne.symm hxy]
  rw [if_neg (by simp)]
  split
  · rename_i z
    exact Bool.noConfusion (s.symm.trans z)
  · simp [e]
theorem par3_of (hsc : X.env.scope = c.sc) {x y z : Str} {px py pz : Pos} {a b d : Expr} {k k2 : Nat} {p p2 : Pos} (hk : c.sc.kind = .function) (h1 : (!([a, b, d] : List Expr).any fun e => !nStar e) = true) (h2 : (([a, b, d] : List Expr).all (foldedForSure 8)) = false) (h3 : (([a, b, d] : List Expr).all (constantsAlone 8)) = false)
    (hx : c.sc.names.lookup x = some .local) (hy : c.sc.names.lookup y = some .local) (hz : c.sc.names.lookup z = some .local) (hxy : x ≠ y) (hxz : x ≠ z) (hyz : y ≠ z) (hl : (py.line == px.line) = true) (hl2 : (pz.line == px.line) = true) : swappedStores [.Tuple [.Name x px, .Name y py, .Name z pz] k p] (.Tuple [a, b, d] k2 p2) X.env = pure (some [x, y, z]) := by
  have kx : X.env.kindOf x = some .local := by show X.env.scope.names.lookup x = _; rw [hsc]; exact hx
  have ky : X.env.kindOf y = some .local := by show X.env.scope.names.lookup y = _; rw [hsc]; exact hy
  have kz : X.env.kindOf z = some .local := by show X.env.scope.names.lookup z = _; rw [hsc]; exact hz
  have hb := blk_fn (env := X.env) (by rw [hsc]; exact hk)
  have s := nstar_any h1
  unfold swappedStores
  simp only [hb, h2, h3, List.head?_cons, Option.map_some, Option.getD_some, Expr.pos, List.filterMap_cons, kx, ky, kz, hl, hl2, beq_self_eq_true, Bool.and_self, if_true, List.filterMap_nil]
  have e : ([x, y, z] : List Str).eraseDups = [x, y, z] := by
    simp [List.eraseDups_cons, Ne.symm hxy, Ne.symm hxz, Ne.symm hyz]
  rw [if_neg (by simp)]
  split
  · rename_i z
    exact Bool.noConfusion (s.symm.trans z)
  · simp [e]
theorem locAt_of (ok : Ok tb N G cs cl X P c) {i : Nat} {x : Str} (h : locAt N c i x = true) : X.N[i]? = some x ∧ X.env.scope.names.lookup x = some .local ∧ c.sc.names.lookup x = some .local := by
  obtain ⟨h1, h2⟩ := and2 h
  exact ⟨by rw [ok.hN]; exact of_decide_eq_true h1, by rw [ok.sc]; exact lclB_of h2, lclB_of h2⟩
theorem sPar (ok : Ok tb N G cs cl X P c) {is : List Nat} {es : Es} {ts vs : List Expr} {kt kv : Nat} {pt pv pos : Pos} (h : mPar tb N c is es ts vs = true) : PS X (.Assign [.Tuple ts kt pt] (.Tuple vs kv pv) pos) (tS P (parE is (evs G cs es))) := by
  unfold mPar at h
  obtain ⟨h, h6⟩ := and2 h
  obtain ⟨h, h5⟩ := and2 h
  obtain ⟨h, h4⟩ := and2 h
  obtain ⟨h, h3⟩ := and2 h
  obtain ⟨h1, h2⟩ := and2 h
  have hk := of_decide_eq_true h1
  have h3 : vs.all (foldedForSure 8) = false := by simpa using h3
  have h4 : vs.all (constantsAlone 8) = false := by simpa using h4
  have nd : X.N.Nodup := by rw [ok.hN]; exact ok.nd
  split at h6
  · obtain ⟨q, q5⟩ := and2 h6
    obtain ⟨q, q4⟩ := and2 q
    obtain ⟨q, q3⟩ := and2 q
    obtain ⟨q1, q2⟩ := and2 q
    obtain ⟨a1, a2, a3⟩ := locAt_of ok q2
    obtain ⟨b1, b2, b3⟩ := locAt_of ok q3
    exact st_par2 ok.calm nd a1 b1 (of_decide_eq_true q1) a2 b2 (sEs es ok h5) (par2_of ok.sc hk h2 h3 h4 a3 b3 (of_decide_eq_true q4) q5)
  · obtain ⟨q, q11⟩ := and2 h6
    obtain ⟨q, q10⟩ := and2 q
    obtain ⟨q, q9⟩ := and2 q
    obtain ⟨q, q8⟩ := and2 q
    obtain ⟨q, q7⟩ := and2 q
    obtain ⟨q, q6⟩ := and2 q
    obtain ⟨q, q5⟩ := and2 q
    obtain ⟨q, q4⟩ := and2 q
    obtain ⟨q, q3⟩ := and2 q
    obtain ⟨q1, q2⟩ := and2 q
    obtain ⟨a1, a2, a3⟩ := locAt_of ok q4
    obtain ⟨b1, b2, b3⟩ := locAt_of ok q5
    obtain ⟨c1, c2, c3⟩ := locAt_of ok q6
    exact st_par3 ok.calm nd a1 b1 c1 (of_decide_eq_true q1) (of_decide_eq_true q2) (of_decide_eq_true q3) a2 b2 c2 (sEs es ok h5) (par3_of ok.sc hk h2 h3 h4 a3 b3 c3 (of_decide_eq_true q7) (of_decide_eq_true q8) (of_decide_eq_true q9) q10 q11)
  · cases h6
theorem sAsg (ok : Ok tb N G cs cl X P c) {tg : Tg} {k : E} {t v : Expr} {pos : Pos} (h : mAsg tb N c tg k t v = true) : PS X (.Assign [t] v pos) (tS P fun r t => (ev G cs k r t).bind fun x t1 => Fm.lift ((setT tg x r).map fun r1 => (.nx, r1)) t1) := by
  unfold mAsg at h
  split at h
  · obtain ⟨h, h3⟩ := and2 h
    obtain ⟨h1, h2⟩ := and2 h
    cases tg with
    | name i => exact st_set (asgD (i := i) ok h1 h2 h3).1
    | tup _ => cases h1
  · obtain ⟨h, h4⟩ := and2 h
    obtain ⟨h, h3⟩ := and2 h
    obtain ⟨h1, h2⟩ := and2 h
    exact st_asg ((sE k ok h4).d rfl) (sTg ok h1) (sw_sole h2) (none_of ok.sc h3) rfl
  · cases h
theorem sStar (ok : Ok tb N G cs cl X P c) {i j : Nat} {k : E} {t v : Expr} {pos : Pos} (h : mStar tb N c i j k t v = true) : PS X (.Assign [t] v pos) (tS P (starE i j (ev G cs k))) := by
  unfold mStar at h
  split at h
  · obtain ⟨h, h5⟩ := and2 h
    obtain ⟨h, h4⟩ := and2 h
    obtain ⟨h, h3⟩ := and2 h
    obtain ⟨h1, h2⟩ := and2 h
    obtain ⟨a1, a2, a3⟩ := tgtB_of ok h1
    obtain ⟨b1, b2, b3⟩ := tgtB_of ok h2
    exact st_star ok.hK ok.calm (by rw [ok.hN]; exact ok.nd) a1 b1 a2 b2 a3 b3 ((sE k ok h5).d rfl) (sw_sole h3) (none_of ok.sc (by cases v <;> first | rfl | (cases h4; done)))
  · cases h
theorem sNew (ok : Ok tb N G cs cl X P c) {i : Nat} {k : E} {t v : Expr} {pos : Pos} (h : mNew tb N c i k t v = true) : PS X (.Assign [t] v pos) (tS P fun r t => (ev G cs k r t).bind fun x t1 => okSet r i (.own x) t1) := by
  unfold mNew at h
  split at h
  · obtain ⟨h, h4⟩ := and2 h
    obtain ⟨h, h3⟩ := and2 h
    obtain ⟨h1, h2⟩ := and2 h
    exact st_new ((asgD ok h2 h3 h4).2 h1)
  · cases h
theorem sApp (ok : Ok tb N G cs cl X P c) {i : Nat} {k : E} {v : Expr} {pos : Pos} (h : mApp tb N c i k v = true) : PS X (.Expr v pos) (tS P (appE i (ev G cs k))) := by
  unfold mApp at h
  split at h
  · obtain ⟨h, h5⟩ := and2 h
    obtain ⟨h, h4⟩ := and2 h
    obtain ⟨h, h3⟩ := and2 h
    obtain ⟨h1, h2⟩ := and2 h
    obtain rfl := of_decide_eq_true h1
    obtain ⟨a1, a2, a3, a4⟩ := varB_of ok h2
    exact st_app ok.hK a1 a2 a3 a4 ((sE k ok h5).d rfl) h3 (star_of h4)
  · cases h
theorem sPut (ok : Ok tb N G cs cl X P c) {i : Nat} {k a : E} {t v : Expr} {pos : Pos} (h : mPut tb N c i k a t v = true) : PS X (.Assign [t] v pos) (tS P (putE i (ev G cs k) (ev G cs a))) ∧ PS X (.Assign [t] v pos) (tS P (putLE i (ev G cs k) (ev G cs a))) := by
  unfold mPut at h
  split at h
  · rename_i y q b p
    obtain ⟨h, h5⟩ := and2 h
    obtain ⟨h, h4⟩ := and2 h
    obtain ⟨h, h3⟩ := and2 h
    obtain ⟨h1, h2⟩ := and2 h
    obtain ⟨a1, a2, a3, a4⟩ := varB_of ok h1
    refine ⟨st_put ok.hu a1 a2 a3 a4 (sE k ok h4).b ((sE a ok h5).d rfl) (sw_plain h3), st_putL a1 a2 a3 a4 (sE k ok h4).b ((sE a ok h5).d rfl) ?_ (sw_sole h3) (by cases v <;> rfl)⟩
    intro v
    cases b <;> first | rfl | (cases h2; done)
  · cases h
theorem sTcnt (ok : Ok tb N G cs cl X P c) {i : Nat} {k : E} {t v : Expr} {pos : Pos} (h : mTcnt tb N c i k t v = true) : PS X (.Assign [t] v pos) (tS P (tcntE i (ev G cs k))) := by
  unfold mTcnt at h
  split at h
  · obtain ⟨h, h4⟩ := and2 h
    obtain ⟨h, h3⟩ := and2 h
    obtain ⟨h1, h2⟩ := and2 h
    obtain ⟨a1, a2, a3, a4⟩ := varB_of ok h1
    obtain ⟨j, q2, rfl⟩ := isStr_of h2
    exact st_tcnt ok.hu a1 a2 a3 a4 ((sE k ok h4).d rfl) (sw_plain h3)
  · cases h
theorem sTrst (ok : Ok tb N G cs cl X P c) {i : Nat} {k a : E} {t v : Expr} {pos : Pos} (h : mTrst tb N c i k a t v = true) : PS X (.Assign [t] v pos) (tS P (trstE i (ev G cs k) (ev G cs a))) := by
  unfold mTrst at h
  split at h
  · obtain ⟨h, h5⟩ := and2 h
    obtain ⟨h, h4⟩ := and2 h
    obtain ⟨h, h3⟩ := and2 h
    obtain ⟨h1, h2⟩ := and2 h
    obtain ⟨a1, a2, a3, a4⟩ := varB_of ok h1
    obtain ⟨j, q2, rfl⟩ := isStr_of h2
    exact st_trst ok.hu a1 a2 a3 a4 (sE k ok h4).b ((sE a ok h5).d rfl) (sw_plain h3)
  · cases h
theorem sAug (ok : Ok tb N G cs cl X P c) {i : Nat} {op op' : Operator} {k : E} {t v : Expr} {pos : Pos} (h : mAug tb N c i op k t op' v = true) : PS X (.AugAssign t op' v pos) (tS P (augE i op (ev G cs k))) := by
  unfold mAug at h
  split at h
  · obtain ⟨h, h4⟩ := and2 h
    obtain ⟨h, h3⟩ := and2 h
    obtain ⟨h1, h2⟩ := and2 h
    obtain rfl := of_decide_eq_true h1
    obtain ⟨a1, a2, a3⟩ := tgtB_of ok h3
    refine st_aug (ip_of ?_) (by rw [ok.hN]; exact ok.nd) a1 a2 a3 (sE k ok h4).b
    cases op <;> first | (cases h2; done) | simp
  · cases h
theorem sRaise (ok : Ok tb N G cs cl X P c) {n : Nat} {m : Str} {a b : Option Expr} {pos : Pos} (h : mRaise tb c n m a b = true) : PS X (.Raise a b pos) (tS P fun _ t => .exc n t) := by
  unfold mRaise at h
  split at h
  · obtain ⟨h, h3⟩ := and2 h
    obtain ⟨h1, h2⟩ := and2 h
    obtain ⟨e1, e2, e3, e4⟩ := ok.exc n _ (of_decide_eq_true h2)
    obtain ⟨g1, g2, g3⟩ := glB_of ok h3
    exact st_raise (C := cl n) ok.calm ok.tk PySem.F.excBase_ValueError e1 e2 e3 e4 g1 g2
  · cases h
end
section
variable {G : Gam} {cs : Nat → D}
theorem evS_asg (tg : Tg) (e : E) : evS G cs (.asg tg e) = fun r t => (ev G cs e r t).bind fun x t1 => Fm.lift ((setT tg x r).map fun r1 => (.nx, r1)) t1 := by funext r t; rw [evS]
theorem evS_par (is : List Nat) (es : Es) : evS G cs (.par is es) = parE is (evs G cs es) := by funext r t; first | (rw [evS]; done) | (rw [evS]; rfl)
theorem evS_star (i j : Nat) (e : E) : evS G cs (.star i j e) = starE i j (ev G cs e) := by funext r t; first | (rw [evS]; done) | (rw [evS]; rfl)
theorem evS_aug (i : Nat) (op : Operator) (e : E) : evS G cs (.aug i op e) = augE i op (ev G cs e) := by funext r t; first | (rw [evS]; done) | (rw [evS]; rfl)
theorem evS_ret (e : E) : evS G cs (.ret e) = fun r t => (ev G cs e r t).bind fun x t1 => .ok (.ret x, r) t1 := by funext r t; rw [evS]
theorem evS_ite (k : E) (a b : Ss) : evS G cs (.ite k a b) = iteS (ev G cs k) (evSs G cs a) (evSs G cs b) := by funext r t; first | (rw [evS]; done) | (rw [evS]; rfl)
theorem evS_for (tg : Tg) (it : I) (b : Ss) : evS G cs (.for tg it b) = forE tg (evI G cs it) (evSs G cs b) := by funext r t; first | (rw [evS]; done) | (rw [evS]; rfl)
theorem evS_while (k : E) (b : Ss) : evS G cs (.while k b) = loopW (ev G cs k) (evSs G cs b) := by funext r t; rw [evS]
theorem evS_exp (e : E) : evS G cs (.exp e) = fun r t => (ev G cs e r t).bind fun _ t1 => .ok (.nx, r) t1 := by funext r t; rw [evS]
theorem evS_new (i : Nat) (e : E) : evS G cs (.new i e) = fun r t => (ev G cs e r t).bind fun x t1 => okSet r i (.own x) t1 := by funext r t; rw [evS]
theorem evS_app (i : Nat) (e : E) : evS G cs (.app i e) = appE i (ev G cs e) := by funext r t; first | (rw [evS]; done) | (rw [evS]; rfl)
theorem evS_put (i : Nat) (k e : E) : evS G cs (.put i k e) = putE i (ev G cs k) (ev G cs e) := by funext r t; first | (rw [evS]; done) | (rw [evS]; rfl)
theorem evS_putL (i : Nat) (k e : E) : evS G cs (.putL i k e) = putLE i (ev G cs k) (ev G cs e) := by funext r t; first | (rw [evS]; done) | (rw [evS]; rfl)
theorem evS_frz (i : Nat) : evS G cs (.frz i) = frzE i := by funext r t; first | (rw [evS]; done) | (rw [evS]; rfl)
theorem evS_tcnt (i : Nat) (e : E) : evS G cs (.tcnt i e) = tcntE i (ev G cs e) := by funext r t; first | (rw [evS]; done) | (rw [evS]; rfl)
theorem evS_trst (i : Nat) (k e : E) : evS G cs (.trst i k e) = trstE i (ev G cs k) (ev G cs e) := by funext r t; first | (rw [evS]; done) | (rw [evS]; rfl)
theorem evS_brk : evS G cs .brk = fun r t => .ok (.brk, r) t := by funext r t; rw [evS]
theorem evS_cont : evS G cs .cont = fun r t => .ok (.cont, r) t := by funext r t; rw [evS]
theorem evS_raise (n : Nat) (x : Str) : evS G cs (.raise n x) = fun _ t => .exc n t := by funext r t; rw [evS]
theorem evSs_nil : evSs G cs .nil = nilE := by funext r t; first | (rw [evSs]; done) | (rw [evSs]; rfl)
theorem evSs_cons (s : S) (r : Ss) : evSs G cs (.cons s r) = consE (evS G cs s) (evSs G cs r) := by funext r t; first | (rw [evSs]; done) | (rw [evSs]; rfl)
end
section
variable {tb : Tb} {N : List Str} {G : Gam} {cs : Nat → D} {cl : Nat → Addr} {X : Cx} {P : Pm} {c : Cs}
mutual
theorem sS (ok : Ok tb N G cs cl X P c) : ∀ (s : S) {st : Stmt}, mS tb N c s st = true → PS X st (tS P (evS G cs s))
  | .asg tg k, st, h => by
    obtain ⟨t, v, p, rfl, h⟩ := mS_asg h
    rw [evS_asg]
    exact sAsg ok h
  | .par is es, st, h => by
    obtain ⟨ts, kt, pt, vs, kv, pv, p, rfl, h⟩ := mS_par h
    rw [evS_par]
    exact sPar ok h
  | .star i j k, st, h => by
    obtain ⟨t, v, p, rfl, h⟩ := mS_star h
    rw [evS_star]
    exact sStar ok h
  | .aug i op k, st, h => by
    obtain ⟨t, op', v, p, rfl, h⟩ := mS_aug h
    rw [evS_aug]
    exact sAug ok h
  | .ret k, st, h => by
    obtain ⟨v, p, rfl, h⟩ := mS_ret h
    rw [evS_ret]
    exact st_ret ((sE k ok h).d rfl)
  | .ite k a b, st, h => by
    obtain ⟨ek, sa, sb, p, rfl, h⟩ := mS_ite h
    obtain ⟨h, h3⟩ := and2 h
    obtain ⟨h1, h2⟩ := and2 h
    rw [evS_ite]
    exact st_ite (sE k ok h1).t (sSs ok a h2) (sSs ok b h3)
  | .for tg it b, st, h => by
    obtain ⟨et, ei, sb, p, rfl, h⟩ := mS_for h
    obtain ⟨h, h4⟩ := and2 h
    obtain ⟨h, h3⟩ := and2 h
    obtain ⟨h1, h2⟩ := and2 h
    rw [evS_for]
    exact st_for ok.own ok.calm (sI it ok h3) (sTg ok h2) (sSs ok b h4) (fold_of h1)
  | .while k b, st, h => by
    obtain ⟨ek, sb, p, rfl, h⟩ := mS_while h
    obtain ⟨h1, h2⟩ := and2 h
    rw [evS_while]
    exact st_while ok.own (sE k ok h1).t (sSs ok b h2)
  | .exp k, st, h => by
    obtain ⟨v, p, rfl, h⟩ := mS_exp h
    obtain ⟨h1, h2⟩ := and2 h
    rw [evS_exp]
    exact st_exp ((sE k ok h2).d rfl) (sw_plain h1)
  | .new i k, st, h => by
    obtain ⟨t, v, p, rfl, h⟩ := mS_new h
    rw [evS_new]
    exact sNew ok h
  | .app i k, st, h => by
    obtain ⟨v, p, rfl, h⟩ := mS_app h
    rw [evS_app]
    exact sApp ok h
  | .put i k a, st, h => by
    obtain ⟨t, v, p, rfl, h⟩ := mS_put h
    rw [evS_put]
    exact (sPut ok h).1
  | .putL i k a, st, h => by
    obtain ⟨t, v, p, rfl, h⟩ := mS_putL h
    rw [evS_putL]
    exact (sPut ok h).2
  | .tcnt i k, st, h => by
    obtain ⟨t, v, p, rfl, h⟩ := mS_tcnt h
    rw [evS_tcnt]
    exact sTcnt ok h
  | .trst i k a, st, h => by
    obtain ⟨t, v, p, rfl, h⟩ := mS_trst h
    rw [evS_trst]
    exact sTrst ok h
  | .brk, st, h => by
    obtain ⟨p, rfl, _⟩ := mS_brk h
    rw [evS_brk]
    exact st_brk
  | .cont, st, h => by
    obtain ⟨p, rfl, _⟩ := mS_cont h
    rw [evS_cont]
    exact st_cont
  | .raise n m, st, h => by
    obtain ⟨a, b, p, rfl, h⟩ := mS_raise h
    rw [evS_raise]
    exact sRaise ok h
  | .frz i, st, h => by cases st <;> cases h
theorem sSs (ok : Ok tb N G cs cl X P c) : ∀ (s : Ss) {ss : List Stmt}, mSs tb N c s ss = true → PSs X ss (tS P (evSs G cs s))
  | .nil, ss, h => by
    cases ss with
    | nil =>
      rw [evSs_nil]
      exact ss_nil
    | cons _ _ => cases h
  | .cons s r, ss, h => by
    rw [evSs_cons]
    cases e : isFrz s with
    | some i =>
      cases s <;> first | (cases e; done) | skip
      rw [evS_frz]
      exact ss_frz (sSs ok r (mSs_frz h))
    | none =>
      obtain ⟨st, rest, rfl, h1, h2⟩ := mSs_cons e h
      exact ss_cons (sS ok s h1) (sSs ok r h2)
end
end
end Fm

/-! ### defs: what a call tells, by levels -/
namespace Fm
open PySem PySem.Spec PyProof.Rows L2
structure Fd where
  ps : List Str
  N : List Str
  body : Ss
inductive Fn where
  | df (f : Fd)
  | nat (ps : List Str) (g : List Int → List D → Tw → Res D)
def Fn.ps : Fn → List Str
  | .df f => f.ps
  | .nat ps _ => ps
structure Pg where
  tb : Tb
  fs : List Fn
  cs : Nat → D
def startR (N : List Str) (ds : List D) : Rho := ds.map .val ++ List.replicate (N.length - ds.length) .un
def retD : Res (Fl × Rho) → Res D
  | .ok (.ret d, _) t => .ok d t
  | .ok (.nx, _) t => .ok .non t
  | .ok (.brk, _) _ => .bad
  | .ok (.cont, _) _ => .bad
  | .exc n t => .exc n t
  | .bad => .bad
noncomputable def callF (p : Pg) (ns : List Int) : Nat → Nat → List D → Tw → Res D
  | 0, _, _, _ => .bad
  | k + 1, i, ds, t => match p.fs[i]? with
    | some (.df f) => retD (evSs (fun j xs ys t => match p.tb.sh[j]? with
      | some sh => callF p ns k sh.fn (xs ++ ys ++ sh.dfl.map Cst.d) t
      | none => .bad) p.cs f.body (startR f.N ds) t)
    | some (.nat _ g) => g ns ds t
    | none => .bad
/-- what calls tell, of level k -/
noncomputable def gam (p : Pg) (ns : List Int) (k : Nat) : Gam := fun j xs ys t => match p.tb.sh[j]? with
  | some sh => callF p ns k sh.fn (xs ++ ys ++ sh.dfl.map Cst.d) t
  | none => .bad
theorem callF_df {p : Pg} {ns : List Int} {k i : Nat} {f : Fd} (h : p.fs[i]? = some (.df f)) (ds : List D) (t : Tw) : callF p ns (k + 1) i ds t = retD (evSs (gam p ns k) p.cs f.body (startR f.N ds) t) := by
  show (match p.fs[i]? with
    | some (.df f) => _
    | some (.nat _ g) => _
    | none => _) = _
  rw [h]
  rfl
theorem callF_nat {p : Pg} {ns : List Int} {k i : Nat} {ps : List Str} {g : List Int → List D → Tw → Res D} (h : p.fs[i]? = some (.nat ps g)) (ds : List D) (t : Tw) : callF p ns (k + 1) i ds t = g ns ds t := by
  show (match p.fs[i]? with
    | some (.df f) => _
    | some (.nat _ g) => _
    | none => _) = _
  rw [h]
structure Bnd (K : PySem.W.Frag) (mg : Str → Option Value) (sh : Sh) (fa : Addr) (fd : FuncData) (ps : List Str) : Prop where
  mg : mg sh.name = some (.ref fa)
  kp : PySem.W.keepIn K (.ref fa) = true
  len : sh.np + sh.ks.length + sh.dfl.length = ps.length
  b0 : sh.ks = [] → ∃ ds, Vals (sh.dfl.map Cst.v) ds ∧ Binds K fd ps ds
  b1 : sh.ks ≠ [] → ∃ gg, KBn K fd ps sh.np sh.ks gg (fun vs zs => vs ++ zs ++ sh.dfl.map Cst.v)
structure ExcK (K : PySem.W.Frag) (mg : Str → Option Value) (C : Addr) (x : Str) : Prop where
  q : PySem.W.excIn K C He.veBase "ValueError.__new__" = true
  g : mg x = some (.ref C)
  k : PySem.W.keepIn K (.ref C) = true
  s : PySem.W.subIn K (.ref C) (.type "BaseException") = some true
  t : PySem.W.typeIn K (.ref C) = some (.type "type")
/-- what the head tells -/
structure Hd (p : Pg) (P : Program) (w : World) (K : PySem.W.Frag) (mg : Str → Option Value) (base : Heap) (cl : Nat → Addr) (fad : Nat → Addr) (ffd : Nat → FuncData) : Prop where
  free : ∀ x ∈ freeNames, mg x = none
  con : ∀ (g : Nat) (x : Str), p.tb.cs[g]? = some x → ∃ u v, mg x = some u ∧ RelV v u ∧ ∀ T, Rp K T (fun _ => none) v (p.cs g)
  exc : ∀ (n : Nat) (x : Str), p.tb.ex[n]? = some x → ExcK K mg (cl n) x
  sh : ∀ (j : Nat) (sh : Sh), p.tb.sh[j]? = some sh → ∃ fn : Fn, p.fs[sh.fn]? = some fn ∧ Bnd K mg sh (fad sh.fn) (ffd sh.fn) fn.ps
  df : ∀ (i : Nat) (f : Fd), p.fs[i]? = some (.df f) → ∃ x params body scope dvs kws, FunD K x x params body scope dvs kws (fad i) (ffd i) ∧ FnScope f.N f.ps scope ∧ mSs p.tb f.N ⟨scope, fun _ => true⟩ f.body body = true
  nat : ∀ (i : Nat) (ps : List Str) (g : List Int → List D → Tw → Res D), p.fs[i]? = some (.nat ps g) → ∀ T, FnOk P w K mg base (CX P w) 1 (fad i) (ffd i) ps (spD K T cl ps.length (g T.ns))
theorem map_get {ds : List D} {n i : Nat} {s : Sl} (h : (ds.map Sl.val ++ List.replicate n Sl.un)[i]? = some s) : (∃ d, s = .val d ∧ ds[i]? = some d) ∨ s = .un := by
  by_cases hi : i < ds.length
  · rw [List.getElem?_append_left (by rw [List.length_map]; exact hi), List.getElem?_map] at h
    obtain ⟨d, e, z⟩ := Option.map_eq_some_iff.mp h
    exact .inl ⟨d, z.symm, e⟩
  · rw [List.getElem?_append_right (by rw [List.length_map]; omega), List.getElem?_replicate] at h
    split at h
    · exact .inr (Option.some.inj h).symm
    · cases h
/-- at a def's entry -/
theorem Rel.start {K : PySem.W.Frag} {T : Tn} {F H : Hp} {t : Tw} {N : List Str} {vs : List V} {ds : List D} (R : RelH K T F H F t H) (rv : RpL K T F vs ds) : Rel K T F H F (startR N ds) t (L2.start N vs) H := by
  refine ⟨R, ?_, fun i d h => ?_, fun i d h => ?_, fun i j d e q h => ?_⟩
  · unfold startR L2.start
    simp [rv.length]
  · rcases map_get h with ⟨d', z, e⟩ | z
    · cases z
      obtain ⟨v, ev, q⟩ := rv.get e
      refine ⟨v, ?_, q⟩
      unfold L2.start
      have hi : i < vs.length := (List.getElem?_eq_some_iff.mp ev).1
      rw [List.getElem?_append_left (by rw [List.length_map]; exact hi), List.getElem?_map, ev]
      rfl
    · cases z
  · rcases map_get h with ⟨d', z, e⟩ | z <;> cases z
  · rcases map_get h with ⟨d', z, e⟩ | z <;> cases z
theorem fnOk {p : Pg} {P : Program} {w : World} {K : PySem.W.Frag} {mg : Str → Option Value} {base : Heap} {cl : Nat → Addr} {fad : Nat → Addr} {ffd : Nat → FuncData} (hd : Hd p P w K mg base cl fad ffd) (T : Tn) :
    ∀ (k i : Nat) (fn : Fn), p.fs[i]? = some fn → FnOk P w K mg base (CX P w) k (fad i) (ffd i) fn.ps (spD K T cl fn.ps.length (callF p T.ns k i)) := by
  intro k
  induction k with
  | zero =>
    intro i fn hf
    refine ⟨fun vs H Q E h => ?_, fun A outer s H args us vs Q E _ _ _ _ h => ?_⟩
    · obtain ⟨_, _, _, _, _, _, z⟩ := h
      exact z.elim
    · obtain ⟨_, _, _, _, _, _, z⟩ := h
      exact z.elim
  | succ k ih =>
    intro i fn hf
    cases fn with
    | nat ps g =>
      have e : callF p T.ns (k + 1) i = g T.ns := by
        funext ds t
        exact callF_nat hf ds t
      rw [e]
      exact (hd.nat i ps g hf T).mono (by omega)
    | df f =>
      obtain ⟨x, params, body, scope, dvs, kws, F, S, hm⟩ := hd.df i f hf
      refine F.ok S (fun vs H Q E h => ?_) fun cdv A outer s H vs Q E hr h => ?_
      · obtain ⟨_, _, _, _, rv, hl, _⟩ := h
        rw [rv.length, hl]
      · obtain ⟨F0, t, ds, R, rv, hl, q⟩ := h
        rw [callF_df hf] at q
        refine ⟨tS ⟨K, T, F0, H, fun n H' => E (.ref (cl n)) none H'⟩ (evSs (gam p T.ns k) p.cs f.body), ?_, F0, startR f.N ds, t, Rel.start R rv, ?_⟩
        · refine sSs (tb := p.tb) (N := f.N) (cl := cl) (c := ⟨scope, fun _ => true⟩) ⟨rfl, rfl, S.nd, rfl, rfl, rfl, ?_, hd.free, fun g x e => ?_, fun j sh e => ?_, ?_, passes_of rfl, fun n x e => ?_⟩ f.body hm
          · have := hr.un
            show (A.deeper (envOfC x scope s.heap.objs.size (fad i) cdv)).units + 200 < cLine
            omega
          · obtain ⟨u, v, a, b, c⟩ := hd.con g x e
            exact ⟨u, v, a, b, c T⟩
          · obtain ⟨fn, e2, b⟩ := hd.sh j sh e
            refine ⟨k, fad sh.fn, ffd sh.fn, fn.ps, callF p T.ns k sh.fn, ?_, hr, b.mg, b.kp, b.b0, b.b1, fun xs ys t => ?_⟩
            · have := ih sh.fn fn e2
              rw [← b.len] at this
              exact this
            · show (match p.tb.sh[j]? with
                | some sh => _
                | none => _) = _
              rw [e]
          · have tk := takes_of (X := cxOf (CX P w) P w K mg base f.N x scope (fad i) cdv A outer s H E) (E := E) rfl rfl rfl rfl
            exact fun u s' z => tk u s' (by
              obtain ⟨a, B, sI, pins, σ, H, cls, d, e, I, nb, up, sky, na, os, ag, wn⟩ := z
              obtain ⟨n, e1, e2, z⟩ := wn
              exact ⟨a, B, sI, pins, σ, H, cls, d, e, I, nb, up, sky, na, os, ag, by rw [e1, e2]; exact z⟩)
          · obtain ⟨a, b, c, d, e⟩ := hd.exc n x e
            exact ⟨a, b, c, raises_own d e⟩
        · cases er : evSs (gam p T.ns k) p.cs f.body (startR f.N ds) t with
          | ok r t' =>
            rw [er] at q
            obtain ⟨fl, r⟩ := r
            cases fl with
            | nx => exact fun F' σ' H' _ R' => q .non F' H' R'.toRelH .non
            | ret d => exact fun v F' H' _ R' rv => q v F' H' R' rv
            | brk => exact q.elim
            | cont => exact q.elim
          | exc n t' =>
            rw [er] at q
            exact fun F' H' _ R' => q F' H' R'
          | bad =>
            rw [er] at q
            exact q.elim
end Fm

/-! ### the law's def: the town is made, then data alone -/
namespace Fm
open PySem PySem.Spec PyProof.Rows L2
def isBegun : List Stmt → Bool
  | [.Return (some (.Dict [some k1, some k2] [.Constant (.int z) _ _, .Dict [] [] _] _)) _] => isStr "count" k1 && isStr "rests" k2 && decide (z = 0)
  | _ => false
def spB : Sp := fun vs H Q _ => vs = [] ∧ ∀ a b H', H a = none → H b = none → a ≠ b → H' a = some (.dK [(.inr "count", .int 0), (.inr "rests", .ref b)]) → H' b = some (.dK []) → (∀ c, c ≠ a → c ≠ b → H' c = H c) → Q (.ref a) H'
theorem begun_ok {CX : CXT} {P : Program} {w : World} {K : PySem.W.Frag} {mg : Str → Option Value} {base : Heap} {x : Str} {params : Arguments} {body : List Stmt} {scope : Scope} {f : Addr} {fd : FuncData} (F : FunD K x x params body scope [] [] f fd) (S : FnScope [] [] scope) (hb : isBegun body = true) :
    FnOk P w K mg base CX 1 f fd [] spB := by
  refine F.ok S (fun vs H Q E h => by rw [h.1]; rfl) fun cdv A outer s H vs Q E hr h => ?_
  unfold isBegun at hb
  split at hb
  · rename_i k1 k2 z j1 q1 q2 q3 q4
    obtain ⟨hb, h3⟩ := and2 hb
    obtain ⟨h1, h2⟩ := and2 hb
    obtain ⟨a1, a2, rfl⟩ := isStr_of h1
    obtain ⟨b1, b2, rfl⟩ := isStr_of h2
    obtain rfl := of_decide_eq_true h3
    refine ⟨_, pss_one (ps_ret (pe_disp (pps_cons pe_str pe_int (pps_cons pe_str pe_dnewK pps_nil)) rfl rfl (by simp) (by simp))), ?_⟩
    obtain ⟨rfl, h⟩ := h
    intro p hp b hb
    obtain ⟨hb, hpb⟩ := upd_none hb
    refine ⟨?_, [(.inr "count", .int 0), (.inr "rests", .ref b)], rfl, by simp, ?_⟩
    · rw [upd_ne (Ne.symm hpb), upd_same]
    · refine h p b _ hp hb (Ne.symm hpb) ?_ ?_ fun c n1 n2 => ?_
      · rw [upd_same]
        rfl
      · rw [upd_ne hpb, upd_same]
      · rw [upd_ne n1, upd_ne n2, upd_ne n1]
  · cases hb
def mLaw (tb : Tb) (N : List Str) (c : Cs) (L : Ss) : List Stmt → Bool
  | .Assign [.Name y _] (.Call (.Name b _) [] [] _) _ :: rest => decide (b = "_law_begun") && glB c b && tgtB N c 1 y && mSs tb N c L rest
  | _ => false
def startL (N : List Str) (ns : List Int) : Rho := (startR N [.scr ns]).set 1 (.val .tok)
def spLaw (K : PySem.W.Frag) : Sp := fun vs H Q _ => ∃ (a : Addr) (ns : List Int), vs = [.ref a] ∧ ns.length ≤ 63 ∧ SqL K H a (ns.map V.int) ∧ ∀ H', Q (.bl true) H'
theorem lawOk {p : Pg} {P : Program} {w : World} {K : PySem.W.Frag} {mg : Str → Option Value} {base : Heap} {cl : Nat → Addr} {fad : Nat → Addr} {ffd : Nat → FuncData} (hd : Hd p P w K mg base cl fad ffd) {k : Nat} {f fB : Addr} {fd fdB : FuncData} {params paramsB : Arguments} {body bodyB : List Stmt} {scope scopeB : Scope}
    {x xB : Str} {N : List Str} {L : Ss} (F : FunD K x x params body scope [] [] f fd) (S : FnScope N ["script"] scope) (hm : mLaw p.tb N ⟨scope, fun _ => true⟩ L body = true) (FB : FunD K xB xB paramsB bodyB scopeB [] [] fB fdB) (SB : FnScope [] [] scopeB) (hB : isBegun bodyB = true)
    (bB : Binds K fdB [] []) (gB : mg "_law_begun" = some (.ref fB)) (hk : 1 ≤ k)
    (hev : ∀ ns : List Int, ns.length ≤ 63 → ∃ r t, evSs (gam p ns k) p.cs L (startL N ns) ⟨0, []⟩ = .ok (.ret (.bl true), r) t) : FnOk P w K mg base (CX P w) (k + 1) f fd ["script"] (spLaw K) := by
  refine F.ok S (fun vs H Q E h => ?_) fun cdv A outer s H vs Q E hr h => ?_
  · obtain ⟨a, ns, rfl, _⟩ := h
    rfl
  · obtain ⟨a, ns, rfl, hns, hS, hQ⟩ := h
    unfold mLaw at hm
    split at hm
    · rename_i y py b pb q1 q2 rest
      obtain ⟨hm, h4⟩ := and2 hm
      obtain ⟨hm, h3⟩ := and2 hm
      obtain ⟨h1, h2⟩ := and2 hm
      obtain rfl := of_decide_eq_true h1
      have tk := takes_of (X := cxOf (CX P w) P w K mg base N x scope f cdv A outer s H E) (E := E) rfl rfl rfl rfl
      have ok : ∀ T F0 H0, T.ns = ns → Ok p.tb N (gam p ns k) p.cs cl (cxOf (CX P w) P w K mg base N x scope f cdv A outer s H E) ⟨K, T, F0, H0, fun n H' => E (.ref (cl n)) none H'⟩ ⟨scope, fun _ => true⟩ := by
        intro T F0 H0 eT
        subst eT
        refine ⟨rfl, rfl, S.nd, rfl, rfl, rfl, ?_, hd.free, fun g x e => ?_, fun j sh e => ?_, ?_, passes_of rfl, fun n x e => ?_⟩
        · have := hr.un
          show (A.deeper (envOfC x scope s.heap.objs.size f cdv)).units + 200 < cLine
          omega
        · obtain ⟨u, v, a, b, c⟩ := hd.con g x e
          exact ⟨u, v, a, b, c T⟩
        · obtain ⟨fn, e2, b⟩ := hd.sh j sh e
          refine ⟨k, fad sh.fn, ffd sh.fn, fn.ps, callF p T.ns k sh.fn, ?_, hr, b.mg, b.kp, b.b0, b.b1, fun xs ys t => ?_⟩
          · have := fnOk hd T k sh.fn fn e2
            rw [← b.len] at this
            exact this
          · show (match p.tb.sh[j]? with
              | some sh => _
              | none => _) = _
            rw [e]
        · exact fun u s' z => tk u s' (by
            obtain ⟨a, B, sI, pins, σ, H, cls, d, e, I, nb, up, sky, na, os, ag, wn⟩ := z
            obtain ⟨n, e1, e2, z⟩ := wn
            exact ⟨a, B, sI, pins, σ, H, cls, d, e, I, nb, up, sky, na, os, ag, by rw [e1, e2]; exact z⟩)
        · obtain ⟨a, b, c, d, e⟩ := hd.exc n x e
          exact ⟨a, b, c, raises_own d e⟩
      have ok0 := ok ⟨0, 0, 0, ns⟩ H H rfl
      obtain ⟨t1, t2, t3⟩ := tgtB_of ok0 h3
      obtain ⟨g1, g2, g3⟩ := glB_of ok0 h2
      have st0 := asg_plain (pos := q2) (py := py) (by rw [ok0.hN]; exact ok0.nd) t1 t2 (pe_call0 (p := pb) (pos := q1) (begun_ok FB SB hB) (hr.mono hk) g1 gB FB.kp bB .nil (passes_call (E := E) tk fun _ _ _ _ h => h) g2) (sw_plain rfl) t3
      refine ⟨_, pss_cons st0 (u := fun D σ H' => ∃ T H0, T.ns = ns ∧ tS ⟨K, T, H, H0, fun n H' => E (.ref (cl n)) none H'⟩ (evSs (gam p ns k) p.cs L) D σ H') ⟨fun pins s1 σ H1 D I h => ?_⟩, ?_⟩
      · obtain ⟨T, H0, eT, h⟩ := h
        exact (sSs (ok T H H0 eT) L h4).run pins s1 σ H1 D I h
      · refine ⟨rfl, fun ta tb H' ha hb hne e1 e2 e3 => ?_⟩
        refine ⟨⟨ta, tb, a, ns⟩, H', rfl, H, startL N ns, ⟨0, []⟩, ?_, ?_⟩
        · have R0 : RelH K ⟨ta, tb, a, ns⟩ H H' H ⟨0, []⟩ H' := by
            refine ⟨fun c o h => ?_, fun _ _ h => .inl h, Same.refl H, fun _ _ h _ _ => h, fun _ h => h, ⟨e1, e2, hne, Nat.zero_le _⟩, ha, hb, hS⟩
            have n1 : c ≠ ta := fun z => by
              rw [z, ha] at h
              cases h
            have n2 : c ≠ tb := fun z => by
              rw [z, hb] at h
              cases h
            rw [e3 c n1 n2]
            exact h
          have hN2 : 1 < N.length := (List.getElem?_eq_some_iff.mp t1).1
          refine ⟨R0, ?_, fun i d h => ?_, fun i d h => ?_, fun i j d e q h => ?_⟩
          · unfold startL startR L2.start
            simp
          · by_cases hi : 1 = i
            · subst hi
              unfold startL at h
              rw [List.getElem?_set_self (by unfold startR; simp; omega)] at h
              cases h
              refine ⟨.ref ta, ?_, .tok⟩
              rw [List.getElem?_set_self (by unfold L2.start; simp; omega)]
            · unfold startL at h
              rw [List.getElem?_set_ne hi] at h
              rw [List.getElem?_set_ne hi]
              rcases map_get h with ⟨d', z, e⟩ | z
              · cases z
                cases i with
                | zero =>
                  cases e
                  exact ⟨.ref a, rfl, .scr⟩
                | succ i => simp at e
              · cases z
          · unfold startL at h
            by_cases hi : 1 = i
            · subst hi
              rw [List.getElem?_set_self (by unfold startR; simp; omega)] at h
              cases h
            · rw [List.getElem?_set_ne hi] at h
              rcases map_get h with ⟨d', z, e⟩ | z <;> cases z
          · unfold startL at h
            by_cases hi : 1 = i
            · subst hi
              rw [List.getElem?_set_self (by unfold startR; simp; omega)] at h
              cases h
            · rw [List.getElem?_set_ne hi] at h
              rcases map_get h with ⟨d', z, e⟩ | z <;> cases z
        · obtain ⟨r, t, er⟩ := hev ns hns
          rw [er]
          intro v F' H2 _ _ rv
          cases rv
          exact hQ H2
    · cases hm
end Fm

/-! ### the head: constants too -/
namespace Fm
open PySem PySem.Spec PyProof.Rows L2
mutual
/-- the value, in the written part, bears the datum -/
def dvB (K : PySem.W.Frag) : D → Value → Bool
  | .non, u => He.relB .non u
  | .bl b, u => He.relB (.bl b) u
  | .int i, u => He.relB (.int i) u
  | .str x, u => He.relB (.str x) u
  | .tup ds, .ref a => (match K.lookup a with
    | some ⟨.type c, _, .seq its _, _⟩ => decide (c = "tuple") && (decide (its.size ≤ sizeLine) && dvsB K ds its.toList)
    | _ => false)
  | _, _ => false
def dvsB (K : PySem.W.Frag) : List D → List Value → Bool
  | [], [] => true
  | d :: ds, u :: us => dvB K d u && dvsB K ds us
  | _, _ => false
end
mutual
theorem dvB_ok {K : PySem.W.Frag} : ∀ (d : D) {u : Value}, dvB K d u = true → ∃ v, RelV v u ∧ ∀ T, Rp K T (fun _ => none) v d
  | .non, u, h => ⟨.non, He.relB_ok (by rw [dvB] at h; exact h), fun _ => .non⟩
  | .bl b, u, h => ⟨.bl b, He.relB_ok (by rw [dvB] at h; exact h), fun _ => .bl b⟩
  | .int i, u, h => ⟨.int i, He.relB_ok (by rw [dvB] at h; exact h), fun _ => .int i⟩
  | .str x, u, h => ⟨.str x, He.relB_ok (by rw [dvB] at h; exact h), fun _ => .str x⟩
  | .tup ds, u, h => by
    cases u with
    | ref a =>
      rw [dvB] at h
      cases q : K.lookup a with
      | none =>
        rw [q] at h
        cases h
      | some o =>
        obtain ⟨oc, od, dt, osl⟩ := o
        rw [q] at h
        cases oc with
        | type c =>
          cases dt with
          | seq its n =>
            obtain ⟨h1, h2⟩ := and2 (show (decide (c = "tuple") && (decide (its.size ≤ sizeLine) && dvsB K ds its.toList)) = true from h)
            obtain ⟨h3, h4⟩ := and2 h2
            obtain ⟨vs, r, t⟩ := dvsB_ok ds h4
            refine ⟨.ref a, rfl, fun T => .tup (xs := vs) (.inr ⟨_, its, n, q, congrArg Value.type (of_decide_eq_true h1), rfl, of_decide_eq_true h3, r⟩) ?_ (t T)⟩
            have := r.length
            have h3 := of_decide_eq_true h3
            rw [this]
            simpa using h3
          | _ => cases h
        | _ => cases dt <;> cases h
    | _ => rw [dvB] at h <;> first | cases h | (intros; intro z; cases z)
  | .lst ds, u, h => by cases u <;> (rw [dvB] at h <;> first | cases h | (intros; intro z; cases z))
  | .dct ds, u, h => by cases u <;> (rw [dvB] at h <;> first | cases h | (intros; intro z; cases z))
  | .tok, u, h => by cases u <;> (rw [dvB] at h <;> first | cases h | (intros; intro z; cases z))
  | .scr _, u, h => by cases u <;> (rw [dvB] at h <;> first | cases h | (intros; intro z; cases z))
theorem dvsB_ok {K : PySem.W.Frag} : ∀ (ds : List D) {us : List Value}, dvsB K ds us = true → ∃ vs, Vals vs us ∧ ∀ T, RpL K T (fun _ => none) vs ds
  | [], [], _ => ⟨[], .nil, fun _ => .nil⟩
  | [], _ :: _, h => by simp [dvsB] at h
  | _ :: _, [], h => by simp [dvsB] at h
  | d :: ds, u :: us, h => by
    rw [dvsB] at h
    obtain ⟨h1, h2⟩ := and2 h
    obtain ⟨v, r, t⟩ := dvB_ok d h1
    obtain ⟨vs, r2, t2⟩ := dvsB_ok ds h2
    exact ⟨v :: vs, .cons r r2, fun T => .cons (t T) (t2 T)⟩
end
def mgB (K : PySem.W.Frag) (x : Str) (d : D) : Bool := match PySem.W.nsIn K mainGlobals x with
  | some (some u) => dvB K d u
  | _ => false
theorem mgB_ok {K : PySem.W.Frag} {h : Heap} {mg : Str → Option Value} (X : K.In h) (G : h.Ns mainGlobals mg) {x : Str} {d : D} (c : mgB K x d = true) : ∃ u v, mg x = some u ∧ RelV v u ∧ ∀ T, Rp K T (fun _ => none) v d := by
  unfold mgB at c
  cases e : PySem.W.nsIn K mainGlobals x with
  | none =>
    rw [e] at c
    cases c
  | some o =>
    rw [e] at c
    cases o with
    | none => cases c
    | some u =>
      obtain ⟨v, r, t⟩ := dvB_ok d c
      exact ⟨u, v, PySem.W.mg_of X G e, r, t⟩
/-! ### the Hook -/
abbrev AlC : Type := Bool × He.AlD
def obsC (fa : List He.Fa) (fn : List He.DefD) (cst : List (Str × D)) (K : PySem.W.Frag) : AlC := (cst.all fun p => mgB K p.1 p.2, He.obsD fa fn K)
def valC (fn : List He.DefD) : AlC := (true, He.valD fn)
def SaysC (fa : List He.Fa) (fn : List He.DefD) (cst : List (Str × D)) (K : PySem.W.Frag) : Prop := obsC fa fn cst K = valC fn
def obsCG (n : Nat) (fa : List He.Fa) (fn : List He.DefD) (cst : List (Str × D)) (g : Addr → Option Obj) : AlC := obsC fa fn cst (He.frG g (He.asD g n))
def hookC (n : Nat) (fa : List He.Fa) (fn : List He.DefD) (cst : List (Str × D)) : PySem.W.Hook where
  α := AlC
  obs := fun s => obsCG n fa fn cst s.heap.get?
  val := fun _ => valC fn
  says := fun _ h => ∃ K : PySem.W.Frag, K.In h ∧ SaysC fa fn cst K
  of := fun _ _ e => ⟨_, He.frG_in, e⟩
  keeps := fun _ _ _ ⟨K, hK, c⟩ k => ⟨K, PySem.W.Frag.In.keeps hK k, c⟩
theorem obsCG_eq {n : Nat} {fa : List He.Fa} {fn : List He.DefD} {cst : List (Str × D)} {g : Addr → Option Obj} {s : Shared} (h : ∀ a, g a = s.heap.get? a) : obsCG n fa fn cst g = (hookC n fa fn cst).obs s := by
  have e : g = s.heap.get? := funext h
  rw [e] <;> rfl
theorem SaysC.d {fa : List He.Fa} {fn : List He.DefD} {cst : List (Str × D)} {K : PySem.W.Frag} (c : SaysC fa fn cst K) : He.SaysD fa fn K := congrArg (fun z : AlC => z.2) c
theorem SaysC.con {fa : List He.Fa} {fn : List He.DefD} {cst : List (Str × D)} {K : PySem.W.Frag} (c : SaysC fa fn cst K) (i : Nat) {x : Str} {d : D} (h : cst[i]? = some (x, d)) : mgB K x d = true := by
  have c1 : (cst.all fun p => mgB K p.1 p.2) = true := congrArg (fun z : AlC => z.1) c
  exact List.all_eq_true.mp c1 _ (List.mem_of_getElem? h)
/-- the scope's check -/
def scB (N ps : List Str) (sc : Scope) : Bool := decide (sc.kind = .function) && !sc.isCoroutine && !sc.isGenerator && decide N.Nodup && decide (N.take ps.length = ps) && (ps.all fun x => decide (sc.names.lookup x = some .local) || decide (sc.names.lookup x = some .cell)) && sc.names.all fun y => decide (y.2 ≠ .free)
theorem scB_ok {N ps : List Str} {sc : Scope} (h : scB N ps sc = true) : FnScope N ps sc := by
  unfold scB at h
  obtain ⟨h, h7⟩ := and2 h
  obtain ⟨h, h6⟩ := and2 h
  obtain ⟨h, h5⟩ := and2 h
  obtain ⟨h, h4⟩ := and2 h
  obtain ⟨h, h3⟩ := and2 h
  obtain ⟨h1, h2⟩ := and2 h
  refine ⟨of_decide_eq_true h1, by simpa using h2, by simpa using h3, of_decide_eq_true h4, of_decide_eq_true h5, fun x hx => ?_, fun y hy => of_decide_eq_true (List.all_eq_true.mp h7 y hy)⟩
  have := List.all_eq_true.mp h6 x hx
  rcases Bool.or_eq_true_iff.mp this with h | h
  · exact .inl (of_decide_eq_true h)
  · exact .inr (of_decide_eq_true h)
/-- a def's check -/
def fdB (tb : Tb) (f : Fd) (d : He.DefD) : Bool := scB f.N f.ps d.scope && mSs tb f.N ⟨d.scope, fun _ => true⟩ f.body d.body && decide (d.name = d.qual)
end Fm

/-! ### the head's facts, all together -/
namespace Fm
open PySem PySem.Spec PyProof.Rows L2
def faOf (fn : List He.DefD) (ex : List Str) : List He.Fa := fn.map (fun d => .glo d.name) ++ (ex.map .glo ++ (ex.map .exc ++ freeNames.map .free))
def fadOf (fn : List He.DefD) (K : PySem.W.Frag) (i : Nat) : Addr := match fn[i]? with
  | some d => He.fAd K d.at_
  | none => 0
def clOf (ex : List Str) (K : PySem.W.Frag) (n : Nat) : Addr := match ex[n]? with
  | some x => He.ga K x
  | none => 0
abbrev FunAt (K : PySem.W.Frag) (d : He.DefD) (fd : FuncData) : Prop := FunD K d.name d.qual d.params d.body d.scope (d.dvs K) (d.kws K) (He.fAd K d.at_) fd
section
variable {fn : List He.DefD} {ex : List Str} {cst : List (Str × D)} {K : PySem.W.Frag} {h : Heap} {mg : Str → Option Value}
theorem fun_all {fa : List He.Fa} (c : SaysC fa fn cst K) {d0 : He.DefD} (h0 : fn[0]? = some d0) : ∃ ffd : Nat → FuncData, ∀ (i : Nat) (d : He.DefD), fn[i]? = some d → FunAt K d (ffd i) := by
  refine Classical.axiomOfChoice (r := fun i fd => ∀ d, fn[i]? = some d → FunAt K d fd) fun i => ?_
  cases e : fn[i]? with
  | none => exact ⟨(c.d.def_ 0 h0).choose, fun d z => by cases z⟩
  | some d =>
    obtain ⟨fd, hf⟩ := c.d.def_ i e
    exact ⟨fd, fun d' z => by cases z; exact hf⟩
theorem fact_of {fa : List He.Fa} (c : SaysC fa fn cst K) {f : He.Fa} (m : f ∈ fa) : f.ok K = true := by
  obtain ⟨i, e⟩ := List.mem_iff_getElem?.mp m
  exact c.d.fact i e
theorem free_all (X : K.In h) (G : h.Ns mainGlobals mg) (c : SaysC (faOf fn ex) fn cst K) : ∀ x ∈ freeNames, mg x = none := fun x hx =>
  He.free_ok X G (fact_of c (List.mem_append_right _ (List.mem_append_right _ (List.mem_append_right _ (List.mem_map_of_mem hx)))))
theorem glo_all (X : K.In h) (G : h.Ns mainGlobals mg) (c : SaysC (faOf fn ex) fn cst K) {i : Nat} {d : He.DefD} (e : fn[i]? = some d) (ha : d.at_ = (d.name, none)) : mg d.name = some (.ref (He.fAd K d.at_)) := by
  have := He.glo_ok X G (fact_of c (List.mem_append_left _ (List.mem_map_of_mem (f := fun d : He.DefD => He.Fa.glo d.name) (List.mem_of_getElem? e))))
  rw [ha]
  exact this
theorem exc_all (X : K.In h) (G : h.Ns mainGlobals mg) (c : SaysC (faOf fn ex) fn cst K) (n : Nat) (x : Str) (e : ex[n]? = some x) : ExcK K mg (clOf ex K n) x := by
  have m := List.mem_of_getElem? e
  have h1 := He.glo_ok X G (fact_of c (List.mem_append_right _ (List.mem_append_left _ (List.mem_map_of_mem (f := He.Fa.glo) m))))
  obtain ⟨a1, a2, a3, a4⟩ := He.exc_ok (fact_of c (List.mem_append_right _ (List.mem_append_right _ (List.mem_append_left _ (List.mem_map_of_mem (f := He.Fa.exc) m)))))
  have e2 : clOf ex K n = He.ga K x := by
    unfold clOf
    rw [e]
  rw [e2]
  exact ⟨a1, h1, a2, a3, a4⟩
def csOf (cst : List (Str × D)) (g : Nat) : D := match cst[g]? with
  | some q => q.2
  | none => .non
theorem con_all {fa : List He.Fa} (X : K.In h) (G : h.Ns mainGlobals mg) (c : SaysC fa fn cst K) (g : Nat) (x : Str) (e : (cst.map (·.1))[g]? = some x) : ∃ u v, mg x = some u ∧ RelV v u ∧ ∀ T, Rp K T (fun _ => none) v (csOf cst g) := by
  rw [List.getElem?_map] at e
  obtain ⟨q, e1, e2⟩ := Option.map_eq_some_iff.mp e
  subst e2
  have e3 : csOf cst g = q.2 := by
    unfold csOf
    rw [e1]
  rw [e3]
  exact mgB_ok X G (c.con g e1)
/-- the defs' check -/
def okDefs (tb : Tb) (fs : List Fd) (fn : List He.DefD) : Bool := decide (fs.length ≤ fn.length) && (fs.zip fn).all (fun q => fdB tb q.1 q.2) && fn.all fun d => decide (d.at_ = (d.name, none)) && decide (d.name = d.qual)
structure ShOk (p : Pg) (fn : List He.DefD) : Prop where
  sh : ∀ (K : PySem.W.Frag) (mg : Str → Option Value) (ffd : Nat → FuncData), (∀ (i : Nat) (d : He.DefD), fn[i]? = some d → FunAt K d (ffd i)) → (∀ (i : Nat) (d : He.DefD), fn[i]? = some d → mg d.name = some (.ref (He.fAd K d.at_))) →
    ∀ (j : Nat) (sh : Sh), p.tb.sh[j]? = some sh → ∃ f : Fn, p.fs[sh.fn]? = some f ∧ Bnd K mg sh (fadOf fn K sh.fn) (ffd sh.fn) f.ps
theorem mkHd {fs : List Fd} {shs : List Sh} (P : Program) (w : World) (base : Heap) (X : K.In h) (G : h.Ns mainGlobals mg) (c : SaysC (faOf fn ex) fn cst K) (ok : okDefs ⟨shs, cst.map (·.1), ex⟩ fs fn = true) (so : ShOk ⟨⟨shs, cst.map (·.1), ex⟩, fs.map .df, csOf cst⟩ fn)
    {ffd : Nat → FuncData} (hf : ∀ (i : Nat) (d : He.DefD), fn[i]? = some d → FunAt K d (ffd i)) : Hd ⟨⟨shs, cst.map (·.1), ex⟩, fs.map .df, csOf cst⟩ P w K mg base (clOf ex K) (fadOf fn K) ffd := by
  obtain ⟨ok, o3⟩ := and2 ok
  obtain ⟨o1, o2⟩ := and2 ok
  have at_ : ∀ (i : Nat) (d : He.DefD), fn[i]? = some d → d.at_ = (d.name, none) ∧ d.name = d.qual := fun i d e => by
    have := List.all_eq_true.mp o3 d (List.mem_of_getElem? e)
    obtain ⟨a, b⟩ := and2 this
    exact ⟨of_decide_eq_true a, of_decide_eq_true b⟩
  refine ⟨free_all X G c, con_all X G c, exc_all X G c, so.sh K mg ffd hf fun i d e => glo_all X G c e (at_ i d e).1, fun i f e => ?_, fun i ps g e => ?_⟩
  · have e : (fs.map Fn.df)[i]? = some (.df f) := e
    rw [List.getElem?_map] at e
    obtain ⟨f', e1, e2⟩ := Option.map_eq_some_iff.mp e
    cases e2
    have hi : i < fs.length := (List.getElem?_eq_some_iff.mp e1).1
    have hl := of_decide_eq_true o1
    have e3 : fn[i]? = some fn[i] := List.getElem?_eq_getElem (by omega)
    have hz : (fs.zip fn)[i]? = some (f, fn[i]) := by
      rw [List.getElem?_zip_eq_some]
      exact ⟨e1, e3⟩
    have := List.all_eq_true.mp o2 _ (List.mem_of_getElem? hz)
    obtain ⟨h1, h3⟩ := and2 (show (scB f.N f.ps fn[i].scope && mSs _ f.N ⟨fn[i].scope, fun _ => true⟩ f.body fn[i].body && decide (fn[i].name = fn[i].qual)) = true from this)
    obtain ⟨h1, h2⟩ := and2 h1
    have F := hf i _ e3
    have h3 : fn[i].name = fn[i].qual := of_decide_eq_true h3
    have ea : fadOf fn K i = He.fAd K fn[i].at_ := by
      unfold fadOf
      rw [e3]
    have F : FunD K fn[i].name fn[i].qual fn[i].params fn[i].body fn[i].scope (fn[i].dvs K) (fn[i].kws K) (fadOf fn K i) (ffd i) := by
      rw [ea]
      exact F
    refine ⟨fn[i].name, fn[i].params, fn[i].body, fn[i].scope, fn[i].dvs K, fn[i].kws K, ?_, scB_ok h1, h2⟩
    rw [← h3] at F
    exact F
  · have e : (fs.map Fn.df)[i]? = some (.nat ps g) := e
    rw [List.getElem?_map] at e
    obtain ⟨f', e1, e2⟩ := Option.map_eq_some_iff.mp e
    cases e2
end
/-- the law's own check -/
def okLaw (tb : Tb) (N : List Str) (L : Ss) (dL dB : He.DefD) : Bool := scB N ["script"] dL.scope && mLaw tb N ⟨dL.scope, fun _ => true⟩ L dL.body && (scB [] [] dB.scope && isBegun dB.body) && (decide (dL.dfl.length = 0) && decide (dL.kwd.length = 0) && decide (dB.dfl.length = 0) && decide (dB.kwd.length = 0)) && (decide (dL.name = dL.qual) && decide (dB.name = dB.qual) && decide (dL.at_ = (dL.name, none)) && decide (dB.at_ = (dB.name, none)) && decide (dL.name = "law") && decide (dB.name = "_law_begun"))
theorem lawFacts {fn : List He.DefD} {ex : List Str} {cst : List (Str × D)} {K : PySem.W.Frag} {h : Heap} {mg : Str → Option Value} {fs : List Fd} {shs : List Sh} {P : Program} {w : World} {f : Addr} (X : K.In h) (G : h.Ns mainGlobals mg) (c : SaysC (faOf fn ex) fn cst K)
    (ok : okDefs ⟨shs, cst.map (·.1), ex⟩ fs fn = true) (so : ShOk ⟨⟨shs, cst.map (·.1), ex⟩, fs.map .df, csOf cst⟩ fn) {N : List Str} {L : Ss} {dL dB : He.DefD} {iL iB k : Nat} (eL : fn[iL]? = some dL) (eB : fn[iB]? = some dB) {d0 : He.DefD} (e0 : fn[0]? = some d0)
    (okL : okLaw ⟨shs, cst.map (·.1), ex⟩ N L dL dB = true) (hfa : mg ("law" : Str) = some (.ref f))
    (bL : ∀ (kV doc pm : Value) (an : Option Addr) (cdv ct : Value) (us : List Value), us.length = 1 → bindArgs (PySem.W.fnOf dL.name dL.qual dL.params dL.body dL.scope .none kV doc pm an cdv ct) ⟨us, []⟩ = pure ((["script"] : List Str).zip us))
    (bB : ∀ (kV doc pm : Value) (an : Option Addr) (cdv ct : Value) (us : List Value), us.length = 0 → bindArgs (PySem.W.fnOf dB.name dB.qual dB.params dB.body dB.scope .none kV doc pm an cdv ct) ⟨us, []⟩ = pure (([] : List Str).zip us)) (hk : 1 ≤ k)
    (hev : ∀ ns : List Int, ns.length ≤ 63 → ∃ r t, evSs (gam ⟨⟨shs, cst.map (·.1), ex⟩, fs.map .df, csOf cst⟩ ns k) (csOf cst) L (startL N ns) ⟨0, []⟩ = .ok (.ret (.bl true), r) t) :
    ∃ fd : FuncData, (∀ (s : Shared) (v : Value), BindsTo s fd ⟨[v], []⟩ [("script", v)]) ∧ ∀ base : Heap, K.In base → base.Ns mainGlobals mg → FnOk P w K mg base (CX P w) (k + 1) f fd ["script"] (spLaw K) := by
  obtain ⟨ffd, hf⟩ := fun_all c e0
  have FL := hf iL dL eL
  have FB := hf iB dB eB
  unfold okLaw at okL
  obtain ⟨okL, o4⟩ := and2 okL
  obtain ⟨okL, o3⟩ := and2 okL
  obtain ⟨okL, o2⟩ := and2 okL
  obtain ⟨o1a, o1b⟩ := and2 okL
  obtain ⟨o2a, o2b⟩ := and2 o2
  obtain ⟨o3, o3d⟩ := and2 o3
  obtain ⟨o3, o3c⟩ := and2 o3
  obtain ⟨o3a, o3b⟩ := and2 o3
  obtain ⟨o4, n6⟩ := and2 o4
  obtain ⟨o4, n5⟩ := and2 o4
  obtain ⟨o4, n4⟩ := and2 o4
  obtain ⟨o4, n3⟩ := and2 o4
  obtain ⟨n1, n2⟩ := and2 o4
  have z1 : dL.dvs K = [] := by
    have := List.length_eq_zero_iff.mp (of_decide_eq_true o3a)
    unfold He.DefD.dvs
    rw [this]
    rfl
  have z2 : dL.kws K = [] := by
    have := List.length_eq_zero_iff.mp (of_decide_eq_true o3b)
    unfold He.DefD.kws
    rw [this]
    rfl
  have z3 : dB.dvs K = [] := by
    have := List.length_eq_zero_iff.mp (of_decide_eq_true o3c)
    unfold He.DefD.dvs
    rw [this]
    rfl
  have z4 : dB.kws K = [] := by
    have := List.length_eq_zero_iff.mp (of_decide_eq_true o3d)
    unfold He.DefD.kws
    rw [this]
    rfl
  have FL : FunD K dL.name dL.qual dL.params dL.body dL.scope [] [] (He.fAd K dL.at_) (ffd iL) := by
    have FL := FL
    unfold FunAt at FL
    rw [z1, z2] at FL
    exact FL
  have FB : FunD K dB.name dB.qual dB.params dB.body dB.scope [] [] (He.fAd K dB.at_) (ffd iB) := by
    have FB := FB
    unfold FunAt at FB
    rw [z3, z4] at FB
    exact FB
  have gL := glo_all X G c eL (of_decide_eq_true n3)
  have gB := glo_all X G c eB (of_decide_eq_true n4)
  rw [of_decide_eq_true n5, hfa] at gL
  rw [of_decide_eq_true n6] at gB
  have ef : f = He.fAd K dL.at_ := by
    injection gL with q
    injection q
  have b := FunD.bindsA (ps := ["script"]) FL bL
  refine ⟨ffd iL, fun s v => b s [v] rfl, fun base _ _ => ?_⟩
  have hd := mkHd P w base X G c ok so hf
  have n1 : dL.name = dL.qual := of_decide_eq_true n1
  have n2 : dB.name = dB.qual := of_decide_eq_true n2
  rw [ef]
  rw [← n1] at FL
  have bb := FunD.bindsN (ps := []) FB bB
  rw [← n2] at FB
  exact lawOk hd FL (scB_ok o1a) o1b FB (scB_ok o2a) o2b bb gB hk hev
/-- from the law's promise to the row: an exception's shape goes by the world -/
theorem walkC {l : PySem.W.OpenLaw} {n k : Nat} {q : Program} {loose : List Str} {XP : (Str → Option Value) → Heap → Prop} {YP : World → Heap → Prop} {d : DefRec} {x : Str} (hn : l.most = some n) (hn2 : n ≤ sizeLine) (hdf : d.params.defaults = []) (hr : Room k callerA)
    (F : ∀ (w : World) (mg : Str → Option Value) (fa : Addr) (h : Heap), YP w h → h.Ns mainGlobals mg → mg d.name = some (.ref fa) → ∃ (K : PySem.W.Frag) (fd : FuncData) (sp : Sp), K.In h ∧ (∀ (s : Shared) (u : Value), BindsTo s fd ⟨[u], []⟩ [(x, u)]) ∧
        (∀ (H : Hp) (a : Addr) (ns : List Int), ns.length ≤ n → Only H → SqL K H a (ns.map V.int) → sp [.ref a] H (fun v _ => v = .bl true) fun _ _ _ => False) ∧ ∀ base : Heap, K.In base → base.Ns mainGlobals mg → FnOk l.prog w K mg base (CX l.prog w) k fa fd [x] sp) :
    PySem.W.WalkO q loose XP YP l.row.toRowW d [] (fun f vs => PySem.call f vs) := by
  refine Att.attach_call hn hdf fun w s₀ s₁ mg mb fa o pm cd doc a vs ns G Y ho hd hcd hmg hobj hints hlen hg => ?_
  obtain ⟨K, fd, sp, kx, hb, hs, hF⟩ := F w mg fa _ Y G.T.g hmg
  refine law_call kx G.T.g G.T.b G.T.builtins G.T.nolimit hg hobj hints (Nat.le_trans hlen hn2) hr hF hb (fun H hO hS => hs H a ns hlen hO hS) fun H e s' z => ?_
  obtain ⟨_, _, _, _, _, _, _, _, _, _, _, _, z⟩ := z
  exact z
end Fm

/-! ### plain reckoning with the evaluator -/
namespace Fm
open PySem
section
variable {G : Gam} {cs : Nat → D} {r : Rho} {t : Tw}
@[simp] theorem x_ev_cst (k : Cst) : ev G cs (.cst k) r t = (fun _ t => .ok k.d t) r t := by first | (rw [ev_cst]; done) | (rw [ev_cst]; rfl)
@[simp] theorem x_ev_var (i : Nat) : ev G cs (.var i) r t = (fun r t => match r[i]? with
    | some (.val d) => .ok d t
    | _ => .bad) r t := by first | (rw [ev_var]; done) | (rw [ev_var]; rfl)
@[simp] theorem x_ev_bor (i : Nat) : ev G cs (.bor i) r t = (fun r t => match r[i]? with
    | some (.val d) => .ok d t
    | some (.own d) => .ok d t
    | _ => .bad) r t := by first | (rw [ev_bor]; done) | (rw [ev_bor]; rfl)
@[simp] theorem x_ev_glob (g : Nat) : ev G cs (.glob g) r t = (fun _ t => .ok (cs g) t) r t := by first | (rw [ev_glob]; done) | (rw [ev_glob]; rfl)
@[simp] theorem x_ev_bin (op : Operator) (a b : E) : ev G cs (.bin op a b) r t = (fun r t => (ev G cs a r t).bind fun x t1 => (ev G cs b r t1).bind fun y t2 => lift (binD op x y) t2) r t := by first | (rw [ev_bin]; done) | (rw [ev_bin]; rfl)
@[simp] theorem x_ev_cat (a b : E) : ev G cs (.cat a b) r t = (fun r t => (ev G cs a r t).bind fun x t1 => (ev G cs b r t1).bind fun y t2 => lift (catD x y) t2) r t := by first | (rw [ev_cat]; done) | (rw [ev_cat]; rfl)
@[simp] theorem x_ev_neg (a : E) : ev G cs (.neg a) r t = (fun r t => (ev G cs a r t).bind fun x t1 => lift (negD x) t1) r t := by first | (rw [ev_neg]; done) | (rw [ev_neg]; rfl)
@[simp] theorem x_ev_not (a : E) : ev G cs (.not a) r t = (fun r t => (ev G cs a r t).bind fun x t1 => lift (notD x) t1) r t := by first | (rw [ev_not]; done) | (rw [ev_not]; rfl)
@[simp] theorem x_ev_and (a b : E) : ev G cs (.and a b) r t = (andE (ev G cs a) (ev G cs b)) r t := by first | (rw [ev_and]; done) | (rw [ev_and]; rfl)
@[simp] theorem x_ev_or (a b : E) : ev G cs (.or a b) r t = (orE (ev G cs a) (ev G cs b)) r t := by first | (rw [ev_or]; done) | (rw [ev_or]; rfl)
@[simp] theorem x_ev_ite (k a b : E) : ev G cs (.ite k a b) r t = (iteE (ev G cs k) (ev G cs a) (ev G cs b)) r t := by first | (rw [ev_ite]; done) | (rw [ev_ite]; rfl)
@[simp] theorem x_ev_cmp (op : CmpOp) (a b : E) : ev G cs (.cmp op a b) r t = (fun r t => (ev G cs a r t).bind fun x t1 => (ev G cs b r t1).bind fun y t2 => lift (cmpD op x y) t2) r t := by first | (rw [ev_cmp]; done) | (rw [ev_cmp]; rfl)
@[simp] theorem x_ev_chain (o1 o2 : CmpOp) (a b k : E) : ev G cs (.chain o1 o2 a b k) r t = (chainE o1 o2 (ev G cs a) (ev G cs b) (ev G cs k)) r t := by first | (rw [ev_chain]; done) | (rw [ev_chain]; rfl)
@[simp] theorem x_ev_ix (a b : E) : ev G cs (.ix a b) r t = (fun r t => (ev G cs a r t).bind fun x t1 => (ev G cs b r t1).bind fun y t2 => lift (ixD x y) t2) r t := by first | (rw [ev_ix]; done) | (rw [ev_ix]; rfl)
@[simp] theorem x_ev_dix (a b : E) : ev G cs (.dix a b) r t = (fun r t => (ev G cs a r t).bind fun x t1 => (ev G cs b r t1).bind fun y t2 => lift (dixD x y) t2) r t := by first | (rw [ev_dix]; done) | (rw [ev_dix]; rfl)
@[simp] theorem x_ev_cut (a : E) (lo hi : O) : ev G cs (.cut a lo hi) r t = (cutE (ev G cs a) (evO G cs lo) (evO G cs hi)) r t := by first | (rw [ev_cut]; done) | (rw [ev_cut]; rfl)
@[simp] theorem x_ev_tup (es : Es) : ev G cs (.tup es) r t = (fun r t => (evs G cs es r t).bind fun xs t1 => if okLen xs.length then .ok (.tup xs) t1 else .bad) r t := by first | (rw [ev_tup]; done) | (rw [ev_tup]; rfl)
@[simp] theorem x_ev_lst (es : Es) : ev G cs (.lst es) r t = (fun r t => (evs G cs es r t).bind fun xs t1 => if okLen xs.length then .ok (.lst xs) t1 else .bad) r t := by first | (rw [ev_lst]; done) | (rw [ev_lst]; rfl)
@[simp] theorem x_ev_call (i : Nat) (es ks : Es) : ev G cs (.call i es ks) r t = (fun r t => (evs G cs es r t).bind fun xs t1 => (evs G cs ks r t1).bind fun ys t2 => G i xs ys t2) r t := by first | (rw [ev_call]; done) | (rw [ev_call]; rfl)
@[simp] theorem x_ev_blt (b : Blt) (a : E) : ev G cs (.blt b a) r t = (fun r t => (ev G cs a r t).bind fun x t1 => lift (blt1 b x) t1) r t := by first | (rw [ev_blt]; done) | (rw [ev_blt]; rfl)
@[simp] theorem x_ev_isa (a : E) (T : Ty) : ev G cs (.isa a T) r t = (fun r t => (ev G cs a r t).bind fun x t1 => lift ((isaD x T).map D.bl) t1) r t := by first | (rw [ev_isa]; done) | (rw [ev_isa]; rfl)
@[simp] theorem x_ev_get (a k d : E) : ev G cs (.get a k d) r t = (getE (ev G cs a) (ev G cs k) (ev G cs d)) r t := by first | (rw [ev_get]; done) | (rw [ev_get]; rfl)
@[simp] theorem x_ev_rev (a : E) : ev G cs (.rev a) r t = (fun r t => (ev G cs a r t).bind fun x t1 => lift (revD x) t1) r t := by first | (rw [ev_rev]; done) | (rw [ev_rev]; rfl)
@[simp] theorem x_ev_tcount (i : Nat) : ev G cs (.tcount i) r t = (tcountE i) r t := by first | (rw [ev_tcount]; done) | (rw [ev_tcount]; rfl)
@[simp] theorem x_ev_tget (i : Nat) (k d : E) : ev G cs (.tget i k d) r t = (tgetE i (ev G cs k) (ev G cs d)) r t := by first | (rw [ev_tget]; done) | (rw [ev_tget]; rfl)
@[simp] theorem x_evO_none : evO G cs .none r t = (fun _ t => .ok none t) r t := by first | (rw [evO_none]; done) | (rw [evO_none]; rfl)
@[simp] theorem x_evO_some (e : E) : evO G cs (.some e) r t = (fun r t => (ev G cs e r t).bind fun x t1 => .ok (some x) t1) r t := by first | (rw [evO_some]; done) | (rw [evO_some]; rfl)
@[simp] theorem x_evs_nil : evs G cs .nil r t = (fun _ t => .ok [] t) r t := by first | (rw [evs_nil]; done) | (rw [evs_nil]; rfl)
@[simp] theorem x_evs_cons (e : E) (es : Es) : evs G cs (.cons e es) r t = (fun r t => (ev G cs e r t).bind fun x t1 => (evs G cs es r t1).bind fun xs t2 => .ok (x :: xs) t2) r t := by first | (rw [evs_cons]; done) | (rw [evs_cons]; rfl)
@[simp] theorem x_evI_val (e : E) : evI G cs (.val e) r t = (evV (ev G cs e)) r t := by first | (rw [evI_val]; done) | (rw [evI_val]; rfl)
@[simp] theorem x_evI_rng1 (a : E) : evI G cs (.rng1 a) r t = (fun r t => (ev G cs a r t).bind fun x t1 => match x with
    | .int j => if okRng j then .ok (rngD 0 j.toNat) t1 else .bad
    | _ => .bad) r t := by first | (rw [evI_rng1]; done) | (rw [evI_rng1]; rfl)
@[simp] theorem x_evI_rng2 (a b : E) : evI G cs (.rng2 a b) r t = (fun r t => (ev G cs a r t).bind fun x t1 => (ev G cs b r t1).bind fun y t2 => match x, y with
    | .int i, .int j => if okRng i && okRng j then .ok (rngD i (j - i).toNat) t2 else .bad
    | _, _ => .bad) r t := by first | (rw [evI_rng2]; done) | (rw [evI_rng2]; rfl)
@[simp] theorem x_evI_zip (a b : E) : evI G cs (.zip a b) r t = (zipE (ev G cs a) (ev G cs b)) r t := by first | (rw [evI_zip]; done) | (rw [evI_zip]; rfl)
@[simp] theorem x_evI_zipN (a b : E) : evI G cs (.zipN a b) r t = (zipNE (ev G cs a) (ev G cs b)) r t := by first | (rw [evI_zipN]; done) | (rw [evI_zipN]; rfl)
@[simp] theorem x_evI_enum (a : E) : evI G cs (.enum a) r t = (enumE (ev G cs a)) r t := by first | (rw [evI_enum]; done) | (rw [evI_enum]; rfl)
@[simp] theorem x_evS_asg (tg : Tg) (e : E) : evS G cs (.asg tg e) r t = (fun r t => (ev G cs e r t).bind fun x t1 => Fm.lift ((setT tg x r).map fun r1 => (.nx, r1)) t1) r t := by first | (rw [evS_asg]; done) | (rw [evS_asg]; rfl)
@[simp] theorem x_evS_par (is : List Nat) (es : Es) : evS G cs (.par is es) r t = (parE is (evs G cs es)) r t := by first | (rw [evS_par]; done) | (rw [evS_par]; rfl)
@[simp] theorem x_evS_star (i j : Nat) (e : E) : evS G cs (.star i j e) r t = (starE i j (ev G cs e)) r t := by first | (rw [evS_star]; done) | (rw [evS_star]; rfl)
@[simp] theorem x_evS_aug (i : Nat) (op : Operator) (e : E) : evS G cs (.aug i op e) r t = (augE i op (ev G cs e)) r t := by first | (rw [evS_aug]; done) | (rw [evS_aug]; rfl)
@[simp] theorem x_evS_ret (e : E) : evS G cs (.ret e) r t = (fun r t => (ev G cs e r t).bind fun x t1 => .ok (.ret x, r) t1) r t := by first | (rw [evS_ret]; done) | (rw [evS_ret]; rfl)
@[simp] theorem x_evS_ite (k : E) (a b : Ss) : evS G cs (.ite k a b) r t = (iteS (ev G cs k) (evSs G cs a) (evSs G cs b)) r t := by first | (rw [evS_ite]; done) | (rw [evS_ite]; rfl)
@[simp] theorem x_evS_for (tg : Tg) (it : I) (b : Ss) : evS G cs (.for tg it b) r t = (forE tg (evI G cs it) (evSs G cs b)) r t := by first | (rw [evS_for]; done) | (rw [evS_for]; rfl)
@[simp] theorem x_evS_while (k : E) (b : Ss) : evS G cs (.while k b) r t = (loopW (ev G cs k) (evSs G cs b)) r t := by first | (rw [evS_while]; done) | (rw [evS_while]; rfl)
@[simp] theorem x_evS_exp (e : E) : evS G cs (.exp e) r t = (fun r t => (ev G cs e r t).bind fun _ t1 => .ok (.nx, r) t1) r t := by first | (rw [evS_exp]; done) | (rw [evS_exp]; rfl)
@[simp] theorem x_evS_new (i : Nat) (e : E) : evS G cs (.new i e) r t = (fun r t => (ev G cs e r t).bind fun x t1 => okSet r i (.own x) t1) r t := by first | (rw [evS_new]; done) | (rw [evS_new]; rfl)
@[simp] theorem x_evS_app (i : Nat) (e : E) : evS G cs (.app i e) r t = (appE i (ev G cs e)) r t := by first | (rw [evS_app]; done) | (rw [evS_app]; rfl)
@[simp] theorem x_evS_put (i : Nat) (k e : E) : evS G cs (.put i k e) r t = (putE i (ev G cs k) (ev G cs e)) r t := by first | (rw [evS_put]; done) | (rw [evS_put]; rfl)
@[simp] theorem x_evS_putL (i : Nat) (k e : E) : evS G cs (.putL i k e) r t = (putLE i (ev G cs k) (ev G cs e)) r t := by first | (rw [evS_putL]; done) | (rw [evS_putL]; rfl)
@[simp] theorem x_evS_frz (i : Nat) : evS G cs (.frz i) r t = (frzE i) r t := by first | (rw [evS_frz]; done) | (rw [evS_frz]; rfl)
@[simp] theorem x_evS_tcnt (i : Nat) (e : E) : evS G cs (.tcnt i e) r t = (tcntE i (ev G cs e)) r t := by first | (rw [evS_tcnt]; done) | (rw [evS_tcnt]; rfl)
@[simp] theorem x_evS_trst (i : Nat) (k e : E) : evS G cs (.trst i k e) r t = (trstE i (ev G cs k) (ev G cs e)) r t := by first | (rw [evS_trst]; done) | (rw [evS_trst]; rfl)
@[simp] theorem x_evS_brk : evS G cs .brk r t = (fun r t => .ok (.brk, r) t) r t := by first | (rw [evS_brk]; done) | (rw [evS_brk]; rfl)
@[simp] theorem x_evS_cont : evS G cs .cont r t = (fun r t => .ok (.cont, r) t) r t := by first | (rw [evS_cont]; done) | (rw [evS_cont]; rfl)
@[simp] theorem x_evS_raise (n : Nat) (x : Str) : evS G cs (.raise n x) r t = (fun _ t => .exc n t) r t := by first | (rw [evS_raise]; done) | (rw [evS_raise]; rfl)
@[simp] theorem x_evSs_nil : evSs G cs .nil r t = (nilE) r t := by first | (rw [evSs_nil]; done) | (rw [evSs_nil]; rfl)
@[simp] theorem x_evSs_cons (s : S) (q : Ss) : evSs G cs (.cons s q) r t = consE (evS G cs s) (evSs G cs q) r t := by rw [evSs_cons]
end
section
variable {f g : Rho → Tw → Res (Fl × Rho)} {fa fb fc : Rho → Tw → Res D} {fs : Rho → Tw → Res (List D)} {fo fp : Rho → Tw → Res (Option D)} {r : Rho} {t : Tw}
@[simp] theorem x_chainE (o1 o2 : CmpOp) (fa fb fc : Rho → Tw → Res D) (r : Rho) (t : Tw) : chainE o1 o2 fa fb fc r t = ( (fa r t).bind fun x t1 => (fb r t1).bind fun y t2 => match cmpD o1 x y with
    | some (.bl true) => (fc r t2).bind fun z t3 => Fm.lift (cmpD o2 y z) t3
    | some (.bl false) => .ok (.bl false) t2
    | _ => .bad) := rfl
@[simp] theorem x_andE (fa fb : Rho → Tw → Res D) (r : Rho) (t : Tw) : andE fa fb r t = ( (fa r t).bind fun x t1 => match truD x with
    | some true => fb r t1
    | some false => .ok x t1
    | none => .bad) := rfl
@[simp] theorem x_orE (fa fb : Rho → Tw → Res D) (r : Rho) (t : Tw) : orE fa fb r t = ( (fa r t).bind fun x t1 => match truD x with
    | some true => .ok x t1
    | some false => fb r t1
    | none => .bad) := rfl
@[simp] theorem x_iteE (fc fa fb : Rho → Tw → Res D) (r : Rho) (t : Tw) : iteE fc fa fb r t = ( (fc r t).bind fun x t1 => match truD x with
    | some true => fa r t1
    | some false => fb r t1
    | none => .bad) := rfl
@[simp] theorem x_cutE (fa : Rho → Tw → Res D) (fl fh : Rho → Tw → Res (Option D)) (r : Rho) (t : Tw) : cutE fa fl fh r t = ( (fa r t).bind fun x t1 => (fl r t1).bind fun l t2 => (Fm.lift (optI l) t2).bind fun l t2 => (fh r t2).bind fun h t3 => (Fm.lift (optI h) t3).bind fun h t3 => Fm.lift (cutD x l h) t3) := rfl
@[simp] theorem x_getE (fa fb fc : Rho → Tw → Res D) (r : Rho) (t : Tw) : getE fa fb fc r t = ( (fa r t).bind fun x t1 => match x with
    | .dct kvs => (fb r t1).bind fun y t2 => (fc r t2).bind fun z t3 => (match keyD y with
      | some k => .ok ((lookD kvs k).getD z) t3
      | none => .bad)
    | _ => .bad) := rfl
@[simp] theorem x_evV (f : Rho → Tw → Res D) (r : Rho) (t : Tw) : evV f r t = ( (f r t).bind fun x t1 => match x with
    | .tup xs => .ok xs t1
    | .lst xs => .ok xs t1
    | .str x => .ok (strD x) t1
    | _ => .bad) := rfl
@[simp] theorem x_zipE (fa fb : Rho → Tw → Res D) (r : Rho) (t : Tw) : zipE fa fb r t = ( (fa r t).bind fun x t1 => (fb r t1).bind fun y t2 => match x, y with
    | .tup xs, .tup ys => .ok (zipD xs ys) t2
    | .lst xs, .lst ys => .ok (zipD xs ys) t2
    | _, _ => .bad) := rfl
@[simp] theorem x_enumE (fa : Rho → Tw → Res D) (r : Rho) (t : Tw) : enumE fa r t = ( (fa r t).bind fun x t1 => match x with
    | .lst xs => .ok (enumD 0 xs) t1
    | _ => .bad) := rfl
@[simp] theorem x_turnE (tg : Tg) (vs : List Nat) (fc : Rho → Tw → Res (Option D)) (fe : Rho → Tw → Res D) (r : Rho) (d : D) (t : Tw) : turnE tg vs fc fe r d t = ( match setT tg d (wipeR r vs) with
        | some r2 => (fc r2 t).bind fun o t => match o with
          | none => (fe r2 t).bind fun x t => .ok (some x) t
          | some y => match truD y with
            | some true => (fe r2 t).bind fun x t => .ok (some x) t
            | some false => .ok none t
            | none => .bad
        | none => .bad) := rfl
@[simp] theorem x_zipNE (fa fb : Rho → Tw → Res D) (r : Rho) (t : Tw) : zipNE fa fb r t = ( (fa r t).bind fun x t1 => (fb r t1).bind fun y t2 => match x, y with
    | .tup xs, .tup ys => .ok (zipD xs ys) t2
    | _, _ => .bad) := rfl
@[simp] theorem x_compE (tg : Tg) (vs : List Nat) (fi : Rho → Tw → Res (List D)) (fc : Rho → Tw → Res (Option D)) (fe : Rho → Tw → Res D) (r : Rho) (t : Tw) : compE tg vs fi fc fe r t = (
  (fi r t).bind fun xs t1 => if okLen xs.length then (compL (turnE tg vs fc fe r) xs t1).bind fun ys t2 => .ok (.lst ys) t2 else .bad) := rfl
@[simp] theorem x_nilE (r : Rho) (t : Tw) : nilE r t = ( .ok (.nx, r) t) := rfl
@[simp] theorem x_consE (f g : Rho → Tw → Res (Fl × Rho)) (r : Rho) (t : Tw) : consE f g r t = ( (f r t).bind fun p t1 => match p with
    | (.nx, r1) => g r1 t1
    | q => .ok q t1) := rfl
@[simp] theorem x_iteS (fc : Rho → Tw → Res D) (f g : Rho → Tw → Res (Fl × Rho)) (r : Rho) (t : Tw) : iteS fc f g r t = ( (fc r t).bind fun x t1 => match truD x with
    | some true => f r t1
    | some false => g r t1
    | none => .bad) := rfl
@[simp] theorem x_parE (is : List Nat) (fs : Rho → Tw → Res (List D)) (r : Rho) (t : Tw) : parE is fs r t = ( (fs r t).bind fun xs t1 => Fm.lift ((setAll is xs r).map fun r1 => (.nx, r1)) t1) := rfl
@[simp] theorem x_frzE (i : Nat) (r : Rho) (t : Tw) : frzE i r t = ( match r[i]? with
    | some (.own d) => .ok (.nx, r.set i (.val d)) t
    | some (.val _) => .ok (.nx, r) t
    | _ => .bad) := rfl
@[simp] theorem x_appE (i : Nat) (fa : Rho → Tw → Res D) (r : Rho) (t : Tw) : appE i fa r t = ( match r[i]? with
    | some (.own (.lst xs)) => (fa r t).bind fun x t1 => if decide (xs.length < 16777216) then .ok (.nx, r.set i (.own (.lst (xs ++ [x])))) t1 else .bad
    | _ => .bad) := rfl
@[simp] theorem x_putE (i : Nat) (fk fa : Rho → Tw → Res D) (r : Rho) (t : Tw) : putE i fk fa r t = ( match r[i]? with
    | some (.own (.dct kvs)) => (fa r t).bind fun x t1 => (fk r t1).bind fun y t2 => (match keyD y with
      | some k => if decide (kvs.length < 16777216) then .ok (.nx, r.set i (.own (.dct (putD kvs k x)))) t2 else .bad
      | none => .bad)
    | _ => .bad) := rfl
@[simp] theorem x_putLE (i : Nat) (fk fa : Rho → Tw → Res D) (r : Rho) (t : Tw) : putLE i fk fa r t = ( match r[i]? with
    | some (.own (.lst xs)) => (fa r t).bind fun x t1 => (fk r t1).bind fun y t2 => (match y with
      | .int j => (match L2.ixN xs.length j with
        | some n => .ok (.nx, r.set i (.own (.lst (xs.set n x)))) t2
        | none => .bad)
      | _ => .bad)
    | _ => .bad) := rfl
@[simp] theorem x_augE (i : Nat) (op : Operator) (fa : Rho → Tw → Res D) (r : Rho) (t : Tw) : augE i op fa r t = ( match r[i]? with
    | some (.val x) => (fa r t).bind fun y t1 => match x, y with
      | .int _, .int _ => Fm.lift ((binD op x y).map fun z => (.nx, r.set i (.val z))) t1
      | _, _ => .bad
    | _ => .bad) := rfl
@[simp] theorem x_forE (tg : Tg) (fi : Rho → Tw → Res (List D)) (f : Rho → Tw → Res (Fl × Rho)) (r : Rho) (t : Tw) : forE tg fi f r t = ( (fi r t).bind fun xs t1 => loopF (fun d r t => match setT tg d r with
    | some r1 => f r1 t
    | none => .bad) xs r t1) := rfl
@[simp] theorem x_starE (i j : Nat) (fa : Rho → Tw → Res D) (r : Rho) (t : Tw) : starE i j fa r t = ( (fa r t).bind fun x t1 => match x with
    | .tup (y :: ys) => if decide (i < r.length) && decide (j < r.length) && decide (ys.length < 16384) then .ok (.nx, (r.set i (.val y)).set j (.val (.lst ys))) t1 else .bad
    | _ => .bad) := rfl
@[simp] theorem x_tcountE (i : Nat) (r : Rho) (t : Tw) : tcountE i r t = ( match r[i]? with
    | some (.val .tok) => .ok (.int t.count) t
    | _ => .bad) := rfl
@[simp] theorem x_tgetE (i : Nat) (fk fd : Rho → Tw → Res D) (r : Rho) (t : Tw) : tgetE i fk fd r t = ( match r[i]? with
    | some (.val .tok) => (fk r t).bind fun y t1 => (fd r t1).bind fun z t2 => (match y, z with
      | .int a, .int b => .ok (.int ((lkT t2.rests a).getD b)) t2
      | _, _ => .bad)
    | _ => .bad) := rfl
@[simp] theorem x_tcntE (i : Nat) (fa : Rho → Tw → Res D) (r : Rho) (t : Tw) : tcntE i fa r t = ( match r[i]? with
    | some (.val .tok) => (fa r t).bind fun x t1 => (match x with
      | .int c => .ok (.nx, r) { t1 with count := c }
      | _ => .bad)
    | _ => .bad) := rfl
@[simp] theorem x_trstE (i : Nat) (fk fa : Rho → Tw → Res D) (r : Rho) (t : Tw) : trstE i fk fa r t = ( match r[i]? with
    | some (.val .tok) => (fa r t).bind fun x t1 => (fk r t1).bind fun y t2 => (match x, y with
      | .int v, .int a => if decide (t2.rests.length < 1000000) then .ok (.nx, r) { t2 with rests := putT t2.rests a v } else .bad
      | _, _ => .bad)
    | _ => .bad) := rfl
end
section
variable {i j : Int} {x y : Str} {xs ys : List D} {b : Bool} {d e : D} {kvs : List (Key × D)}
@[simp] theorem x_cst0 : Cst.d .non = .non := rfl
@[simp] theorem x_cst1 : Cst.d (.bl b) = .bl b := rfl
@[simp] theorem x_cst2 : Cst.d (.int i) = .int i := rfl
@[simp] theorem x_cst3 : Cst.d (.str x) = .str x := rfl
@[simp] theorem x_bAdd : binD .Add d e = addD d e := rfl
@[simp] theorem x_bSub : binD .Sub d e = subD d e := rfl
@[simp] theorem x_bMul : binD .Mult d e = mulD d e := rfl
@[simp] theorem x_bDiv : binD .FloorDiv d e = fdivD d e := rfl
@[simp] theorem x_bMod : binD .Mod d e = modD d e := rfl
@[simp] theorem x_bPow : binD .Pow d e = powD d e := rfl
@[simp] theorem x_bShl : binD .LShift d e = shlD d e := rfl
@[simp] theorem x_addi : addD (.int i) (.int j) = some (.int (i + j)) := rfl
@[simp] theorem x_addt : addD (.tup xs) (.tup ys) = if okLen (xs.length + ys.length) then some (.tup (xs ++ ys)) else none := rfl
@[simp] theorem x_adds : addD (.str x) (.str y) = if okLen (x.length + y.length) then some (.str (x ++ y)) else none := rfl
@[simp] theorem x_cat : catD (.lst xs) (.lst ys) = if okLen (xs.length + ys.length) then some (.lst (xs ++ ys)) else none := rfl
@[simp] theorem x_sub : subD (.int i) (.int j) = some (.int (i - j)) := rfl
@[simp] theorem x_mul : mulD (.int i) (.int j) = if okMul i j then some (.int (i * j)) else none := rfl
@[simp] theorem x_fdiv : fdivD (.int i) (.int j) = if okDiv j then some (.int (i.fdiv j)) else none := rfl
@[simp] theorem x_mod : modD (.int i) (.int j) = if j = 0 then none else some (.int (i.fmod j)) := rfl
@[simp] theorem x_pow : powD (.int i) (.int j) = if okPow i j then some (.int (i ^ j.toNat)) else none := rfl
@[simp] theorem x_shl : shlD (.int i) (.int j) = if okPow i j then some (.int (i * 2 ^ j.toNat)) else none := rfl
@[simp] theorem x_neg : negD (.int i) = some (.int (-i)) := rfl
@[simp] theorem x_tru0 : truD .non = some false := rfl
@[simp] theorem x_tru1 : truD (.bl b) = some b := rfl
@[simp] theorem x_tru2 : truD (.int i) = some (i != 0) := rfl
@[simp] theorem x_tru3 : truD (.tup xs) = some (!xs.isEmpty) := rfl
@[simp] theorem x_tru4 : truD (.lst xs) = some (!xs.isEmpty) := rfl
@[simp] theorem x_tru6 : truD (.str x) = if okLen x.length then some ((x.length : Int) != 0) else none := rfl
@[simp] theorem x_not : notD d = (truD d).map fun b => .bl (!b) := rfl
@[simp] theorem x_ceq : cmpD .Eq d e = eqOp d e := rfl
@[simp] theorem x_cne : cmpD .NotEq d e = neOp d e := rfl
@[simp] theorem x_clt : cmpD .Lt d e = ltOp d e := rfl
@[simp] theorem x_cle : cmpD .LtE d e = leOp d e := rfl
@[simp] theorem x_cgt : cmpD .Gt d e = gtOp d e := rfl
@[simp] theorem x_cge : cmpD .GtE d e = geOp d e := rfl
@[simp] theorem x_cis : cmpD .Is d .non = some (.bl (isN d)) := rfl
@[simp] theorem x_cisn : cmpD .IsNot d .non = some (.bl (!isN d)) := rfl
@[simp] theorem x_cin : cmpD .In d e = (inB d e).map .bl := rfl
@[simp] theorem x_cnin : cmpD .NotIn d e = (inB d e).map fun r => .bl (!r) := rfl
@[simp] theorem x_lt : ltOp (.int i) (.int j) = some (.bl (decide (i < j))) := rfl
@[simp] theorem x_le : leOp (.int i) (.int j) = some (.bl (decide (i ≤ j))) := rfl
@[simp] theorem x_gt : gtOp (.int i) (.int j) = some (.bl (decide (j < i))) := rfl
@[simp] theorem x_ge : geOp (.int i) (.int j) = some (.bl (decide (j ≤ i))) := rfl
@[simp] theorem x_isn0 : isN .non = true := rfl
@[simp] theorem x_isn1 : isN (.bl b) = false := rfl
@[simp] theorem x_isn2 : isN (.int i) = false := rfl
@[simp] theorem x_isn3 : isN (.str x) = false := rfl
@[simp] theorem x_isn4 : isN (.tup xs) = false := rfl
@[simp] theorem x_isn5 : isN (.lst xs) = false := rfl
@[simp] theorem x_len1 : blt1 .len (.tup xs) = some (.int xs.length) := rfl
@[simp] theorem x_len2 : blt1 .len (.lst xs) = some (.int xs.length) := rfl
@[simp] theorem x_len3 : blt1 .len (.str x) = if okLen x.length then some (.int x.length) else none := rfl
@[simp] theorem x_tup1 : blt1 .tuple (.lst xs) = some (.tup xs) := rfl
@[simp] theorem x_tup2 : blt1 .tuple (.tup xs) = some (.tup xs) := rfl
@[simp] theorem x_lst1 : blt1 .list (.lst xs) = some (.lst xs) := rfl
@[simp] theorem x_lst2 : blt1 .list (.tup xs) = some (.lst xs) := rfl
@[simp] theorem x_abs1 : blt1 .abs (.int i) = some (.int (if i < 0 then -i else i)) := rfl
@[simp] theorem x_ixt : ixD (.tup xs) (.int i) = L2.atI xs i := rfl
@[simp] theorem x_ixl : ixD (.lst xs) (.int i) = L2.atI xs i := rfl
@[simp] theorem x_ixs : ixD (.str x) (.int i) = if okLen x.length then (L2.atI x.cps.toList i).map fun c => .str ⟨#[c]⟩ else none := rfl
@[simp] theorem x_rev1 : revD (.tup xs) = some (.tup xs.reverse) := rfl
@[simp] theorem x_rev2 : revD (.lst xs) = some (.lst xs.reverse) := rfl
@[simp] theorem x_opt0 : optI none = some none := rfl
@[simp] theorem x_opt1 : optI (some (.int i)) = some (some i) := rfl
@[simp] theorem x_cutt {l h : Option Int} : cutD (.tup xs) l h = some (.tup (cutL xs l h)) := rfl
@[simp] theorem x_cutl {l h : Option Int} : cutD (.lst xs) l h = some (.lst (cutL xs l h)) := rfl
@[simp] theorem x_isa_int_non : isaD .non .int = some false := rfl
@[simp] theorem x_isa_int_bl : isaD (.bl b) .int = some true := rfl
@[simp] theorem x_isa_int_int : isaD (.int i) .int = some true := rfl
@[simp] theorem x_isa_int_str : isaD (.str x) .int = some false := rfl
@[simp] theorem x_isa_int_tup : isaD (.tup xs) .int = some false := rfl
@[simp] theorem x_isa_int_lst : isaD (.lst xs) .int = some false := rfl
@[simp] theorem x_isa_int_dct : isaD (.dct kvs) .int = some false := rfl
@[simp] theorem x_isa_bool_non : isaD .non .bool = some false := rfl
@[simp] theorem x_isa_bool_bl : isaD (.bl b) .bool = some true := rfl
@[simp] theorem x_isa_bool_int : isaD (.int i) .bool = some false := rfl
@[simp] theorem x_isa_bool_str : isaD (.str x) .bool = some false := rfl
@[simp] theorem x_isa_bool_tup : isaD (.tup xs) .bool = some false := rfl
@[simp] theorem x_isa_bool_lst : isaD (.lst xs) .bool = some false := rfl
@[simp] theorem x_isa_bool_dct : isaD (.dct kvs) .bool = some false := rfl
@[simp] theorem x_isa_str_non : isaD .non .str = some false := rfl
@[simp] theorem x_isa_str_bl : isaD (.bl b) .str = some false := rfl
@[simp] theorem x_isa_str_int : isaD (.int i) .str = some false := rfl
@[simp] theorem x_isa_str_str : isaD (.str x) .str = some true := rfl
@[simp] theorem x_isa_str_tup : isaD (.tup xs) .str = some false := rfl
@[simp] theorem x_isa_str_lst : isaD (.lst xs) .str = some false := rfl
@[simp] theorem x_isa_str_dct : isaD (.dct kvs) .str = some false := rfl
@[simp] theorem x_isa_tuple_non : isaD .non .tuple = some false := rfl
@[simp] theorem x_isa_tuple_bl : isaD (.bl b) .tuple = some false := rfl
@[simp] theorem x_isa_tuple_int : isaD (.int i) .tuple = some false := rfl
@[simp] theorem x_isa_tuple_str : isaD (.str x) .tuple = some false := rfl
@[simp] theorem x_isa_tuple_tup : isaD (.tup xs) .tuple = some true := rfl
@[simp] theorem x_isa_tuple_lst : isaD (.lst xs) .tuple = some false := rfl
@[simp] theorem x_isa_tuple_dct : isaD (.dct kvs) .tuple = some false := rfl
@[simp] theorem x_isa_list_non : isaD .non .list = some false := rfl
@[simp] theorem x_isa_list_bl : isaD (.bl b) .list = some false := rfl
@[simp] theorem x_isa_list_int : isaD (.int i) .list = some false := rfl
@[simp] theorem x_isa_list_str : isaD (.str x) .list = some false := rfl
@[simp] theorem x_isa_list_tup : isaD (.tup xs) .list = some false := rfl
@[simp] theorem x_isa_list_lst : isaD (.lst xs) .list = some true := rfl
@[simp] theorem x_isa_list_dct : isaD (.dct kvs) .list = some false := rfl
end
@[simp] theorem x_setN {i : Nat} {d : D} {r : Rho} : setT (.name i) d r = if decide (i < r.length) then some (r.set i (.val d)) else none := rfl
@[simp] theorem x_setT {ts : Tgs} {xs : List D} {r : Rho} : setT (.tup ts) (.tup xs) r = setTs ts xs r := rfl
@[simp] theorem x_set0 {r : Rho} : setTs .nil [] r = some r := rfl
@[simp] theorem x_set1 {t : Tg} {ts : Tgs} {x : D} {xs : List D} {r : Rho} : setTs (.cons t ts) (x :: xs) r = (setT t x r).bind fun r1 => setTs ts xs r1 := rfl
@[simp] theorem x_all0 {r : Rho} : setAll [] [] r = some r := rfl
@[simp] theorem x_all1 {i : Nat} {is : List Nat} {d : D} {ds : List D} {r : Rho} : setAll (i :: is) (d :: ds) r = if decide (i < r.length) then setAll is ds (r.set i (.val d)) else none := rfl
@[simp] theorem x_okSet {r : Rho} {i : Nat} {s : Sl} {t : Tw} : okSet r i s t = if decide (i < r.length) then .ok (.nx, r.set i s) t else .bad := rfl
@[simp] theorem x_startR {N : List Str} {ds : List D} : startR N ds = ds.map .val ++ List.replicate (N.length - ds.length) .un := rfl
@[simp] theorem x_startL {N : List Str} {ns : List Int} : startL N ns = (startR N [.scr ns]).set 1 (.val .tok) := rfl
@[simp] theorem x_ret0 {d : D} {r : Rho} {t : Tw} : retD (.ok (.ret d, r) t) = .ok d t := rfl
@[simp] theorem x_ret1 {r : Rho} {t : Tw} : retD (.ok (.nx, r) t) = .ok .non t := rfl
@[simp] theorem x_ret2 {n : Nat} {t : Tw} : retD (.exc n t) = .exc n t := rfl
@[simp] theorem x_loop0 {f : D → Rho → Tw → Res (Fl × Rho)} {r : Rho} {t : Tw} : loopF f [] r t = .ok (.nx, r) t := rfl
@[simp] theorem x_comp0 {f : D → Tw → Res (Option D)} {t : Tw} : compL f [] t = .ok [] t := rfl
@[simp] theorem x_wipe0 {r : Rho} : wipeR r [] = r := rfl
@[simp] theorem x_wipe1 {r : Rho} {v : Nat} {vs : List Nat} : wipeR r (v :: vs) = (wipeR r vs).set v .un := rfl
@[simp] theorem x_cons0 {xs : List D} : consO none xs = xs := rfl
@[simp] theorem x_cons1 {x : D} {xs : List D} : consO (some x) xs = x :: xs := rfl
@[simp] theorem x_ok0 : okLen 0 = true := rfl
@[simp] theorem x_ok1 : okLen 1 = true := rfl
@[simp] theorem x_ok2 : okLen 2 = true := rfl
@[simp] theorem x_ok3 : okLen 3 = true := rfl
@[simp] theorem x_ok4 : okLen 4 = true := rfl
@[simp] theorem x_ok5 : okLen 5 = true := rfl
@[simp] theorem x_ok6 : okLen 6 = true := rfl
@[simp] theorem x_ok7 : okLen 7 = true := rfl
@[simp] theorem x_ok8 : okLen 8 = true := rfl
@[simp] theorem x_ok9 : okLen 9 = true := rfl
@[simp] theorem x_ok10 : okLen 10 = true := rfl
@[simp] theorem x_ok11 : okLen 11 = true := rfl
@[simp] theorem x_ok12 : okLen 12 = true := rfl
@[simp] theorem x_ok13 : okLen 13 = true := rfl
@[simp] theorem x_ok14 : okLen 14 = true := rfl
@[simp] theorem x_ok15 : okLen 15 = true := rfl
@[simp] theorem x_ok16 : okLen 16 = true := rfl
@[simp] theorem x_ok17 : okLen 17 = true := rfl
@[simp] theorem x_ok18 : okLen 18 = true := rfl
@[simp] theorem x_ok19 : okLen 19 = true := rfl
@[simp] theorem x_ok20 : okLen 20 = true := rfl
@[simp] theorem x_ok21 : okLen 21 = true := rfl
@[simp] theorem x_ok22 : okLen 22 = true := rfl
@[simp] theorem x_ok23 : okLen 23 = true := rfl
@[simp] theorem x_ok24 : okLen 24 = true := rfl
@[simp] theorem x_ok25 : okLen 25 = true := rfl
@[simp] theorem x_ok26 : okLen 26 = true := rfl
@[simp] theorem x_ok27 : okLen 27 = true := rfl
@[simp] theorem x_ok28 : okLen 28 = true := rfl
@[simp] theorem x_ok29 : okLen 29 = true := rfl
@[simp] theorem x_ok30 : okLen 30 = true := rfl
@[simp] theorem x_ok31 : okLen 31 = true := rfl
@[simp] theorem x_ok32 : okLen 32 = true := rfl
@[simp] theorem x_ok33 : okLen 33 = true := rfl
@[simp] theorem x_ok34 : okLen 34 = true := rfl
@[simp] theorem x_ok35 : okLen 35 = true := rfl
@[simp] theorem x_ok36 : okLen 36 = true := rfl
@[simp] theorem x_ok37 : okLen 37 = true := rfl
@[simp] theorem x_ok38 : okLen 38 = true := rfl
@[simp] theorem x_ok39 : okLen 39 = true := rfl
@[simp] theorem x_ok40 : okLen 40 = true := rfl
@[simp] theorem x_ok41 : okLen 41 = true := rfl
@[simp] theorem x_ok42 : okLen 42 = true := rfl
@[simp] theorem x_ok43 : okLen 43 = true := rfl
@[simp] theorem x_ok44 : okLen 44 = true := rfl
@[simp] theorem x_ok45 : okLen 45 = true := rfl
@[simp] theorem x_ok46 : okLen 46 = true := rfl
@[simp] theorem x_ok47 : okLen 47 = true := rfl
@[simp] theorem x_ok48 : okLen 48 = true := rfl
@[simp] theorem x_ok49 : okLen 49 = true := rfl
@[simp] theorem x_ok50 : okLen 50 = true := rfl
@[simp] theorem x_ok51 : okLen 51 = true := rfl
@[simp] theorem x_ok52 : okLen 52 = true := rfl
@[simp] theorem x_ok53 : okLen 53 = true := rfl
@[simp] theorem x_ok54 : okLen 54 = true := rfl
@[simp] theorem x_ok55 : okLen 55 = true := rfl
@[simp] theorem x_ok56 : okLen 56 = true := rfl
@[simp] theorem x_ok57 : okLen 57 = true := rfl
@[simp] theorem x_ok58 : okLen 58 = true := rfl
@[simp] theorem x_ok59 : okLen 59 = true := rfl
@[simp] theorem x_ok60 : okLen 60 = true := rfl
@[simp] theorem x_ok61 : okLen 61 = true := rfl
@[simp] theorem x_ok62 : okLen 62 = true := rfl
@[simp] theorem x_ok63 : okLen 63 = true := rfl
/-- the first part first -/
@[simp ↓] theorem x_bind {α β : Type} (m : Res α) (f : α → Tw → Res β) : m.bind f = match m with
  | .ok a t => f a t
  | .exc n t => .exc n t
  | .bad => .bad := by cases m <;> rfl
/-- calls of a level -/
theorem gam_at {p : Pg} {ns : List Int} {k j : Nat} {sh : Sh} (h : p.tb.sh[j]? = some sh) (xs ys : List D) (t : Tw) : gam p ns k j xs ys t = callF p ns k sh.fn (xs ++ ys ++ sh.dfl.map Cst.d) t := by
  unfold gam
  rw [h]
end Fm

/-! ### plain lemmas: equality, loops, comprehensions, draws -/
namespace Fm
open PySem
section
variable {i j : Int} {a b : Bool} {x y : Str}
@[simp] theorem x_eqi : eqOp (.int i) (.int j) = some (.bl (decide (i = j))) := by
  by_cases h : i = j <;> simp [eqOp, okEq, lay, dep, D.py, PyData.canLay0, PyData.depth, eqD, PyData.eqv, h]
@[simp] theorem x_nei : neOp (.int i) (.int j) = some (.bl (!decide (i = j))) := by
  by_cases h : i = j <;> simp [neOp, okEq, lay, dep, D.py, PyData.canLay0, PyData.depth, eqD, PyData.eqv, h]
@[simp] theorem x_eqb : eqOp (.bl a) (.bl b) = some (.bl (a == b)) := by
  simp [eqOp, okEq, lay, dep, D.py, PyData.canLay0, PyData.depth, eqD, PyData.eqv]
@[simp] theorem x_eqD_s : eqD (.str x) (.str y) = (x == y) := by
  simp [eqD, D.py, PyData.eqv]
@[simp] theorem x_lay_s : lay (.str x) = PyData.strOk x := by
  simp [lay, D.py, PyData.canLay0]
@[simp] theorem x_lay_i : lay (.int i) = true := by
  simp [lay, D.py, PyData.canLay0]
@[simp] theorem x_dep_s : dep (.str x) = 0 := by
  simp [dep, D.py, PyData.depth]
theorem x_eqs (h1 : PyData.strOk x = true) (h2 : PyData.strOk y = true) : eqOp (.str x) (.str y) = some (.bl (x == y)) := by
  simp [eqOp, okEq, h1, h2]
theorem x_ins (h : PyData.strOk x = true) {ys : List Str} (h2 : ys.all PyData.strOk = true) : inB (.str x) (.tup (ys.map .str)) = some (ys.any fun z => z == x) := by
  have e : ((ys.map D.str).all lay) = true := by
    rw [List.all_map]
    simpa [Function.comp] using h2
  simp only [inB, x_lay_s, h, e, x_dep_s, List.any_map, Function.comp_def, x_eqD_s]
  simp
end
theorem x_eq0 {xs : List D} (h : lay (.tup xs) = true) : eqOp (.tup xs) (.tup []) = some (.bl xs.isEmpty) := by
  have e : dep (.tup []) = 1 := by simp [dep, D.py, pys, PyData.depth, PyData.depthAll]
  have l : lay (.tup []) = true := by simp [lay, D.py, pys, PyData.canLay0, PyData.canLayAll0]
  have m : min (dep (.tup xs)) 1 ≤ 190 := Nat.le_trans (Nat.min_le_right ..) (by omega)
  simp only [eqOp, okEq, h, l, e, m, decide_true, Bool.and_self, if_true]
  cases xs <;> simp [eqD, D.py, pys, PyData.eqv, PyData.eqvAll]
@[simp] theorem x_ev_dsp {G : Gam} {cs : Nat → D} {r : Rho} {t : Tw} (kvs : List (Str × Cst)) : ev G cs (.dsp kvs) r t = if decide (kvs.length ≤ 15) then .ok (.dct (mergeD [] (kvs.map fun p => (p.1, p.2.d)))) t else .bad := by rw [ev_dsp]
/-! ### loops, comprehensions -/
theorem loopF_inv {f : D → Rho → Tw → Res (Fl × Rho)} (I : Rho → Tw → Prop) : ∀ (xs : List D) (r : Rho) (t : Tw), I r t → (∀ d ∈ xs, ∀ r t, I r t → ∃ r' t', f d r t = .ok (.nx, r') t' ∧ I r' t') → ∃ r' t', loopF f xs r t = .ok (.nx, r') t' ∧ I r' t'
  | [], r, t, h, _ => ⟨r, t, rfl, h⟩
  | d :: ds, r, t, h, hf => by
    obtain ⟨r1, t1, e, h1⟩ := hf d (List.mem_cons_self ..) r t h
    obtain ⟨r2, t2, e2, h2⟩ := loopF_inv I ds r1 t1 h1 fun d' m => hf d' (List.mem_cons_of_mem _ m)
    exact ⟨r2, t2, by rw [loopF, e]; exact e2, h2⟩
theorem compL_map {f : D → Tw → Res (Option D)} (g : D → D) {t : Tw} : ∀ (xs : List D), (∀ d ∈ xs, f d t = .ok (some (g d)) t) → compL f xs t = .ok (xs.map g) t
  | [], _ => rfl
  | d :: ds, h => by
    rw [compL, h d (List.mem_cons_self ..)]
    simp only
    rw [compL_map g ds fun d' m => h d' (List.mem_cons_of_mem _ m)]
    rfl
/-- turns that draw: each gives what Z tells -/
theorem compL_inv {f : D → Tw → Res (Option D)} (I : Nat → Tw → Prop) (Z : D → Prop) : ∀ (xs : List D) (t : Tw) (n : Nat), I (n + xs.length) t → (∀ d ∈ xs, ∀ n t, I (n + 1) t → ∃ x t', f d t = .ok (some x) t' ∧ Z x ∧ I n t') → ∃ ys t', compL f xs t = .ok ys t' ∧ ys.length = xs.length ∧ (∀ y ∈ ys, Z y) ∧ I n t'
  | [], t, n, h, _ => ⟨[], t, rfl, rfl, fun _ m => (List.not_mem_nil m).elim, h⟩
  | d :: ds, t, n, h, hf => by
    obtain ⟨x, t1, e, z, h1⟩ := hf d (List.mem_cons_self ..) (n + ds.length) t (by rw [List.length_cons] at h; exact h)
    obtain ⟨ys, t2, e2, l, z2, h2⟩ := compL_inv I Z ds t1 n h1 fun d' m => hf d' (List.mem_cons_of_mem _ m)
    refine ⟨x :: ys, t2, ?_, by rw [List.length_cons, l, List.length_cons], fun y m => ?_, h2⟩
    · rw [compL, e]
      simp only
      rw [e2]
      rfl
    · rcases List.mem_cons.mp m with rfl | m
      · exact z
      · exact z2 y m
theorem comp_map {G : Gam} {cs : Nat → D} {own : List (Str × Nat)} {elt : E} {tg : Tg} {it : I} {cd : O} {r : Rho} {t : Tw} {xs : List D} (g : D → D) (hi : evI G cs it r t = .ok xs t) (hl : okLen xs.length = true) (h : ∀ d ∈ xs, turnE tg (own.map (·.2)) (evO G cs cd) (ev G cs elt) r d t = .ok (some (g d)) t) : ev G cs (.comp own elt tg it cd) r t = .ok (.lst (xs.map g)) t := by
  rw [ev_comp]
  unfold compE
  rw [hi, Res.bind_ok, hl, if_pos rfl, compL_map g xs h]
  rfl
theorem comp_inv {G : Gam} {cs : Nat → D} {own : List (Str × Nat)} {elt : E} {tg : Tg} {it : I} {cd : O} {r : Rho} {t t1 : Tw} {xs : List D} {n : Nat} (I : Nat → Tw → Prop) (Z : D → Prop) (hi : evI G cs it r t = .ok xs t1) (hl : okLen xs.length = true) (h0 : I (n + xs.length) t1)
    (h : ∀ d ∈ xs, ∀ n t, I (n + 1) t → ∃ x t', turnE tg (own.map (·.2)) (evO G cs cd) (ev G cs elt) r d t = .ok (some x) t' ∧ Z x ∧ I n t') : ∃ ys t', ev G cs (.comp own elt tg it cd) r t = .ok (.lst ys) t' ∧ ys.length = xs.length ∧ (∀ y ∈ ys, Z y) ∧ I n t' := by
  obtain ⟨ys, t', e, q⟩ := compL_inv I Z xs t1 n h0 h
  refine ⟨ys, t', ?_, q⟩
  rw [ev_comp]
  unfold compE
  rw [hi, Res.bind_ok, hl, if_pos rfl, e]
  rfl
theorem bls_map : ∀ (xs : List D) (g : D → Bool), bls (xs.map fun d => .bl (g d)) = some (xs.map g)
  | [], _ => rfl
  | x :: xs, g => by simp [bls, bls_map xs g]
theorem x_all {xs : List D} {g : D → Bool} : blt1 .all (.lst (xs.map fun d => .bl (g d))) = some (.bl (xs.all g)) := by
  simp [blt1, bls_map]
/-! ### sizes -/
theorem log2_lt' {n k : Nat} (h : n < 2 ^ k) (hk : 0 < k) : n.log2 < k := by
  by_cases z : n = 0
  · subst z
    simpa using hk
  · exact (Nat.log2_lt z).mpr h
theorem okMul_of {i j : Int} {k l : Nat} (h1 : i.natAbs < 2 ^ k) (h2 : j.natAbs < 2 ^ l) (hk : 0 < k) (hl : 0 < l) (h : k + l ≤ 1000000) : okMul i j = true := by
  have := log2_lt' h1 hk
  have := log2_lt' h2 hl
  simp only [okMul, decide_eq_true_eq]
  omega
theorem okDiv_of {j : Int} {k : Nat} (h0 : j ≠ 0) (h1 : j.natAbs < 2 ^ k) (hk : 0 < k) (h : k ≤ 9000) : okDiv j = true := by
  have := log2_lt' h1 hk
  simp only [okDiv, Bool.and_eq_true, decide_eq_true_eq]
  omega
theorem fmod_rng {i m : Int} (h : 0 < m) : 0 ≤ i.fmod m ∧ i.fmod m < m := ⟨Int.fmod_nonneg_of_pos _ h, Int.fmod_lt_of_pos _ h⟩
/-! ### draws -/
def goodT (t : Tw) : Prop := 0 ≤ t.count ∧ t.rests.length ≤ t.count.toNat
/-- n draws may be made -/
def rm (n : Nat) (t : Tw) : Prop := goodT t ∧ t.count + n ≤ 900000
theorem rm.le {n m : Nat} {t : Tw} (h : rm n t) (l : m ≤ n) : rm m t := ⟨h.1, by have := h.2; omega⟩
def drawB : Ss := .cons (.tcnt 1 (.bin .Add (.tcount 1) (.cst (.int 1)))) (.cons (.asg (.name 3) (.ite (.var 0) (.bin .Mod (.tcount 1) (.blt .len (.var 0))) (.cst (.int 0)))) (.cons (.asg (.name 4) (.tget 1 (.var 3) (.ite (.var 0) (.ix (.var 0) (.var 3)) (.cst (.int 0))))) (.cons (.ite (.cmp .GtE (.var 4) (.bin .Pow (.cst (.int 10)) (.cst (.int 18)))) (.cons (.trst 1 (.var 3) (.bin .FloorDiv (.var 4) (.var 2))) (.cons (.ret (.bin .Mod (.var 4) (.var 2))) .nil)) .nil) (.cons (.asg (.name 5) (.bin .Mod (.bin .Add (.var 4) (.bin .Mult (.cst (.int 104729)) (.tcount 1))) (.cst (.int 4294967291)))) (.cons (.asg (.name 5) (.bin .Mod (.bin .Pow (.var 5) (.cst (.int 5))) (.cst (.int 4294967279)))) (.cons (.ret (.bin .Mod (.bin .FloorDiv (.bin .Mod (.bin .Add (.bin .Mult (.bin .FloorDiv (.var 5) (.cst (.int 64))) (.cst (.int 69621))) (.var 5)) (.cst (.int 4294967231))) (.cst (.int 8))) (.var 2))) .nil))))))
theorem draw_tail {G : Gam} {cs : Nat → D} {sc : D} {m at_ rest : Int} {t : Tw} {n : Nat} (hm : 0 < m) (hm2 : m < 1048576) (h : goodT t) (hc : t.count + n ≤ 900000) (hr : t.rests.length < t.count.toNat) :
    ∃ v t', retD (evSs G cs (.cons (.ite (.cmp .GtE (.var 4) (.bin .Pow (.cst (.int 10)) (.cst (.int 18)))) (.cons (.trst 1 (.var 3) (.bin .FloorDiv (.var 4) (.var 2))) (.cons (.ret (.bin .Mod (.var 4) (.var 2))) .nil)) .nil) (.cons (.asg (.name 5) (.bin .Mod (.bin .Add (.var 4) (.bin .Mult (.cst (.int 104729)) (.tcount 1))) (.cst (.int 4294967291)))) (.cons (.asg (.name 5) (.bin .Mod (.bin .Pow (.var 5) (.cst (.int 5))) (.cst (.int 4294967279)))) (.cons (.ret (.bin .Mod (.bin .FloorDiv (.bin .Mod (.bin .Add (.bin .Mult (.bin .FloorDiv (.var 5) (.cst (.int 64))) (.cst (.int 69621))) (.var 5)) (.cst (.int 4294967231))) (.cst (.int 8))) (.var 2))) .nil)))) [.val sc, .val .tok, .val (.int m), .val (.int at_), .val (.int rest), .un] t) = .ok (.int v) t' ∧ 0 ≤ v ∧ v < m ∧ rm n t' := by
  obtain ⟨g1, g2⟩ := h
  have p1 : okPow 10 18 = true := by decide
  have e18 : (10 : Int) ^ (18 : Int).toNat = 1000000000000000000 := by decide
  have d1 : okDiv m = true := okDiv_of (k := 20) (by omega) (by omega) (by omega) (by omega)
  have m0 : m ≠ 0 := by omega
  have l1 : t.rests.length < 1000000 := by omega
  have c1 : t.count.natAbs < 2 ^ 20 := by omega
  have k1 : okMul 104729 t.count = true := okMul_of (k := 17) (l := 20) (by decide) c1 (by omega) (by omega) (by omega)
  by_cases hb : 1000000000000000000 ≤ rest
  · refine ⟨rest.fmod m, { t with rests := putT t.rests at_ (rest.fdiv m) }, ?_, (fmod_rng hm).1, (fmod_rng hm).2, ⟨g1, ?_⟩, hc⟩
    · simp [p1, e18, hb, d1, m0, l1]
    · have := putT_len t.rests at_ (rest.fdiv m)
      show (putT t.rests at_ (rest.fdiv m)).length ≤ t.count.toNat
      omega
  · have q1 := fmod_rng (i := rest + 104729 * t.count) (m := 4294967291) (by omega)
    generalize hn1 : (rest + 104729 * t.count).fmod 4294967291 = n1 at q1
    have p2 : okPow n1 5 = true := by
      simp only [okPow, Bool.and_eq_true, decide_eq_true_eq]
      refine ⟨⟨by omega, by omega⟩, ?_⟩
      have : (2 : Nat) ^ 64 = 18446744073709551616 := by decide
      omega
    have q2 := fmod_rng (i := n1 ^ (5 : Int).toNat) (m := 4294967279) (by omega)
    generalize hn2 : (n1 ^ (5 : Int).toNat).fmod 4294967279 = n2 at q2
    have q3 : 0 ≤ n2.fdiv 64 ∧ n2.fdiv 64 < 2 ^ 32 := by
      rw [Int.fdiv_eq_ediv_of_nonneg _ (by omega)]
      omega
    have k2 : okMul (n2.fdiv 64) 69621 = true := okMul_of (k := 32) (l := 17) (by omega) (by decide) (by omega) (by omega) (by omega)
    have d2 : okDiv 64 = true := okDiv_of (k := 20) (by omega) (by omega) (by omega) (by omega)
    have d3 : okDiv 8 = true := okDiv_of (k := 20) (by omega) (by omega) (by omega) (by omega)
    refine ⟨(((n2.fdiv 64 * 69621 + n2).fmod 4294967231).fdiv 8).fmod m, t, ?_, (fmod_rng hm).1, (fmod_rng hm).2, ⟨g1, g2⟩, hc⟩
    · simp [p1, e18, hb, d1, m0, l1, k1, hn1, p2, hn2, k2, d2, d3]
      simp at hn2
      simp [hn2, k2, d3, m0]
theorem draw_ev {G : Gam} {cs : Nat → D} {ns : List Int} {m : Int} {t : Tw} {n : Nat} (hm : 0 < m) (hm2 : m < 1048576) (h : rm (n + 1) t) :
    ∃ v t', retD (evSs G cs drawB [.val (.scr ns), .val .tok, .val (.int m), .un, .un, .un] t) = .ok (.int v) t' ∧ 0 ≤ v ∧ v < m ∧ rm n t' := by
  obtain ⟨⟨g1, g2⟩, g3⟩ := h
  have G' : goodT { t with count := t.count + 1 } := ⟨by show 0 ≤ t.count + 1; omega, by show t.rests.length ≤ (t.count + 1).toNat; omega⟩
  have c' : t.count + 1 + n ≤ 900000 := by omega
  have r' : t.rests.length < (t.count + 1).toNat := by omega
  cases ns with
  | nil =>
    obtain ⟨v, t', e, q⟩ := draw_tail (G := G) (cs := cs) (sc := .scr []) (at_ := 0) (rest := (lkT t.rests 0).getD 0) (t := { t with count := t.count + 1 }) hm hm2 G' c' r'
    refine ⟨v, t', ?_, q⟩
    rw [← e]
    unfold drawB
    rw [x_evSs_cons]
    simp [truD]
  | cons a as =>
    have q := fmod_rng (i := t.count + 1) (m := ((a :: as).length : Int)) (by simp)
    generalize hk : (t.count + 1).fmod ((a :: as).length : Int) = k at q
    obtain ⟨w, ew⟩ : ∃ w, L2.atI (a :: as) k = some w := by
      unfold L2.atI L2.ixN
      rw [if_pos q.1, if_pos q.2]
      exact ⟨_, List.getElem?_eq_getElem (by omega)⟩
    obtain ⟨v, t', e, q2⟩ := draw_tail (G := G) (cs := cs) (sc := .scr (a :: as)) (at_ := k) (rest := (lkT t.rests k).getD w) (t := { t with count := t.count + 1 }) hm hm2 G' c' r'
    refine ⟨v, t', ?_, q2⟩
    rw [← e]
    unfold drawB
    have nz : ((a :: as).length : Int) ≠ 0 := by simp; omega
    rw [x_evSs_cons]
    simp only [List.length_cons, Int.natCast_add, Int.natCast_one] at hk nz
    simp [truD, blt1, lenD, hk, ixD, ew, nz]
end Fm

/-! ### more plain lemmas -/
namespace Fm
open PySem
/-- a comprehension with a test -/
theorem compL_filt {f : D → Tw → Res (Option D)} (c : D → Bool) (g : D → D) {t : Tw} : ∀ (xs : List D), (∀ d ∈ xs, f d t = .ok (if c d then some (g d) else none) t) → compL f xs t = .ok ((xs.filter c).map g) t
  | [], _ => rfl
  | d :: ds, h => by
    rw [compL, h d (List.mem_cons_self ..)]
    simp only
    rw [compL_filt c g ds fun d' m => h d' (List.mem_cons_of_mem _ m)]
    cases e : c d <;> simp [List.filter_cons, e, consO]
theorem comp_filt {G : Gam} {cs : Nat → D} {own : List (Str × Nat)} {elt : E} {tg : Tg} {it : I} {cd : O} {r : Rho} {t : Tw} {xs : List D} (c : D → Bool) (g : D → D) (hi : evI G cs it r t = .ok xs t) (hl : okLen xs.length = true) (h : ∀ d ∈ xs, turnE tg (own.map (·.2)) (evO G cs cd) (ev G cs elt) r d t = .ok (if c d then some (g d) else none) t) : ev G cs (.comp own elt tg it cd) r t = .ok (.lst ((xs.filter c).map g)) t := by
  rw [ev_comp]
  unfold compE
  rw [hi, Res.bind_ok, hl, if_pos rfl, compL_filt c g xs h]
  rfl
/-- a loop that ends at the first item that is not as it must be -/
theorem loopF_find {f : D → Rho → Tw → Res (Fl × Rho)} {t : Tw} {v : D} (P : D → Bool) (I : Rho → Prop) : ∀ (xs : List D) (r : Rho), I r → (∀ d ∈ xs, ∀ r, I r → (P d = true → ∃ r', f d r t = .ok (.nx, r') t ∧ I r') ∧ (P d = false → ∃ r', f d r t = .ok (.ret v, r') t)) →
    (xs.all P = true → ∃ r', loopF f xs r t = .ok (.nx, r') t ∧ I r') ∧ (xs.all P = false → ∃ r', loopF f xs r t = .ok (.ret v, r') t)
  | [], r, h, _ => ⟨fun _ => ⟨r, rfl, h⟩, fun h => by simp at h⟩
  | d :: ds, r, h, hf => by
    obtain ⟨h1, h2⟩ := hf d (List.mem_cons_self ..) r h
    cases e : P d with
    | true =>
      obtain ⟨r1, e1, i1⟩ := h1 e
      obtain ⟨g1, g2⟩ := loopF_find P I ds r1 i1 fun d' m => hf d' (List.mem_cons_of_mem _ m)
      refine ⟨fun ha => ?_, fun ha => ?_⟩
      · obtain ⟨r2, e2, i2⟩ := g1 (by simpa [e] using ha)
        exact ⟨r2, by rw [loopF, e1]; exact e2, i2⟩
      · obtain ⟨r2, e2⟩ := g2 (by simpa [e] using ha)
        exact ⟨r2, by rw [loopF, e1]; exact e2⟩
    | false =>
      obtain ⟨r1, e1⟩ := h2 e
      refine ⟨fun ha => by simp [e] at ha, fun _ => ⟨r1, by rw [loopF, e1]; rfl⟩⟩
/-- turns that draw, whatever they leave -/
theorem loopF_ix {f : D → Rho → Tw → Res (Fl × Rho)} (I : Nat → Rho → Tw → Prop) : ∀ (xs : List D) (r : Rho) (t : Tw) (n : Nat), I (n + xs.length) r t → (∀ d ∈ xs, ∀ n r t, I (n + 1) r t → ∃ r' t', f d r t = .ok (.nx, r') t' ∧ I n r' t') → ∃ r' t', loopF f xs r t = .ok (.nx, r') t' ∧ I n r' t'
  | [], r, t, n, h, _ => ⟨r, t, rfl, h⟩
  | d :: ds, r, t, n, h, hf => by
    obtain ⟨r1, t1, e, h1⟩ := hf d (List.mem_cons_self ..) (n + ds.length) r t (by rw [List.length_cons] at h; exact h)
    obtain ⟨r2, t2, e2, h2⟩ := loopF_ix I ds r1 t1 n h1 fun d' m => hf d' (List.mem_cons_of_mem _ m)
    exact ⟨r2, t2, by rw [loopF, e]; exact e2, h2⟩
theorem seq_nx {G : Gam} {cs : Nat → D} {s : S} {q : Ss} {r r1 : Rho} {t t1 : Tw} (h : evS G cs s r t = .ok (.nx, r1) t1) : evSs G cs (.cons s q) r t = evSs G cs q r1 t1 := by
  rw [x_evSs_cons, x_consE, h]
  rfl
theorem seq_ret {G : Gam} {cs : Nat → D} {s : S} {q : Ss} {r r1 : Rho} {t t1 : Tw} {d : D} (h : evS G cs s r t = .ok (.ret d, r1) t1) : evSs G cs (.cons s q) r t = .ok (.ret d, r1) t1 := by
  rw [x_evSs_cons, x_consE, h]
  rfl
/-! ### == -/
theorem x_eqL0 {xs : List D} (h : lay (.lst xs) = true) : eqOp (.lst xs) (.lst []) = some (.bl xs.isEmpty) := by
  have e : dep (.lst []) = 1 := by simp [dep, D.py, pys, PyData.depth, PyData.depthAll]
  have l : lay (.lst []) = true := by simp [lay, D.py, pys, PyData.canLay0, PyData.canLayAll0]
  have m : min (dep (.lst xs)) 1 ≤ 190 := Nat.le_trans (Nat.min_le_right ..) (by omega)
  simp only [eqOp, okEq, h, l, e, m, decide_true, Bool.and_self, if_true]
  cases xs <;> simp [eqD, D.py, pys, PyData.eqv, PyData.eqvAll]
theorem x_neL0 {xs : List D} (h : lay (.lst xs) = true) : neOp (.lst xs) (.lst []) = some (.bl (!xs.isEmpty)) := by
  have e : dep (.lst []) = 1 := by simp [dep, D.py, pys, PyData.depth, PyData.depthAll]
  have l : lay (.lst []) = true := by simp [lay, D.py, pys, PyData.canLay0, PyData.canLayAll0]
  have m : min (dep (.lst xs)) 1 ≤ 190 := Nat.le_trans (Nat.min_le_right ..) (by omega)
  simp only [neOp, okEq, h, l, e, m, decide_true, Bool.and_self, if_true]
  cases xs <;> simp [eqD, D.py, pys, PyData.eqv, PyData.eqvAll]
theorem x_ne0 {xs : List D} (h : lay (.tup xs) = true) : neOp (.tup xs) (.tup []) = some (.bl (!xs.isEmpty)) := by
  have e : dep (.tup []) = 1 := by simp [dep, D.py, pys, PyData.depth, PyData.depthAll]
  have l : lay (.tup []) = true := by simp [lay, D.py, pys, PyData.canLay0, PyData.canLayAll0]
  have m : min (dep (.tup xs)) 1 ≤ 190 := Nat.le_trans (Nat.min_le_right ..) (by omega)
  simp only [neOp, okEq, h, l, e, m, decide_true, Bool.and_self, if_true]
  cases xs <;> simp [eqD, D.py, pys, PyData.eqv, PyData.eqvAll]
/-- two fractions -/
theorem x_eqf (a b c d : Int) : eqOp (.tup [.int a, .int b]) (.tup [.int c, .int d]) = some (.bl (decide (a = c ∧ b = d))) := by
  simp [eqOp, okEq, lay, dep, D.py, pys, PyData.canLay0, PyData.canLayAll0, PyData.depth, PyData.depthAll, eqD, PyData.eqv, PyData.eqvAll]
  by_cases h : a = c <;> by_cases h2 : b = d <;> simp [h, h2]
theorem x_nef (a b c d : Int) : neOp (.tup [.int a, .int b]) (.tup [.int c, .int d]) = some (.bl (!decide (a = c ∧ b = d))) := by
  simp [neOp, okEq, lay, dep, D.py, pys, PyData.canLay0, PyData.canLayAll0, PyData.depth, PyData.depthAll, eqD, PyData.eqv, PyData.eqvAll]
  by_cases h : a = c <;> by_cases h2 : b = d <;> simp [h, h2]
/-! ### ints in order -/
theorem srtI_strict {xs : List Int} (h : xs.Nodup) : (srtI xs).Pairwise (· < ·) := by
  have h1 := srtI_sorted xs
  have h2 : (srtI xs).Nodup := (srtI_perm xs).nodup_iff.mpr h
  have := List.Pairwise.and h1 h2
  exact this.imp fun ⟨a, b⟩ => by omega
/-! ### dicts -/
theorem putD_len (kvs : List (Key × D)) (k : Key) (d : D) : (putD kvs k d).length ≤ kvs.length + 1 := by
  unfold putD
  split <;> simp
theorem putD_keys (kvs : List (Key × D)) (k : Key) (d : D) : (putD kvs k d).map (·.1) = if kvs.any (fun kv => decide (kv.1 = k)) then kvs.map (·.1) else kvs.map (·.1) ++ [k] := by
  unfold putD
  split
  · rw [List.map_map]
    refine List.map_congr_left fun p _ => ?_
    simp only [Function.comp]
    split <;> rfl
  · simp
theorem putD_nodup {kvs : List (Key × D)} (h : (kvs.map (·.1)).Nodup) (k : Key) (d : D) : ((putD kvs k d).map (·.1)).Nodup := by
  rw [putD_keys]
  split
  · exact h
  · rename_i h2
    refine List.nodup_append.mpr ⟨h, by simp, fun a ha b hb e => ?_⟩
    have hb : b = k := by simpa using hb
    subst e
    subst hb
    obtain ⟨p, hp, e⟩ := List.mem_map.mp ha
    exact h2 (List.any_eq_true.mpr ⟨p, hp, by simp [e]⟩)
theorem putD_mem {kvs : List (Key × D)} {k : Key} {d : D} {p : Key × D} (h : p ∈ putD kvs k d) : p ∈ kvs ∨ p = (k, d) := by
  unfold putD at h
  split at h
  · obtain ⟨q, hq, e⟩ := List.mem_map.mp h
    split at e
    · rename_i e2
      right
      rw [← e, e2]
    · left
      rw [← e]
      exact hq
  · rcases List.mem_append.mp h with h | h
    · exact .inl h
    · exact .inr (by simpa using h)
theorem lookD_some {kvs : List (Key × D)} {k : Key} (h : k ∈ kvs.map (·.1)) : ∃ d, lookD kvs k = some d ∧ (k, d) ∈ kvs := by
  unfold lookD
  obtain ⟨p, hp, e⟩ := List.mem_map.mp h
  have hs : (kvs.find? fun kv => decide (kv.1 = k)).isSome := List.find?_isSome.mpr ⟨p, hp, by simp [e]⟩
  obtain ⟨q, hq⟩ := Option.isSome_iff_exists.mp hs
  refine ⟨q.2, by rw [hq]; rfl, ?_⟩
  have h1 := List.find?_some hq
  have h2 := List.mem_of_find?_eq_some hq
  have h1 : q.1 = k := of_decide_eq_true h1
  rw [← h1]
  exact h2
theorem keysI_map : ∀ {kvs : List (Key × D)} {ns : List Int}, kvs.map (·.1) = ns.map Sum.inl → keysI kvs = some ns
  | [], [], _ => rfl
  | [], _ :: _, h => by cases h
  | _ :: _, [], h => by cases h
  | (k, d) :: kvs, n :: ns, h => by
    simp only [List.map_cons, List.cons.injEq] at h
    obtain ⟨rfl, h2⟩ := h
    simp [keysI, keysI_map h2]
theorem for_ev {G : Gam} {cs : Nat → D} {tg : Tg} {it : I} {b : Ss} {r : Rho} {t t1 : Tw} {xs : List D} (hi : evI G cs it r t = .ok xs t1) : evS G cs (.for tg it b) r t = loopF (fun d r t => match setT tg d r with
    | some r1 => evSs G cs b r1 t
    | none => .bad) xs r t1 := by
  rw [evS_for]
  unfold forE
  rw [hi]
  rfl
end Fm

namespace Lw
open PySem PySem.Spec PyProof.Rows L2 Fm
def top (i : Nat) : Stmt := PySem.Challenge.pw_formclear_k02_no_surds.main.body.getD i (.Pass ⟨0, 0, 0, 0⟩)
def i_is_whole : Nat := 0
def b_is_whole : Ss := (.cons (.ite (.or (.not (.isa (.var 0) .int)) (.isa (.var 0) .bool)) (.cons (.ret (.cst (.bl false))) .nil) .nil) (.cons (.ret (.or (.cmp .Is (.var 1) (.cst .non)) (.cmp .GtE (.var 0) (.var 1)))) .nil))
def f_is_whole : Fd := ⟨["thing", "least"], ["thing", "least"], b_is_whole⟩
def b_greatest_1 : Ss := (.cons (.par [0, 1] (.cons (.var 1) (.cons (.bin .Mod (.var 0) (.var 1)) .nil))) .nil)
def i_greatest : Nat := 1
def b_greatest : Ss := (.cons (.par [0, 1] (.cons (.blt .abs (.var 0)) (.cons (.blt .abs (.var 1)) .nil))) (.cons (.while (.cmp .Gt (.var 1) (.cst (.int 0))) b_greatest_1) (.cons (.ret (.var 0)) .nil)))
def f_greatest : Fd := ⟨["one", "other"], ["one", "other"], b_greatest⟩
def i_is_fraction : Nat := 2
def b_is_fraction : Ss := (.cons (.ite (.or (.not (.isa (.var 0) .tuple)) (.or (.cmp .NotEq (.blt .len (.var 0)) (.cst (.int 2))) (.or (.not (.call 0 (.cons (.ix (.var 0) (.cst (.int 0))) .nil) .nil)) (.not (.call 1 (.cons (.ix (.var 0) (.cst (.int 1))) .nil) (.cons (.cst (.int 1)) .nil)))))) (.cons (.ret (.cst (.bl false))) .nil) .nil) (.cons (.ret (.cmp .Eq (.call 2 (.cons (.ix (.var 0) (.cst (.int 0))) (.cons (.ix (.var 0) (.cst (.int 1))) .nil)) .nil) (.cst (.int 1)))) .nil))
def f_is_fraction : Fd := ⟨["thing"], ["thing"], b_is_fraction⟩
def b_square_parts_2 : Ss := (.cons (.aug 2 .FloorDiv (.bin .Mult (.var 3) (.var 3))) (.cons (.aug 1 .Mult (.var 3)) .nil))
def b_square_parts_1 : Ss := (.cons (.while (.cmp .Eq (.bin .Mod (.var 2) (.bin .Mult (.var 3) (.var 3))) (.cst (.int 0))) b_square_parts_2) (.cons (.aug 3 .Add (.cst (.int 1))) .nil))
def i_square_parts : Nat := 3
def b_square_parts : Ss := (.cons (.par [1, 2, 3] (.cons (.cst (.int 1)) (.cons (.var 0) (.cons (.cst (.int 2)) .nil)))) (.cons (.while (.cmp .LtE (.bin .Mult (.var 3) (.var 3)) (.var 2)) b_square_parts_1) (.cons (.ret (.tup (.cons (.var 1) (.cons (.var 2) .nil)))) .nil)))
def f_square_parts : Fd := ⟨["number"], ["number", "root", "left", "divisor"], b_square_parts⟩
def b_is_surd_1 : Ss := (.cons (.ite (.or (.not (.call 1 (.cons (.var 2) .nil) (.cons (.cst (.int 1)) .nil))) (.cmp .NotEq (.ix (.call 3 (.cons (.var 2) .nil) .nil) (.cst (.int 0))) (.cst (.int 1)))) (.cons (.ret (.cst (.bl false))) .nil) .nil) (.cons (.ite (.or (.not (.call 4 (.cons (.var 3) .nil) .nil)) (.cmp .Eq (.var 3) (.glob 0))) (.cons (.ret (.cst (.bl false))) .nil) .nil) .nil))
def i_is_surd : Nat := 4
def b_is_surd : Ss := (.cons (.ite (.or (.not (.isa (.var 0) .tuple)) (.not (.blt .all (.comp [("part", 1)] (.and (.isa (.var 1) .tuple) (.cmp .Eq (.blt .len (.var 1)) (.cst (.int 2)))) (.name 1) (.val (.var 0)) .none)))) (.cons (.ret (.cst (.bl false))) .nil) .nil) (.cons (.for (.tup (.cons (.name 2) (.cons (.name 3) .nil))) (.val (.var 0)) b_is_surd_1) (.cons (.ret (.blt .all (.comp [("one", 4), ("other", 5)] (.cmp .Lt (.ix (.var 4) (.cst (.int 0))) (.ix (.var 5) (.cst (.int 0)))) (.tup (.cons (.name 4) (.cons (.name 5) .nil))) (.zip (.var 0) (.cut (.var 0) (.some (.cst (.int 1))) .none)) .none))) .nil)))
def f_is_surd : Fd := ⟨["thing"], ["thing", "part", "radicand", "fraction", "one", "other"], b_is_surd⟩
def i__law_draw : Nat := 5
def b__law_draw : Ss := (.cons (.tcnt 1 (.bin .Add (.tcount 1) (.cst (.int 1)))) (.cons (.asg (.name 3) (.ite (.var 0) (.bin .Mod (.tcount 1) (.blt .len (.var 0))) (.cst (.int 0)))) (.cons (.asg (.name 4) (.tget 1 (.var 3) (.ite (.var 0) (.ix (.var 0) (.var 3)) (.cst (.int 0))))) (.cons (.ite (.cmp .GtE (.var 4) (.bin .Pow (.cst (.int 10)) (.cst (.int 18)))) (.cons (.trst 1 (.var 3) (.bin .FloorDiv (.var 4) (.var 2))) (.cons (.ret (.bin .Mod (.var 4) (.var 2))) .nil)) .nil) (.cons (.asg (.name 5) (.bin .Mod (.bin .Add (.var 4) (.bin .Mult (.cst (.int 104729)) (.tcount 1))) (.cst (.int 4294967291)))) (.cons (.asg (.name 5) (.bin .Mod (.bin .Pow (.var 5) (.cst (.int 5))) (.cst (.int 4294967279)))) (.cons (.ret (.bin .Mod (.bin .FloorDiv (.bin .Mod (.bin .Add (.bin .Mult (.bin .FloorDiv (.var 5) (.cst (.int 64))) (.cst (.int 69621))) (.var 5)) (.cst (.int 4294967231))) (.cst (.int 8))) (.var 2))) .nil)))))))
def f__law_draw : Fd := ⟨["script", "town", "many"], ["script", "town", "many", "at", "rest", "number"], b__law_draw⟩
def i__law_is : Nat := 6
def b__law_is : Ss := (.cons (.ret (.and (.isa (.var 0) .bool) (.cmp .Eq (.var 0) (.var 1)))) .nil)
def f__law_is : Fd := ⟨["told", "due"], ["told", "due"], b__law_is⟩
def b__law_frac_1 : Ss := (.cons (.par [2, 3] (.cons (.var 3) (.cons (.bin .Mod (.var 2) (.var 3)) .nil))) .nil)
def i__law_frac : Nat := 7
def b__law_frac : Ss := (.cons (.par [2, 3] (.cons (.blt .abs (.var 0)) (.cons (.blt .abs (.var 1)) .nil))) (.cons (.while (.cmp .Gt (.var 3) (.cst (.int 0))) b__law_frac_1) (.cons (.asg (.name 2) (.ite (.cmp .Gt (.var 1) (.cst (.int 0))) (.var 2) (.bin .Sub (.cst (.int 0)) (.var 2)))) (.cons (.ret (.tup (.cons (.bin .FloorDiv (.var 0) (.var 2)) (.cons (.bin .FloorDiv (.var 1) (.var 2)) .nil)))) .nil))))
def f__law_frac : Fd := ⟨["top", "bottom"], ["top", "bottom", "one", "other"], b__law_frac⟩
def i__law_a_frac : Nat := 8
def b__law_a_frac : Ss := (.cons (.ret (.call 5 (.cons (.bin .Sub (.call 6 (.cons (.var 0) (.cons (.var 1) (.cons (.bin .Add (.bin .Mult (.cst (.int 2)) (.var 2)) (.cst (.int 1))) .nil))) .nil) (.var 2)) (.cons (.bin .Add (.cst (.int 1)) (.call 6 (.cons (.var 0) (.cons (.var 1) (.cons (.cst (.int 3)) .nil))) .nil)) .nil)) .nil)) .nil)
def f__law_a_frac : Fd := ⟨["script", "town", "size"], ["script", "town", "size"], b__law_a_frac⟩
def b__law_a_surd_1 : Ss := (.cons (.asg (.name 5) (.call 7 (.cons (.var 0) (.cons (.var 1) (.cons (.cst (.int 5)) .nil))) .nil)) (.cons (.ite (.cmp .NotEq (.ix (.var 5) (.cst (.int 0))) (.cst (.int 0))) (.cons (.put 3 (.ix (.lst (.cons (.cst (.int 1)) (.cons (.cst (.int 2)) (.cons (.cst (.int 3)) (.cons (.cst (.int 5)) (.cons (.cst (.int 6)) (.cons (.cst (.int 7)) (.cons (.cst (.int 10)) (.cons (.cst (.int 30)) .nil))))))))) (.call 6 (.cons (.var 0) (.cons (.var 1) (.cons (.cst (.int 8)) .nil))) .nil)) (.var 5)) .nil) .nil) .nil))
def i__law_a_surd : Nat := 9
def b__law_a_surd : Ss := (.cons (.new 3 (.dsp [])) (.cons (.for (.name 4) (.rng1 (.call 6 (.cons (.var 0) (.cons (.var 1) (.cons (.bin .Add (.var 2) (.cst (.int 1))) .nil))) .nil)) b__law_a_surd_1) (.cons (.ret (.blt .tuple (.comp [("radicand", 6)] (.tup (.cons (.var 6) (.cons (.dix (.bor 3) (.var 6)) .nil))) (.name 6) (.val (.blt .sorted (.bor 3))) .none))) .nil)))
def f__law_a_surd : Fd := ⟨["script", "town", "most"], ["script", "town", "most", "found", "k", "part", "radicand"], b__law_a_surd⟩
def i__law_good : Nat := 10
def b__law_good : Ss := (.cons (.ite (.not (.isa (.var 0) .tuple)) (.cons (.ret (.cst (.bl false))) .nil) .nil) (.cons (.ite (.cmp .NotEq (.blt .len (.var 0)) (.cst (.int 2))) (.cons (.ret (.cst (.bl false))) .nil) .nil) (.cons (.ite (.not (.isa (.ix (.var 0) (.cst (.int 0))) .int)) (.cons (.ret (.cst (.bl false))) .nil) .nil) (.cons (.ite (.isa (.ix (.var 0) (.cst (.int 0))) .bool) (.cons (.ret (.cst (.bl false))) .nil) .nil) (.cons (.ite (.or (.cmp .Lt (.ix (.var 0) (.cst (.int 0))) (.cst (.int 1))) (.cmp .NotEq (.comp [("k", 1)] (.var 1) (.name 1) (.rng2 (.cst (.int 2)) (.cst (.int 12))) (.some (.cmp .Eq (.bin .Mod (.ix (.var 0) (.cst (.int 0))) (.bin .Mult (.var 1) (.var 1))) (.cst (.int 0))))) (.lst .nil))) (.cons (.ret (.cst (.bl false))) .nil) .nil) (.cons (.asg (.name 2) (.ix (.var 0) (.cst (.int 1)))) (.cons (.ite (.or (.not (.isa (.var 2) .tuple)) (.or (.cmp .NotEq (.blt .len (.var 2)) (.cst (.int 2))) (.cmp .NotEq (.comp [("n", 3)] (.var 3) (.name 3) (.val (.var 2)) (.some (.not (.isa (.var 3) .int)))) (.lst .nil)))) (.cons (.ret (.cst (.bl false))) .nil) .nil) (.cons (.ite (.or (.cmp .NotEq (.comp [("n", 3)] (.var 3) (.name 3) (.val (.var 2)) (.some (.isa (.var 3) .bool))) (.lst .nil)) (.or (.cmp .Lt (.ix (.var 2) (.cst (.int 1))) (.cst (.int 1))) (.cmp .Eq (.ix (.var 2) (.cst (.int 0))) (.cst (.int 0))))) (.cons (.ret (.cst (.bl false))) .nil) .nil) (.cons (.ret (.cmp .Eq (.call 5 (.cons (.ix (.var 2) (.cst (.int 0))) (.cons (.ix (.var 2) (.cst (.int 1))) .nil)) .nil) (.var 2))) .nil)))))))))
def f__law_good : Fd := ⟨["thing"], ["thing", "k", "part", "n"], b__law_good⟩
def b_law_1 : Ss := (.cons (.ite (.not (.call 8 (.cons (.call 9 (.cons (.tup (.cons (.var 3) .nil)) .nil) .nil) (.cons (.cst (.bl false)) .nil)) .nil)) (.cons (.ret (.cst (.bl false))) .nil) .nil) .nil)
def b_law_2 : Ss := (.cons (.asg (.name 5) (.call 10 (.cons (.var 0) (.cons (.var 1) (.cons (.cst (.int 4)) .nil))) .nil)) (.cons (.ite (.or (.not (.call 8 (.cons (.call 9 (.cons (.var 5) .nil) .nil) (.cons (.cst (.bl true)) .nil)) .nil)) (.or (.call 9 (.cons (.blt .list (.var 5)) .nil) .nil) (.and (.cmp .Gt (.blt .len (.var 5)) (.cst (.int 1))) (.call 9 (.cons (.rev (.var 5)) .nil) .nil)))) (.cons (.ret (.cst (.bl false))) .nil) .nil) (.cons (.asg (.name 6) (.call 6 (.cons (.var 0) (.cons (.var 1) (.cons (.bin .Add (.blt .len (.var 5)) (.cst (.int 1))) .nil))) .nil)) (.cons (.asg (.name 3) (.ix (.bor 2) (.call 6 (.cons (.var 0) (.cons (.var 1) (.cons (.blt .len (.bor 2)) .nil))) .nil))) (.cons (.ite (.cmp .Eq (.call 6 (.cons (.var 0) (.cons (.var 1) (.cons (.cst (.int 2)) .nil))) .nil) (.cst (.int 0))) (.cons (.asg (.name 7) (.ix (.lst (.cons (.cst (.int 1)) (.cons (.cst (.int 2)) (.cons (.cst (.int 3)) (.cons (.cst (.int 5)) (.cons (.cst (.int 6)) (.cons (.cst (.int 8)) (.cons (.cst (.int 9)) (.cons (.cst (.int 49)) .nil))))))))) (.call 6 (.cons (.var 0) (.cons (.var 1) (.cons (.cst (.int 8)) .nil))) .nil))) (.cons (.asg (.name 3) (.tup (.cons (.var 7) (.cons (.tup (.cons (.bin .Sub (.call 6 (.cons (.var 0) (.cons (.var 1) (.cons (.cst (.int 5)) .nil))) .nil) (.cst (.int 2))) (.cons (.bin .Add (.cst (.int 1)) (.call 6 (.cons (.var 0) (.cons (.var 1) (.cons (.cst (.int 3)) .nil))) .nil)) .nil))) .nil)))) .nil)) .nil) (.cons (.asg (.name 8) (.bin .Add (.bin .Add (.cut (.var 5) .none (.some (.var 6))) (.tup (.cons (.var 3) .nil))) (.cut (.var 5) (.some (.var 6)) .none))) (.cons (.asg (.name 9) (.cmp .Eq (.comp [("part", 10)] (.var 10) (.name 10) (.val (.var 8)) (.some (.not (.call 11 (.cons (.var 10) .nil) .nil)))) (.lst .nil))) (.cons (.ite (.var 9) (.cons (.asg (.name 9) (.cmp .Eq (.comp [("pair", 11)] (.var 11) (.name 11) (.zipN (.var 8) (.cut (.var 8) (.some (.cst (.int 1))) .none)) (.some (.cmp .GtE (.ix (.ix (.var 11) (.cst (.int 0))) (.cst (.int 0))) (.ix (.ix (.var 11) (.cst (.int 1))) (.cst (.int 0)))))) (.lst .nil))) .nil) .nil) (.cons (.ite (.not (.call 8 (.cons (.call 9 (.cons (.var 8) .nil) .nil) (.cons (.var 9) .nil)) .nil)) (.cons (.ret (.cst (.bl false))) .nil) .nil) .nil)))))))))
def b_law : Ss := (.cons (.new 2 (.lst (.cons (.cst .non) (.cons (.cst (.int 3)) (.cons (.tup .nil) (.cons (.tup (.cons (.cst (.int 1)) .nil)) (.cons (.tup (.cons (.cst (.int 4)) (.cons (.tup (.cons (.cst (.int 1)) (.cons (.cst (.int 2)) .nil))) .nil))) (.cons (.tup (.cons (.cst (.int 1)) (.cons (.tup (.cons (.cst (.int 2)) (.cons (.cst (.int 4)) .nil))) .nil))) (.cons (.tup (.cons (.cst (.int 2)) (.cons (.tup (.cons (.cst (.int 0)) (.cons (.cst (.int 1)) .nil))) .nil))) (.cons (.tup (.cons (.cst (.int 0)) (.cons (.tup (.cons (.cst (.int 1)) (.cons (.cst (.int 1)) .nil))) .nil))) (.cons (.tup (.cons (.neg (.cst (.int 2))) (.cons (.tup (.cons (.cst (.int 1)) (.cons (.cst (.int 1)) .nil))) .nil))) (.cons (.tup (.cons (.cst (.int 3)) (.cons (.tup (.cons (.cst (.int 1)) (.cons (.cst (.int 0)) .nil))) .nil))) .nil)))))))))))) (.cons (.app 2 (.tup (.cons (.cst (.int 3)) (.cons (.tup (.cons (.cst (.int 1)) (.cons (.neg (.cst (.int 2))) .nil))) .nil)))) (.cons (.new 2 (.cat (.bor 2) (.lst (.cons (.tup (.cons (.cst (.bl true)) (.cons (.tup (.cons (.cst (.int 1)) (.cons (.cst (.int 1)) .nil))) .nil))) (.cons (.tup (.cons (.cst (.int 5)) (.cons (.tup (.cons (.cst (.bl true)) (.cons (.cst (.int 2)) .nil))) .nil))) (.cons (.tup (.cons (.cst (.int 5)) (.cons (.tup (.cons (.cst (.int 1)) (.cons (.cst (.int 2)) (.cons (.cst (.int 3)) .nil)))) .nil))) (.cons (.lst (.cons (.cst (.int 5)) (.cons (.tup (.cons (.cst (.int 1)) (.cons (.cst (.int 2)) .nil))) .nil))) (.cons (.tup (.cons (.cst (.int 12)) (.cons (.tup (.cons (.cst (.int 1)) (.cons (.cst (.int 1)) .nil))) .nil))) (.cons (.tup (.cons (.cst (.int 5)) (.cons (.cst (.int 1)) .nil))) (.cons (.tup (.cons (.cst (.str "5")) (.cons (.tup (.cons (.cst (.int 1)) (.cons (.cst (.int 1)) .nil))) .nil))) .nil)))))))))) (.cons (.app 2 (.tup (.cons (.cst (.int 45)) (.cons (.tup (.cons (.cst (.int 1)) (.cons (.cst (.int 3)) .nil))) .nil)))) (.cons (.frz 2) (.cons (.for (.name 3) (.val (.var 2)) b_law_1) (.cons (.for (.name 4) (.rng1 (.cst (.int 6))) b_law_2) (.cons (.ret (.and (.call 9 (.cons (.tup .nil) .nil) .nil) (.and (.not (.call 9 (.cons (.cst .non) .nil) .nil)) (.call 9 (.cons (.tup (.cons (.tup (.cons (.cst (.int 30)) (.cons (.tup (.cons (.neg (.cst (.int 7))) (.cons (.cst (.int 3)) .nil))) .nil))) .nil)) .nil) .nil)))) .nil))))))))
def n_law : List Str := ["script", "town", "odd", "thing", "k", "one", "place", "radicand", "other", "due", "part", "pair"]
def s0 : Sh := ⟨"is_whole", 1, [], [.non], 0⟩
def s1 : Sh := ⟨"is_whole", 1, ["least"], [], 0⟩
def s2 : Sh := ⟨"greatest", 2, [], [], 1⟩
def s3 : Sh := ⟨"square_parts", 1, [], [], 3⟩
def s4 : Sh := ⟨"is_fraction", 1, [], [], 2⟩
def s5 : Sh := ⟨"_law_frac", 2, [], [], 7⟩
def s6 : Sh := ⟨"_law_draw", 3, [], [], 5⟩
def s7 : Sh := ⟨"_law_a_frac", 3, [], [], 8⟩
def s8 : Sh := ⟨"_law_is", 2, [], [], 6⟩
def s9 : Sh := ⟨"is_surd", 1, [], [], 4⟩
def s10 : Sh := ⟨"_law_a_surd", 3, [], [], 9⟩
def s11 : Sh := ⟨"_law_good", 1, [], [], 10⟩
def shs : List Sh := [s0, s1, s2, s3, s4, s5, s6, s7, s8, s9, s10, s11]
def exs : List Str := []
def cst : List (Str × D) := [("NOUGHT", (D.tup [(D.int 0), (D.int 1)]))]
def fs : List Fd := [f_is_whole, f_greatest, f_is_fraction, f_square_parts, f_is_surd, f__law_draw, f__law_is, f__law_frac, f__law_a_frac, f__law_a_surd, f__law_good]
abbrev tb : Tb := ⟨shs, cst.map (·.1), exs⟩
abbrev p : Pg := ⟨tb, fs.map .df, csOf cst⟩
def d_is_whole : He.DefD := ⟨("is_whole", none), "is_whole", "is_whole", defArgs (top 2), defBody (top 2), defScope (top 2), [], [("least", .non)]⟩
def d_greatest : He.DefD := ⟨("greatest", none), "greatest", "greatest", defArgs (top 3), defBody (top 3), defScope (top 3), [], []⟩
def d_is_fraction : He.DefD := ⟨("is_fraction", none), "is_fraction", "is_fraction", defArgs (top 4), defBody (top 4), defScope (top 4), [], []⟩
def d_square_parts : He.DefD := ⟨("square_parts", none), "square_parts", "square_parts", defArgs (top 5), defBody (top 5), defScope (top 5), [], []⟩
def d_is_surd : He.DefD := ⟨("is_surd", none), "is_surd", "is_surd", defArgs (top 7), defBody (top 7), defScope (top 7), [], []⟩
def d__law_draw : He.DefD := ⟨("_law_draw", none), "_law_draw", "_law_draw", defArgs (top 9), defBody (top 9), defScope (top 9), [], []⟩
def d__law_is : He.DefD := ⟨("_law_is", none), "_law_is", "_law_is", defArgs (top 11), defBody (top 11), defScope (top 11), [], []⟩
def d__law_frac : He.DefD := ⟨("_law_frac", none), "_law_frac", "_law_frac", defArgs (top 12), defBody (top 12), defScope (top 12), [], []⟩
def d__law_a_frac : He.DefD := ⟨("_law_a_frac", none), "_law_a_frac", "_law_a_frac", defArgs (top 13), defBody (top 13), defScope (top 13), [], []⟩
def d__law_a_surd : He.DefD := ⟨("_law_a_surd", none), "_law_a_surd", "_law_a_surd", defArgs (top 14), defBody (top 14), defScope (top 14), [], []⟩
def d__law_good : He.DefD := ⟨("_law_good", none), "_law_good", "_law_good", defArgs (top 15), defBody (top 15), defScope (top 15), [], []⟩
def d__law_begun : He.DefD := ⟨("_law_begun", none), "_law_begun", "_law_begun", defArgs (top 10), defBody (top 10), defScope (top 10), [], []⟩
def d_law : He.DefD := ⟨("law", none), "law", "law", defArgs (top 16), defBody (top 16), defScope (top 16), [], []⟩
def fn : List He.DefD := [d_is_whole, d_greatest, d_is_fraction, d_square_parts, d_is_surd, d__law_draw, d__law_is, d__law_frac, d__law_a_frac, d__law_a_surd, d__law_good, d__law_begun, d_law]
abbrev fa : List He.Fa := faOf fn exs
theorem chk : okDefs tb fs fn = true := by decide +kernel
theorem chkL : okLaw tb n_law b_law d_law d__law_begun = true := by decide +kernel
theorem bn0 {K : PySem.W.Frag} {mg : Str → Option Value} {fd : FuncData} (F : FunD K d_is_whole.name d_is_whole.qual d_is_whole.params d_is_whole.body d_is_whole.scope (d_is_whole.dvs K) (d_is_whole.kws K) (He.fAd K d_is_whole.at_) fd) (g : mg "is_whole" = some (.ref (He.fAd K d_is_whole.at_))) : Bnd K mg s0 (He.fAd K d_is_whole.at_) fd ["thing", "least"] := by
  refine ⟨g, F.kp, rfl, fun _ => ?_, fun z => absurd rfl z⟩
  exact FunD.binds0 (ps := ["thing", "least"]) F 1 (by simp [He.DefD.kws, d_is_whole]) rfl fun D doc pm an cdv ct us ks h1 h2 => match us, ks, h1, h2 with | [_], [_], _, _ => ⟨_, _, _, _, _, _, rfl, rfl, rfl⟩
theorem bn1 {K : PySem.W.Frag} {mg : Str → Option Value} {fd : FuncData} (F : FunD K d_is_whole.name d_is_whole.qual d_is_whole.params d_is_whole.body d_is_whole.scope (d_is_whole.dvs K) (d_is_whole.kws K) (He.fAd K d_is_whole.at_) fd) (g : mg "is_whole" = some (.ref (He.fAd K d_is_whole.at_))) : Bnd K mg s1 (He.fAd K d_is_whole.at_) fd ["thing", "least"] := by
  refine ⟨g, F.kp, rfl, fun z => absurd z (by decide), fun _ => ?_⟩
  obtain ⟨mv, h⟩ := FunD.kbinds0 (ps := ["thing", "least"]) F 1 ["least"] [] (fun vs _ zs => vs ++ zs ++ []) (by simp [He.DefD.kws, d_is_whole]) (fun q hq => by cases hq) (fun r1 _ r3 => (r1.append r3).append .nil) fun D doc pm an cdv ct us mv ws h1 h2 h3 => match us, mv, ws, h1, h2, h3 with | [_], [], [_], _, _, _ => (by show bindArgs _ _ = pure _; rfl)
  exact ⟨_, h⟩
theorem bn2 {K : PySem.W.Frag} {mg : Str → Option Value} {fd : FuncData} (F : FunD K d_greatest.name d_greatest.qual d_greatest.params d_greatest.body d_greatest.scope (d_greatest.dvs K) (d_greatest.kws K) (He.fAd K d_greatest.at_) fd) (g : mg "greatest" = some (.ref (He.fAd K d_greatest.at_))) : Bnd K mg s2 (He.fAd K d_greatest.at_) fd ["one", "other"] := by
  exact ⟨g, F.kp, rfl, fun _ => ⟨[], .nil, FunD.bindsN (ps := ["one", "other"]) F fun _ _ _ _ _ _ us hl => match us, hl with | [_, _], _ => rfl⟩, fun z => absurd rfl z⟩
theorem bn3 {K : PySem.W.Frag} {mg : Str → Option Value} {fd : FuncData} (F : FunD K d_square_parts.name d_square_parts.qual d_square_parts.params d_square_parts.body d_square_parts.scope (d_square_parts.dvs K) (d_square_parts.kws K) (He.fAd K d_square_parts.at_) fd) (g : mg "square_parts" = some (.ref (He.fAd K d_square_parts.at_))) : Bnd K mg s3 (He.fAd K d_square_parts.at_) fd ["number"] := by
  exact ⟨g, F.kp, rfl, fun _ => ⟨[], .nil, FunD.bindsN (ps := ["number"]) F fun _ _ _ _ _ _ us hl => match us, hl with | [_], _ => rfl⟩, fun z => absurd rfl z⟩
theorem bn4 {K : PySem.W.Frag} {mg : Str → Option Value} {fd : FuncData} (F : FunD K d_is_fraction.name d_is_fraction.qual d_is_fraction.params d_is_fraction.body d_is_fraction.scope (d_is_fraction.dvs K) (d_is_fraction.kws K) (He.fAd K d_is_fraction.at_) fd) (g : mg "is_fraction" = some (.ref (He.fAd K d_is_fraction.at_))) : Bnd K mg s4 (He.fAd K d_is_fraction.at_) fd ["thing"] := by
  exact ⟨g, F.kp, rfl, fun _ => ⟨[], .nil, FunD.bindsN (ps := ["thing"]) F fun _ _ _ _ _ _ us hl => match us, hl with | [_], _ => rfl⟩, fun z => absurd rfl z⟩
theorem bn5 {K : PySem.W.Frag} {mg : Str → Option Value} {fd : FuncData} (F : FunD K d__law_frac.name d__law_frac.qual d__law_frac.params d__law_frac.body d__law_frac.scope (d__law_frac.dvs K) (d__law_frac.kws K) (He.fAd K d__law_frac.at_) fd) (g : mg "_law_frac" = some (.ref (He.fAd K d__law_frac.at_))) : Bnd K mg s5 (He.fAd K d__law_frac.at_) fd ["top", "bottom"] := by
  exact ⟨g, F.kp, rfl, fun _ => ⟨[], .nil, FunD.bindsN (ps := ["top", "bottom"]) F fun _ _ _ _ _ _ us hl => match us, hl with | [_, _], _ => rfl⟩, fun z => absurd rfl z⟩
theorem bn6 {K : PySem.W.Frag} {mg : Str → Option Value} {fd : FuncData} (F : FunD K d__law_draw.name d__law_draw.qual d__law_draw.params d__law_draw.body d__law_draw.scope (d__law_draw.dvs K) (d__law_draw.kws K) (He.fAd K d__law_draw.at_) fd) (g : mg "_law_draw" = some (.ref (He.fAd K d__law_draw.at_))) : Bnd K mg s6 (He.fAd K d__law_draw.at_) fd ["script", "town", "many"] := by
  exact ⟨g, F.kp, rfl, fun _ => ⟨[], .nil, FunD.bindsN (ps := ["script", "town", "many"]) F fun _ _ _ _ _ _ us hl => match us, hl with | [_, _, _], _ => rfl⟩, fun z => absurd rfl z⟩
theorem bn7 {K : PySem.W.Frag} {mg : Str → Option Value} {fd : FuncData} (F : FunD K d__law_a_frac.name d__law_a_frac.qual d__law_a_frac.params d__law_a_frac.body d__law_a_frac.scope (d__law_a_frac.dvs K) (d__law_a_frac.kws K) (He.fAd K d__law_a_frac.at_) fd) (g : mg "_law_a_frac" = some (.ref (He.fAd K d__law_a_frac.at_))) : Bnd K mg s7 (He.fAd K d__law_a_frac.at_) fd ["script", "town", "size"] := by
  exact ⟨g, F.kp, rfl, fun _ => ⟨[], .nil, FunD.bindsN (ps := ["script", "town", "size"]) F fun _ _ _ _ _ _ us hl => match us, hl with | [_, _, _], _ => rfl⟩, fun z => absurd rfl z⟩
theorem bn8 {K : PySem.W.Frag} {mg : Str → Option Value} {fd : FuncData} (F : FunD K d__law_is.name d__law_is.qual d__law_is.params d__law_is.body d__law_is.scope (d__law_is.dvs K) (d__law_is.kws K) (He.fAd K d__law_is.at_) fd) (g : mg "_law_is" = some (.ref (He.fAd K d__law_is.at_))) : Bnd K mg s8 (He.fAd K d__law_is.at_) fd ["told", "due"] := by
  exact ⟨g, F.kp, rfl, fun _ => ⟨[], .nil, FunD.bindsN (ps := ["told", "due"]) F fun _ _ _ _ _ _ us hl => match us, hl with | [_, _], _ => rfl⟩, fun z => absurd rfl z⟩
theorem bn9 {K : PySem.W.Frag} {mg : Str → Option Value} {fd : FuncData} (F : FunD K d_is_surd.name d_is_surd.qual d_is_surd.params d_is_surd.body d_is_surd.scope (d_is_surd.dvs K) (d_is_surd.kws K) (He.fAd K d_is_surd.at_) fd) (g : mg "is_surd" = some (.ref (He.fAd K d_is_surd.at_))) : Bnd K mg s9 (He.fAd K d_is_surd.at_) fd ["thing"] := by
  exact ⟨g, F.kp, rfl, fun _ => ⟨[], .nil, FunD.bindsN (ps := ["thing"]) F fun _ _ _ _ _ _ us hl => match us, hl with | [_], _ => rfl⟩, fun z => absurd rfl z⟩
theorem bn10 {K : PySem.W.Frag} {mg : Str → Option Value} {fd : FuncData} (F : FunD K d__law_a_surd.name d__law_a_surd.qual d__law_a_surd.params d__law_a_surd.body d__law_a_surd.scope (d__law_a_surd.dvs K) (d__law_a_surd.kws K) (He.fAd K d__law_a_surd.at_) fd) (g : mg "_law_a_surd" = some (.ref (He.fAd K d__law_a_surd.at_))) : Bnd K mg s10 (He.fAd K d__law_a_surd.at_) fd ["script", "town", "most"] := by
  exact ⟨g, F.kp, rfl, fun _ => ⟨[], .nil, FunD.bindsN (ps := ["script", "town", "most"]) F fun _ _ _ _ _ _ us hl => match us, hl with | [_, _, _], _ => rfl⟩, fun z => absurd rfl z⟩
theorem bn11 {K : PySem.W.Frag} {mg : Str → Option Value} {fd : FuncData} (F : FunD K d__law_good.name d__law_good.qual d__law_good.params d__law_good.body d__law_good.scope (d__law_good.dvs K) (d__law_good.kws K) (He.fAd K d__law_good.at_) fd) (g : mg "_law_good" = some (.ref (He.fAd K d__law_good.at_))) : Bnd K mg s11 (He.fAd K d__law_good.at_) fd ["thing"] := by
  exact ⟨g, F.kp, rfl, fun _ => ⟨[], .nil, FunD.bindsN (ps := ["thing"]) F fun _ _ _ _ _ _ us hl => match us, hl with | [_], _ => rfl⟩, fun z => absurd rfl z⟩
@[simp] theorem g0 {ns : List Int} {k : Nat} (xs ys : List D) (t : Tw) : gam p ns k 0 xs ys t = callF p ns k i_is_whole (xs ++ ys ++ [D.non]) t := gam_at (sh := s0) rfl xs ys t
@[simp] theorem g1 {ns : List Int} {k : Nat} (xs ys : List D) (t : Tw) : gam p ns k 1 xs ys t = callF p ns k i_is_whole (xs ++ ys ++ []) t := gam_at (sh := s1) rfl xs ys t
@[simp] theorem g2 {ns : List Int} {k : Nat} (xs ys : List D) (t : Tw) : gam p ns k 2 xs ys t = callF p ns k i_greatest (xs ++ ys ++ []) t := gam_at (sh := s2) rfl xs ys t
@[simp] theorem g3 {ns : List Int} {k : Nat} (xs ys : List D) (t : Tw) : gam p ns k 3 xs ys t = callF p ns k i_square_parts (xs ++ ys ++ []) t := gam_at (sh := s3) rfl xs ys t
@[simp] theorem g4 {ns : List Int} {k : Nat} (xs ys : List D) (t : Tw) : gam p ns k 4 xs ys t = callF p ns k i_is_fraction (xs ++ ys ++ []) t := gam_at (sh := s4) rfl xs ys t
@[simp] theorem g5 {ns : List Int} {k : Nat} (xs ys : List D) (t : Tw) : gam p ns k 5 xs ys t = callF p ns k i__law_frac (xs ++ ys ++ []) t := gam_at (sh := s5) rfl xs ys t
@[simp] theorem g6 {ns : List Int} {k : Nat} (xs ys : List D) (t : Tw) : gam p ns k 6 xs ys t = callF p ns k i__law_draw (xs ++ ys ++ []) t := gam_at (sh := s6) rfl xs ys t
@[simp] theorem g7 {ns : List Int} {k : Nat} (xs ys : List D) (t : Tw) : gam p ns k 7 xs ys t = callF p ns k i__law_a_frac (xs ++ ys ++ []) t := gam_at (sh := s7) rfl xs ys t
@[simp] theorem g8 {ns : List Int} {k : Nat} (xs ys : List D) (t : Tw) : gam p ns k 8 xs ys t = callF p ns k i__law_is (xs ++ ys ++ []) t := gam_at (sh := s8) rfl xs ys t
@[simp] theorem g9 {ns : List Int} {k : Nat} (xs ys : List D) (t : Tw) : gam p ns k 9 xs ys t = callF p ns k i_is_surd (xs ++ ys ++ []) t := gam_at (sh := s9) rfl xs ys t
@[simp] theorem g10 {ns : List Int} {k : Nat} (xs ys : List D) (t : Tw) : gam p ns k 10 xs ys t = callF p ns k i__law_a_surd (xs ++ ys ++ []) t := gam_at (sh := s10) rfl xs ys t
@[simp] theorem g11 {ns : List Int} {k : Nat} (xs ys : List D) (t : Tw) : gam p ns k 11 xs ys t = callF p ns k i__law_good (xs ++ ys ++ []) t := gam_at (sh := s11) rfl xs ys t
theorem u_is_whole {ns : List Int} {k : Nat} (ds : List D) (t : Tw) : callF p ns (k + 1) i_is_whole ds t = retD (evSs (gam p ns k) (csOf cst) b_is_whole (startR ["thing", "least"] ds) t) := callF_df (i := 0) (f := f_is_whole) rfl ds t
theorem u_greatest {ns : List Int} {k : Nat} (ds : List D) (t : Tw) : callF p ns (k + 1) i_greatest ds t = retD (evSs (gam p ns k) (csOf cst) b_greatest (startR ["one", "other"] ds) t) := callF_df (i := 1) (f := f_greatest) rfl ds t
theorem u_is_fraction {ns : List Int} {k : Nat} (ds : List D) (t : Tw) : callF p ns (k + 1) i_is_fraction ds t = retD (evSs (gam p ns k) (csOf cst) b_is_fraction (startR ["thing"] ds) t) := callF_df (i := 2) (f := f_is_fraction) rfl ds t
theorem u_square_parts {ns : List Int} {k : Nat} (ds : List D) (t : Tw) : callF p ns (k + 1) i_square_parts ds t = retD (evSs (gam p ns k) (csOf cst) b_square_parts (startR ["number", "root", "left", "divisor"] ds) t) := callF_df (i := 3) (f := f_square_parts) rfl ds t
theorem u_is_surd {ns : List Int} {k : Nat} (ds : List D) (t : Tw) : callF p ns (k + 1) i_is_surd ds t = retD (evSs (gam p ns k) (csOf cst) b_is_surd (startR ["thing", "part", "radicand", "fraction", "one", "other"] ds) t) := callF_df (i := 4) (f := f_is_surd) rfl ds t
theorem u__law_draw {ns : List Int} {k : Nat} (ds : List D) (t : Tw) : callF p ns (k + 1) i__law_draw ds t = retD (evSs (gam p ns k) (csOf cst) b__law_draw (startR ["script", "town", "many", "at", "rest", "number"] ds) t) := callF_df (i := 5) (f := f__law_draw) rfl ds t
theorem u__law_is {ns : List Int} {k : Nat} (ds : List D) (t : Tw) : callF p ns (k + 1) i__law_is ds t = retD (evSs (gam p ns k) (csOf cst) b__law_is (startR ["told", "due"] ds) t) := callF_df (i := 6) (f := f__law_is) rfl ds t
theorem u__law_frac {ns : List Int} {k : Nat} (ds : List D) (t : Tw) : callF p ns (k + 1) i__law_frac ds t = retD (evSs (gam p ns k) (csOf cst) b__law_frac (startR ["top", "bottom", "one", "other"] ds) t) := callF_df (i := 7) (f := f__law_frac) rfl ds t
theorem u__law_a_frac {ns : List Int} {k : Nat} (ds : List D) (t : Tw) : callF p ns (k + 1) i__law_a_frac ds t = retD (evSs (gam p ns k) (csOf cst) b__law_a_frac (startR ["script", "town", "size"] ds) t) := callF_df (i := 8) (f := f__law_a_frac) rfl ds t
theorem u__law_a_surd {ns : List Int} {k : Nat} (ds : List D) (t : Tw) : callF p ns (k + 1) i__law_a_surd ds t = retD (evSs (gam p ns k) (csOf cst) b__law_a_surd (startR ["script", "town", "most", "found", "k", "part", "radicand"] ds) t) := callF_df (i := 9) (f := f__law_a_surd) rfl ds t
theorem u__law_good {ns : List Int} {k : Nat} (ds : List D) (t : Tw) : callF p ns (k + 1) i__law_good ds t = retD (evSs (gam p ns k) (csOf cst) b__law_good (startR ["thing", "k", "part", "n"] ds) t) := callF_df (i := 10) (f := f__law_good) rfl ds t
@[simp] theorem c_NOUGHT : csOf cst 0 = (D.tup [(D.int 0), (D.int 1)]) := rfl
theorem so : ShOk p fn := by
  refine ⟨fun K mg ffd hf hg j sh e => ?_⟩
  match j, e with
  | 0, e =>
    cases e
    exact ⟨.df f_is_whole, rfl, bn0 (hf 0 d_is_whole rfl) (hg 0 d_is_whole rfl)⟩
  | 1, e =>
    cases e
    exact ⟨.df f_is_whole, rfl, bn1 (hf 0 d_is_whole rfl) (hg 0 d_is_whole rfl)⟩
  | 2, e =>
    cases e
    exact ⟨.df f_greatest, rfl, bn2 (hf 1 d_greatest rfl) (hg 1 d_greatest rfl)⟩
  | 3, e =>
    cases e
    exact ⟨.df f_square_parts, rfl, bn3 (hf 3 d_square_parts rfl) (hg 3 d_square_parts rfl)⟩
  | 4, e =>
    cases e
    exact ⟨.df f_is_fraction, rfl, bn4 (hf 2 d_is_fraction rfl) (hg 2 d_is_fraction rfl)⟩
  | 5, e =>
    cases e
    exact ⟨.df f__law_frac, rfl, bn5 (hf 7 d__law_frac rfl) (hg 7 d__law_frac rfl)⟩
  | 6, e =>
    cases e
    exact ⟨.df f__law_draw, rfl, bn6 (hf 5 d__law_draw rfl) (hg 5 d__law_draw rfl)⟩
  | 7, e =>
    cases e
    exact ⟨.df f__law_a_frac, rfl, bn7 (hf 8 d__law_a_frac rfl) (hg 8 d__law_a_frac rfl)⟩
  | 8, e =>
    cases e
    exact ⟨.df f__law_is, rfl, bn8 (hf 6 d__law_is rfl) (hg 6 d__law_is rfl)⟩
  | 9, e =>
    cases e
    exact ⟨.df f_is_surd, rfl, bn9 (hf 4 d_is_surd rfl) (hg 4 d_is_surd rfl)⟩
  | 10, e =>
    cases e
    exact ⟨.df f__law_a_surd, rfl, bn10 (hf 9 d__law_a_surd rfl) (hg 9 d__law_a_surd rfl)⟩
  | 11, e =>
    cases e
    exact ⟨.df f__law_good, rfl, bn11 (hf 10 d__law_good rfl) (hg 10 d__law_good rfl)⟩
  | n + 12, e => simp [shs] at e
abbrev R : PySem.W.OpenRow := PySem.W.OpenLaw.row PySem.Challenge.rw_formclear_k02_no_surds
abbrev hk : PySem.W.Hook := hookC 6 fa fn cst
def ob (s : PySem.W.SharedT) : AlC := obsCG 6 fa fn cst (HandSHeadRun.getT s)
def loose : List Str := ["NOUGHT", "is_whole", "greatest", "is_fraction", "square_parts", "is_surd", "_law_draw", "_law_begun", "_law_is", "_law_frac", "_law_a_frac", "_law_a_surd", "_law_good"]
theorem ob_eq (s : PySem.W.SharedT) : ob s = hk.obs s.abs := obsCG_eq (HandSHeadRun.getT_eq s)
theorem run (w : World) : HandSHeadRun.RunEq R (PySem.W.view R.prog [16]) hk ob 4000 loose w := by
  intro os
  kernel_rfl
theorem fin (k : Nat) (hk1 : 1 ≤ k) (hk2 : k + 1 ≤ 230) (hev : ∀ ns : List Int, ns.length ≤ 63 → ∃ r t, evSs (gam p ns k) (csOf cst) b_law (startL n_law ns) ⟨0, []⟩ = .ok (.ret (.bl true), r) t) : PySem.Challenge.rw_formclear_k02_no_surds.Holds := by
  open PySem PySem.W PySem.Calls in
  w_on; o_law
  refine HandSHeadRun.head_any (r := R) (q := view R.prog [16]) (H := hk) (ob := ob) (M := 4000) (loose := loose) (d := HandSHeadRun.topDef R.prog 16) (kwd := []) ob_eq
    (by kernel_rfl) (fun s => by kernel_rfl) run (by kernel_rfl) (by kernel_rfl) (by kernel_rfl) (by rfl) (by first | assumption | decide +kernel) (by decide +kernel) ⟨rfl, rfl, rfl, rfl, rfl, by decide +kernel⟩ ?hw ?hc
  case hw => w_witness2
  case hc =>
    refine walkC (l := PySem.Challenge.rw_formclear_k02_no_surds) (n := 63) (k := k + 1) (x := "script") rfl (by decide) (by kernel_rfl) ((show Room 230 callerA from ⟨rfl, by decide, by decide⟩).mono hk2) ?F
    intro w mg f h Y G hmg0
    obtain ⟨K, KX, c⟩ := Y
    have hmg : mg ("law" : PySem.Str) = some (.ref f) := by
      have e : (HandSHeadRun.topDef R.prog 16).name = ("law" : PySem.Str) := by kernel_rfl
      rw [← e]
      exact hmg0
    obtain ⟨fd, hb, hF⟩ := lawFacts (P := (PySem.Challenge.rw_formclear_k02_no_surds).prog) (w := w) KX G c chk so (iL := 12) (iB := 11) (dL := d_law) (dB := d__law_begun) rfl rfl (d0 := fn.headD d_law) rfl chkL hmg (fun _ _ _ _ _ _ us hl => match us, hl with | [_], _ => rfl) (fun _ _ _ _ _ _ us hl => match us, hl with | [], _ => rfl) hk1 hev
    exact ⟨K, fd, spLaw K, KX, hb, fun H a ns hl _ hS => ⟨a, ns, rfl, hl, hS, fun _ => rfl⟩, hF⟩
end Lw

/-! ### whole numbers, fractions, draws: what the defs tell -/
namespace Lw
open PySem Fm
section
variable {ns : List Int} {t : Tw} {k : Nat}
theorem up1 (h : 1 ≤ k) : ∃ j, k = j + 1 := ⟨k - 1, by omega⟩
def isW : D → Bool
  | .int _ => true
  | _ => false
/-- data with no town, no script at the top -/
def pla : D → Bool
  | .tok => false
  | .scr _ => false
  | _ => true
theorem e_is_whole (hk : 1 ≤ k) (x : D) (h : pla x = true) : callF p ns k i_is_whole [x, .non] t = .ok (.bl (isW x)) t := by
  obtain ⟨k, rfl⟩ := up1 hk
  rw [u_is_whole]
  cases x <;> first | (cases h; done) | simp [b_is_whole, isW]
def isWL (l : Int) : D → Bool
  | .int i => decide (l ≤ i)
  | _ => false
theorem e_is_wholeL (hk : 1 ≤ k) (x : D) (l : Int) (h : pla x = true) : callF p ns k i_is_whole [x, .int l] t = .ok (.bl (isWL l x)) t := by
  obtain ⟨k, rfl⟩ := up1 hk
  rw [u_is_whole]
  cases x <;> first | (cases h; done) | simp [b_is_whole, isWL]
theorem gcd_mod (a b : Int) : Int.gcd b (a % b) = Int.gcd a b := by
  have h := Int.gcd_add_mul_left_right b (a % b) (a / b)
  rw [Int.emod_add_mul_ediv] at h
  rw [← h, Int.gcd_comm]
/-- one, other = other, one % other, while there is an other -/
theorem gr_loop {c : Rho → Tw → Res D} {f : Rho → Tw → Res (Fl × Rho)} (mk : Int → Int → Rho) (hc : ∀ a b : Int, c (mk a b) t = .ok (.bl (decide (0 < b))) t)
    (hf : ∀ a b : Int, 0 < b → f (mk a b) t = .ok (.nx, mk b (a.fmod b)) t) :
    ∀ (n : Nat) (a b : Int), 0 ≤ a → 0 ≤ b → b.toNat ≤ n → loopW c f (mk a b) t = .ok (.nx, mk (Int.gcd a b) 0) t := by
  intro n
  induction n with
  | zero =>
    intro a b ha hb hn
    obtain rfl : b = 0 := by omega
    rw [loopW_eq, hc]
    have : (a.natAbs : Int) = a := by omega
    simp [this]
  | succ n ih =>
    intro a b ha hb hn
    rw [loopW_eq, hc]
    by_cases h : 0 < b
    · simp [h, hf a b h]
      have h1 := fmod_rng (i := a) h
      rw [ih b (a.fmod b) hb h1.1 (by omega)]
      have : Int.gcd b (a.fmod b) = Int.gcd a b := by
        rw [Int.fmod_eq_emod_of_nonneg a hb]
        exact gcd_mod a b
      rw [this]
    · obtain rfl : b = 0 := by omega
      have : (a.natAbs : Int) = a := by omega
      simp [this]
theorem abs_ite (a : Int) : (if a < 0 then -a else a) = (a.natAbs : Int) := by
  split <;> omega
theorem e_greatest (hk : 1 ≤ k) (a b : Int) : callF p ns k i_greatest [.int a, .int b] t = .ok (.int (Int.gcd a b)) t := by
  obtain ⟨k, rfl⟩ := up1 hk
  rw [u_greatest]
  simp [b_greatest, abs_ite]
  have hl := gr_loop (t := t) (c := ev (gam p ns k) (csOf cst) (.cmp .Gt (.var 1) (.cst (.int 0)))) (f := evSs (gam p ns k) (csOf cst) b_greatest_1) (fun a b => [.val (.int a), .val (.int b)]) (fun a b => by simp) (fun a b h => by
    have : b ≠ 0 := by omega
    simp [b_greatest_1, this]) b.natAbs a.natAbs b.natAbs (by omega) (by omega) (by omega)
  rw [hl]
  simp [Int.gcd]
mutual
/-- good data -/
def gd : D → Bool
  | .non => true
  | .bl _ => true
  | .int _ => true
  | .str x => PyData.strOk x && decide (x.length ≤ 1000)
  | .tup xs => decide (xs.length ≤ 1000) && gds xs
  | .lst xs => decide (xs.length ≤ 1000) && gds xs
  | _ => false
def gds : List D → Bool
  | [] => true
  | x :: xs => gd x && gds xs
end
theorem gd_pla {x : D} (h : gd x = true) : pla x = true := by
  cases x <;> first | rfl | (simp [gd] at h)
mutual
theorem gd_lay : ∀ {x : D}, gd x = true → lay x = true
  | .non, _ => by simp [lay, D.py, PyData.canLay0]
  | .bl _, _ => by simp [lay, D.py, PyData.canLay0]
  | .int _, _ => by simp [lay, D.py, PyData.canLay0]
  | .str x, h => by
    simp [gd] at h
    simp [lay, D.py, PyData.canLay0, h.1]
  | .tup xs, h => by
    simp only [gd, Bool.and_eq_true] at h
    have := gds_lay h.2
    simp [lay, D.py, PyData.canLay0, this]
  | .lst xs, h => by
    simp only [gd, Bool.and_eq_true] at h
    have := gds_lay h.2
    simp [lay, D.py, PyData.canLay0, this]
  | .dct _, h => by simp [gd] at h
  | .tok, h => by simp [gd] at h
  | .scr _, h => by simp [gd] at h
theorem gds_lay : ∀ {xs : List D}, gds xs = true → PyData.canLayAll0 (pys xs) = true
  | [], _ => by simp [pys, PyData.canLayAll0]
  | x :: xs, h => by
    simp only [gds, Bool.and_eq_true] at h
    have h1 := gd_lay h.1
    have h2 := gds_lay h.2
    unfold lay at h1
    simp [pys, PyData.canLayAll0, h1, h2]
end
theorem gds_mem : ∀ {xs : List D}, gds xs = true → ∀ x ∈ xs, gd x = true
  | [], _, _, m => (List.not_mem_nil m).elim
  | x :: xs, h, y, m => by
    simp only [gds, Bool.and_eq_true] at h
    rcases List.mem_cons.mp m with rfl | m
    · exact h.1
    · exact gds_mem h.2 y m
theorem gds_of : ∀ {ps : List D}, (∀ x ∈ ps, gd x = true) → gds ps = true
  | [], _ => rfl
  | x :: ps, h => by
    simp only [gds, Bool.and_eq_true]
    exact ⟨h x List.mem_cons_self, gds_of fun y hy => h y (List.mem_cons_of_mem _ hy)⟩
theorem dep_mem : ∀ {xs : List D} {x : D}, x ∈ xs → dep x ≤ PyData.depthAll (pys xs)
  | [], _, m => (List.not_mem_nil m).elim
  | y :: ys, x, m => by
    simp only [pys, PyData.depthAll]
    rcases List.mem_cons.mp m with rfl | m
    · exact Nat.le_max_left ..
    · exact Nat.le_trans (dep_mem m) (Nat.le_max_right ..)
theorem dep_all : ∀ {ps : List D} {n : Nat}, (∀ x ∈ ps, dep x ≤ n) → PyData.depthAll (pys ps) ≤ n
  | [], n, _ => by simp [pys, PyData.depthAll]
  | x :: ps, n, h => by
    simp only [pys, PyData.depthAll]
    exact Nat.max_le.mpr ⟨h x List.mem_cons_self, dep_all fun y hy => h y (List.mem_cons_of_mem _ hy)⟩
theorem dep_tup {xs : List D} : dep (.tup xs) = PyData.depthAll (pys xs) + 1 := by
  simp [dep, D.py, PyData.depth]
theorem dep_lst {xs : List D} : dep (.lst xs) = PyData.depthAll (pys xs) + 1 := by
  simp [dep, D.py, PyData.depth]
theorem dep_int (i : Int) : dep (.int i) = 0 := by simp [dep, D.py, PyData.depth]
def isFr : D → Bool
  | .tup [.int a, .int b] => decide (1 ≤ b) && (Int.gcd a b == 1)
  | _ => false
@[simp] theorem at0 {α : Type} (x : α) (xs : List α) : L2.atI (x :: xs) 0 = some x := by
  simp [L2.atI, L2.ixN]
@[simp] theorem at1 {α : Type} (x y : α) (xs : List α) : L2.atI (x :: y :: xs) 1 = some y := by
  unfold L2.atI L2.ixN
  rw [if_pos (by omega), if_pos (by simp only [List.length_cons]; omega)]
  rfl
theorem e_is_fraction (hk : 2 ≤ k) (x : D) (h : gd x = true) : callF p ns k i_is_fraction [x] t = .ok (.bl (isFr x)) t := by
  obtain ⟨k, rfl⟩ := up1 (show 1 ≤ k by omega)
  have hk : 1 ≤ k := by omega
  rw [u_is_fraction]
  cases x with
  | tup xs =>
    match xs, h with
    | [], _ => simp [b_is_fraction, isFr]
    | [a], _ => simp [b_is_fraction, isFr]
    | [a, b], h =>
      simp only [gd, gds, Bool.and_eq_true] at h
      have ha := e_is_whole (ns := ns) (t := t) hk a (gd_pla h.2.1)
      have hb := e_is_wholeL (ns := ns) (t := t) hk b 1 (gd_pla h.2.2.1)
      simp [b_is_fraction, ha, hb]
      cases a <;> simp [isW, isFr]
      cases b <;> simp [isWL, isFr]
      rename_i a b
      by_cases hb : 1 ≤ b
      · have : ¬ b < 1 := by omega
        simp [hb, this, e_greatest hk]
        rw [Bool.eq_iff_iff]
        simp
        try omega
      · simp [hb]
    | a :: b :: c :: r, _ =>
      have : ¬ ((r.length : Int) + 1 + 1 + 1 = 2) := by
        omega
      simp [b_is_fraction, isFr, this]
  | _ => first | (simp [gd] at h; done) | simp [b_is_fraction, isFr]
variable {sc : List Int} {n : Nat}
theorem e_draw (hk : 1 ≤ k) (m : Int) (hm : 0 < m) (hm2 : m < 1048576) (h : rm (n + 1) t) : ∃ v t', callF p ns k i__law_draw [.scr sc, .tok, .int m] t = .ok (.int v) t' ∧ 0 ≤ v ∧ v < m ∧ rm n t' := by
  obtain ⟨k, rfl⟩ := up1 hk
  obtain ⟨v, t', e, q⟩ := draw_ev (G := gam p ns k) (cs := csOf cst) (ns := sc) hm hm2 h
  refine ⟨v, t', ?_, q⟩
  rw [u__law_draw]
  exact e
/-- a fraction's two numbers -/
abbrev fr (a b : Int) : D := .tup [.int a, .int b]
theorem e_frac (hk : 1 ≤ k) (a b : Int) (hb : 1 ≤ b) (hb2 : b < 2 ^ 8999) : callF p ns k i__law_frac [.int a, .int b] t = .ok (fr (a / Int.gcd a b) (b / Int.gcd a b)) t := by
  obtain ⟨k, rfl⟩ := up1 hk
  have hg : 0 < Int.gcd a b := Int.gcd_pos_of_ne_zero_right a (by omega)
  have hgb : (Int.gcd a b : Int) ≤ b := Int.le_of_dvd (by omega) (Int.gcd_dvd_right _ _)
  rw [u__law_frac]
  have hl := gr_loop (t := t) (c := ev (gam p ns k) (csOf cst) (.cmp .Gt (.var 3) (.cst (.int 0)))) (f := evSs (gam p ns k) (csOf cst) b__law_frac_1) (fun x y => [.val (.int a), .val (.int b), .val (.int x), .val (.int y)]) (fun a b => by simp) (fun a b h => by
    have : b ≠ 0 := by omega
    simp [b__law_frac_1, this]) b.natAbs a.natAbs b.natAbs (by omega) (by omega) (by omega)
  have hgg : Int.gcd (a.natAbs : Int) (b.natAbs : Int) = Int.gcd a b := by simp [Int.gcd]
  rw [hgg] at hl
  have hd : okDiv (Int.gcd a b : Int) = true := okDiv_of (k := 8999) (by omega) (by
    have : ((Int.gcd a b : Int).natAbs : Int) < ((2 ^ 8999 : Nat) : Int) := by
      rw [Int.natAbs_natCast]
      exact Int.lt_of_le_of_lt hgb (by simpa using hb2)
    exact_mod_cast this) (by omega) (by omega)
  have h0 : 0 < b := by omega
  simp only [b__law_frac, x_startR, x_evSs_cons, x_consE]
  simp [abs_ite, hl, h0, hd, Int.fdiv_eq_ediv_of_nonneg]
/-- a small fraction -/
structure SmF (s x y : Int) : Prop where
  g : Int.gcd x y = 1
  lo : 1 ≤ y
  hi : y ≤ 3
  num : -s ≤ x ∧ x ≤ s
theorem SmF.isFr {s x y : Int} (h : SmF s x y) : isFr (fr x y) = true := by
  simp [Lw.isFr, h.g, h.lo]
theorem smF_of {s a b : Int} (ha : -s ≤ a ∧ a ≤ s) (hb : 1 ≤ b ∧ b ≤ 3) : SmF s (a / Int.gcd a b) (b / Int.gcd a b) := by
  have hg : 0 < Int.gcd a b := Int.gcd_pos_of_ne_zero_right a (by omega)
  have hg' : (0 : Int) < Int.gcd a b := by omega
  have hgb : (Int.gcd a b : Int) ≤ b := Int.le_of_dvd (by omega) (Int.gcd_dvd_right _ _)
  obtain ⟨q, hq⟩ := Int.gcd_dvd_left a b
  have e : a / Int.gcd a b = q := by
    have : a = q * (Int.gcd a b : Int) := by rw [Int.mul_comm]; exact hq
    calc a / (Int.gcd a b : Int) = (q * (Int.gcd a b : Int)) / (Int.gcd a b : Int) := by rw [← this]
      _ = q := Int.mul_ediv_cancel _ (by omega)
  refine ⟨Int.gcd_ediv_gcd_ediv_gcd hg, Int.le_ediv_of_mul_le (by omega) (by omega), ?_, ?_⟩
  · have := Int.ediv_le_self (a := b) (Int.gcd a b : Int) (by omega)
    omega
  · rw [e]
    have hq : a = (Int.gcd a b : Int) * q := hq
    generalize (Int.gcd a b : Int) = g at *
    constructor
    · by_cases h : q < 0
      · have : g * q ≤ 1 * q := Int.mul_le_mul_of_nonpos_right (by omega) (by omega)
        omega
      · omega
    · by_cases h : 0 < q
      · have : 1 * q ≤ g * q := Int.mul_le_mul_of_nonneg_right (by omega) (by omega)
        omega
      · omega
theorem e_a_frac (hk : 2 ≤ k) (s : Int) (hs : 0 ≤ s ∧ s ≤ 1000) (h : rm (n + 2) t) : ∃ x y t', callF p ns k i__law_a_frac [.scr sc, .tok, .int s] t = .ok (fr x y) t' ∧ SmF s x y ∧ rm n t' := by
  obtain ⟨k, rfl⟩ := up1 (show 1 ≤ k by omega)
  have hk : 1 ≤ k := by omega
  obtain ⟨v, t1, e1, a1, b1, h1⟩ := e_draw (ns := ns) (sc := sc) hk (2 * s + 1) (by omega) (by omega) (show rm (n + 1 + 1) t from h)
  obtain ⟨u, t2, e2, a2, b2, h2⟩ := e_draw (ns := ns) (sc := sc) hk 3 (by omega) (by omega) h1
  have e3 := e_frac (ns := ns) (t := t2) hk (v - s) (1 + u) (by omega) (by
    have : (1 + u : Int) < 2 ^ 3 := by omega
    exact Int.lt_of_lt_of_le this (by exact_mod_cast Nat.pow_le_pow_right (n := 2) (by omega) (show 3 ≤ 8999 by omega)))
  refine ⟨_, _, t2, ?_, smF_of (s := s) (a := v - s) (b := 1 + u) (by omega) (by omega), h2⟩
  have om : okMul 2 s = true := okMul_of (k := 2) (l := 10) (by decide) (by omega) (by omega) (by omega) (by omega)
  rw [u__law_a_frac]
  simp [b__law_a_frac, om, e1, e2, e3]
end
end Lw

/-! ### squares in whole numbers -/
namespace Lw
open PySem Fm
/-- no square above 1 divides it -/
def Sqf (n : Int) : Prop := ∀ e : Int, 2 ≤ e → ¬ (e * e ∣ n)
section
variable {ns : List Int} {t : Tw} {k : Nat}
abbrev rsq (n root left d : Int) : Rho := [.val (.int n), .val (.int root), .val (.int left), .val (.int d)]
theorem nat_pow_lt {a : Int} {m : Nat} (h0 : 0 ≤ a) (h : a < 2 ^ m) : a.natAbs < 2 ^ m := by
  have : ((a.natAbs : Nat) : Int) < ((2 ^ m : Nat) : Int) := by
    rw [Int.natAbs_of_nonneg h0]
    simpa using h
  exact_mod_cast this
theorem okMul4 {a b : Int} (ha : 0 ≤ a) (hb : 0 ≤ b) (h1 : a < 2 ^ 4000) (h2 : b < 2 ^ 4000) : okMul a b = true :=
  okMul_of (nat_pow_lt ha h1) (nat_pow_lt hb h2) (by omega) (by omega) (by omega)
theorem okDiv4 {a : Int} (ha : 0 < a) (h1 : a < 2 ^ 4000) : okDiv a = true :=
  okDiv_of (by omega) (nat_pow_lt (by omega) h1) (by omega) (by omega)
theorem sq_inner {d n : Int} (hd : 2 ≤ d) (hd4 : d < 2 ^ 4000) : ∀ (m : Nat) (root left : Int), left.toNat ≤ m → 1 ≤ root → 1 ≤ left → root * root * left < 2 ^ 4000 → d * d < 2 ^ 4000 →
    ∃ root' left', loopW (ev (gam p ns k) (csOf cst) (.cmp .Eq (.bin .Mod (.var 2) (.bin .Mult (.var 3) (.var 3))) (.cst (.int 0)))) (evSs (gam p ns k) (csOf cst) b_square_parts_2) (rsq n root left d) t = .ok (.nx, rsq n root' left' d) t ∧
      1 ≤ root' ∧ 1 ≤ left' ∧ root' * root' * left' = root * root * left ∧ ¬ (d * d ∣ left') ∧ left' ∣ left ∧ left' ≤ left := by
  intro m
  induction m with
  | zero => intro root left h1 h2 h3; omega
  | succ m ih =>
    intro root left hm hr hl hb hdd
    have hd0 : 0 < d * d := Int.mul_pos (by omega) (by omega)
    have hd4' : 4 ≤ d * d := by
      have : 2 * 2 ≤ d * d := Int.mul_le_mul hd hd (by omega) (by omega)
      omega
    have ok1 : okMul d d = true := okMul4 (by omega) (by omega) hd4 hd4
    have lay1 : ∀ a b : Int, eqOp (.int a) (.int b) = some (.bl (decide (a = b))) := fun a b => by
      simp [eqOp, okEq, lay, dep, D.py, PyData.canLay0, PyData.depth, eqD, PyData.eqv]
      by_cases h : a = b <;> simp [h]
    rw [loopW_eq]
    by_cases hdv : d * d ∣ left
    · obtain ⟨q, hq⟩ := hdv
      have hq0 : 0 < q := by
        rcases Int.lt_trichotomy q 0 with h | h | h
        · have := Int.mul_neg_of_pos_of_neg hd0 h
          omega
        · subst h
          simp at hq
          omega
        · exact h
      have e1 : left.fmod (d * d) = 0 := by
        rw [Int.fmod_eq_emod_of_nonneg _ (by omega), hq]
        exact Int.mul_emod_right _ _
      have e2 : left.fdiv (d * d) = q := by
        rw [Int.fdiv_eq_ediv_of_nonneg _ (by omega), hq]
        exact Int.mul_ediv_cancel_left _ (by omega)
      have hql : q < left := by
        have : 4 * q ≤ d * d * q := Int.mul_le_mul_of_nonneg_right hd4' (by omega)
        omega
      have hrr : 1 ≤ root * root := by
        have := Int.mul_le_mul hr hr (by omega) (by omega)
        omega
      have hroot : root < 2 ^ 4000 := by
        have h1 : root * 1 ≤ root * root := Int.mul_le_mul_of_nonneg_left hr (by omega)
        have h2 : root * root * 1 ≤ root * root * left := Int.mul_le_mul_of_nonneg_left hl (by omega)
        omega
      have ok2 : okDiv (d * d) = true := okDiv4 hd0 hdd
      have ok3 : okMul root d = true := okMul4 (by omega) (by omega) hroot hd4
      have hrd : 1 ≤ root * d := by
        have := Int.mul_le_mul hr (show 1 ≤ d by omega) (by omega) (by omega)
        omega
      have eq : root * d * (root * d) * q = root * root * left := by
        rw [hq]
        grind
      obtain ⟨root', left', ee, g1, g2, g3, g4, g5, g6⟩ := ih (root * d) q (by omega) hrd (by omega) (by rw [eq]; exact hb) hdd
      refine ⟨root', left', ?_, g1, g2, by rw [g3, eq], g4, Int.dvd_trans g5 ⟨d * d, by rw [hq, Int.mul_comm]⟩, by omega⟩
      have ne : ¬ d * d = 0 := by omega
      simp [b_square_parts_2, ok1, ne, e1, lay1, ok2, e2, ok3]
      exact ee
    · refine ⟨root, left, ?_, hr, hl, rfl, hdv, Int.dvd_refl _, Int.le_refl _⟩
      have e1 : left.fmod (d * d) ≠ 0 := fun z => hdv (by
        rw [Int.fmod_eq_emod_of_nonneg _ (by omega)] at z
        exact Int.dvd_of_emod_eq_zero z)
      have ne : ¬ d * d = 0 := by omega
      simp [ok1, ne, lay1, e1]
theorem pow_up (a b : Nat) (h : a ≤ b) : (2 : Int) ^ a ≤ 2 ^ b := by
  have h : (2 : Nat) ^ a ≤ 2 ^ b := Nat.pow_le_pow_right (by omega) h
  have h2 : ((2 ^ a : Nat) : Int) ≤ ((2 ^ b : Nat) : Int) := by exact_mod_cast h
  simpa using h2
theorem sq_outer {n : Int} (hn : n < 2 ^ 3999) : ∀ (m : Nat) (root left d : Int), (n + 1 - d).toNat ≤ m → 2 ≤ d → 1 ≤ root → 1 ≤ left → root * root * left = n → (∀ e, 2 ≤ e → e < d → ¬ (e * e ∣ left)) → d ≤ n + 1 →
    ∃ root' left' d', loopW (ev (gam p ns k) (csOf cst) (.cmp .LtE (.bin .Mult (.var 3) (.var 3)) (.var 2))) (evSs (gam p ns k) (csOf cst) b_square_parts_1) (rsq n root left d) t = .ok (.nx, rsq n root' left' d') t ∧
      1 ≤ root' ∧ 1 ≤ left' ∧ root' * root' * left' = n ∧ Sqf left' := by
  have p1 : (2 : Int) ^ 4000 = 2 ^ 3999 * 2 := by rw [Int.pow_succ]
  have p2 : (2 : Int) ^ 1 ≤ 2 ^ 3999 := pow_up 1 3999 (by omega)
  have fin : ∀ (root left d : Int), 2 ≤ d → 1 ≤ root → 1 ≤ left → root * root * left = n → (∀ e, 2 ≤ e → e < d → ¬ (e * e ∣ left)) → d ≤ n + 1 → left < d * d →
      ∃ root' left' d', loopW (ev (gam p ns k) (csOf cst) (.cmp .LtE (.bin .Mult (.var 3) (.var 3)) (.var 2))) (evSs (gam p ns k) (csOf cst) b_square_parts_1) (rsq n root left d) t = .ok (.nx, rsq n root' left' d') t ∧
        1 ≤ root' ∧ 1 ≤ left' ∧ root' * root' * left' = n ∧ Sqf left' := by
    intro root left d hd hr hl he hno hor hlt
    generalize (2 : Int) ^ 3999 = B at hn p1 p2
    have hd4 : d < 2 ^ 4000 := by rw [p1]; omega
    have ok1 : okMul d d = true := okMul4 (by omega) (by omega) hd4 hd4
    refine ⟨root, left, d, ?_, hr, hl, he, fun e he hdv => ?_⟩
    · rw [loopW_eq]
      have : ¬ d * d ≤ left := by omega
      simp [ok1, this]
    · by_cases h : e < d
      · exact hno e he h hdv
      · have h1 : d * d ≤ e * e := Int.mul_le_mul (by omega) (by omega) (by omega) (by omega)
        have h2 := Int.le_of_dvd (by omega) hdv
        omega
  intro m
  induction m with
  | zero =>
    intro root left d hm hd hr hl he hno hor
    exact fin root left d hd hr hl he hno hor (by
      have hrr : 1 ≤ root * root := by
        have := Int.mul_le_mul hr hr (by omega) (by omega)
        omega
      have : 1 * left ≤ root * root * left := Int.mul_le_mul_of_nonneg_right hrr (by omega)
      have h1 : d * 2 ≤ d * d := Int.mul_le_mul_of_nonneg_left hd (by omega)
      omega)
  | succ m ih =>
    intro root left d hm hd hr hl he hno hor
    by_cases hlt : left < d * d
    · exact fin root left d hd hr hl he hno hor hlt
    · have hrr : 1 ≤ root * root := by
        have := Int.mul_le_mul hr hr (by omega) (by omega)
        omega
      have hln : 1 * left ≤ root * root * left := Int.mul_le_mul_of_nonneg_right hrr (by omega)
      have h1 : d * 2 ≤ d * d := Int.mul_le_mul_of_nonneg_left hd (by omega)
      generalize (2 : Int) ^ 3999 = B at hn p1 p2
      have hd4 : d < 2 ^ 4000 := by rw [p1]; omega
      have ok1 : okMul d d = true := okMul4 (by omega) (by omega) hd4 hd4
      obtain ⟨r2, l2, e2, g1, g2, g3, g4, g5, g6⟩ := sq_inner (ns := ns) (t := t) (k := k) (n := n) hd hd4 left.toNat root left (Nat.le_refl _) hr hl (by rw [he, p1]; omega) (by rw [p1]; omega)
      obtain ⟨r3, l3, d3, e3, q⟩ := ih r2 l2 (d + 1) (by omega) (by omega) g1 g2 (by rw [g3, he]) (fun e he1 he2 hdv => by
        by_cases h : e < d
        · exact hno e he1 h (Int.dvd_trans hdv g5)
        · have : e = d := by omega
          subst this
          exact g4 hdv) (by omega)
      refine ⟨r3, l3, d3, ?_, q⟩
      rw [loopW_eq]
      have : d * d ≤ left := by omega
      have hb : evSs (gam p ns k) (csOf cst) b_square_parts_1 (rsq n root left d) t = .ok (.nx, rsq n r2 l2 (d + 1)) t := by
        rw [b_square_parts_1, x_evSs_cons, x_consE, x_evS_while, e2]
        simp
      simp [ok1, this, hb, e3]
theorem e_square_parts (hk : 1 ≤ k) (n : Int) (h1 : 1 ≤ n) (hn : n < 2 ^ 3999) : ∃ root left, callF p ns k i_square_parts [.int n] t = .ok (fr root left) t ∧ 1 ≤ root ∧ 1 ≤ left ∧ root * root * left = n ∧ Sqf left := by
  obtain ⟨k, rfl⟩ := up1 hk
  obtain ⟨r, l, d, e, q⟩ := sq_outer (ns := ns) (t := t) (k := k) hn (n + 1 - 2).toNat 1 n 2 (Nat.le_refl _) (by omega) (by omega) h1 (by simp) (fun e h1 h2 => by omega) (by omega)
  refine ⟨r, l, ?_, q⟩
  rw [u_square_parts]
  simp [b_square_parts, e]
end
end Lw

namespace Lw
open PySem Fm
def sqfB (r : Int) : Bool := (List.range 10).all fun e => !decide (r % (((e : Nat) + 2 : Int) * ((e : Nat) + 2)) = 0)
theorem sqfB_iff {r : Int} (h1 : 1 ≤ r) (h2 : r < 144) : sqfB r = true ↔ Sqf r := by
  unfold sqfB
  rw [List.all_eq_true]
  constructor
  · intro h e he hd
    by_cases h12 : e < 12
    · have := h (e - 2).toNat (List.mem_range.mpr (by omega))
      have e2 : (((e - 2).toNat : Nat) : Int) + 2 = e := by omega
      rw [e2] at this
      simp at this
      exact this (Int.emod_eq_zero_of_dvd hd)
    · have h3 : 12 * 12 ≤ e * e := Int.mul_le_mul (by omega) (by omega) (by omega) (by omega)
      have h4 := Int.le_of_dvd (by omega) hd
      omega
  · intro h e he
    have := h ((e : Nat) + 2 : Int) (by omega)
    simp only [Bool.not_eq_true', decide_eq_false_iff_not]
    intro z
    exact this (Int.dvd_of_emod_eq_zero z)
def goodF : D → Bool
  | .tup [.int a, .int b] => decide (1 ≤ b) && (Int.gcd a b == 1) && !decide (a = 0)
  | _ => false
def goodP : D → Bool
  | .tup [.int r, f] => decide (1 ≤ r) && sqfB r && goodF f
  | _ => false
def smF : D → Bool
  | .tup [_, .int b] => decide (b < 1000)
  | _ => true
def smP (x : D) : Bool := gd x && match x with
  | .tup [.int r, f] => decide (r < 144) && smF f
  | _ => true
def isP2 : D → Bool
  | .tup [_, _] => true
  | _ => false
def rad : D → Int
  | .tup [.int r, _] => r
  | _ => 0
def asc : List D → Bool
  | a :: b :: r => decide (rad a < rad b) && asc (b :: r)
  | _ => true
section
variable {ns : List Int} {t : Tw} {k : Nat}
theorem len2 {α : Type} (xs : List α) : decide ((xs.length : Int) = 2) = decide (xs.length = 2) := by
  by_cases h : xs.length = 2
  · simp [h]
  · have : ¬ (xs.length : Int) = 2 := by omega
    simp [h, this]
theorem isP2_len {xs : List D} : isP2 (.tup xs) = decide (xs.length = 2) := by
  match xs with
  | [] => rfl
  | [_] => rfl
  | [_, _] => rfl
  | _ :: _ :: _ :: r => simp [isP2]
/-- a part of a surd, in the loop -/
theorem surd_turn {x y : D} {sa sd se sx : Sl} (hk : 2 ≤ k) (h : smP (.tup [x, y]) = true) :
    (goodP (.tup [x, y]) = true → evSs (gam p ns k) (csOf cst) b_is_surd_1 [sx, sa, .val x, .val y, sd, se] t = .ok (.nx, [sx, sa, .val x, .val y, sd, se]) t) ∧
    (goodP (.tup [x, y]) = false → evSs (gam p ns k) (csOf cst) b_is_surd_1 [sx, sa, .val x, .val y, sd, se] t = .ok (.ret (.bl false), [sx, sa, .val x, .val y, sd, se]) t) := by
  simp only [smP, gd, gds, Bool.and_eq_true] at h
  obtain ⟨⟨_, gx, gy, _⟩, hs⟩ := h
  have ew := e_is_wholeL (ns := ns) (t := t) (show 1 ≤ k by omega) x 1 (gd_pla gx)
  have ef := e_is_fraction (ns := ns) (t := t) hk y gy
  cases x with
  | int r =>
    simp only [Bool.and_eq_true, decide_eq_true_eq] at hs
    by_cases hr : 1 ≤ r
    · obtain ⟨root, left, es, g1, g2, g3, g4⟩ := e_square_parts (ns := ns) (t := t) (show 1 ≤ k by omega) r hr (Int.lt_of_lt_of_le (show r < 2 ^ 8 by omega) (pow_up 8 3999 (by omega)))
      have hroot : (root == 1) = sqfB r := by
        rw [Bool.eq_iff_iff, sqfB_iff hr hs.1]
        simp only [beq_iff_eq]
        constructor
        · rintro rfl
          have : left = r := by omega
          rw [← this]
          exact g4
        · intro hq
          by_cases h2 : 2 ≤ root
          · exact absurd ⟨left, g3.symm⟩ (hq root h2)
          · omega
      have fe : ∀ a b : Int, y = .tup [.int a, .int b] → isFr y = true → eqOp y (.tup [.int 0, .int 1]) = some (.bl (decide (a = 0))) := by
        rintro a b rfl hf
        rw [x_eqf]
        simp only [isFr, Bool.and_eq_true, decide_eq_true_eq, beq_iff_eq] at hf
        by_cases ha : a = 0
        · subst ha
          have : b = 1 := by
            have := hf.2
            simp [Int.gcd] at this
            omega
          simp [this]
        · simp [ha]
      cases hsq : sqfB r with
      | true =>
        rw [hsq] at hroot
        have hroot : root = 1 := by simpa using hroot
        subst hroot
        cases hf : isFr y with
        | true =>
          match y, hf, fe with
          | .tup [.int a, .int b], hf, fe =>
            have fe := fe a b rfl hf
            have hf' := hf
            simp only [isFr, Bool.and_eq_true, decide_eq_true_eq, beq_iff_eq] at hf'
            by_cases ha : a = 0
            · subst ha
              simp [b_is_surd_1, ew, isWL, hr, es, ef, hf, fe, goodP, goodF, hsq]
            · simp [b_is_surd_1, ew, isWL, hr, es, ef, hf, fe, ha, goodP, goodF, hsq, hf'.1, hf'.2]
        | false =>
          have hg : goodF y = false := by
            unfold goodF
            split
            · simp only [isFr] at hf
              simp [hf]
            · rfl
          simp [b_is_surd_1, ew, isWL, hr, es, ef, hf, goodP, hg, hsq]
      | false =>
        rw [hsq] at hroot
        have hroot : ¬ root = 1 := by simpa using hroot
        simp [b_is_surd_1, ew, isWL, hr, es, goodP, hsq, hroot]
    · simp [b_is_surd_1, ew, isWL, hr, goodP]
  | _ => simp [b_is_surd_1, ew, isWL, goodP]
def ltD : D → Bool
  | .tup [a, b] => decide (rad a < rad b)
  | _ => false
theorem cut1 {α : Type} (xs : List α) : cutL xs (some 1) none = xs.tail := by
  unfold cutL HT.sIx
  cases xs with
  | nil => rfl
  | cons x xs => simp [Nat.min_eq_left]
theorem asc_zip : ∀ xs : List D, (zipD xs xs.tail).all ltD = asc xs
  | [] => rfl
  | [_] => rfl
  | a :: b :: r => by
    show (zipD (a :: b :: r) (b :: r)).all ltD = asc (a :: b :: r)
    rw [zipD, List.all_cons, asc, ← asc_zip (b :: r)]
    rfl
theorem zip_mem : ∀ {xs ys : List D} {d : D}, d ∈ zipD xs ys → ∃ a b, a ∈ xs ∧ b ∈ ys ∧ d = .tup [a, b]
  | [], ys, d, h => by simp [zipD] at h
  | _ :: _, [], d, h => by simp [zipD] at h
  | x :: xs, y :: ys, d, h => by
    rw [zipD] at h
    rcases List.mem_cons.mp h with rfl | h
    · exact ⟨x, y, List.mem_cons_self, List.mem_cons_self, rfl⟩
    · obtain ⟨a, b, h1, h2, h3⟩ := zip_mem h
      exact ⟨a, b, List.mem_cons_of_mem _ h1, List.mem_cons_of_mem _ h2, h3⟩
theorem goodP_ex {x : D} (h : goodP x = true) : ∃ r f, x = .tup [.int r, f] := by
  unfold goodP at h
  split at h
  · exact ⟨_, _, rfl⟩
  · cases h
theorem okl {n : Nat} (h : n ≤ 1000) : okLen n = true := by
  simp only [okLen, decide_eq_true_eq]
  omega
theorem e_is_surd (hk : 3 ≤ k) (xs : List D) (hl : xs.length ≤ 1000) (h : ∀ x ∈ xs, smP x = true) : callF p ns k i_is_surd [.tup xs] t = .ok (.bl (xs.all goodP && asc xs)) t := by
  obtain ⟨k, rfl⟩ := up1 (show 1 ≤ k by omega)
  have hk : 2 ≤ k := by omega
  have hc : ∀ r : Rho, r = [.val (.tup xs), .un, .un, .un, .un, .un] → ev (gam p ns k) (csOf cst) (.comp [("part", 1)] (.and (.isa (.var 1) .tuple) (.cmp .Eq (.blt .len (.var 1)) (.cst (.int 2)))) (.name 1) (.val (.var 0)) .none) r t = .ok (.lst (xs.map fun d => .bl (isP2 d))) t := by
    rintro r rfl
    refine comp_map (xs := xs) _ (by simp) (okl hl) fun d hd => ?_
    have gdd : gd d = true := by
      have := h d hd
      simp only [smP, Bool.and_eq_true] at this
      exact this.1
    cases d <;> first | (simp [isP2]; done) | (simp [gd] at gdd; done) | skip
    rename_i ys
    rw [isP2_len]
    simp [len2]
  rw [u_is_surd]
  by_cases hp : xs.all isP2 = true
  · have hfor := loopF_find (f := fun d r t => match setT (.tup (.cons (.name 2) (.cons (.name 3) .nil))) d r with
        | some r1 => evSs (gam p ns k) (csOf cst) b_is_surd_1 r1 t
        | none => .bad) (t := t) (v := .bl false) goodP (fun r => ∃ a b, r = [.val (.tup xs), .un, a, b, .un, .un]) xs [.val (.tup xs), .un, .un, .un, .un, .un] ⟨_, _, rfl⟩ (by
      rintro d hd r ⟨a, b, rfl⟩
      have h2 := List.all_eq_true.mp hp d hd
      have hs := h d hd
      unfold isP2 at h2
      split at h2
      · rename_i x y
        obtain ⟨g1, g2⟩ := surd_turn (ns := ns) (t := t) (sx := .val (.tup xs)) (sa := .un) (sd := .un) (se := .un) hk hs
        refine ⟨fun hg => ⟨[.val (.tup xs), .un, .val x, .val y, .un, .un], ?_, _, _, rfl⟩, fun hg => ⟨[.val (.tup xs), .un, .val x, .val y, .un, .un], ?_⟩⟩
        · simp
          exact g1 hg
        · simp
          exact g2 hg
      · cases h2)
    rw [b_is_surd, seq_nx (r1 := [.val (.tup xs), .un, .un, .un, .un, .un]) (t1 := t)]
    · cases ha : xs.all goodP with
      | true =>
        obtain ⟨r', e, a, b, rfl⟩ := hfor.1 ha
        rw [seq_nx (r1 := [.val (.tup xs), .un, a, b, .un, .un]) (t1 := t)]
        · have hz : ev (gam p ns k) (csOf cst) (.comp [("one", 4), ("other", 5)] (.cmp .Lt (.ix (.var 4) (.cst (.int 0))) (.ix (.var 5) (.cst (.int 0)))) (.tup (.cons (.name 4) (.cons (.name 5) .nil))) (.zip (.var 0) (.cut (.var 0) (.some (.cst (.int 1))) .none)) .none) [.val (.tup xs), .un, a, b, .un, .un] t = .ok (.lst ((zipD xs xs.tail).map fun d => .bl (ltD d))) t := by
            refine comp_map (xs := zipD xs xs.tail) _ (by simp [cut1]) (okl (by rw [zipD_len]; omega)) fun d hd => ?_
            obtain ⟨x, y, h1, h2, rfl⟩ := zip_mem hd
            obtain ⟨r1, f1, rfl⟩ := goodP_ex (List.all_eq_true.mp ha x h1)
            obtain ⟨r2, f2, rfl⟩ := goodP_ex (List.all_eq_true.mp ha y (List.mem_of_mem_tail h2))
            simp [ltD, rad]
            try rfl
          rw [x_evSs_cons]
          simp [hz, x_all, asc_zip]
        · simp
          exact e
      | false =>
        obtain ⟨r', e⟩ := hfor.2 ha
        rw [seq_ret (r1 := r') (t1 := t) (d := .bl false)]
        · simp
        · simp
          exact e
    · simp [hc, x_all, hp]
  · have hp : xs.all isP2 = false := by simpa using hp
    have hg : xs.all goodP = false := by
      rw [Bool.eq_false_iff]
      intro z
      rw [Bool.eq_false_iff] at hp
      refine hp (List.all_eq_true.mpr fun x hx => ?_)
      obtain ⟨r, f, rfl⟩ := goodP_ex (List.all_eq_true.mp z x hx)
      rfl
    rw [b_is_surd, seq_ret (r1 := [.val (.tup xs), .un, .un, .un, .un, .un]) (t1 := t) (d := .bl false)]
    · simp [hg]
    · simp [hc, x_all, hp]
theorem e_is_surdL (hk : 1 ≤ k) (xs : List D) : callF p ns k i_is_surd [.lst xs] t = .ok (.bl false) t := by
  obtain ⟨k, rfl⟩ := up1 hk
  rw [u_is_surd]
  simp [b_is_surd]
theorem e_is_surdN (hk : 1 ≤ k) : callF p ns k i_is_surd [.non] t = .ok (.bl false) t := by
  obtain ⟨k, rfl⟩ := up1 hk
  rw [u_is_surd]
  simp [b_is_surd]
theorem e_law_is (hk : 1 ≤ k) (a b : Bool) : callF p ns k i__law_is [.bl a, .bl b] t = .ok (.bl (a == b)) t := by
  obtain ⟨k, rfl⟩ := up1 hk
  rw [u__law_is]
  simp [b__law_is]
end
end Lw

namespace Lw
open PySem Fm
section
variable {ns : List Int} {t : Tw} {k : Nat}
theorem filt_emp {α : Type} (c : α → Bool) (xs : List α) : (xs.filter c).isEmpty = xs.all fun x => !c x := by
  induction xs with
  | nil => rfl
  | cons x xs ih => cases h : c x <;> simp [List.filter_cons, h, ih]
theorem lay_lst {xs : List D} (h : ∀ x ∈ xs, gd x = true) : lay (.lst xs) = true := by
  have := gds_lay (gds_of h)
  simp [lay, D.py, PyData.canLay0, this]
def rIf (r : Int) : D → Bool
  | .int k => decide (r % (k * k) = 0)
  | _ => false
theorem rng10 : rngD 2 10 = (List.range 10).map fun e => D.int ((e : Nat) + 2 : Int) :=
  List.map_congr_left fun e _ => by rw [Int.add_comm]
theorem sq_comp {r : Int} {f : D} : ev (gam p ns k) (csOf cst) (.comp [("k", 1)] (.var 1) (.name 1) (.rng2 (.cst (.int 2)) (.cst (.int 12))) (.some (.cmp .Eq (.bin .Mod (.ix (.var 0) (.cst (.int 0))) (.bin .Mult (.var 1) (.var 1))) (.cst (.int 0))))) [.val (.tup [.int r, f]), .un, .un, .un] t = .ok (.lst ((rngD 2 10).filter (rIf r))) t := by
  have h := comp_filt (G := gam p ns k) (cs := csOf cst) (own := [("k", 1)]) (elt := .var 1) (tg := .name 1) (it := .rng2 (.cst (.int 2)) (.cst (.int 12))) (cd := .some (.cmp .Eq (.bin .Mod (.ix (.var 0) (.cst (.int 0))) (.bin .Mult (.var 1) (.var 1))) (.cst (.int 0))))
    (r := [.val (.tup [.int r, f]), .un, .un, .un]) (t := t) (xs := rngD 2 10) (rIf r) id (by simp [okRng]) rfl (fun d hd => by
      rw [rng10] at hd
      obtain ⟨e, he, rfl⟩ := List.mem_map.mp hd
      have he := List.mem_range.mp he
      have ok : okMul ((e : Nat) + 2 : Int) ((e : Nat) + 2) = true := okMul_of (k := 5) (l := 5) (by omega) (by omega) (by omega) (by omega) (by omega)
      have pos : 0 < ((e : Nat) + 2 : Int) * ((e : Nat) + 2) := Int.mul_pos (by omega) (by omega)
      have ne : ¬ ((e : Nat) + 2 : Int) * ((e : Nat) + 2) = 0 := by omega
      have fm : r.fmod (((e : Nat) + 2 : Int) * ((e : Nat) + 2)) = r % (((e : Nat) + 2 : Int) * ((e : Nat) + 2)) := Int.fmod_eq_emod_of_nonneg _ (by omega)
      simp only [rIf]
      by_cases h0 : r % (((e : Nat) + 2 : Int) * ((e : Nat) + 2)) = 0
      · simp [ok, ne, fm, h0]
      · simp [ok, ne, fm, h0])
  simpa using h
theorem sq_emp {r : Int} : ((rngD 2 10).filter (rIf r)).isEmpty = sqfB r := by
  rw [filt_emp, rng10, List.all_map]
  rfl
theorem frac_same {a b : Int} (hb : 1 ≤ b) : decide (a / Int.gcd a b = a ∧ b / Int.gcd a b = b) = (Int.gcd a b == 1) := by
  have hg : 0 < Int.gcd a b := Int.gcd_pos_of_ne_zero_right a (by omega)
  by_cases h : Int.gcd a b = 1
  · simp [h]
  · have : (Int.gcd a b == 1) = false := by simpa using h
    rw [this]
    simp only [decide_eq_false_iff_not, not_and]
    intro _ h2
    have h3 : (2 : Int) ≤ Int.gcd a b := by omega
    obtain ⟨q, hq⟩ := Int.gcd_dvd_right a b
    have e : b / Int.gcd a b = q := by
      have : b = q * (Int.gcd a b : Int) := by rw [Int.mul_comm]; exact hq
      calc b / (Int.gcd a b : Int) = (q * (Int.gcd a b : Int)) / (Int.gcd a b : Int) := by rw [← this]
        _ = q := Int.mul_ediv_cancel _ (by omega)
    rw [e] at h2
    subst h2
    have : 2 * q ≤ (Int.gcd a q : Int) * q := Int.mul_le_mul_of_nonneg_right h3 (by omega)
    omega
/-- the two numbers of a fraction, as the law looks at them -/
theorem fr_comp {x : D} {xs : List D} (hx : ∀ d ∈ xs, gd d = true) (hl : xs.length ≤ 1000) :
    ev (gam p ns k) (csOf cst) (.comp [("n", 3)] (.var 3) (.name 3) (.val (.var 2)) (.some (.not (.isa (.var 3) .int)))) [.val x, .un, .val (.tup xs), .un] t = .ok (.lst (xs.filter fun d => !((isaD d .int).getD false))) t ∧
    ev (gam p ns k) (csOf cst) (.comp [("n", 3)] (.var 3) (.name 3) (.val (.var 2)) (.some (.isa (.var 3) .bool))) [.val x, .un, .val (.tup xs), .un] t = .ok (.lst (xs.filter fun d => (isaD d .bool).getD false)) t := by
  constructor
  · have h := comp_filt (G := gam p ns k) (cs := csOf cst) (own := [("n", 3)]) (elt := .var 3) (tg := .name 3) (it := .val (.var 2)) (cd := .some (.not (.isa (.var 3) .int))) (r := [.val x, .un, .val (.tup xs), .un]) (t := t) (xs := xs) (fun d => !((isaD d .int).getD false)) id (by simp) (okl hl) (fun d hd => by
      have := hx d hd
      cases d <;> first | (simp [gd] at this; done) | simp)
    simpa using h
  · have h := comp_filt (G := gam p ns k) (cs := csOf cst) (own := [("n", 3)]) (elt := .var 3) (tg := .name 3) (it := .val (.var 2)) (cd := .some (.isa (.var 3) .bool)) (r := [.val x, .un, .val (.tup xs), .un]) (t := t) (xs := xs) (fun d => (isaD d .bool).getD false) id (by simp) (okl hl) (fun d hd => by
      have := hx d hd
      cases d <;> first | (simp [gd] at this; done) | simp)
    simpa using h
theorem gd_lst {xs : List D} (h : gd (.tup xs) = true) : (∀ x ∈ xs, gd x = true) ∧ xs.length ≤ 1000 := by
  simp only [gd, Bool.and_eq_true, decide_eq_true_eq] at h
  exact ⟨gds_mem h.2, h.1⟩
theorem e_law_good (hk : 2 ≤ k) (x : D) (h : smP x = true) : callF p ns k i__law_good [x] t = .ok (.bl (goodP x)) t := by
  obtain ⟨k, rfl⟩ := up1 (show 1 ≤ k by omega)
  have hk : 1 ≤ k := by omega
  rw [u__law_good]
  simp only [smP, Bool.and_eq_true] at h
  obtain ⟨hg, hs⟩ := h
  cases x with
  | tup xs =>
    match xs, hg, hs with
    | [], _, _ => simp [b__law_good, goodP]
    | [_], _, _ => simp [b__law_good, goodP]
    | _ :: _ :: _ :: r, _, _ =>
      have : ¬ ((r.length : Int) + 1 + 1 + 1 = 2) := by
        omega
      simp [b__law_good, goodP, this]
    | [y, f], hg, hs =>
      obtain ⟨gm, hlen2⟩ := gd_lst hg
      cases y with
      | int r =>
        simp only [Bool.and_eq_true, decide_eq_true_eq] at hs
        by_cases hr : r < 1
        · have : ¬ 1 ≤ r := by omega
          simp [b__law_good, goodP, hr, this]
        · have hr1 : 1 ≤ r := by omega
          have hne : neOp (.lst ((rngD 2 10).filter (rIf r))) (.lst []) = some (.bl (!sqfB r)) := by
            rw [x_neL0, sq_emp]
            refine lay_lst fun x hx => ?_
            rw [rng10] at hx
            obtain ⟨e, _, rfl⟩ := List.mem_map.mp (List.mem_filter.mp hx).1
            rfl
          cases hq : sqfB r with
          | false =>
            rw [hq] at hne
            simp [b__law_good, goodP, hr, hr1, sq_comp, hne, hq]
          | true =>
            rw [hq] at hne
            cases f with
            | tup ys =>
              obtain ⟨gy, ly⟩ := gd_lst (gm (.tup ys) (by simp))
              obtain ⟨c1, c2⟩ := fr_comp (ns := ns) (t := t) (k := k) (x := .tup [.int r, .tup ys]) gy ly
              match ys, gy, hs, c1, c2 with
              | [], _, _, _, _ => simp [b__law_good, goodP, goodF, hr, hr1, sq_comp, hne, hq]
              | [_], _, _, _, _ => simp [b__law_good, goodP, goodF, hr, hr1, sq_comp, hne, hq]
              | _ :: _ :: _ :: r', _, _, _, _ =>
                have : ¬ ((r'.length : Int) + 1 + 1 + 1 = 2) := by
                  omega
                simp [b__law_good, goodP, goodF, hr, hr1, sq_comp, hne, hq, this]
              | [a, b], gy, hs, c1, c2 =>
                have ga := gy a (by simp)
                have gb := gy b (by simp)
                have n0 : neOp (.lst []) (.lst []) = some (.bl false) := by rw [x_neL0 (lay_lst (by simp))]; rfl
                have nA : neOp (.lst [a]) (.lst []) = some (.bl true) := by rw [x_neL0 (lay_lst (by simpa using ga))]; rfl
                have nB : neOp (.lst [b]) (.lst []) = some (.bl true) := by rw [x_neL0 (lay_lst (by simpa using gb))]; rfl
                have nC : neOp (.lst [a, b]) (.lst []) = some (.bl true) := by rw [x_neL0 (lay_lst (by simpa using And.intro ga gb))]; rfl
                cases a <;> first | (simp [gd] at ga; done) | skip
                all_goals cases b <;> first | (simp [gd] at gb; done) | skip
                all_goals first
                  | (simp [b__law_good, goodP, goodF, hr, hr1, sq_comp, hne, hq, c1, c2, List.filter_cons, n0, nA, nB, nC]; done)
                  | skip
                rename_i a b
                simp only [smF, decide_eq_true_eq] at hs
                by_cases hb : b < 1
                · have : ¬ 1 ≤ b := by omega
                  simp [b__law_good, goodP, goodF, hr, hr1, sq_comp, hne, hq, c1, c2, List.filter_cons, n0, nA, nB, nC, hb, this]
                · have hb1 : 1 ≤ b := by omega
                  by_cases ha : a = 0
                  · subst ha
                    simp [b__law_good, goodP, goodF, hr, hr1, sq_comp, hne, hq, c1, c2, List.filter_cons, n0, nA, nB, nC, hb]
                  · have ef := e_frac (ns := ns) (t := t) hk a b hb1 (Int.lt_of_lt_of_le (show b < 2 ^ 10 by omega) (pow_up 10 8999 (by omega)))
                    simp [b__law_good, goodP, goodF, hr, hr1, sq_comp, hne, hq, c1, c2, List.filter_cons, n0, nA, nB, nC, hb, hb1, ha, ef, x_eqf]
                    have := frac_same (a := a) hb1
                    simpa using this
            | _ =>
              have gf := gm _ (List.mem_cons_of_mem _ List.mem_cons_self)
              first
                | (simp [gd] at gf; done)
                | simp [b__law_good, goodP, goodF, hr, hr1, sq_comp, hne, hq]
      | _ =>
        have gf := gm _ List.mem_cons_self
        first
          | (simp [gd] at gf; done)
          | simp [b__law_good, goodP]
  | _ =>
    first
      | (simp [gd] at hg; done)
      | simp [b__law_good, goodP]
end
end Lw

namespace Lw
open PySem Fm
def L8 : List Int := [1, 2, 3, 5, 6, 7, 10, 30]
/-- a part as it is drawn -/
def drP (x : D) : Prop := ∃ r a b, x = .tup [.int r, fr a b] ∧ r ∈ L8 ∧ SmF 5 a b ∧ a ≠ 0
theorem drP_good {x : D} (h : drP x) : goodP x = true ∧ smP x = true := by
  obtain ⟨r, a, b, rfl, hr, hf, ha⟩ := h
  have h8 : sqfB r = true ∧ 1 ≤ r ∧ r < 144 := by
    have := List.all_eq_true.mp (show L8.all (fun r => sqfB r && decide (1 ≤ r) && decide (r < 144)) = true by decide +kernel) r hr
    simpa [and_assoc] using this
  have h9 : b < 1000 := by have := hf.hi; omega
  constructor
  · simp [goodP, goodF, h8, hf.lo, hf.g, ha]
  · simp [smP, smF, gd, gds, h8, h9]
section
variable {ns : List Int} {t : Tw} {k : Nat} {sc : List Int} {n : Nat}
structure DctS (kvs : List (Key × D)) (m : Nat) : Prop where
  nd : (kvs.map (·.1)).Nodup
  el : ∀ p ∈ kvs, ∃ r a b, p = (.inl r, fr a b) ∧ r ∈ L8 ∧ SmF 5 a b ∧ a ≠ 0
  len : kvs.length ≤ m
theorem ix8 {v : Int} (h1 : 0 ≤ v) (h2 : v < 8) : ∃ r ∈ L8, ixD (.lst [.int 1, .int 2, .int 3, .int 5, .int 6, .int 7, .int 10, .int 30]) (.int v) = some (.int r) := by
  obtain ⟨m, rfl⟩ : ∃ m : Nat, v = m := ⟨v.toNat, by omega⟩
  have hm : m < 8 := by omega
  match m, hm with
  | 0, _ => exact ⟨1, by decide, rfl⟩
  | 1, _ => exact ⟨2, by decide, rfl⟩
  | 2, _ => exact ⟨3, by decide, rfl⟩
  | 3, _ => exact ⟨5, by decide, rfl⟩
  | 4, _ => exact ⟨6, by decide, rfl⟩
  | 5, _ => exact ⟨7, by decide, rfl⟩
  | 6, _ => exact ⟨10, by decide, rfl⟩
  | 7, _ => exact ⟨30, by decide, rfl⟩
theorem surd_draw {kvs : List (Key × D)} {m : Nat} {x y z s6 : Sl} (hk : 2 ≤ k) (h : DctS kvs m) (hm : m ≤ 1000) (hr : rm (n + 3) t) : ∃ kvs' t', ∃ w : Sl, evSs (gam p ns k) (csOf cst) b__law_a_surd_1 [.val (.scr sc), .val .tok, x, .own (.dct kvs), y, z, s6] t = .ok (.nx, [.val (.scr sc), .val .tok, x, .own (.dct kvs'), y, w, s6]) t' ∧ DctS kvs' (m + 1) ∧ rm n t' := by
  obtain ⟨a, b, t1, e1, f1, r1⟩ := e_a_frac (ns := ns) (sc := sc) (n := n + 1) hk 5 (by omega) hr
  by_cases ha : a = 0
  · subst ha
    refine ⟨kvs, t1, .val (fr 0 b), ?_, ⟨h.nd, h.el, by have := h.len; omega⟩, r1.le (by omega)⟩
    simp [b__law_a_surd_1, e1]
  · obtain ⟨v, t2, e2, v1, v2, r2⟩ := e_draw (ns := ns) (sc := sc) (n := n) (show 1 ≤ k by omega) 8 (by omega) (by omega) r1
    obtain ⟨r, h8, ix⟩ := ix8 v1 v2
    have hl : kvs.length < 16777216 := by have := h.len; omega
    have ix : L2.atI [D.int 1, .int 2, .int 3, .int 5, .int 6, .int 7, .int 10, .int 30] v = some (.int r) := ix
    refine ⟨putD kvs (.inl r) (fr a b), t2, .val (fr a b), ?_, ⟨putD_nodup h.nd _ _, fun p hp => ?_, by have := putD_len kvs (.inl r) (fr a b); have := h.len; omega⟩, r2⟩
    · simp [b__law_a_surd_1, e1, ha, e2, ix, keyD, hl]
    · rcases putD_mem hp with hp | rfl
      · exact h.el p hp
      · exact ⟨r, a, b, rfl, h8, f1, ha⟩
theorem asc_of : ∀ {xs : List D}, xs.Pairwise (fun a b => rad a < rad b) → asc xs = true
  | [], _ => rfl
  | [_], _ => rfl
  | a :: b :: r, h => by
    obtain ⟨h1, h2⟩ := List.pairwise_cons.mp h
    rw [asc, asc_of h2]
    simp [h1 b List.mem_cons_self]
theorem asc_pw : ∀ {xs : List D}, asc xs = true → xs.Pairwise (fun a b => rad a < rad b)
  | [], _ => .nil
  | [_], _ => by simp
  | a :: b :: r, h => by
    rw [asc] at h
    simp only [Bool.and_eq_true, decide_eq_true_eq] at h
    have ih := asc_pw h.2
    refine List.pairwise_cons.mpr ⟨fun z hz => ?_, ih⟩
    rcases List.mem_cons.mp hz with rfl | hz
    · exact h.1
    · have := (List.pairwise_cons.mp ih).1 z hz
      omega
theorem rng_len (lo : Int) (n : Nat) : (rngD lo n).length = n := by simp [rngD]
theorem e_a_surd (hk : 3 ≤ k) (m : Nat) (hm : m ≤ 60) (h : rm (n + (1 + 3 * m)) t) : ∃ xs t', callF p ns k i__law_a_surd [.scr sc, .tok, .int m] t = .ok (.tup xs) t' ∧ (∀ x ∈ xs, drP x) ∧ asc xs = true ∧ xs.length ≤ m ∧ rm n t' := by
  obtain ⟨k, rfl⟩ := up1 (show 1 ≤ k by omega)
  have hk : 2 ≤ k := by omega
  rw [u__law_a_surd]
  obtain ⟨v, t1, e1, v1, v2, r1⟩ := e_draw (ns := ns) (sc := sc) (n := n + 3 * m) (show 1 ≤ k by omega) ((m : Int) + 1) (by omega) (by omega) (h.le (by omega))
  obtain ⟨w, rfl⟩ : ∃ w : Nat, v = w := ⟨v.toNat, by omega⟩
  have hloop := loopF_ix (f := fun d r t => match setT (.name 4) d r with
      | some r1 => evSs (gam p ns k) (csOf cst) b__law_a_surd_1 r1 t
      | none => .bad) (fun j r t => ∃ kvs y z, j ≤ w ∧ r = [.val (.scr sc), .val .tok, .val (.int m), .own (.dct kvs), y, z, .un] ∧ DctS kvs (w - j) ∧ rm (n + 3 * j) t)
    (rngD 0 w) [.val (.scr sc), .val .tok, .val (.int m), .own (.dct []), .un, .un, .un] t1 0 ⟨[], .un, .un, by simp [rng_len], rfl, ⟨by simp, fun p hp => by simp at hp, by simp⟩, r1.le (by simp [rng_len]; omega)⟩ (by
      rintro d hd j r t ⟨kvs, y, z, hj, rfl, hD, hr⟩
      obtain ⟨kvs', t', q, e, hD', hr'⟩ := surd_draw (ns := ns) (sc := sc) (n := n + 3 * j) (x := .val (.int m)) (y := .val d) (z := z) (s6 := .un) hk hD (by omega) (hr.le (by omega))
      refine ⟨[.val (.scr sc), .val .tok, .val (.int m), .own (.dct kvs'), .val d, q, .un], t', ?_, kvs', .val d, q, by omega, rfl, ?_, hr'⟩
      · simp
        exact e
      · have : w - (j + 1) + 1 = w - j := by omega
        rw [← this]
        exact hD')
  obtain ⟨r2, t2, e2, kvs, y, z, _, rfl, hD, hr2⟩ := hloop
  obtain ⟨ks, hks⟩ : ∃ ks : List Int, kvs.map (·.1) = ks.map Sum.inl := by
    refine ⟨kvs.map fun q => match q.1 with | .inl i => i | _ => 0, ?_⟩
    rw [List.map_map]
    refine List.map_congr_left fun q hq => ?_
    obtain ⟨r, a, b, rfl, _⟩ := hD.el q hq
    rfl
  have nd : ks.Nodup := by
    have := hD.nd
    rw [hks] at this
    exact (List.pairwise_map.mp this).imp fun h e => h (by rw [e])
  have lks : ks.length = kvs.length := by
    have := congrArg List.length hks
    simpa using this.symm
  have hsort : blt1 .sorted (.dct kvs) = some (.lst ((srtI ks).map D.int)) := by
    simp only [blt1, keysI_map hks, Option.bind_some]
    have := hD.len
    rw [if_pos (by simp only [decide_eq_true_eq]; omega)]
  have hmem : ∀ i ∈ srtI ks, ∃ a b, lookD kvs (.inl i) = some (fr a b) ∧ i ∈ L8 ∧ SmF 5 a b ∧ a ≠ 0 := fun i hi => by
    have hi := (srtI_perm ks).mem_iff.mp hi
    obtain ⟨d, e, hd⟩ := lookD_some (kvs := kvs) (k := .inl i) (by rw [hks]; exact List.mem_map.mpr ⟨i, hi, rfl⟩)
    obtain ⟨r, a, b, e2, q⟩ := hD.el _ hd
    injection e2 with e3 e4
    injection e3 with e3
    subst e3 e4
    exact ⟨a, b, e, q⟩
  have hl2 : (srtI ks).length ≤ m := by
    have h1 := (srtI_perm ks).length_eq
    have := hD.len
    omega
  have hcomp : ev (gam p ns k) (csOf cst) (.comp [("radicand", 6)] (.tup (.cons (.var 6) (.cons (.dix (.bor 3) (.var 6)) .nil))) (.name 6) (.val (.blt .sorted (.bor 3))) .none) [.val (.scr sc), .val .tok, .val (.int m), .own (.dct kvs), y, z, .un] t2 =
      .ok (.lst ((srtI ks).map fun i => .tup [.int i, (lookD kvs (.inl i)).getD .non])) t2 := by
    have h := comp_map (G := gam p ns k) (cs := csOf cst) (own := [("radicand", 6)]) (elt := .tup (.cons (.var 6) (.cons (.dix (.bor 3) (.var 6)) .nil))) (tg := .name 6) (it := .val (.blt .sorted (.bor 3))) (cd := .none) (r := [.val (.scr sc), .val .tok, .val (.int m), .own (.dct kvs), y, z, .un]) (t := t2) (xs := (srtI ks).map D.int)
      (fun d => match d with | .int i => .tup [.int i, (lookD kvs (.inl i)).getD .non] | _ => .non) (by simp [hsort]) (okl (by rw [List.length_map]; omega)) (fun d hd => by
        obtain ⟨i, hi, rfl⟩ := List.mem_map.mp hd
        obtain ⟨a, b, e, _⟩ := hmem i hi
        simp [dixD, keyD, e])
    rw [h, List.map_map]
    rfl
  refine ⟨(srtI ks).map fun i => .tup [.int i, (lookD kvs (.inl i)).getD .non], t2, ?_, fun x hx => ?_, asc_of ?_, by rw [List.length_map]; exact hl2, hr2.le (by omega)⟩
  · rw [b__law_a_surd, seq_nx (r1 := [.val (.scr sc), .val .tok, .val (.int m), .own (.dct []), .un, .un, .un]) (t1 := t), seq_nx (r1 := [.val (.scr sc), .val .tok, .val (.int m), .own (.dct kvs), y, z, .un]) (t1 := t2)]
    · rw [x_evSs_cons]
      simp [hcomp]
    · have hok : okRng (w : Int) = true := by
        simp only [okRng, Bool.and_eq_true, decide_eq_true_eq]
        omega
      rw [for_ev (xs := rngD 0 w) (t1 := t1) (by simp [e1, hok])]
      exact e2
    · simp [mergeD]
  · obtain ⟨i, hi, rfl⟩ := List.mem_map.mp hx
    obtain ⟨a, b, e, q⟩ := hmem i hi
    exact ⟨i, a, b, by rw [e]; rfl, q⟩
  · rw [List.pairwise_map]
    exact (srtI_strict nd).imp fun h => h
end
end Lw

namespace Lw
open PySem Fm
def oddL : List D := [.non, .int 3, .tup [], .tup [.int 1], .tup [.int 4, fr 1 2], .tup [.int 1, fr 2 4], .tup [.int 2, fr 0 1], .tup [.int 0, fr 1 1], .tup [.int (-2), fr 1 1], .tup [.int 3, fr 1 0], .tup [.int 3, fr 1 (-2)],
  .tup [.bl true, fr 1 1], .tup [.int 5, .tup [.bl true, .int 2]], .tup [.int 5, .tup [.int 1, .int 2, .int 3]], .lst [.int 5, fr 1 2], .tup [.int 12, fr 1 1], .tup [.int 5, .int 1], .tup [.str "5", fr 1 1], .tup [.int 45, fr 1 3]]
theorem odd_ok : oddL.all (fun d => smP d && !goodP d) = true := by decide +kernel
section
variable {ns : List Int} {t : Tw} {n : Nat}
noncomputable abbrev G60 (ns : List Int) : Gam := gam p ns 60
abbrev r0 (ns : List Int) (a3 a4 a5 a6 a7 a8 a9 : Sl) : Rho := [.val (.scr ns), .val .tok, .val (.lst oddL), a3, a4, a5, a6, a7, a8, a9, .un, .un]
def dropN : Nat → Ss → Ss
  | 0, s => s
  | n + 1, .cons _ r => dropN n r
  | _ + 1, .nil => .nil
theorem pre_ev : evSs (G60 ns) (csOf cst) b_law (startL n_law ns) t = evSs (G60 ns) (csOf cst) (dropN 5 b_law) (r0 ns .un .un .un .un .un .un .un) t := by
  rw [b_law]
  simp only [dropN]
  rw [seq_nx (r1 := [.val (.scr ns), .val .tok, .own (.lst (oddL.take 10)), .un, .un, .un, .un, .un, .un, .un, .un, .un]) (t1 := t)]
  · rw [seq_nx (r1 := [.val (.scr ns), .val .tok, .own (.lst (oddL.take 11)), .un, .un, .un, .un, .un, .un, .un, .un, .un]) (t1 := t)]
    · rw [seq_nx (r1 := [.val (.scr ns), .val .tok, .own (.lst (oddL.take 18)), .un, .un, .un, .un, .un, .un, .un, .un, .un]) (t1 := t)]
      · rw [seq_nx (r1 := [.val (.scr ns), .val .tok, .own (.lst oddL), .un, .un, .un, .un, .un, .un, .un, .un, .un]) (t1 := t)]
        · rw [seq_nx (r1 := r0 ns .un .un .un .un .un .un .un) (t1 := t)]
          simp
        · simp [oddL]
      · simp [oddL]
    · simp [oddL]
  · simp [n_law, oddL]
theorem for1_ev : ∃ a, evS (G60 ns) (csOf cst) (.for (.name 3) (.val (.var 2)) b_law_1) (r0 ns .un .un .un .un .un .un .un) t = .ok (.nx, r0 ns a .un .un .un .un .un .un) t := by
  rw [for_ev (xs := oddL) (t1 := t) (by simp)]
  obtain ⟨r', t', e, h, a, rfl⟩ := loopF_inv (f := fun d r t => match setT (.name 3) d r with
    | some r1 => evSs (G60 ns) (csOf cst) b_law_1 r1 t
    | none => .bad) (fun r t' => t' = t ∧ ∃ a, r = r0 ns a .un .un .un .un .un .un) oddL _ t ⟨rfl, .un, rfl⟩ (by
      rintro d hd r t' ⟨rfl, a, rfl⟩
      have h := List.all_eq_true.mp odd_ok d hd
      simp only [Bool.and_eq_true, Bool.not_eq_true'] at h
      have e1 := e_is_surd (ns := ns) (t := t') (k := 60) (by omega) [d] (by simp) (by simpa using h.1)
      have e2 : ([d].all goodP && asc [d]) = false := by simp [h.2]
      rw [e2] at e1
      have e3 := e_law_is (ns := ns) (t := t') (k := 60) (by omega) false false
      refine ⟨r0 ns (.val d) .un .un .un .un .un .un, t', ?_, rfl, _, rfl⟩
      simp [b_law_1, e1, e3])
  subst h
  exact ⟨a, e⟩
theorem ix_odd {v : Int} (h1 : 0 ≤ v) (h2 : v < 19) : ∃ d ∈ oddL, L2.atI oddL v = some d := by
  have hl : oddL.length = 19 := rfl
  unfold L2.atI L2.ixN
  rw [if_pos h1, if_pos (by rw [hl]; omega)]
  have : v.toNat < oddL.length := by rw [hl]; omega
  exact ⟨oddL[v.toNat], List.getElem_mem _, by simp [List.getElem?_eq_getElem this]⟩
def M8 : List Int := [1, 2, 3, 5, 6, 8, 9, 49]
theorem ixM8 {v : Int} (h1 : 0 ≤ v) (h2 : v < 8) : ∃ r ∈ M8, L2.atI [D.int 1, .int 2, .int 3, .int 5, .int 6, .int 8, .int 9, .int 49] v = some (.int r) := by
  obtain ⟨m, rfl⟩ : ∃ m : Nat, v = m := ⟨v.toNat, by omega⟩
  have hm : m < 8 := by omega
  match m, hm with
  | 0, _ => exact ⟨1, by decide, rfl⟩
  | 1, _ => exact ⟨2, by decide, rfl⟩
  | 2, _ => exact ⟨3, by decide, rfl⟩
  | 3, _ => exact ⟨5, by decide, rfl⟩
  | 4, _ => exact ⟨6, by decide, rfl⟩
  | 5, _ => exact ⟨8, by decide, rfl⟩
  | 6, _ => exact ⟨9, by decide, rfl⟩
  | 7, _ => exact ⟨49, by decide, rfl⟩
theorem asc_rev {xs : List D} (h : asc xs = true) (h2 : 1 < xs.length) : asc xs.reverse = false := by
  rw [Bool.eq_false_iff]
  intro z
  have h1 := asc_pw h
  have h3 := List.pairwise_reverse.mp (asc_pw z)
  match xs, h2, h1, h3 with
  | a :: b :: r, _, h1, h3 =>
    have q1 := (List.pairwise_cons.mp h1).1 b (by simp)
    have q2 := (List.pairwise_cons.mp h3).1 b (by simp)
    omega
theorem cut_take {xs : List D} {v : Nat} (h : v ≤ xs.length) : cutL xs none (some (v : Int)) = xs.take v := by
  unfold cutL HT.sIx
  have : ¬ ((v : Int) < 0) := by omega
  simp only [this, if_false, List.drop_zero]
  rw [show min ((v : Int).toNat) xs.length - 0 = v by omega]
theorem cut_drop {xs : List D} {v : Nat} (h : v ≤ xs.length) : cutL xs (some (v : Int)) none = xs.drop v := by
  unfold cutL HT.sIx
  have : ¬ ((v : Int) < 0) := by omega
  simp only [this, if_false]
  rw [show min ((v : Int).toNat) xs.length = v by omega]
  rw [List.take_of_length_le (by rw [List.length_drop]; omega)]
/-- is_surd and the law's own look at the same things -/
theorem due_ev {ys : List D} {a3 a4 a5 a6 a7 a9 : Sl} (hl : ys.length ≤ 100) (hs : ∀ y ∈ ys, smP y = true) :
    evSs (G60 ns) (csOf cst) (dropN 6 b_law_2) (r0 ns a3 a4 a5 a6 a7 (.val (.tup ys)) a9) t = .ok (.nx, r0 ns a3 a4 a5 a6 a7 (.val (.tup ys)) (.val (.bl (ys.all goodP && asc ys)))) t := by
  have gy : ∀ y ∈ ys, gd y = true := fun y hy => by
    have := hs y hy
    simp only [smP, Bool.and_eq_true] at this
    exact this.1
  have c1 : ∀ r : Rho, r = r0 ns a3 a4 a5 a6 a7 (.val (.tup ys)) a9 → ev (G60 ns) (csOf cst) (.comp [("part", 10)] (.var 10) (.name 10) (.val (.var 8)) (.some (.not (.call 11 (.cons (.var 10) .nil) .nil)))) r t = .ok (.lst (ys.filter fun d => !goodP d)) t := by
    rintro r rfl
    have h := comp_filt (G := G60 ns) (cs := csOf cst) (own := [("part", 10)]) (elt := .var 10) (tg := .name 10) (it := .val (.var 8)) (cd := .some (.not (.call 11 (.cons (.var 10) .nil) .nil))) (r := r0 ns a3 a4 a5 a6 a7 (.val (.tup ys)) a9) (t := t) (xs := ys) (fun d => !goodP d) id (by simp) (okl (by omega)) (fun d hd => by
      have e := e_law_good (ns := ns) (t := t) (k := 60) (by omega) d (hs d hd)
      cases hg : goodP d <;> rw [hg] at e <;> simp [e])
    simpa using h
  have e1 : eqOp (.lst (ys.filter fun d => !goodP d)) (.lst []) = some (.bl (ys.all goodP)) := by
    rw [x_eqL0 (lay_lst fun x hx => gy x (List.mem_filter.mp hx).1), filt_emp]
    simp
  have es := e_is_surd (ns := ns) (t := t) (k := 60) (by omega) ys (by omega) hs
  have ei : ∀ a : Bool, callF p ns 60 i__law_is [.bl a, .bl a] t = .ok (.bl true) t := fun a => by
    rw [e_law_is (by omega)]
    simp
  rw [b_law_2]
  simp only [dropN]
  rw [seq_nx (r1 := r0 ns a3 a4 a5 a6 a7 (.val (.tup ys)) (.val (.bl (ys.all goodP)))) (t1 := t)]
  · cases hg : ys.all goodP with
    | false =>
      rw [hg] at es
      simp only [Bool.false_and] at es ⊢
      rw [seq_nx (r1 := r0 ns a3 a4 a5 a6 a7 (.val (.tup ys)) (.val (.bl false))) (t1 := t)]
      · simp [es, ei]
      · simp
    | true =>
      rw [hg] at es
      simp only [Bool.true_and] at es ⊢
      have c2 : ev (G60 ns) (csOf cst) (.comp [("pair", 11)] (.var 11) (.name 11) (.zipN (.var 8) (.cut (.var 8) (.some (.cst (.int 1))) .none)) (.some (.cmp .GtE (.ix (.ix (.var 11) (.cst (.int 0))) (.cst (.int 0))) (.ix (.ix (.var 11) (.cst (.int 1))) (.cst (.int 0)))))) (r0 ns a3 a4 a5 a6 a7 (.val (.tup ys)) (.val (.bl true))) t = .ok (.lst ((zipD ys ys.tail).filter fun d => !ltD d)) t := by
        have h := comp_filt (G := G60 ns) (cs := csOf cst) (own := [("pair", 11)]) (elt := .var 11) (tg := .name 11) (it := .zipN (.var 8) (.cut (.var 8) (.some (.cst (.int 1))) .none)) (cd := .some (.cmp .GtE (.ix (.ix (.var 11) (.cst (.int 0))) (.cst (.int 0))) (.ix (.ix (.var 11) (.cst (.int 1))) (.cst (.int 0)))))
          (r := r0 ns a3 a4 a5 a6 a7 (.val (.tup ys)) (.val (.bl true))) (t := t) (xs := zipD ys ys.tail) (fun d => !ltD d) id (by simp [cut1]) (okl (by rw [zipD_len]; omega)) (fun d hd => by
            obtain ⟨x, y, h1, h2, rfl⟩ := zip_mem hd
            obtain ⟨q1, f1, rfl⟩ := goodP_ex (List.all_eq_true.mp hg x h1)
            obtain ⟨q2, f2, rfl⟩ := goodP_ex (List.all_eq_true.mp hg y (List.mem_of_mem_tail h2))
            by_cases hlt : q1 < q2
            · have : ¬ q2 ≤ q1 := by omega
              simp [ltD, rad, hlt, this]
            · have : q2 ≤ q1 := by omega
              simp [ltD, rad, hlt, this])
        simpa using h
      have e2 : eqOp (.lst ((zipD ys ys.tail).filter fun d => !ltD d)) (.lst []) = some (.bl (asc ys)) := by
        rw [x_eqL0, filt_emp, ← asc_zip]
        · simp
        · refine lay_lst fun x hx => ?_
          obtain ⟨x, y, h1, h2, rfl⟩ := zip_mem (List.mem_filter.mp hx).1
          simp [gd, gds, gy x h1, gy y (List.mem_of_mem_tail h2)]
      rw [seq_nx (r1 := r0 ns a3 a4 a5 a6 a7 (.val (.tup ys)) (.val (.bl (asc ys)))) (t1 := t)]
      · simp [es, ei]
      · simp [c2, e2]
  · simp [c1, e1]
end
end Lw

namespace Lw
open PySem Fm
section
variable {ns : List Int} {t : Tw} {n : Nat}
theorem turn_ev {a3 a4 a5 a6 a7 a8 a9 : Sl} (h : rm (n + 20) t) : ∃ b3 b5 b6 b7 b8 b9 t', evSs (G60 ns) (csOf cst) b_law_2 (r0 ns a3 a4 a5 a6 a7 a8 a9) t = .ok (.nx, r0 ns b3 a4 b5 b6 b7 b8 b9) t' ∧ rm n t' := by
  obtain ⟨xs, t1, e1, hd, ha, hl, r1⟩ := e_a_surd (ns := ns) (sc := ns) (k := 60) (n := n + 7) (by omega) 4 (by omega) h
  have e1 : callF p ns 60 i__law_a_surd [.scr ns, .tok, .int 4] t = .ok (.tup xs) t1 := e1
  have hs : ∀ x ∈ xs, smP x = true := fun x hx => (drP_good (hd x hx)).2
  have hg : xs.all goodP = true := List.all_eq_true.mpr fun x hx => (drP_good (hd x hx)).1
  have s1 := e_is_surd (ns := ns) (t := t1) (k := 60) (by omega) xs (by omega) hs
  rw [hg, ha] at s1
  have s2 := e_is_surdL (ns := ns) (t := t1) (k := 60) (by omega) xs
  have s3 := e_is_surd (ns := ns) (t := t1) (k := 60) (by omega) xs.reverse (by rw [List.length_reverse]; omega) (fun x hx => hs x (List.mem_reverse.mp hx))
  have ei : callF p ns 60 i__law_is [.bl true, .bl true] t1 = .ok (.bl true) t1 := by
    rw [e_law_is (by omega)]
    rfl
  obtain ⟨v, t2, e2, v1, v2, r2⟩ := e_draw (ns := ns) (sc := ns) (k := 60) (n := n + 6) (t := t1) (by omega) ((xs.length : Int) + 1) (by omega) (by omega) r1
  obtain ⟨w, rfl⟩ : ∃ w : Nat, v = w := ⟨v.toNat, by omega⟩
  obtain ⟨u, t3, e3, u1, u2, r3⟩ := e_draw (ns := ns) (sc := ns) (k := 60) (n := n + 5) (t := t2) (by omega) 19 (by omega) (by omega) r2
  obtain ⟨d, hdo, ed⟩ := ix_odd u1 u2
  obtain ⟨c, t4, e4, c1, c2, r4⟩ := e_draw (ns := ns) (sc := ns) (k := 60) (n := n + 4) (t := t3) (by omega) 2 (by omega) (by omega) r3
  have hl19 : (oddL.length : Int) = 19 := rfl
  have last : ∀ (th : D) (q7 : Sl) (tt : Tw), smP th = true → ∃ b8 b9, evSs (G60 ns) (csOf cst) (dropN 5 b_law_2) (r0 ns (.val th) a4 (.val (.tup xs)) (.val (.int w)) q7 a8 a9) tt = .ok (.nx, r0 ns (.val th) a4 (.val (.tup xs)) (.val (.int w)) q7 b8 b9) tt := by
    intro th q7 tt hth
    have hd := due_ev (ns := ns) (t := tt) (ys := xs.take w ++ [th] ++ xs.drop w) (a3 := .val th) (a4 := a4) (a5 := .val (.tup xs)) (a6 := .val (.int w)) (a7 := q7) (a9 := a9) (by
        rw [List.length_append, List.length_append, List.length_take, List.length_drop]
        simp
        omega) (fun y hy => by
        rcases List.mem_append.mp hy with hy | hy
        · rcases List.mem_append.mp hy with hy | hy
          · exact hs y (List.mem_of_mem_take hy)
          · rw [List.mem_singleton.mp hy]
            exact hth
        · exact hs y (List.mem_of_mem_drop hy))
    refine ⟨.val (.tup (xs.take w ++ [th] ++ xs.drop w)), .val (.bl ((xs.take w ++ [th] ++ xs.drop w).all goodP && asc (xs.take w ++ [th] ++ xs.drop w))), ?_⟩
    rw [b_law_2] at hd ⊢
    simp only [dropN] at hd ⊢
    rw [seq_nx (r1 := r0 ns (.val th) a4 (.val (.tup xs)) (.val (.int w)) q7 (.val (.tup (xs.take w ++ [th] ++ xs.drop w))) a9) (t1 := tt)]
    · exact hd
    · have hw : w ≤ xs.length := by omega
      have o1 : okLen ((xs.take w).length + 1) = true := okl (by rw [List.length_take]; omega)
      have o2 : okLen ((xs.take w ++ [th]).length + (xs.drop w).length) = true := okl (by rw [List.length_append, List.length_take, List.length_drop]; simp; omega)
      simp only [List.length_append, List.length_take, List.length_drop, List.length_cons, List.length_nil] at o1 o2
      simp [cut_take hw, cut_drop hw, o1]
      simp at o2
      simp [o2]
  have hsm : smP d = true := by
    have := List.all_eq_true.mp odd_ok d hdo
    simp only [Bool.and_eq_true] at this
    exact this.1
  rw [b_law_2] at last ⊢
  simp only [dropN] at last
  rw [seq_nx (r1 := r0 ns a3 a4 (.val (.tup xs)) a6 a7 a8 a9) (t1 := t1) (by simp [e1])]
  rw [seq_nx (r1 := r0 ns a3 a4 (.val (.tup xs)) a6 a7 a8 a9) (t1 := t1) (by
    by_cases h1 : 1 < xs.length
    · rw [asc_rev ha h1] at s3
      have : (1 : Int) < xs.length := by omega
      simp [s1, ei, s2, s3, this]
    · have : ¬ (1 : Int) < xs.length := by omega
      simp [s1, ei, s2, this])]
  rw [seq_nx (r1 := r0 ns a3 a4 (.val (.tup xs)) (.val (.int w)) a7 a8 a9) (t1 := t2) (by simp [e2])]
  rw [seq_nx (r1 := r0 ns (.val d) a4 (.val (.tup xs)) (.val (.int w)) a7 a8 a9) (t1 := t3) (by simp [hl19, e3, ed])]
  by_cases hc : c = 0
  · subst hc
    obtain ⟨v5, t5, e5, p5, q5, r5⟩ := e_draw (ns := ns) (sc := ns) (k := 60) (n := n + 3) (t := t4) (by omega) 8 (by omega) (by omega) r4
    obtain ⟨rr, hrr, er⟩ := ixM8 p5 q5
    obtain ⟨v6, t6, e6, p6, q6, r6⟩ := e_draw (ns := ns) (sc := ns) (k := 60) (n := n + 2) (t := t5) (by omega) 5 (by omega) (by omega) r5
    obtain ⟨v7, t7, e7, p7, q7, r7⟩ := e_draw (ns := ns) (sc := ns) (k := 60) (n := n + 1) (t := t6) (by omega) 3 (by omega) (by omega) r6
    have hrr : rr < 144 := by
      have := List.all_eq_true.mp (show M8.all (fun r => decide (r < 144)) = true by decide +kernel) rr hrr
      simpa using this
    have h7 : 1 + v7 < 1000 := by omega
    obtain ⟨b8, b9, el⟩ := last (.tup [.int rr, fr (v6 - 2) (1 + v7)]) (.val (.int rr)) t7 (by simp [smP, smF, gd, gds, hrr, h7])
    refine ⟨.val (.tup [.int rr, fr (v6 - 2) (1 + v7)]), .val (.tup xs), .val (.int w), .val (.int rr), b8, b9, t7, ?_, r7.le (by omega)⟩
    rw [seq_nx (r1 := r0 ns (.val (.tup [.int rr, fr (v6 - 2) (1 + v7)])) a4 (.val (.tup xs)) (.val (.int w)) (.val (.int rr)) a8 a9) (t1 := t7) (by simp [e4, e5, er, e6, e7])]
    exact el
  · obtain ⟨b8, b9, el⟩ := last d a7 t4 hsm
    refine ⟨.val d, .val (.tup xs), .val (.int w), a7, b8, b9, t4, ?_, r4.le (by omega)⟩
    rw [seq_nx (r1 := r0 ns (.val d) a4 (.val (.tup xs)) (.val (.int w)) a7 a8 a9) (t1 := t4) (by simp [e4, hc])]
    exact el
theorem hev (ns : List Int) : ∃ r t, evSs (gam p ns 60) (csOf cst) b_law (startL n_law ns) ⟨0, []⟩ = .ok (.ret (.bl true), r) t := by
  obtain ⟨a, e1⟩ := for1_ev (ns := ns) (t := ⟨0, []⟩)
  have h0 : rm 120 (⟨0, []⟩ : Tw) := ⟨⟨by show (0 : Int) ≤ 0; omega, by simp⟩, by show (0 : Int) + 120 ≤ 900000; omega⟩
  obtain ⟨r', t', e2, b3, b4, b5, b6, b7, b8, b9, rfl, _⟩ := loopF_ix (f := fun d r t => match setT (.name 4) d r with
    | some r1 => evSs (G60 ns) (csOf cst) b_law_2 r1 t
    | none => .bad) (fun j r t => ∃ b3 b4 b5 b6 b7 b8 b9, r = r0 ns b3 b4 b5 b6 b7 b8 b9 ∧ rm (20 * j) t) (rngD 0 6) (r0 ns a .un .un .un .un .un .un) ⟨0, []⟩ 0 ⟨_, _, _, _, _, _, _, rfl, h0⟩ (by
      rintro d hd j r t ⟨b3, b4, b5, b6, b7, b8, b9, rfl, hr⟩
      obtain ⟨c3, c5, c6, c7, c8, c9, t', e, hr'⟩ := turn_ev (ns := ns) (n := 20 * j) (a3 := b3) (a4 := .val d) (a5 := b5) (a6 := b6) (a7 := b7) (a8 := b8) (a9 := b9) (hr.le (by omega))
      refine ⟨r0 ns c3 (.val d) c5 c6 c7 c8 c9, t', ?_, c3, .val d, c5, c6, c7, c8, c9, rfl, hr'⟩
      simp
      exact e)
  have s0 := e_is_surd (ns := ns) (t := t') (k := 60) (by omega) [] (by simp) (by simp)
  have sN := e_is_surdN (ns := ns) (t := t') (k := 60) (by omega)
  have s3 := e_is_surd (ns := ns) (t := t') (k := 60) (by omega) [.tup [.int 30, fr (-7) 3]] (by simp) (by
    intro x hx
    rw [List.mem_singleton.mp hx]
    decide +kernel)
  rw [show ([D.tup [.int 30, fr (-7) 3]].all goodP && asc [D.tup [.int 30, fr (-7) 3]]) = true by decide +kernel] at s3
  refine ⟨r0 ns b3 b4 b5 b6 b7 b8 b9, t', ?_⟩
  rw [pre_ev, b_law]
  simp only [dropN]
  rw [seq_nx e1, seq_nx (r1 := r0 ns b3 b4 b5 b6 b7 b8 b9) (t1 := t')]
  · simp [s0, sN, s3, asc]
  · rw [for_ev (xs := rngD 0 6) (t1 := ⟨0, []⟩) (by simp [okRng])]
    exact e2
end
end Lw

theorem PySem.Challenge.cw_formclear_k02_no_surds_holds : PySem.Challenge.rw_formclear_k02_no_surds.Holds := by
  exact Lw.fin 60 (by omega) (by omega) fun ns _ => Lw.hev ns

