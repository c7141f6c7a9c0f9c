import PyProof.Rows.All
import Wide.All
import OpenK.AllK
import Wide.FinOn
import KE.KStateDown
import HandS.ForMost
import HandS.ForExc
import HandS.Walk
import HandS.Defaults
import HandS.IsInst
import HandS.HeadEnd
import HandS.HeadHook2
import HandS.Head2
import HandS.Zip
import HandS.Flow
import HandS.TupAny
import HandS.Style
import HandS.Wide
import HandS.Deep
import HandS.SortInts
import HandS.More
import HandS.MakeKwOnly
import KE.KUnpackStar
import PySem.Challenge.RW_formclear_k21_no_formulas
set_option Elab.async false
set_option linter.all false
set_option maxRecDepth 100000
set_option maxHeartbeats 16000000
/-! ### plain data, the syntax Core, its evaluator -/
namespace Fm
open PySem
abbrev Key := L2.Key
/-- plain data; tok: the town of the law's draws; scr: the law's script -/
inductive D where
  | non
  | bl (b : Bool)
  | int (i : Int)
  | str (x : Str)
  | tup (xs : List D)
  | lst (xs : List D)
  | dct (kvs : List (Key × D))
  | tok
  | scr (ns : List Int)
instance : Inhabited D := ⟨.non⟩
mutual
def D.py : D → PyData
  | .non => .none
  | .bl b => .bool b
  | .int i => .int i
  | .str x => .str x
  | .tup xs => .tuple (pys xs)
  | .lst xs => .list (pys xs)
  | .dct _ => .dict []
  | .tok => .dict []
  | .scr _ => .dict []
def pys : List D → List PyData
  | [] => []
  | x :: xs => x.py :: pys xs
end
def eqD (a b : D) : Bool := PyData.eqv a.py b.py
def lay (a : D) : Bool := PyData.canLay0 a.py
def dep (a : D) : Nat := PyData.depth a.py
/-- the town: how many draws, the rests of great cells -/
structure Tw where
  count : Int
  rests : List (Int × Int)
/-- the rest at a place -/
def lkT (r : List (Int × Int)) (k : Int) : Option Int := (r.find? fun p => decide (p.1 = k)).map (·.2)
def putT (r : List (Int × Int)) (k v : Int) : List (Int × Int) :=
  if r.any (fun p => decide (p.1 = k)) then r.map (fun p => if p.1 = k then (p.1, v) else p) else r ++ [(k, v)]
inductive Res (α : Type) where
  | ok (a : α) (t : Tw)
  | exc (n : Nat) (t : Tw)
  | bad
def Res.bind {α β : Type} : Res α → (α → Tw → Res β) → Res β
  | .ok a t, f => f a t
  | .exc n t, _ => .exc n t
  | .bad, _ => .bad
@[simp] theorem Res.bind_ok {α β : Type} (a : α) (t : Tw) (f : α → Tw → Res β) : (Res.ok a t).bind f = f a t := rfl
@[simp] theorem Res.bind_exc {α β : Type} (n : Nat) (t : Tw) (f : α → Tw → Res β) : (Res.exc n t : Res α).bind f = .exc n t := rfl
@[simp] theorem Res.bind_bad {α β : Type} (f : α → Tw → Res β) : (Res.bad : Res α).bind f = .bad := rfl
def lift {α : Type} (o : Option α) (t : Tw) : Res α := match o with
  | some a => .ok a t
  | none => .bad
@[simp] theorem lift_some {α : Type} (a : α) (t : Tw) : lift (some a) t = .ok a t := rfl
@[simp] theorem lift_none {α : Type} (t : Tw) : lift (none : Option α) t = .bad := rfl
/-! ### the operations upon data -/
def okMul (i j : Int) : Bool := decide (i.natAbs.log2 + j.natAbs.log2 < 1000000)
def okDiv (j : Int) : Bool := decide (j ≠ 0) && decide (j.natAbs.log2 < 9000)
def okPow (i j : Int) : Bool := decide (0 ≤ j) && decide (j ≤ 1000000) && decide (i.natAbs < 2 ^ 64)
def okLen (n : Nat) : Bool := decide (n ≤ 16777216)
def addD : D → D → Option D
  | .int i, .int j => some (.int (i + j))
  | .str x, .str y => if okLen (x.length + y.length) then some (.str (x ++ y)) else none
  | .tup xs, .tup ys => if okLen (xs.length + ys.length) then some (.tup (xs ++ ys)) else none
  | _, _ => none
def catD : D → D → Option D
  | .lst xs, .lst ys => if okLen (xs.length + ys.length) then some (.lst (xs ++ ys)) else none
  | _, _ => none
def subD : D → D → Option D
  | .int i, .int j => some (.int (i - j))
  | _, _ => none
def mulD : D → D → Option D
  | .int i, .int j => if okMul i j then some (.int (i * j)) else none
  | _, _ => none
def fdivD : D → D → Option D
  | .int i, .int j => if okDiv j then some (.int (i.fdiv j)) else none
  | _, _ => none
def modD : D → D → Option D
  | .int i, .int j => if j = 0 then none else some (.int (i.fmod j))
  | _, _ => none
def powD : D → D → Option D
  | .int i, .int j => if okPow i j then some (.int (i ^ j.toNat)) else none
  | _, _ => none
def shlD : D → D → Option D
  | .int i, .int j => if okPow i j then some (.int (i * 2 ^ j.toNat)) else none
  | _, _ => none
def negD : D → Option D
  | .int i => some (.int (-i))
  | _ => none
def truD : D → Option Bool
  | .non => some false
  | .bl b => some b
  | .int i => some (i != 0)
  | .str x => if okLen x.length then some ((x.length : Int) != 0) else none
  | .tup xs => some (!xs.isEmpty)
  | .lst xs => some (!xs.isEmpty)
  | .dct kvs => some (!kvs.isEmpty)
  | .scr ns => some (!ns.isEmpty)
  | _ => none
def notD (a : D) : Option D := (truD a).map fun b => .bl (!b)
def okEq (a b : D) : Bool := lay a && lay b && decide (min (dep a) (dep b) ≤ 190)
def eqOp (a b : D) : Option D := if okEq a b then some (.bl (eqD a b)) else none
def neOp (a b : D) : Option D := if okEq a b then some (.bl (!eqD a b)) else none
def ltOp : D → D → Option D
  | .int i, .int j => some (.bl (decide (i < j)))
  | .str x, .str y => some (.bl (decide (x.cps.toList < y.cps.toList)))
  | _, _ => none
def leOp : D → D → Option D
  | .int i, .int j => some (.bl (decide (i ≤ j)))
  | _, _ => none
def gtOp : D → D → Option D
  | .int i, .int j => some (.bl (decide (j < i)))
  | _, _ => none
def geOp : D → D → Option D
  | .int i, .int j => some (.bl (decide (j ≤ i)))
  | _, _ => none
/-- x in y: a sequence of data, or one sign in a text -/
def inB : D → D → Option Bool
  | a, .tup xs => if lay a && (xs.all lay) && decide (dep a ≤ 190) then some (xs.any fun z => eqD z a) else none
  | a, .lst xs => if lay a && (xs.all lay) && decide (dep a ≤ 190) then some (xs.any fun z => eqD z a) else none
  | .str x, .str y => if decide (x.cps.size = 1) then some (decide (x.cps.getD 0 0 ∈ y.cps.toList)) else none
  | _, _ => none
def isN (a : D) : Bool := match a with
  | .non => true
  | _ => false
def cmpD : CmpOp → D → D → Option D
  | .Eq, a, b => eqOp a b
  | .NotEq, a, b => neOp a b
  | .Lt, a, b => ltOp a b
  | .LtE, a, b => leOp a b
  | .Gt, a, b => gtOp a b
  | .GtE, a, b => geOp a b
  | .Is, a, .non => some (.bl (isN a))
  | .IsNot, a, .non => some (.bl (!isN a))
  | .In, a, b => (inB a b).map .bl
  | .NotIn, a, b => (inB a b).map fun r => .bl (!r)
  | _, _, _ => none
def keyD : D → Option Key
  | .int i => some (.inl i)
  | .str x => some (.inr x)
  | _ => none
def lookD (kvs : List (Key × D)) (k : Key) : Option D := (kvs.find? fun kv => decide (kv.1 = k)).map (·.2)
def putD (kvs : List (Key × D)) (k : Key) (d : D) : List (Key × D) :=
  if kvs.any (fun kv => decide (kv.1 = k)) then kvs.map (fun kv => if kv.1 = k then (kv.1, d) else kv) else kvs ++ [(k, d)]
def mergeD (kvs : List (Key × D)) : List (Str × D) → List (Key × D)
  | [] => kvs
  | p :: r => mergeD (putD kvs (.inr p.1) p.2) r
def ixD : D → D → Option D
  | .scr ns, .int i => (L2.atI ns i).map D.int
  | .tup xs, .int i => L2.atI xs i
  | .lst xs, .int i => L2.atI xs i
  | .str x, .int i => if okLen x.length then (L2.atI x.cps.toList i).map fun c => .str ⟨#[c]⟩ else none
  | _, _ => none
def dixD : D → D → Option D
  | .dct kvs, k => (keyD k).bind fun k => lookD kvs k
  | _, _ => none
def cutL {α : Type} (xs : List α) (lo hi : Option Int) : List α := (xs.drop (HT.sIx xs.length 0 lo)).take (HT.sIx xs.length xs.length hi - HT.sIx xs.length 0 lo)
def optI : Option D → Option (Option Int)
  | none => some none
  | some (.int i) => some (some i)
  | _ => none
def cutD (a : D) (l h : Option Int) : Option D := match a with
  | .tup xs => some (.tup (cutL xs l h))
  | .lst xs => some (.lst (cutL xs l h))
  | _ => none
def lenD : D → Option D
  | .tup xs => some (.int xs.length)
  | .lst xs => some (.int xs.length)
  | .str x => if okLen x.length then some (.int x.length) else none
  | .dct kvs => some (.int kvs.length)
  | .scr ns => some (.int ns.length)
  | _ => none
def tyD : D → Option String
  | .non => some "NoneType"
  | .bl _ => some "bool"
  | .int _ => some "int"
  | .str _ => some "str"
  | .tup _ => some "tuple"
  | .lst _ => some "list"
  | .dct _ => some "dict"
  | .tok => none
  | .scr _ => none
/-- the classes that are asked -/
inductive Ty where
  | int | bool | str | tuple | list
def Ty.name : Ty → String
  | .int => "int"
  | .bool => "bool"
  | .str => "str"
  | .tuple => "tuple"
  | .list => "list"
def isaD (a : D) (T : Ty) : Option Bool := match a, T with
  | .tok, _ => none
  | .scr _, _ => none
  | .bl _, .bool => some true
  | .bl _, .int => some true
  | .int _, .int => some true
  | .str _, .str => some true
  | .tup _, .tuple => some true
  | .lst _, .list => some true
  | _, _ => some false
/-- built-in functions of one or two values -/
inductive Blt where
  | len | abs | all | any | sum | tuple | list | sorted | int
def bls : List D → Option (List Bool)
  | [] => some []
  | .bl b :: r => (bls r).map (b :: ·)
  | _ :: _ => none
def intsD : List D → Option (List Int)
  | [] => some []
  | .int i :: r => (intsD r).map (i :: ·)
  | _ :: _ => none
/-- intsD in order -/
def insI (x : Int) : List Int → List Int
  | [] => [x]
  | y :: r => if x ≤ y then x :: y :: r else y :: insI x r
def srtI : List Int → List Int
  | [] => []
  | x :: r => insI x (srtI r)
def keysI : List (Key × D) → Option (List Int)
  | [] => some []
  | (.inl i, _) :: r => (keysI r).map (i :: ·)
  | _ :: _ => none
def blt1 : Blt → D → Option D
  | .len, a => lenD a
  | .abs, .int i => some (.int (if i < 0 then -i else i))
  | .all, .lst xs => (bls xs).map fun bs => .bl (bs.all id)
  | .any, .lst xs => (bls xs).map fun bs => .bl (bs.any id)
  | .sum, .lst xs => (intsD xs).map fun ns => .int ns.sum
  | .tuple, .lst xs => some (.tup xs)
  | .tuple, .tup xs => some (.tup xs)
  | .list, .lst xs => some (.lst xs)
  | .list, .tup xs => some (.lst xs)
  | .sorted, .lst xs => (intsD xs).map fun ns => .lst ((srtI ns).map D.int)
  | .sorted, .dct kvs => (keysI kvs).bind fun ns => if decide (ns.length < 64) then some (.lst ((srtI ns).map D.int)) else none
  | _, _ => none
/-! ### the syntax -/
inductive Cst where
  | non | bl (b : Bool) | int (i : Int) | str (x : Str)
def Cst.d : Cst → D
  | .non => .non
  | .bl b => .bl b
  | .int i => .int i
  | .str x => .str x
mutual
inductive E where
  | cst (c : Cst)
  | var (i : Nat)
  | bor (i : Nat)
  | glob (g : Nat)
  | bin (op : Operator) (a b : E)
  | neg (a : E)
  | not (a : E)
  | and (a b : E)
  | or (a b : E)
  | ite (c a b : E)
  | cmp (op : CmpOp) (a b : E)
  | chain (o1 o2 : CmpOp) (a b c : E)
  | ix (a b : E)
  | dix (a b : E)
  | cat (a b : E)
  | cut (a : E) (lo hi : O)
  | tup (es : Es)
  | lst (es : Es)
  | call (c : Nat) (es ks : Es)
  | blt (b : Blt) (a : E)
  | isa (a : E) (T : Ty)
  | comp (own : List (Str × Nat)) (elt : E) (tg : Tg) (it : I) (cd : O)
  | get (a k d : E)
  | tcount (i : Nat)
  | tget (i : Nat) (k d : E)
  | dsp (kvs : List (Str × Cst))
inductive O where
  | none
  | some (e : E)
inductive Es where
  | nil
  | cons (e : E) (es : Es)
inductive I where
  | val (e : E)
  | rng1 (a : E)
  | rng2 (a b : E)
  | zip (a b : E)
  | enum (a : E)
inductive Tg where
  | name (i : Nat)
  | tup (ts : Tgs)
inductive Tgs where
  | nil
  | cons (t : Tg) (ts : Tgs)
end
mutual
inductive S where
  | asg (tg : Tg) (e : E)
  | par (is : List Nat) (es : Es)
  | star (i j : Nat) (e : E)
  | aug (i : Nat) (op : Operator) (e : E)
  | ret (e : E)
  | ite (c : E) (a b : Ss)
  | for (tg : Tg) (it : I) (b : Ss)
  | while (c : E) (b : Ss)
  | exp (e : E)
  | new (i : Nat) (e : E)
  | app (i : Nat) (e : E)
  | put (i : Nat) (k e : E)
  | putL (i : Nat) (k e : E)
  | frz (i : Nat)
  | tcnt (i : Nat) (e : E)
  | trst (i : Nat) (k e : E)
  | brk
  | cont
  | raise (n : Nat) (x : Str)
inductive Ss where
  | nil
  | cons (s : S) (r : Ss)
end

/-! ### the evaluator -/
/-- a slot: nothing, a datum, an object of the def's own (a list, a dict) that it may change -/
inductive Sl where
  | un
  | val (d : D)
  | own (d : D)
abbrev Rho := List Sl
def wipeR (r : Rho) : List Nat → Rho
  | [] => r
  | v :: vs => (wipeR r vs).set v .un
mutual
def setT : Tg → D → Rho → Option Rho
  | .name i, d, r => if decide (i < r.length) then some (r.set i (.val d)) else none
  | .tup ts, .tup xs, r => setTs ts xs r
  | .tup _, _, _ => none
def setTs : Tgs → List D → Rho → Option Rho
  | .nil, [], r => some r
  | .cons t ts, x :: xs, r => (setT t x r).bind fun r1 => setTs ts xs r1
  | _, _, _ => none
end
def consO (o : Option D) (xs : List D) : List D := match o with
  | some x => x :: xs
  | none => xs
/-- a comprehension's turns; what is raised within is not carried -/
def compL (f : D → Tw → Res (Option D)) : List D → Tw → Res (List D)
  | [], t => .ok [] t
  | d :: r, t => match f d t with
    | .ok o t1 => (compL f r t1).bind fun xs t2 => .ok (consO o xs) t2
    | _ => .bad
def strD (x : Str) : List D := x.cps.toList.map fun c => .str ⟨#[c]⟩
def rngD (lo : Int) (n : Nat) : List D := (List.range n).map fun k => .int (lo + (k : Nat))
def okRng (i : Int) : Bool := decide (-(2 ^ 62) ≤ i) && decide (i < 2 ^ 62)
def zipD : List D → List D → List D
  | x :: xs, y :: ys => .tup [x, y] :: zipD xs ys
  | _, _ => []
def enumD (k : Nat) : List D → List D
  | [] => []
  | x :: xs => .tup [.int (k : Nat), x] :: enumD (k + 1) xs
abbrev Gam := Nat → List D → List D → Tw → Res D
def binD : Operator → D → D → Option D
  | .Add, a, b => addD a b
  | .Sub, a, b => subD a b
  | .Mult, a, b => mulD a b
  | .FloorDiv, a, b => fdivD a b
  | .Mod, a, b => modD a b
  | .Pow, a, b => powD a b
  | .LShift, a, b => shlD a b
  | _, _, _ => none
mutual
def ev (G : Gam) (cs : Nat → D) : E → Rho → Tw → Res D
  | .cst c, _, t => .ok c.d t
  | .var i, r, t => match r[i]? with
    | some (.val d) => .ok d t
    | _ => .bad
  | .bor i, r, t => match r[i]? with
    | some (.val d) => .ok d t
    | some (.own d) => .ok d t
    | _ => .bad
  | .glob g, _, t => .ok (cs g) t
  | .bin op a b, r, t => (ev G cs a r t).bind fun x t1 => (ev G cs b r t1).bind fun y t2 => lift (binD op x y) t2
  | .neg a, r, t => (ev G cs a r t).bind fun x t1 => lift (negD x) t1
  | .not a, r, t => (ev G cs a r t).bind fun x t1 => lift (notD x) t1
  | .and a b, r, t => (ev G cs a r t).bind fun x t1 => match truD x with
    | some true => ev G cs b r t1
    | some false => .ok x t1
    | none => .bad
  | .or a b, r, t => (ev G cs a r t).bind fun x t1 => match truD x with
    | some true => .ok x t1
    | some false => ev G cs b r t1
    | none => .bad
  | .ite c a b, r, t => (ev G cs c r t).bind fun x t1 => match truD x with
    | some true => ev G cs a r t1
    | some false => ev G cs b r t1
    | none => .bad
  | .cmp op a b, r, t => (ev G cs a r t).bind fun x t1 => (ev G cs b r t1).bind fun y t2 => lift (cmpD op x y) t2
  | .chain o1 o2 a b c, r, t => (ev G cs a r t).bind fun x t1 => (ev G cs b r t1).bind fun y t2 => match cmpD o1 x y with
    | some (.bl true) => (ev G cs c r t2).bind fun z t3 => lift (cmpD o2 y z) t3
    | some (.bl false) => .ok (.bl false) t2
    | _ => .bad
  | .ix a b, r, t => (ev G cs a r t).bind fun x t1 => (ev G cs b r t1).bind fun y t2 => lift (ixD x y) t2
  | .dix a b, r, t => (ev G cs a r t).bind fun x t1 => (ev G cs b r t1).bind fun y t2 => lift (dixD x y) t2
  | .cat a b, r, t => (ev G cs a r t).bind fun x t1 => (ev G cs b r t1).bind fun y t2 => lift (catD x y) t2
  | .cut a lo hi, r, t => (ev G cs a r t).bind fun x t1 => (evO G cs lo r t1).bind fun l t2 => (lift (optI l) t2).bind fun l t2 => (evO G cs hi r t2).bind fun h t3 => (lift (optI h) t3).bind fun h t3 => lift (cutD x l h) t3
  | .tup es, r, t => (evs G cs es r t).bind fun xs t1 => if okLen xs.length then .ok (.tup xs) t1 else .bad
  | .lst es, r, t => (evs G cs es r t).bind fun xs t1 => if okLen xs.length then .ok (.lst xs) t1 else .bad
  | .call c es ks, r, t => (evs G cs es r t).bind fun xs t1 => (evs G cs ks r t1).bind fun ys t2 => G c xs ys t2
  | .blt b a, r, t => (ev G cs a r t).bind fun x t1 => lift (blt1 b x) t1
  | .isa a T, r, t => (ev G cs a r t).bind fun x t1 => lift ((isaD x T).map D.bl) t1
  | .comp own elt tg it cd, r, t => (evI G cs it r t).bind fun xs t1 => if okLen xs.length then
      (compL (fun d t => match setT tg d (wipeR r (own.map (·.2))) with
        | some r2 => (evO G cs cd r2 t).bind fun o t => match o with
          | none => (ev G cs elt r2 t).bind fun x t => .ok (some x) t
          | some y => match truD y with
            | some true => (ev G cs elt r2 t).bind fun x t => .ok (some x) t
            | some false => .ok none t
            | none => .bad
        | none => .bad) xs t1).bind fun ys t2 => .ok (.lst ys) t2 else .bad
  | .get a k d, r, t => (ev G cs a r t).bind fun x t1 => match x with
    | .dct kvs => (ev G cs k r t1).bind fun y t2 => (ev G cs d r t2).bind fun z t3 => (match keyD y with
      | some k => .ok ((lookD kvs k).getD z) t3
      | none => .bad)
    | _ => .bad
  | .tcount i, r, t => match r[i]? with
    | some (.val .tok) => .ok (.int t.count) t
    | _ => .bad
  | .tget i k d, r, t => match r[i]? with
    | some (.val .tok) => (ev G cs k r t).bind fun y t1 => (ev G cs d r t1).bind fun z t2 => (match y, z with
      | .int a, .int b => .ok (.int ((lkT t2.rests a).getD b)) t2
      | _, _ => .bad)
    | _ => .bad
  | .dsp kvs, r, t => if decide (kvs.length ≤ 15) then .ok (.dct (mergeD [] (kvs.map fun p => (p.1, p.2.d)))) t else .bad
def evO (G : Gam) (cs : Nat → D) : O → Rho → Tw → Res (Option D)
  | .none, _, t => .ok none t
  | .some e, r, t => (ev G cs e r t).bind fun x t1 => .ok (some x) t1
def evs (G : Gam) (cs : Nat → D) : Es → Rho → Tw → Res (List D)
  | .nil, _, t => .ok [] t
  | .cons e es, r, t => (ev G cs e r t).bind fun x t1 => (evs G cs es r t1).bind fun xs t2 => .ok (x :: xs) t2
def evI (G : Gam) (cs : Nat → D) : I → Rho → Tw → Res (List D)
  | .val e, r, t => (ev G cs e r t).bind fun x t1 => match x with
    | .tup xs => .ok xs t1
    | .lst xs => .ok xs t1
    | .str x => .ok (strD x) t1
    | _ => .bad
  | .rng1 a, r, t => (ev G cs a r t).bind fun x t1 => match x with
    | .int j => if okRng j then .ok (rngD 0 j.toNat) t1 else .bad
    | _ => .bad
  | .rng2 a b, r, t => (ev G cs a r t).bind fun x t1 => (ev G cs b r t1).bind fun y t2 => match x, y with
    | .int i, .int j => if okRng i && okRng j then .ok (rngD i (j - i).toNat) t2 else .bad
    | _, _ => .bad
  | .zip a b, r, t => (ev G cs a r t).bind fun x t1 => (ev G cs b r t1).bind fun y t2 => match x, y with
    | .tup xs, .tup ys => .ok (zipD xs ys) t2
    | .lst xs, .lst ys => .ok (zipD xs ys) t2
    | _, _ => .bad
  | .enum a, r, t => (ev G cs a r t).bind fun x t1 => match x with
    | .lst xs => .ok (enumD 0 xs) t1
    | _ => .bad
end
/-! ### statements -/
inductive Fl where
  | nx | brk | cont
  | ret (d : D)
def loopF (f : D → Rho → Tw → Res (Fl × Rho)) : List D → Rho → Tw → Res (Fl × Rho)
  | [], r, t => .ok (.nx, r) t
  | d :: ds, r, t => (f d r t).bind fun p t1 => match p with
    | (.nx, r1) => loopF f ds r1 t1
    | (.cont, r1) => loopF f ds r1 t1
    | (.brk, r1) => .ok (.nx, r1) t1
    | (.ret d, r1) => .ok (.ret d, r1) t1
/-- n turns of a while at most; none: they do not suffice -/
def loopN (c : Rho → Tw → Res D) (f : Rho → Tw → Res (Fl × Rho)) : Nat → Rho → Tw → Option (Res (Fl × Rho))
  | 0, _, _ => none
  | n + 1, r, t => match c r t with
    | .exc k t1 => some (.exc k t1)
    | .bad => some .bad
    | .ok x t1 => match truD x with
      | none => some .bad
      | some false => some (.ok (.nx, r) t1)
      | some true => match f r t1 with
        | .exc k t2 => some (.exc k t2)
        | .bad => some .bad
        | .ok (.nx, r1) t2 => loopN c f n r1 t2
        | .ok (.cont, r1) t2 => loopN c f n r1 t2
        | .ok (.brk, r1) t2 => some (.ok (.nx, r1) t2)
        | .ok (.ret d, r1) t2 => some (.ok (.ret d, r1) t2)
open Classical in
/-- a while -/
noncomputable def loopW (c : Rho → Tw → Res D) (f : Rho → Tw → Res (Fl × Rho)) (r : Rho) (t : Tw) : Res (Fl × Rho) :=
  if h : ∃ n v, loopN c f n r t = some v then h.choose_spec.choose else .bad
theorem loopN_mono {c : Rho → Tw → Res D} {f : Rho → Tw → Res (Fl × Rho)} {n : Nat} : ∀ {m : Nat} {r : Rho} {t : Tw} {v : Res (Fl × Rho)}, loopN c f n r t = some v → n ≤ m → loopN c f m r t = some v := by
  induction n with
  | zero => intro m r t v h _; simp [loopN] at h
  | succ n ih =>
    intro m r t v h hm
    obtain ⟨m, rfl⟩ : ∃ k, m = k + 1 := ⟨m - 1, by omega⟩
    have hm' : n ≤ m := by omega
    simp only [loopN] at h ⊢
    cases hc : c r t with
    | exc k t1 => rw [hc] at h; exact h
    | bad => rw [hc] at h; exact h
    | ok x t1 =>
      rw [hc] at h
      simp only at h ⊢
      cases hx : truD x with
      | none => rw [hx] at h; exact h
      | some b =>
        rw [hx] at h
        cases b with
        | false => exact h
        | true =>
          simp only at h ⊢
          cases hf : f r t1 with
          | exc k t2 => rw [hf] at h; exact h
          | bad => rw [hf] at h; exact h
          | ok p t2 =>
            rw [hf] at h
            obtain ⟨fl, r1⟩ := p
            cases fl with
            | nx => exact ih h hm'
            | cont => exact ih h hm'
            | brk => exact h
            | ret d => exact h
theorem loopW_of {c : Rho → Tw → Res D} {f : Rho → Tw → Res (Fl × Rho)} {n : Nat} {r : Rho} {t : Tw} {v : Res (Fl × Rho)} (h : loopN c f n r t = some v) : loopW c f r t = v := by
  unfold loopW
  have hx : ∃ n v, loopN c f n r t = some v := ⟨n, v, h⟩
  rw [dif_pos hx]
  have h2 := hx.choose_spec.choose_spec
  have e1 := loopN_mono h (Nat.le_max_left n hx.choose)
  have e2 := loopN_mono h2 (Nat.le_max_right n hx.choose)
  rw [e1] at e2
  exact (Option.some.inj e2).symm
theorem loopW_not {c : Rho → Tw → Res D} {f : Rho → Tw → Res (Fl × Rho)} {r : Rho} {t : Tw} (h : loopW c f r t ≠ .bad) : ∃ n, loopN c f n r t = some (loopW c f r t) := by
  unfold loopW at h ⊢
  by_cases hx : ∃ n v, loopN c f n r t = some v
  · rw [dif_pos hx] at h ⊢
    exact ⟨_, hx.choose_spec.choose_spec⟩
  · rw [dif_neg hx] at h
    exact absurd rfl h
/-- one turn -/
theorem loopW_eq (c : Rho → Tw → Res D) (f : Rho → Tw → Res (Fl × Rho)) (r : Rho) (t : Tw) : loopW c f r t = (c r t).bind fun x t1 => match truD x with
    | none => .bad
    | some false => .ok (.nx, r) t1
    | some true => (f r t1).bind fun p t2 => match p with
      | (.nx, r1) => loopW c f r1 t2
      | (.cont, r1) => loopW c f r1 t2
      | (.brk, r1) => .ok (.nx, r1) t2
      | (.ret d, r1) => .ok (.ret d, r1) t2 := by
  have key : ∀ r1 t2, (∀ n, loopN c f (n + 1) r t = loopN c f n r1 t2) → loopW c f r t = loopW c f r1 t2 := by
    intro r1 t2 h
    by_cases hb : loopW c f r1 t2 = .bad
    · rw [hb]
      by_cases ha : loopW c f r t = .bad
      · exact ha
      · obtain ⟨n, hn⟩ := loopW_not ha
        cases n with
        | zero => simp [loopN] at hn
        | succ n =>
          rw [h n] at hn
          have := loopW_of hn
          rw [hb] at this
          exact this.symm
    · obtain ⟨n, hn⟩ := loopW_not hb
      exact loopW_of (n := n + 1) ((h n).trans hn)
  cases hc : c r t with
  | exc k t1 => exact loopW_of (n := 1) (by simp [loopN, hc])
  | bad => exact loopW_of (n := 1) (by simp [loopN, hc])
  | ok x t1 =>
    simp only [Res.bind_ok]
    cases hx : truD x with
    | none => exact loopW_of (n := 1) (by simp [loopN, hc, hx])
    | some b =>
      cases b with
      | false => exact loopW_of (n := 1) (by simp [loopN, hc, hx])
      | true =>
        cases hf : f r t1 with
        | exc k t2 => exact loopW_of (n := 1) (by simp [loopN, hc, hx, hf])
        | bad => exact loopW_of (n := 1) (by simp [loopN, hc, hx, hf])
        | ok p t2 =>
          obtain ⟨fl, r1⟩ := p
          cases fl with
          | nx => exact key r1 t2 fun n => by simp [loopN, hc, hx, hf]
          | cont => exact key r1 t2 fun n => by simp [loopN, hc, hx, hf]
          | brk => exact loopW_of (n := 1) (by simp [loopN, hc, hx, hf])
          | ret d => exact loopW_of (n := 1) (by simp [loopN, hc, hx, hf])
def setAll : List Nat → List D → Rho → Option Rho
  | [], [], r => some r
  | i :: is, d :: ds, r => if decide (i < r.length) then setAll is ds (r.set i (.val d)) else none
  | _, _, _ => none
def okSet (r : Rho) (i : Nat) (s : Sl) (t : Tw) : Res (Fl × Rho) := if decide (i < r.length) then .ok (.nx, r.set i s) t else .bad
mutual
noncomputable def evS (G : Gam) (cs : Nat → D) : S → Rho → Tw → Res (Fl × Rho)
  | .asg tg e, r, t => (ev G cs e r t).bind fun x t1 => lift ((setT tg x r).map fun r1 => (.nx, r1)) t1
  | .par is es, r, t => (evs G cs es r t).bind fun xs t1 => lift ((setAll is xs r).map fun r1 => (.nx, r1)) t1
  | .star i j e, r, t => (ev G cs e r t).bind fun x t1 => match x with
    | .tup (y :: ys) => if decide (i < r.length) && decide (j < r.length) && decide (ys.length < 16384) then .ok (.nx, (r.set i (.val y)).set j (.val (.lst ys))) t1 else .bad
    | _ => .bad
  | .aug i op e, r, t => match r[i]? with
    | some (.val x) => (ev G cs e r t).bind fun y t1 => match x, y with
      | .int _, .int _ => lift ((binD op x y).map fun z => (.nx, r.set i (.val z))) t1
      | _, _ => .bad
    | _ => .bad
  | .ret e, r, t => (ev G cs e r t).bind fun x t1 => .ok (.ret x, r) t1
  | .ite c a b, r, t => (ev G cs c r t).bind fun x t1 => match truD x with
    | some true => evSs G cs a r t1
    | some false => evSs G cs b r t1
    | none => .bad
  | .for tg it b, r, t => (evI G cs it r t).bind fun xs t1 => loopF (fun d r t => match setT tg d r with
    | some r1 => evSs G cs b r1 t
    | none => .bad) xs r t1
  | .while c b, r, t => loopW (fun r t => ev G cs c r t) (fun r t => evSs G cs b r t) r t
  | .exp e, r, t => (ev G cs e r t).bind fun _ t1 => .ok (.nx, r) t1
  | .new i e, r, t => (ev G cs e r t).bind fun x t1 => okSet r i (.own x) t1
  | .app i e, r, t => match r[i]? with
    | some (.own (.lst xs)) => (ev G cs e r t).bind fun x t1 => if decide (xs.length < 16777216) then .ok (.nx, r.set i (.own (.lst (xs ++ [x])))) t1 else .bad
    | _ => .bad
  | .put i k e, r, t => match r[i]? with
    | some (.own (.dct kvs)) => (ev G cs e r t).bind fun x t1 => (ev G cs k r t1).bind fun y t2 => (match keyD y with
      | some k => if decide (kvs.length < 16777216) then .ok (.nx, r.set i (.own (.dct (putD kvs k x)))) t2 else .bad
      | none => .bad)
    | _ => .bad
  | .putL i k e, r, t => match r[i]? with
    | some (.own (.lst xs)) => (ev G cs e r t).bind fun x t1 => (ev G cs k r t1).bind fun y t2 => (match y with
      | .int j => (match L2.ixN xs.length j with
        | some n => .ok (.nx, r.set i (.own (.lst (xs.set n x)))) t2
        | none => .bad)
      | _ => .bad)
    | _ => .bad
  | .frz i, r, t => match r[i]? with
    | some (.own d) => .ok (.nx, r.set i (.val d)) t
    | some (.val _) => .ok (.nx, r) t
    | _ => .bad
  | .tcnt i e, r, t => match r[i]? with
    | some (.val .tok) => (ev G cs e r t).bind fun x t1 => (match x with
      | .int c => .ok (.nx, r) { t1 with count := c }
      | _ => .bad)
    | _ => .bad
  | .trst i k e, r, t => match r[i]? with
    | some (.val .tok) => (ev G cs e r t).bind fun x t1 => (ev G cs k r t1).bind fun y t2 => (match x, y with
      | .int v, .int a => if decide (t2.rests.length < 1000000) then .ok (.nx, r) { t2 with rests := putT t2.rests a v } else .bad
      | _, _ => .bad)
    | _ => .bad
  | .brk, r, t => .ok (.brk, r) t
  | .cont, r, t => .ok (.cont, r) t
  | .raise n _, _, t => .exc n t
noncomputable def evSs (G : Gam) (cs : Nat → D) : Ss → Rho → Tw → Res (Fl × Rho)
  | .nil, r, t => .ok (.nx, r) t
  | .cons s ss, r, t => (evS G cs s r t).bind fun p t1 => match p with
    | (.nx, r1) => evSs G cs ss r1 t1
    | q => .ok q t1
end
end Fm

/-! ### a value bears a datum; the state bears an environment -/
namespace Fm
open PySem PySem.Spec PyProof.Rows L2
/-- where the town (a, its rests b) and the script stand, the script's ints -/
structure Tn where
  a : Addr
  b : Addr
  s : Addr
  ns : List Int
mutual
inductive Rp (K : PySem.W.Frag) (T : Tn) (F : Hp) : V → D → Prop
  | non : Rp K T F .non .non
  | bl (b : Bool) : Rp K T F (.bl b) (.bl b)
  | int (i : Int) : Rp K T F (.int i) (.int i)
  | str (x : Str) : Rp K T F (.str x) (.str x)
  | tup {a : Addr} {xs : List V} {ds : List D} : SqT K F a xs → xs.length ≤ sizeLine → RpL K T F xs ds → Rp K T F (.ref a) (.tup ds)
  | lst {a : Addr} {xs : List V} {ds : List D} : F a = some (.lst xs) → xs.length ≤ sizeLine → RpL K T F xs ds → Rp K T F (.ref a) (.lst ds)
  | dct {a : Addr} {kvs : List (Key × V)} {es : List (Key × D)} : F a = some (.dK kvs) → RpK K T F kvs es → Rp K T F (.ref a) (.dct es)
  | tok : Rp K T F (.ref T.a) .tok
  | scr : Rp K T F (.ref T.s) (.scr T.ns)
inductive RpL (K : PySem.W.Frag) (T : Tn) (F : Hp) : List V → List D → Prop
  | nil : RpL K T F [] []
  | cons {v : V} {vs : List V} {d : D} {ds : List D} : Rp K T F v d → RpL K T F vs ds → RpL K T F (v :: vs) (d :: ds)
inductive RpK (K : PySem.W.Frag) (T : Tn) (F : Hp) : List (Key × V) → List (Key × D) → Prop
  | nil : RpK K T F [] []
  | cons {k : Key} {v : V} {kvs : List (Key × V)} {d : D} {es : List (Key × D)} : Rp K T F v d → RpK K T F kvs es → RpK K T F ((k, v) :: kvs) ((k, d) :: es)
end
theorem sqT_mono {K : PySem.W.Frag} {F F' : Hp} {a : Addr} {xs : List V} (e : Same F F') (h : SqT K F a xs) : SqT K F' a xs := by
  rcases h with h | h
  · rcases h with h | ⟨o, h⟩
    · exact .inl (.inl (e _ _ h))
    · exact .inl (.inr ⟨o, e _ _ h⟩)
  · exact .inr h
theorem sqL_mono {K : PySem.W.Frag} {F F' : Hp} {a : Addr} {xs : List V} (e : Same F F') (h : SqL K F a xs) : SqL K F' a xs := by
  rcases h with h | h
  · rcases h with h | ⟨o, h⟩
    · exact .inl (.inl (e _ _ h))
    · exact .inl (.inr ⟨o, e _ _ h⟩)
  · exact .inr h
section
variable {K : PySem.W.Frag} {T : Tn} {F F' H : Hp}
mutual
theorem Rp.mono (e : Same F F') : ∀ {v : V} {d : D}, Rp K T F v d → Rp K T F' v d
  | _, _, .non => .non
  | _, _, .bl b => .bl b
  | _, _, .int i => .int i
  | _, _, .str x => .str x
  | _, _, .tup h z r => .tup (sqT_mono e h) z (r.mono e)
  | _, _, .lst h z r => .lst (e _ _ h) z (r.mono e)
  | _, _, .dct h r => .dct (e _ _ h) (r.mono e)
  | _, _, .tok => .tok
  | _, _, .scr => .scr
theorem RpL.mono (e : Same F F') : ∀ {v : List V} {d : List D}, RpL K T F v d → RpL K T F' v d
  | _, _, .nil => .nil
  | _, _, .cons h r => .cons (h.mono e) (r.mono e)
theorem RpK.mono (e : Same F F') : ∀ {v : List (Key × V)} {d : List (Key × D)}, RpK K T F v d → RpK K T F' v d
  | _, _, .nil => .nil
  | _, _, .cons h r => .cons (h.mono e) (r.mono e)
end
theorem RpL.length : ∀ {vs : List V} {ds : List D}, RpL K T F vs ds → vs.length = ds.length
  | _, _, .nil => rfl
  | _, _, .cons _ r => congrArg Nat.succ r.length
theorem RpK.length : ∀ {vs : List (Key × V)} {ds : List (Key × D)}, RpK K T F vs ds → vs.length = ds.length
  | _, _, .nil => rfl
  | _, _, .cons _ r => congrArg Nat.succ r.length
theorem RpL.get : ∀ {vs : List V} {ds : List D}, RpL K T F vs ds → ∀ {i : Nat} {d : D}, ds[i]? = some d → ∃ v, vs[i]? = some v ∧ Rp K T F v d
  | _, _, .nil, i, d, h => by simp at h
  | _, _, .cons h r, 0, d, e => by
    have e2 := Option.some.inj (show some _ = some d from e)
    subst e2
    exact ⟨_, rfl, h⟩
  | _, _, .cons h r, i + 1, d, e => r.get (i := i) e
theorem RpL.get' : ∀ {vs : List V} {ds : List D}, RpL K T F vs ds → ∀ {i : Nat} {v : V}, vs[i]? = some v → ∃ d, ds[i]? = some d ∧ Rp K T F v d
  | _, _, .nil, i, d, h => by simp at h
  | _, _, .cons h r, 0, d, e => by
    have e2 := Option.some.inj (show some _ = some d from e)
    subst e2
    exact ⟨_, rfl, h⟩
  | _, _, .cons h r, i + 1, d, e => r.get' (i := i) e
theorem RpL.append : ∀ {vs ws : List V} {ds es : List D}, RpL K T F vs ds → RpL K T F ws es → RpL K T F (vs ++ ws) (ds ++ es)
  | _, _, _, _, .nil, q => q
  | _, _, _, _, .cons h r, q => .cons h (r.append q)
theorem RpL.take : ∀ {vs : List V} {ds : List D} (n : Nat), RpL K T F vs ds → RpL K T F (vs.take n) (ds.take n)
  | _, _, 0, _ => .nil
  | _, _, _ + 1, .nil => .nil
  | _, _, n + 1, .cons h r => .cons h (r.take n)
theorem RpL.drop : ∀ {vs : List V} {ds : List D} (n : Nat), RpL K T F vs ds → RpL K T F (vs.drop n) (ds.drop n)
  | _, _, 0, r => r
  | _, _, _ + 1, .nil => .nil
  | _, _, n + 1, .cons h r => r.drop n
theorem RpL.set {v : V} {d : D} (h : Rp K T F v d) : ∀ {vs : List V} {ds : List D} (n : Nat), RpL K T F vs ds → RpL K T F (vs.set n v) (ds.set n d)
  | _, _, _, .nil => .nil
  | _, _, 0, .cons _ r => .cons h r
  | _, _, n + 1, .cons q r => .cons q (RpL.set h n r)
theorem RpL.intsOf : ∀ {vs : List V} {ds : List D} {ns : List Int}, RpL K T F vs ds → intsD ds = some ns → vs = ns.map V.int
  | _, _, ns, .nil, h => by
    simp only [intsD, Option.some.injEq] at h
    subst h
    rfl
  | _, _, ns, @RpL.cons _ _ _ v vs d ds h r, e => by
    cases h with
    | int i =>
      simp only [intsD, Option.map_eq_some_iff] at e
      obtain ⟨ms, e1, e2⟩ := e
      subst e2
      rw [r.intsOf e1]
      rfl
    | _ => simp [intsD] at e
theorem RpL.blsOf : ∀ {vs : List V} {ds : List D} {ns : List Bool}, RpL K T F vs ds → bls ds = some ns → vs = ns.map V.bl
  | _, _, ns, .nil, h => by
    simp only [bls, Option.some.injEq] at h
    subst h
    rfl
  | _, _, ns, @RpL.cons _ _ _ v vs d ds h r, e => by
    cases h with
    | bl i =>
      simp only [bls, Option.map_eq_some_iff] at e
      obtain ⟨ms, e1, e2⟩ := e
      subst e2
      rw [r.blsOf e1]
      rfl
    | _ => simp [bls] at e
theorem RpL.ofInts : ∀ (ns : List Int), RpL K T F (ns.map V.int) (ns.map D.int)
  | [] => .nil
  | n :: ns => .cons (.int n) (RpL.ofInts ns)
/-- data of any depth, as the library has it -/
theorem lay_cons {x : D} {xs : List D} (h : PyData.canLayAll0 (pys (x :: xs)) = true) : lay x = true ∧ PyData.canLayAll0 (pys xs) = true := by
  have h2 : (PyData.canLay0 x.py && PyData.canLayAll0 (pys xs)) = true := by
    simpa only [pys, PyData.canLayAll0] using h
  exact Bool.and_eq_true_iff.mp h2
mutual
theorem Rp.dp (s : Same F H) : ∀ {v : V} {d : D}, Rp K T F v d → lay d = true → Dp K H v d.py
  | _, _, .non, _ => .non
  | _, _, .bl b, _ => .bl b
  | _, _, .int i, _ => .int i
  | _, _, .str x, _ => .str x
  | _, _, .tup h z r, l => .tup (sqT_mono s h) (r.dp s (by simpa only [lay, D.py, PyData.canLay0] using l))
  | _, _, .lst h z r, l => .lst (SqL.of (s _ _ h)) (r.dp s (by simpa only [lay, D.py, PyData.canLay0] using l))
  | _, _, .dct h r, l => by simp [lay, D.py, PyData.canLay0] at l
  | _, _, .tok, l => by simp [lay, D.py, PyData.canLay0] at l
  | _, _, .scr, l => by simp [lay, D.py, PyData.canLay0] at l
theorem RpL.dp (s : Same F H) : ∀ {v : List V} {d : List D}, RpL K T F v d → PyData.canLayAll0 (pys d) = true → DpAll K H v (pys d)
  | _, _, .nil, _ => .nil
  | _, _, .cons h r, l => .cons (h.dp s (lay_cons l).1) (r.dp s (lay_cons l).2)
end
end
/-! ### the state -/
/-- the town stands in the heap -/
structure Town (T : Tn) (t : Tw) (H : Hp) : Prop where
  a : H T.a = some (.dK [(.inr "count", .int t.count), (.inr "rests", .ref T.b)])
  b : H T.b = some (.dK (t.rests.map fun p => (.inl p.1, .int p.2)))
  ne : T.a ≠ T.b
  small : t.rests.length ≤ 1000000
/-- the heap's part: F0, H0 what was frozen, what stood at the entry; F what is frozen now -/
structure RelH (K : PySem.W.Frag) (T : Tn) (F0 H0 F : Hp) (t : Tw) (H : Hp) : Prop where
  sub : Same F H
  new : ∀ a o, F a = some o → F0 a = some o ∨ H0 a = none
  base : Same F0 F
  old : ∀ a o, H0 a = some o → a ≠ T.a → a ≠ T.b → H a = some o
  had : ∀ a, H a = none → H0 a = none
  tw : Town T t H
  tF1 : F T.a = none
  tF2 : F T.b = none
  sc : SqL K F T.s (T.ns.map V.int)
/-- an object of the def's own -/
def OwnAt (K : PySem.W.Frag) (T : Tn) (F H : Hp) (p : Addr) : D → Prop
  | .lst ds => ∃ vs, H p = some (.lst vs) ∧ vs.length ≤ sizeLine ∧ RpL K T F vs ds
  | .dct es => ∃ kvs, H p = some (.dK kvs) ∧ kvs.length ≤ sizeLine ∧ RpK K T F kvs es
  | _ => False
structure Own (K : PySem.W.Frag) (T : Tn) (H0 F H : Hp) (p : Addr) (d : D) : Prop where
  fr : F p = none
  n1 : p ≠ T.a
  n2 : p ≠ T.b
  h0 : H0 p = none
  at_ : OwnAt K T F H p d
structure Rel (K : PySem.W.Frag) (T : Tn) (F0 H0 F : Hp) (r : Rho) (t : Tw) (σ : L2.St) (H : Hp) : Prop extends RelH K T F0 H0 F t H where
  len : r.length = σ.length
  val : ∀ (i : Nat) (d : D), r[i]? = some (.val d) → ∃ v, σ[i]? = some (some v) ∧ Rp K T F v d
  own : ∀ (i : Nat) (d : D), r[i]? = some (.own d) → ∃ p, σ[i]? = some (some (.ref p)) ∧ Own K T H0 F H p d
  inj : ∀ (i j : Nat) (d e : D) (p : Addr), r[i]? = some (.own d) → r[j]? = some (.own e) → σ[i]? = some (some (.ref p)) → σ[j]? = some (some (.ref p)) → i = j
section
variable {K : PySem.W.Frag} {T : Tn} {F0 H0 F F' F1 H H' H1 : Hp} {r : Rho} {t t' : Tw} {σ : L2.St}
theorem OwnAt.obj {p : Addr} {d : D} (h : OwnAt K T F H p d) : ∃ o, H p = some o ∧ (∀ xs, o ≠ .tup xs) := by
  cases d with
  | lst ds =>
    obtain ⟨vs, h, _⟩ := h
    exact ⟨_, h, fun _ z => by cases z⟩
  | dct es =>
    obtain ⟨vs, h, _⟩ := h
    exact ⟨_, h, fun _ z => by cases z⟩
  | _ => exact h.elim
theorem OwnAt.keep {p : Addr} {d : D} (h : OwnAt K T F H p d) (s : Same F F') (e : ∀ o, H p = some o → H' p = some o) : OwnAt K T F' H' p d := by
  cases d with
  | lst ds =>
    obtain ⟨vs, h, z, q⟩ := h
    exact ⟨vs, e _ h, z, q.mono s⟩
  | dct es =>
    obtain ⟨vs, h, z, q⟩ := h
    exact ⟨vs, e _ h, z, q.mono s⟩
  | _ => exact h.elim
theorem RelH.refl (a : RelH K T F0 H0 F t H) : RelH K T F H F t H :=
  ⟨a.sub, fun _ _ h => .inl h, Same.refl F, fun _ _ h _ _ => h, fun _ h => h, a.tw, a.tF1, a.tF2, a.sc⟩
theorem RelH.trans (a : RelH K T F0 H0 F t H) (b : RelH K T F H F' t' H') : RelH K T F0 H0 F' t' H' := by
  refine ⟨b.sub, fun c o h => ?_, a.base.trans b.base, fun c o h n1 n2 => b.old c o (a.old c o h n1 n2) n1 n2, fun c h => a.had c (b.had c h), b.tw, b.tF1, b.tF2, b.sc⟩
  rcases b.new c o h with q | q
  · exact a.new c o q
  · exact .inr (a.had c q)
/-- behind something that touched nothing of ours -/
theorem Rel.step (a : Rel K T F0 H0 F r t σ H) (b : RelH K T F H F' t' H') : Rel K T F0 H0 F' r t' σ H' := by
  refine ⟨a.toRelH.trans b, a.len, fun i d h => ?_, fun i d h => ?_, a.inj⟩
  · obtain ⟨v, e, q⟩ := a.val i d h
    exact ⟨v, e, q.mono b.base⟩
  · obtain ⟨p, e, q⟩ := a.own i d h
    obtain ⟨o, ho, _⟩ := q.at_.obj
    refine ⟨p, e, ⟨?_, q.n1, q.n2, q.h0, q.at_.keep b.base fun o h => b.old p o h q.n1 q.n2⟩⟩
    cases z : F' p with
    | none => rfl
    | some u =>
      rcases b.new p u z with z | z
      · rw [q.fr] at z
        cases z
      · rw [ho] at z
        cases z
theorem upd_none {H : Hp} {p b : Addr} {o : HO} (h : upd H p o b = none) : H b = none ∧ b ≠ p := by
  by_cases e : b = p
  · subst e
    rw [upd_same] at h
    cases h
  · rw [upd_ne e] at h
    exact ⟨h, e⟩
theorem same_new {H : Hp} {p : Addr} {o : HO} (h : H p = none) : Same H (upd H p o) := fun b x e => by
  rw [upd_ne (ne_of_none e h)]
  exact e
/-- a new object, frozen at once -/
theorem RelH.newF {p : Addr} {o : HO} (a : RelH K T F0 H0 F t H) (hp : H p = none) : RelH K T F H (upd F p o) t (upd H p o) := by
  have fp : F p = none := a.sub.free hp
  have n1 : p ≠ T.a := fun e => by
    rw [e, a.tw.a] at hp
    cases hp
  have n2 : p ≠ T.b := fun e => by
    rw [e, a.tw.b] at hp
    cases hp
  refine ⟨fun b x e => ?_, fun b x e => ?_, same_new fp, fun b x e _ _ => same_new hp b x e, fun b h => (upd_none h).1, ⟨?_, ?_, a.tw.ne, a.tw.small⟩, ?_, ?_, sqL_mono (same_new fp) a.sc⟩
  · by_cases hb : b = p
    · subst hb
      rw [upd_same] at e ⊢
      exact e
    · rw [upd_ne hb] at e ⊢
      exact a.sub b x e
  · by_cases hb : b = p
    · subst hb
      exact .inr hp
    · rw [upd_ne hb] at e
      exact .inl e
  · rw [upd_ne (Ne.symm n1)]
    exact a.tw.a
  · rw [upd_ne (Ne.symm n2)]
    exact a.tw.b
  · rw [upd_ne (Ne.symm n1)]
    exact a.tF1
  · rw [upd_ne (Ne.symm n2)]
    exact a.tF2
/-- a new object, not frozen -/
theorem RelH.newO {p : Addr} {o : HO} (a : RelH K T F0 H0 F t H) (hp : H p = none) : RelH K T F H F t (upd H p o) := by
  have n1 : p ≠ T.a := fun e => by
    rw [e, a.tw.a] at hp
    cases hp
  have n2 : p ≠ T.b := fun e => by
    rw [e, a.tw.b] at hp
    cases hp
  refine ⟨a.sub.trans (same_new hp), fun b x e => .inl e, Same.refl F, fun b x e _ _ => same_new hp b x e, fun b h => (upd_none h).1, ⟨?_, ?_, a.tw.ne, a.tw.small⟩, a.tF1, a.tF2, a.sc⟩
  · rw [upd_ne (Ne.symm n1)]
    exact a.tw.a
  · rw [upd_ne (Ne.symm n2)]
    exact a.tw.b
/-- what stands, and is nobody's, is frozen -/
theorem RelH.freeze {p : Addr} {o : HO} (a : RelH K T F0 H0 F t H) (hp : H p = some o) (f : F p = none) (h0 : H0 p = none) (n1 : p ≠ T.a) (n2 : p ≠ T.b) : RelH K T F0 H0 (upd F p o) t H := by
  refine ⟨fun b x e => ?_, fun b x e => ?_, a.base.trans (same_new f), a.old, a.had, a.tw, ?_, ?_, sqL_mono (same_new f) a.sc⟩
  · by_cases hb : b = p
    · subst hb
      rw [upd_same] at e
      cases e
      exact hp
    · rw [upd_ne hb] at e
      exact a.sub b x e
  · by_cases hb : b = p
    · subst hb
      exact .inr h0
    · rw [upd_ne hb] at e
      exact a.new b x e
  · rw [upd_ne (Ne.symm n1)]
    exact a.tF1
  · rw [upd_ne (Ne.symm n2)]
    exact a.tF2
theorem Rel.freeze {p : Addr} {o : HO} (a : Rel K T F0 H0 F r t σ H) (hp : H p = some o) (f : F p = none) (h0 : H0 p = none) (n1 : p ≠ T.a) (n2 : p ≠ T.b) (no : ∀ (i : Nat) (d : D), r[i]? = some (.own d) → σ[i]? ≠ some (some (.ref p))) :
    Rel K T F0 H0 (upd F p o) r t σ H := by
  refine ⟨a.toRelH.freeze hp f h0 n1 n2, a.len, fun i d h => ?_, fun i d h => ?_, a.inj⟩
  · obtain ⟨v, e, q⟩ := a.val i d h
    exact ⟨v, e, q.mono (same_new f)⟩
  · obtain ⟨q, e, w⟩ := a.own i d h
    have nq : q ≠ p := fun z => no i d h (z ▸ e)
    exact ⟨q, e, ⟨by rw [upd_ne nq]; exact w.fr, w.n1, w.n2, w.h0, w.at_.keep (same_new f) fun o h => h⟩⟩
/-- a slot forgotten, a slot set -/
theorem Rel.setVal {i : Nat} {v : V} {d : D} (a : Rel K T F0 H0 F r t σ H) (h : Rp K T F v d) : Rel K T F0 H0 F (r.set i (.val d)) t (σ.set i (some v)) H := by
  refine ⟨a.toRelH, by simpa using a.len, fun j e h2 => ?_, fun j e h2 => ?_, fun j k e1 e2 p h1 h2 h3 h4 => ?_⟩
  · by_cases hj : i = j
    · subst hj
      by_cases hi : i < r.length
      · rw [List.getElem?_set_self hi] at h2
        cases h2
        exact ⟨v, List.getElem?_set_self (by rw [← a.len]; exact hi), h⟩
      · rw [List.getElem?_eq_none (by simpa using hi)] at h2
        cases h2
    · rw [List.getElem?_set_ne hj] at h2 ⊢
      exact a.val j e h2
  · by_cases hj : i = j
    · subst hj
      by_cases hi : i < r.length
      · rw [List.getElem?_set_self hi] at h2
        cases h2
      · rw [List.getElem?_eq_none (by simpa using hi)] at h2
        cases h2
    · rw [List.getElem?_set_ne hj] at h2 ⊢
      exact a.own j e h2
  · have nj : ∀ {j : Nat} {e : D}, (r.set i (.val d))[j]? = some (.own e) → i ≠ j := fun {j e} q z => by
      subst z
      by_cases hi : i < r.length
      · rw [List.getElem?_set_self hi] at q
        cases q
      · rw [List.getElem?_eq_none (by simpa using hi)] at q
        cases q
    have n1 := nj h1
    have n2 := nj h2
    rw [List.getElem?_set_ne n1] at h1 h3
    rw [List.getElem?_set_ne n2] at h2 h4
    exact a.inj j k e1 e2 p h1 h2 h3 h4
theorem Rel.setUn {i : Nat} (a : Rel K T F0 H0 F r t σ H) : Rel K T F0 H0 F (r.set i .un) t (σ.set i none) H := by
  refine ⟨a.toRelH, by simpa using a.len, fun j e h2 => ?_, fun j e h2 => ?_, fun j k e1 e2 p h1 h2 h3 h4 => ?_⟩
  · by_cases hj : i = j
    · subst hj
      by_cases hi : i < r.length
      · rw [List.getElem?_set_self hi] at h2
        cases h2
      · rw [List.getElem?_eq_none (by simpa using hi)] at h2
        cases h2
    · rw [List.getElem?_set_ne hj] at h2 ⊢
      exact a.val j e h2
  · by_cases hj : i = j
    · subst hj
      by_cases hi : i < r.length
      · rw [List.getElem?_set_self hi] at h2
        cases h2
      · rw [List.getElem?_eq_none (by simpa using hi)] at h2
        cases h2
    · rw [List.getElem?_set_ne hj] at h2 ⊢
      exact a.own j e h2
  · have nj : ∀ {j : Nat} {e : D}, (r.set i .un)[j]? = some (.own e) → i ≠ j := fun {j e} q z => by
      subst z
      by_cases hi : i < r.length
      · rw [List.getElem?_set_self hi] at q
        cases q
      · rw [List.getElem?_eq_none (by simpa using hi)] at q
        cases q
    have n1 := nj h1
    have n2 := nj h2
    rw [List.getElem?_set_ne n1] at h1 h3
    rw [List.getElem?_set_ne n2] at h2 h4
    exact a.inj j k e1 e2 p h1 h2 h3 h4
theorem Rel.wipe (a : Rel K T F0 H0 F r t σ H) : ∀ vs : List Nat, Rel K T F0 H0 F (wipeR r vs) t (wipe σ vs) H
  | [] => a
  | v :: vs => (a.wipe vs).setUn
/-- a slot takes an object that nobody has -/
theorem Rel.setOwn {i : Nat} {p : Addr} {d : D} (a : Rel K T F0 H0 F r t σ H) (h : Own K T H0 F H p d) (no : ∀ (j : Nat) (e : D), r[j]? = some (.own e) → j ≠ i → σ[j]? ≠ some (some (.ref p))) :
    Rel K T F0 H0 F (r.set i (.own d)) t (σ.set i (some (.ref p))) H := by
  have cs : ∀ {j : Nat} {s : Sl}, (r.set i (.own d))[j]? = some s → (i = j ∧ i < r.length ∧ s = .own d) ∨ (i ≠ j ∧ r[j]? = some s) := fun {j s} q => by
    by_cases hj : i = j
    · subst hj
      by_cases hi : i < r.length
      · rw [List.getElem?_set_self hi] at q
        exact .inl ⟨rfl, hi, (Option.some.inj q).symm⟩
      · rw [List.getElem?_eq_none (by simpa using hi)] at q
        cases q
    · rw [List.getElem?_set_ne hj] at q
      exact .inr ⟨hj, q⟩
  refine ⟨a.toRelH, by simpa using a.len, fun j e h2 => ?_, fun j e h2 => ?_, fun j k e1 e2 q h1 h2 h3 h4 => ?_⟩
  · rcases cs h2 with ⟨_, _, z⟩ | ⟨hj, z⟩
    · cases z
    · rw [List.getElem?_set_ne hj]
      exact a.val j e z
  · rcases cs h2 with ⟨rfl, hi, z⟩ | ⟨hj, z⟩
    · cases z
      exact ⟨p, List.getElem?_set_self (by rw [← a.len]; exact hi), h⟩
    · rw [List.getElem?_set_ne hj]
      exact a.own j e z
  · rcases cs h1 with ⟨rfl, hi, _⟩ | ⟨hj, z⟩
    · rcases cs h2 with ⟨rfl, _, _⟩ | ⟨hk, z2⟩
      · rfl
      · rw [List.getElem?_set_self (by rw [← a.len]; exact hi)] at h3
        have eq := V.ref.inj (Option.some.inj (Option.some.inj h3))
        rw [List.getElem?_set_ne hk] at h4
        exact absurd (eq ▸ h4) (no k e2 z2 (Ne.symm hk))
    · rcases cs h2 with ⟨rfl, hi, _⟩ | ⟨hk, z2⟩
      · rw [List.getElem?_set_self (by rw [← a.len]; exact hi)] at h4
        have eq := V.ref.inj (Option.some.inj (Option.some.inj h4))
        rw [List.getElem?_set_ne hj] at h3
        exact absurd (eq ▸ h3) (no j e1 z (Ne.symm hj))
      · rw [List.getElem?_set_ne hj] at h3
        rw [List.getElem?_set_ne hk] at h4
        exact a.inj j k e1 e2 q z z2 h3 h4
end
end Fm

/-! ### readings of Core expressions; operators -/
namespace Fm
open PySem PySem.Spec PyProof.Rows L2
structure Pm where
  K : PySem.W.Frag
  T : Tn
  F0 : Hp
  H0 : Hp
  XE : Nat → Hp → Prop
def Aft {α : Type} (P : Pm) (F : Hp) (res : Res α) (Z : α → Tw → Prop) : Prop := match res with
  | .ok a t => Z a t
  | .exc n t => ∀ F' H', Same F F' → RelH P.K P.T P.F0 P.H0 F' t H' → P.XE n H'
  | .bad => False
/-- what was frozen is, and what stood stands, but for the town; newly frozen is only what is new -/
structure Kp (T : Tn) (F H F' H' : Hp) : Prop where
  base : Same F F'
  new : ∀ a o, F' a = some o → F a = some o ∨ H a = none
  old : ∀ a o, H a = some o → a ≠ T.a → a ≠ T.b → H' a = some o
  had : ∀ a, H' a = none → H a = none
theorem Kp.refl {T : Tn} {F H : Hp} : Kp T F H F H := ⟨Same.refl F, fun _ _ h => .inl h, fun _ _ h _ _ => h, fun _ h => h⟩
theorem Kp.trans {T : Tn} {F H F1 H1 F2 H2 : Hp} (a : Kp T F H F1 H1) (b : Kp T F1 H1 F2 H2) : Kp T F H F2 H2 :=
  ⟨a.1.trans b.1, fun c o h => (b.new c o h).elim (fun q => a.new c o q) fun q => .inr (a.had c q), fun c o h n1 n2 => b.old c o (a.old c o h n1 n2) n1 n2, fun c h => a.had c (b.had c h)⟩
theorem Kp.of {K : PySem.W.Frag} {T : Tn} {F H F' H' : Hp} {t : Tw} (b : RelH K T F H F' t H') : Kp T F H F' H' := ⟨b.base, b.new, b.old, b.had⟩
abbrev RelP (P : Pm) (F : Hp) (r : Rho) (t : Tw) (σ : L2.St) (H : Hp) : Prop := Rel P.K P.T P.F0 P.H0 F r t σ H
theorem Kp.relH {P : Pm} {F H F' H' : Hp} {r : Rho} {t : Tw} {σ : L2.St} (k : Kp P.T F H F' H') (R : RelP P F' r t σ H') : RelH P.K P.T F H F' t H' := ⟨R.sub, k.new, k.base, k.old, k.had, R.tw, R.tF1, R.tF2, R.sc⟩
/-- borne by a frozen value, or by an object of the def's own -/
def RpB (P : Pm) (F : Hp) (r : Rho) (σ : L2.St) (v : V) (d : D) : Prop := Rp P.K P.T F v d ∨ ∃ i : Nat, r[i]? = some (.own d) ∧ σ[i]? = some (some v)
def tD (P : Pm) (f : Rho → Tw → Res D) : TE := fun σ H Q => ∃ F r t, RelP P F r t σ H ∧ Aft P F (f r t) fun d t' => ∀ v F' H', Kp P.T F H F' H' → RelP P F' r t' σ H' → Rp P.K P.T F' v d → Q v H'
def tB (P : Pm) (f : Rho → Tw → Res D) : TE := fun σ H Q => ∃ F r t, RelP P F r t σ H ∧ Aft P F (f r t) fun d t' => ∀ v F' H', Kp P.T F H F' H' → RelP P F' r t' σ H' → RpB P F' r σ v d → Q v H'
def tDs (P : Pm) (f : Rho → Tw → Res (List D)) : TA := fun σ H Q => ∃ F r t, RelP P F r t σ H ∧ Aft P F (f r t) fun ds t' => ∀ vs F' H', Kp P.T F H F' H' → RelP P F' r t' σ H' → RpL P.K P.T F' vs ds → Q vs H'
theorem peMono {X : Cx} {e : Expr} {t u : TE} (h : PE X e t) (i : ∀ σ H Q, u σ H Q → t σ H Q) : PE X e u := ⟨fun pins s σ H Q I q => h.run pins s σ H Q I (i σ H Q q)⟩
theorem paMono {X : Cx} {e : List Expr} {t u : TA} (h : PA X e t) (i : ∀ σ H Q, u σ H Q → t σ H Q) : PA X e u := ⟨fun pos pins s σ H Q I q => h.run pos pins s σ H Q I (i σ H Q q)⟩
theorem ptMono {X : Cx} {e : Expr} {t u : TT} (h : PT X e t) (i : ∀ σ H Q, u σ H Q → t σ H Q) : PT X e u := ⟨fun pins s σ H Q I q => h.run pins s σ H Q I (i σ H Q q)⟩
theorem psMono {X : Cx} {e : Stmt} {t u : TS} (h : PS X e t) (i : ∀ D σ H, u D σ H → t D σ H) : PS X e u := ⟨fun pins s σ H D I q => h.run pins s σ H D I (i D σ H q)⟩
theorem pssMono {X : Cx} {e : List Stmt} {t u : TS} (h : PSs X e t) (i : ∀ D σ H, u D σ H → t D σ H) : PSs X e u := ⟨fun pins s σ H D I q => h.run pins s σ H D I (i D σ H q)⟩
section
variable {P : Pm} {F F' H : Hp} {r : Rho} {t t' : Tw} {σ : L2.St} {v : V}
theorem Aft.mono {α : Type} {res : Res α} {Z Z' : α → Tw → Prop} (h : Aft P F res Z) (i : ∀ a t, Z a t → Z' a t) : Aft P F res Z' := by
  cases res with
  | ok a t => exact i a t h
  | exc n t => exact h
  | bad => exact h
/-- one step, then another -/
theorem Aft.bind {α β : Type} {res : Res α} {f : α → Tw → Res β} {Z : β → Tw → Prop} (h : Aft P F (res.bind f) Z) : Aft P F res fun a t => Aft P F (f a t) Z := by
  cases res with
  | ok a t => exact h
  | exc n t => exact h
  | bad => exact h
theorem Aft.thn {α β : Type} {res : Res α} {f : α → Tw → Res β} {Z : β → Tw → Prop} (h : Aft P F res fun a t => Aft P F (f a t) Z) : Aft P F (res.bind f) Z := by
  cases res with
  | ok a t => exact h
  | exc n t => exact h
  | bad => exact h
theorem Aft.up {α : Type} {res : Res α} {Z : α → Tw → Prop} (h : Aft P F res Z) (s : Same F F') : Aft P F' res Z := by
  cases res with
  | ok a t => exact h
  | exc n t => exact fun F2 H2 q => h F2 H2 (s.trans q)
  | bad => exact h
theorem Aft.lift {α : Type} {o : Option α} {Z : α → Tw → Prop} (h : Aft P F (Fm.lift o t) Z) : ∃ a, o = some a ∧ Z a t := by
  cases o with
  | none => exact h.elim
  | some a => exact ⟨a, rfl, h⟩
theorem RpB.mono (s : Same F F') {d : D} (h : RpB P F r σ v d) : RpB P F' r σ v d := h.elim (fun q => .inl (q.mono s)) .inr
theorem RpB.of {d : D} (h : Rp P.K P.T F v d) : RpB P F r σ v d := .inl h
theorem RpB.lst (R : RelP P F r t σ H) {ds : List D} (h : RpB P F r σ v (.lst ds)) : ∃ a xs, v = .ref a ∧ H a = some (.lst xs) ∧ xs.length ≤ sizeLine ∧ RpL P.K P.T F xs ds := by
  rcases h with h | ⟨i, h1, h2⟩
  · cases h with
    | lst h z q => exact ⟨_, _, rfl, R.sub _ _ h, z, q⟩
  · obtain ⟨p, e, o⟩ := R.own i _ h1
    rw [e] at h2
    cases h2
    obtain ⟨vs, a, b, c⟩ := o.at_
    exact ⟨p, vs, rfl, a, b, c⟩
theorem RpB.dct (R : RelP P F r t σ H) {ds : List (Key × D)} (h : RpB P F r σ v (.dct ds)) : ∃ a kvs, v = .ref a ∧ H a = some (.dK kvs) ∧ RpK P.K P.T F kvs ds := by
  rcases h with h | ⟨i, h1, h2⟩
  · cases h with
    | dct h q => exact ⟨_, _, rfl, R.sub _ _ h, q⟩
  · obtain ⟨p, e, o⟩ := R.own i _ h1
    rw [e] at h2
    cases h2
    obtain ⟨vs, a, b, c⟩ := o.at_
    exact ⟨p, vs, rfl, a, c⟩
theorem RpB.rp (R : RelP P F r t σ H) {d : D} (h : RpB P F r σ v d) (n1 : ∀ ds, d ≠ .lst ds) (n2 : ∀ ds, d ≠ .dct ds) : Rp P.K P.T F v d := by
  rcases h with h | ⟨i, h1, h2⟩
  · exact h
  · obtain ⟨p, e, o⟩ := R.own i _ h1
    have q := o.at_
    cases d with
    | lst ds => exact absurd rfl (n1 ds)
    | dct ds => exact absurd rfl (n2 ds)
    | _ => exact q.elim
theorem RpB.int (R : RelP P F r t σ H) {i : Int} (h : RpB P F r σ v (.int i)) : v = .int i := by
  cases h.rp R (fun _ z => by cases z) (fun _ z => by cases z)
  rfl
theorem RpB.bl (R : RelP P F r t σ H) {i : Bool} (h : RpB P F r σ v (.bl i)) : v = .bl i := by
  cases h.rp R (fun _ z => by cases z) (fun _ z => by cases z)
  rfl
theorem RpB.str (R : RelP P F r t σ H) {i : Str} (h : RpB P F r σ v (.str i)) : v = .str i := by
  cases h.rp R (fun _ z => by cases z) (fun _ z => by cases z)
  rfl
theorem RpB.tup (R : RelP P F r t σ H) {ds : List D} (h : RpB P F r σ v (.tup ds)) : ∃ a xs, v = .ref a ∧ SqT P.K F a xs ∧ xs.length ≤ sizeLine ∧ RpL P.K P.T F xs ds := by
  cases h.rp R (fun _ z => by cases z) (fun _ z => by cases z) with
  | tup h2 z q => exact ⟨_, _, rfl, h2, z, q⟩
/-- deep data, whoever has it -/
theorem RpB.dp (R : RelP P F r t σ H) {d : D} (h : RpB P F r σ v d) (l : lay d = true) : Dp P.K H v d.py := by
  cases d with
  | lst ds =>
    obtain ⟨a, xs, rfl, e, _, q⟩ := h.lst R
    exact .lst (SqL.of e) (q.dp R.sub (by simpa only [lay, D.py, PyData.canLay0] using l))
  | dct ds => simp [lay, D.py, PyData.canLay0] at l
  | _ => exact (h.rp R (fun _ z => by cases z) (fun _ z => by cases z)).dp R.sub l
theorem okLen_le {n : Nat} (h : okLen n = true) : n ≤ sizeLine := by
  rw [sizeLine_eq]
  exact of_decide_eq_true h
/-- a test's value -/
theorem RpB.tru (R : RelP P F r t σ H) {d : D} {b : Bool} (h : RpB P F r σ v d) (e : truD d = some b) : TruV P.K v H b := by
  cases d with
  | lst ds =>
    obtain ⟨a, xs, rfl, e2, _, q⟩ := h.lst R
    cases e
    exact .inl ⟨_, SqL.of e2, by cases q <;> rfl⟩
  | dct ds =>
    obtain ⟨a, xs, rfl, e2, q⟩ := h.dct R
    cases e
    exact .inr (.inr ⟨_, e2, by cases q <;> rfl⟩)
  | tup ds =>
    obtain ⟨a, xs, rfl, e2, _, q⟩ := h.tup R
    cases e
    exact .inr (.inl ⟨_, sqT_mono R.sub e2, by cases q <;> rfl⟩)
  | str x =>
    obtain rfl := h.str R
    have e : (if okLen x.length = true then some ((x.length : Int) != 0) else none) = some b := e
    split at e
    · rename_i hl
      cases e
      exact ⟨okLen_le hl, rfl⟩
    · cases e
  | non =>
    cases h.rp R (fun _ z => by cases z) (fun _ z => by cases z)
    cases e
    rfl
  | bl x =>
    obtain rfl := h.bl R
    cases e
    rfl
  | int x =>
    obtain rfl := h.int R
    cases e
    rfl
  | tok => cases e
  | scr ns =>
    cases h.rp R (fun _ z => by cases z) (fun _ z => by cases z)
    cases e
    exact .inl ⟨_, sqL_mono R.sub R.sc, by cases P.T.ns <;> rfl⟩
/-! ### one operand, two operands -/
theorem tB_tD {f : Rho → Tw → Res D} {X : Cx} {e : Expr} (h : PE X e (tD P f)) : PE X e (tB P f) := peMono h fun σ H Q ⟨F, r, t, R, q⟩ =>
  ⟨F, r, t, R, q.mono fun d t' q v F' H' s R' h => q v F' H' s R' (.inl h)⟩
theorem op1 {fa : Rho → Tw → Res D} {f : D → Option D} {rr : V → Hp → VK → Prop}
    (hr : ∀ {x : V} {dx d : D} {F : Hp} {r : Rho} {t : Tw} {σ : L2.St} {H : Hp} {Q : VK}, f dx = some d → RelP P F r t σ H → RpB P F r σ x dx →
      (∀ v F' H', Kp P.T F H F' H' → RelP P F' r t σ H' → Rp P.K P.T F' v d → Q v H') → rr x H Q) (σ : L2.St) (H : Hp) (Q : VK)
    (h : tD P (fun r t => (fa r t).bind fun x t1 => Fm.lift (f x) t1) σ H Q) : tUn rr (tB P fa) σ H Q := by
  obtain ⟨F, r, t, R, h⟩ := h
  refine ⟨F, r, t, R, h.bind.mono fun dx t1 h v F1 H1 s1 R1 rx => ?_⟩
  obtain ⟨d, e, q⟩ := h.lift
  exact hr e R1 rx fun v F' H' s R' h => q v F' H' (s1.trans s) R' h
theorem op2 {fa fb : Rho → Tw → Res D} {f : D → D → Option D} {rr : R2}
    (hr : ∀ {x y : V} {dx dy d : D} {F : Hp} {r : Rho} {t : Tw} {σ : L2.St} {H : Hp} {Q : VK}, f dx dy = some d → RelP P F r t σ H → RpB P F r σ x dx → RpB P F r σ y dy →
      (∀ v F' H', Kp P.T F H F' H' → RelP P F' r t σ H' → Rp P.K P.T F' v d → Q v H') → rr x y H Q) (σ : L2.St) (H : Hp) (Q : VK)
    (h : tD P (fun r t => (fa r t).bind fun x t1 => (fb r t1).bind fun y t2 => Fm.lift (f x y) t2) σ H Q) : tOp rr (tB P fa) (tB P fb) σ H Q := by
  obtain ⟨F, r, t, R, h⟩ := h
  refine ⟨F, r, t, R, h.bind.mono fun dx t1 h v F1 H1 s1 R1 rx => ?_⟩
  refine ⟨F1, r, t1, R1, (h.up s1.1).bind.mono fun dy t2 h w F2 H2 s2 R2 ry => ?_⟩
  obtain ⟨d, e, q⟩ := h.lift
  exact hr e R2 (rx.mono s2.1) ry fun v F' H' s R' h => q v F' H' (s1.trans (s2.trans s)) R' h
/-- a new tuple -/
theorem mkTup {xs : List V} {ds : List D} {Q : VK} (R : RelP P F r t σ H) (z : xs.length ≤ sizeLine) (q : RpL P.K P.T F xs ds) (h : ∀ v F' H', Kp P.T F H F' H' → RelP P F' r t σ H' → Rp P.K P.T F' v (.tup ds) → Q v H') :
    ∀ p, H p = none → Q (.ref p) (upd H p (.tup xs)) := fun p hp => by
  have b := R.toRelH.newF (o := .tup xs) hp
  exact h _ _ _ (Kp.of b) (R.step b) (.tup (SqT.of upd_same) z (q.mono b.base))
/-- a new list, frozen -/
theorem mkLst {xs : List V} {ds : List D} {Q : VK} (R : RelP P F r t σ H) (z : xs.length ≤ sizeLine) (q : RpL P.K P.T F xs ds) (h : ∀ v F' H', Kp P.T F H F' H' → RelP P F' r t σ H' → Rp P.K P.T F' v (.lst ds) → Q v H') :
    ∀ p, H p = none → Q (.ref p) (upd H p (.lst xs)) := fun p hp => by
  have b := R.toRelH.newF (o := .lst xs) hp
  exact h _ _ _ (Kp.of b) (R.step b) (.lst upd_same z (q.mono b.base))
end
/-! ### operators -/
section
variable {P : Pm} {X : Cx} {a b : Expr} {pos : Pos} {fa fb : Rho → Tw → Res D}
abbrev rAddA (K : PySem.W.Frag) : R2 := fun x y H Q => (rI0 fun i j => .int (i + j)) x y H Q ∨ ((fun x y H Q => ∃ i j, x = .str i ∧ y = .str j ∧ i.length + j.length ≤ sizeLine ∧ Q (.str (i ++ j)) H : R2) x y H Q ∨ rCatA K x y H Q)
theorem s_add (hK : X.K = P.K) (ha : PE X a (tB P fa)) (hb : PE X b (tB P fb)) : PE X (.BinOp a .Add b pos) (tD P fun r t => (fa r t).bind fun x t1 => (fb r t1).bind fun y t2 => Fm.lift (addD x y) t2) := by
  refine peMono (pe_op (OpR.or op_add (OpR.or op_add_str op_catA)) ha hb) (op2 fun {x y dx dy d F r t σ H Q} e R rx ry q => ?_)
  cases dx with
  | int i =>
    cases dy with
    | int j =>
      cases e
      exact .inl ⟨i, j, rx.int R, ry.int R, q _ _ _ Kp.refl R (.int _)⟩
    | _ => cases e
  | str i =>
    cases dy with
    | str j =>
      simp only [addD] at e
      split at e
      · rename_i hl
        cases e
        exact .inr (.inl ⟨i, j, rx.str R, ry.str R, okLen_le hl, q _ _ _ Kp.refl R (.str _)⟩)
      · cases e
    | _ => cases e
  | tup xs =>
    cases dy with
    | tup ys =>
      simp only [addD] at e
      split at e
      · rename_i hl
        cases e
        obtain ⟨p1, v1, rfl, e1, z1, q1⟩ := rx.tup R
        obtain ⟨p2, v2, rfl, e2, z2, q2⟩ := ry.tup R
        have hl2 : v1.length + v2.length ≤ sizeLine := by
          rw [q1.length, q2.length]
          exact okLen_le hl
        rw [hK]
        refine .inr (.inr ⟨p1, p2, v1, v2, rfl, rfl, sqT_mono R.sub e1, sqT_mono R.sub e2, hl2, fun h0 => ?_, fun _ h0 => ?_, fun _ _ => ?_⟩)
        · subst h0
          cases q1
          exact q _ _ _ Kp.refl R (.tup e2 z2 q2)
        · subst h0
          cases q2
          refine q _ _ _ Kp.refl R ?_
          rw [List.append_nil]
          exact .tup e1 z1 q1
        · exact mkTup R (by rw [List.length_append]; exact hl2) (q1.append q2) q
      · cases e
    | _ => cases e
  | _ => cases e
theorem s_cat (ha : PE X a (tB P fa)) (hb : PE X b (tB P fb)) : PE X (.BinOp a .Add b pos) (tD P fun r t => (fa r t).bind fun x t1 => (fb r t1).bind fun y t2 => Fm.lift (catD x y) t2) := by
  refine peMono (pe_op op_cat ha hb) (op2 fun {x y dx dy d F r t σ H Q} e R rx ry q => ?_)
  cases dx with
  | lst xs =>
    cases dy with
    | lst ys =>
      simp only [catD] at e
      split at e
      · rename_i hl
        cases e
        obtain ⟨p1, v1, rfl, e1, z1, q1⟩ := rx.lst R
        obtain ⟨p2, v2, rfl, e2, z2, q2⟩ := ry.lst R
        have hl2 : v1.length + v2.length ≤ sizeLine := by
          rw [q1.length, q2.length]
          exact okLen_le hl
        exact ⟨p1, p2, v1, v2, rfl, rfl, e1, e2, hl2, mkLst R (by rw [List.length_append]; exact hl2) (q1.append q2) q⟩
      · cases e
    | _ => cases e
  | _ => cases e
/-- an operator upon two ints -/
theorem s_int2 {op : Operator} {f : D → D → Option D} {C : Int → Int → Prop} {g : Int → Int → Int} (ho : OpR X (binaryOp op) (rI C fun i j => .int (g i j)))
    (hf : ∀ dx dy d, f dx dy = some d → ∃ i j, dx = .int i ∧ dy = .int j ∧ C i j ∧ d = .int (g i j)) (ha : PE X a (tB P fa)) (hb : PE X b (tB P fb)) :
    PE X (.BinOp a op b pos) (tD P fun r t => (fa r t).bind fun x t1 => (fb r t1).bind fun y t2 => Fm.lift (f x y) t2) := by
  refine peMono (pe_op ho ha hb) (op2 fun {x y dx dy d F r t σ H Q} e R rx ry q => ?_)
  obtain ⟨i, j, rfl, rfl, c, rfl⟩ := hf dx dy d e
  exact ⟨i, j, rx.int R, ry.int R, c, q _ _ _ Kp.refl R (.int _)⟩
theorem s_sub (ha : PE X a (tB P fa)) (hb : PE X b (tB P fb)) : PE X (.BinOp a .Sub b pos) (tD P fun r t => (fa r t).bind fun x t1 => (fb r t1).bind fun y t2 => Fm.lift (subD x y) t2) := by
  refine peMono (pe_op op_sub ha hb) (op2 fun {x y dx dy d F r t σ H Q} e R rx ry q => ?_)
  cases dx with
  | int i =>
    cases dy with
    | int j =>
      cases e
      exact ⟨i, j, rx.int R, ry.int R, q _ _ _ Kp.refl R (.int _)⟩
    | _ => cases e
  | _ => cases e
theorem s_mul (ha : PE X a (tB P fa)) (hb : PE X b (tB P fb)) : PE X (.BinOp a .Mult b pos) (tD P fun r t => (fa r t).bind fun x t1 => (fb r t1).bind fun y t2 => Fm.lift (mulD x y) t2) :=
  s_int2 op_mulW (fun dx dy d e => by
    cases dx with
    | int i =>
      cases dy with
      | int j =>
        simp only [mulD] at e
        split at e
        · rename_i h
          cases e
          exact ⟨i, j, rfl, rfl, (of_decide_eq_true h : i.natAbs.log2 + j.natAbs.log2 < 1000000), rfl⟩
        · cases e
      | _ => cases e
    | _ => cases e) ha hb
def CDivA (_ j : Int) : Prop := j ≠ 0 ∧ j.natAbs.log2 < 9000
theorem op_fdivA : OpR X (binaryOp .FloorDiv) (rI CDivA fun i j => .int (i.fdiv j)) := opI fun i j _ _ _ _ _ hc q => floordiv_int hc.1 q (.inl (PyProof.noPylong_of_log2 hc.2))
theorem s_fdiv (ha : PE X a (tB P fa)) (hb : PE X b (tB P fb)) : PE X (.BinOp a .FloorDiv b pos) (tD P fun r t => (fa r t).bind fun x t1 => (fb r t1).bind fun y t2 => Fm.lift (fdivD x y) t2) :=
  s_int2 op_fdivA (fun dx dy d e => by
    cases dx with
    | int i =>
      cases dy with
      | int j =>
        simp only [fdivD] at e
        split at e
        · rename_i h
          cases e
          have h2 := Bool.and_eq_true_iff.mp h
          exact ⟨i, j, rfl, rfl, ⟨of_decide_eq_true h2.1, of_decide_eq_true h2.2⟩, rfl⟩
        · cases e
      | _ => cases e
    | _ => cases e) ha hb
theorem s_mod (ha : PE X a (tB P fa)) (hb : PE X b (tB P fb)) : PE X (.BinOp a .Mod b pos) (tD P fun r t => (fa r t).bind fun x t1 => (fb r t1).bind fun y t2 => Fm.lift (modD x y) t2) :=
  s_int2 op_modN (fun dx dy d e => by
    cases dx with
    | int i =>
      cases dy with
      | int j =>
        simp only [modD] at e
        split at e
        · cases e
        · rename_i h
          cases e
          exact ⟨i, j, rfl, rfl, h, rfl⟩
      | _ => cases e
    | _ => cases e) ha hb
theorem okPow_c {i j : Int} (h : okPow i j = true) : CPow i j := by
  have h1 := Bool.and_eq_true_iff.mp h
  have h2 := Bool.and_eq_true_iff.mp h1.1
  exact ⟨of_decide_eq_true h2.1, of_decide_eq_true h2.2, of_decide_eq_true h1.2⟩
theorem s_pow (ha : PE X a (tB P fa)) (hb : PE X b (tB P fb)) : PE X (.BinOp a .Pow b pos) (tD P fun r t => (fa r t).bind fun x t1 => (fb r t1).bind fun y t2 => Fm.lift (powD x y) t2) :=
  s_int2 op_pow (fun dx dy d e => by
    cases dx with
    | int i =>
      cases dy with
      | int j =>
        simp only [powD] at e
        split at e
        · rename_i h
          cases e
          exact ⟨i, j, rfl, rfl, okPow_c h, rfl⟩
        · cases e
      | _ => cases e
    | _ => cases e) ha hb
theorem s_shl (ha : PE X a (tB P fa)) (hb : PE X b (tB P fb)) : PE X (.BinOp a .LShift b pos) (tD P fun r t => (fa r t).bind fun x t1 => (fb r t1).bind fun y t2 => Fm.lift (shlD x y) t2) :=
  s_int2 op_shl (fun dx dy d e => by
    cases dx with
    | int i =>
      cases dy with
      | int j =>
        simp only [shlD] at e
        split at e
        · rename_i h
          cases e
          exact ⟨i, j, rfl, rfl, okPow_c h, rfl⟩
        · cases e
      | _ => cases e
    | _ => cases e) ha hb
theorem s_neg (ha : PE X a (tB P fa)) : PE X (.UnaryOp .USub a pos) (tD P fun r t => (fa r t).bind fun x t1 => Fm.lift (negD x) t1) := by
  refine peMono (pe_un un_neg ha) (op1 fun {x dx d F r t σ H Q} e R rx q => ?_)
  cases dx with
  | int i =>
    cases e
    exact ⟨i, rx.int R, q _ _ _ Kp.refl R (.int _)⟩
  | _ => cases e
end
end Fm

/-! ### comparisons, tests, subscripts, displays, built-in calls -/
namespace Fm
open PySem PySem.Spec PyProof.Rows L2
theorem pys_map : ∀ xs : List D, pys xs = xs.map D.py
  | [] => by simp only [pys, List.map_nil]
  | x :: xs => by simp only [pys, List.map_cons, pys_map xs]
theorem layAll : ∀ xs : List D, PyData.canLayAll0 (pys xs) = xs.all lay
  | [] => by simp only [pys, PyData.canLayAll0, List.all_nil]
  | x :: xs => by simp only [pys, PyData.canLayAll0, List.all_cons, layAll xs, lay]
section
variable {P : Pm} {X : Cx}
/-- an operator by data: its rule, and that the rule gives what f says -/
def OpS (P : Pm) (X : Cx) (g : Value → Value → Sem Value) (f : D → D → Option D) : Prop :=
  ∃ rr : R2, OpR X g rr ∧ ∀ {x y : V} {dx dy d : D} {F : Hp} {r : Rho} {t : Tw} {σ : L2.St} {H : Hp} {Q : VK}, f dx dy = some d → RelP P F r t σ H → RpB P F r σ x dx → RpB P F r σ y dy →
      (∀ v F' H', Kp P.T F H F' H' → RelP P F' r t σ H' → Rp P.K P.T F' v d → Q v H') → rr x y H Q
theorem intCmp {op : CmpOp} {g : Int → Int → Bool} {f : D → D → Option D} (ho : OpR X (compareOp op) (rI0 fun i j => .bl (g i j))) (hf : ∀ dx dy d, f dx dy = some d → ∃ i j, dx = .int i ∧ dy = .int j ∧ d = .bl (g i j)) : OpS P X (compareOp op) f := by
  refine ⟨_, ho, fun {x y dx dy d F r t σ H Q} e R rx ry q => ?_⟩
  obtain ⟨i, j, rfl, rfl, rfl⟩ := hf dx dy d e
  exact ⟨i, j, rx.int R, ry.int R, q _ _ _ Kp.refl R (.bl _)⟩
def rEqA (K : PySem.W.Frag) (u : Nat) (neg : Bool) : R2 := fun x y H Q => ∃ d e, Dp K H x d ∧ Dp K H y e ∧ d.canLay0 = true ∧ e.canLay0 = true ∧ u + min d.depth e.depth < cLine ∧ Q (.bl (if neg then !PyData.eqv d e else PyData.eqv d e)) H
theorem op_eqA : OpR X (compareOp .Eq) (rEqA X.K X.A.units false) := by
  intro pins s σ H x y v u Q I rx ry h
  obtain ⟨d, e, hd, he, sd, se, hu, q⟩ := h
  obtain ⟨as, r1⟩ := Dp.reads I d x v hd rx
  obtain ⟨bs, r2⟩ := Dp.reads I e y u he ry
  exact SeqAt.compareEq_reads r1 r2 sd se hu ⟨.bl _, H, I, rfl, q⟩
theorem op_neA : OpR X (compareOp .NotEq) (rEqA X.K X.A.units true) := by
  intro pins s σ H x y v u Q I rx ry h
  obtain ⟨d, e, hd, he, sd, se, hu, q⟩ := h
  obtain ⟨as, r1⟩ := Dp.reads I d x v hd rx
  obtain ⟨bs, r2⟩ := Dp.reads I e y u he ry
  exact SeqAt.compareNe_reads r1 r2 sd se hu ⟨.bl _, H, I, rfl, q⟩
theorem okEq_parts {a b : D} (h : okEq a b = true) : lay a = true ∧ lay b = true ∧ min (dep a) (dep b) ≤ 190 := by
  have h1 := Bool.and_eq_true_iff.mp h
  have h2 := Bool.and_eq_true_iff.mp h1.1
  exact ⟨h2.1, h2.2, of_decide_eq_true h1.2⟩
def rInA (K : PySem.W.Frag) (u : Nat) (neg : Bool) : R2 := fun x y H Q => ∃ d ds, Dp K H x d ∧ (Dp K H y (.tuple ds) ∨ Dp K H y (.list ds)) ∧ d.canLay0 = true ∧ PyData.canLayAll0 ds = true ∧ u + 1 + min (PyData.depthAll ds) d.depth < cLine ∧
  Q (.bl (if neg then !(ds.any fun z => PyData.eqv z d) else ds.any fun z => PyData.eqv z d)) H
theorem op_inA : OpR X (compareOp .In) (rInA X.K X.A.units false) := by
  intro pins s σ H x y v u Q I rx ry h
  obtain ⟨d, ds, hd, he, sd, se, hu, q⟩ := h
  obtain ⟨as, r1⟩ := Dp.reads I d x v hd rx
  rcases he with he | he
  · obtain ⟨bs, r2⟩ := Dp.reads I (.tuple ds) y u he ry
    exact SeqAt.in_tuple_reads r2 r1 se sd hu ⟨.bl _, H, I, rfl, q⟩
  · obtain ⟨bs, r2⟩ := Dp.reads I (.list ds) y u he ry
    exact SeqAt.in_list_reads r2 r1 se sd hu ⟨.bl _, H, I, rfl, q⟩
theorem op_notInA : OpR X (compareOp .NotIn) (rInA X.K X.A.units true) := by
  intro pins s σ H x y v u Q I rx ry h
  obtain ⟨d, ds, hd, he, sd, se, hu, q⟩ := h
  obtain ⟨as, r1⟩ := Dp.reads I d x v hd rx
  rcases he with he | he
  · obtain ⟨bs, r2⟩ := Dp.reads I (.tuple ds) y u he ry
    exact SeqAt.notIn_tuple_reads r2 r1 se sd hu ⟨.bl _, H, I, rfl, q⟩
  · obtain ⟨bs, r2⟩ := Dp.reads I (.list ds) y u he ry
    exact SeqAt.notIn_list_reads r2 r1 se sd hu ⟨.bl _, H, I, rfl, q⟩
theorem inB_seq {a : D} {xs : List D} {c : Bool} (h : (if lay a && (xs.all lay) && decide (dep a ≤ 190) then some (xs.any fun z => eqD z a) else none) = some c) :
    lay a = true ∧ PyData.canLayAll0 (pys xs) = true ∧ dep a ≤ 190 ∧ c = (pys xs).any fun z => PyData.eqv z a.py := by
  split at h
  · rename_i h1
    have h2 := Bool.and_eq_true_iff.mp h1
    have h3 := Bool.and_eq_true_iff.mp h2.1
    cases h
    refine ⟨h3.1, (layAll xs).trans h3.2, of_decide_eq_true h2.2, ?_⟩
    rw [pys_map, List.any_map]
    rfl
  · cases h
/-- x in y, by data -/
theorem inS {neg : Bool} {F : Hp} {r : Rho} {t : Tw} {σ : L2.St} {H : Hp} {x y : V} {dx dy : D} {c : Bool} {Q : VK} {u : Nat} (hu : u + 200 < cLine) (e : inB dx dy = some c) (R : RelP P F r t σ H) (rx : RpB P F r σ x dx) (ry : RpB P F r σ y dy)
    (q : Q (.bl (if neg then !c else c)) H) : rInA P.K u neg x y H Q ∨ ∃ (c : Nat) (z : Str), x = .str ⟨#[c]⟩ ∧ y = .str z ∧ Q (.bl (if neg then !decide (c ∈ z.cps.toList) else decide (c ∈ z.cps.toList))) H := by
  cases dy with
  | tup ys =>
    have e : (if lay dx && (ys.all lay) && decide (dep dx ≤ 190) then some (ys.any fun z => eqD z dx) else none) = some c := by
      cases dx <;> exact e
    obtain ⟨l1, l2, l3, rfl⟩ := inB_seq e
    refine .inl ⟨_, _, rx.dp R l1, .inl (ry.dp R (by simpa only [lay, D.py, PyData.canLay0] using l2)), l1, l2, ?_, q⟩
    have : min (PyData.depthAll (pys ys)) dx.py.depth ≤ 190 := Nat.le_trans (Nat.min_le_right _ _) l3
    omega
  | lst ys =>
    have e : (if lay dx && (ys.all lay) && decide (dep dx ≤ 190) then some (ys.any fun z => eqD z dx) else none) = some c := by
      cases dx <;> exact e
    obtain ⟨l1, l2, l3, rfl⟩ := inB_seq e
    refine .inl ⟨_, _, rx.dp R l1, .inr (ry.dp R (by simpa only [lay, D.py, PyData.canLay0] using l2)), l1, l2, ?_, q⟩
    have : min (PyData.depthAll (pys ys)) dx.py.depth ≤ 190 := Nat.le_trans (Nat.min_le_right _ _) l3
    omega
  | str z =>
    cases dx with
    | str w =>
      have e : (if decide (w.cps.size = 1) then some (decide (w.cps.getD 0 0 ∈ z.cps.toList)) else none) = some c := e
      split at e
      · rename_i h1
        cases e
        have h1 := of_decide_eq_true h1
        refine .inr ⟨w.cps.getD 0 0, z, ?_, ry.str R, q⟩
        rw [rx.str R]
        obtain ⟨w⟩ := w
        congr 2
        refine Array.ext (by simpa using h1) fun i h2 h3 => ?_
        have h2 : i < w.size := h2
        have h1 : w.size = 1 := h1
        have hi : i = 0 := by omega
        subst hi
        simp [h1]
      · cases e
    | _ => cases e
  | _ => cases dx <;> cases e
theorem cmpS (hK : X.K = P.K) (hu : X.A.units + 200 < cLine) (op : CmpOp) : OpS P X (compareOp op) (cmpD op) := by
  cases op with
  | Eq =>
    refine ⟨_, op_eqA, fun {x y dx dy d F r t σ H Q} e R rx ry q => ?_⟩
    simp only [cmpD, eqOp] at e
    split at e
    · rename_i h
      cases e
      obtain ⟨h1, h2, h3⟩ := okEq_parts h
      rw [hK]
      exact ⟨_, _, rx.dp R h1, ry.dp R h2, h1, h2, by show X.A.units + min (dep dx) (dep dy) < cLine; omega, q _ _ _ Kp.refl R (.bl _)⟩
    · cases e
  | NotEq =>
    refine ⟨_, op_neA, fun {x y dx dy d F r t σ H Q} e R rx ry q => ?_⟩
    simp only [cmpD, neOp] at e
    split at e
    · rename_i h
      cases e
      obtain ⟨h1, h2, h3⟩ := okEq_parts h
      rw [hK]
      exact ⟨_, _, rx.dp R h1, ry.dp R h2, h1, h2, by show X.A.units + min (dep dx) (dep dy) < cLine; omega, q _ _ _ Kp.refl R (.bl _)⟩
    · cases e
  | Lt =>
    refine ⟨_, OpR.or op_lt op_lt_str, fun {x y dx dy d F r t σ H Q} e R rx ry q => ?_⟩
    cases dx with
    | int i =>
      cases dy with
      | int j =>
        cases e
        exact .inl ⟨i, j, rx.int R, ry.int R, q _ _ _ Kp.refl R (.bl _)⟩
      | _ => cases e
    | str i =>
      cases dy with
      | str j =>
        cases e
        exact .inr ⟨i, j, rx.str R, ry.str R, q _ _ _ Kp.refl R (.bl _)⟩
      | _ => cases e
    | _ => cases dy <;> cases e
  | LtE => exact intCmp op_le fun dx dy d e => by cases dx <;> cases dy <;> first | (cases e; done) | (cases e; exact ⟨_, _, rfl, rfl, rfl⟩)
  | Gt => exact intCmp op_gt fun dx dy d e => by cases dx <;> cases dy <;> first | (cases e; done) | (cases e; exact ⟨_, _, rfl, rfl, rfl⟩)
  | GtE => exact intCmp op_ge fun dx dy d e => by cases dx <;> cases dy <;> first | (cases e; done) | (cases e; exact ⟨_, _, rfl, rfl, rfl⟩)
  | Is =>
    refine ⟨_, op_isN, fun {x y dx dy d F r t σ H Q} e R rx ry q => ?_⟩
    cases dy with
    | non =>
      have e : some (D.bl (isN dx)) = some d := e
      cases e
      cases ry.rp R (fun _ z => by cases z) (fun _ z => by cases z)
      refine ⟨rfl, ?_⟩
      have hx : decide (x = V.non) = isN dx := by
        rcases rx with rx | ⟨i, h1, h2⟩
        · cases rx <;> simp [isN]
        · obtain ⟨p, e, o⟩ := R.own i _ h1
          rw [e] at h2
          cases h2
          have := o.at_
          cases dx <;> first | exact this.elim | simp [isN]
      rw [hx]
      exact q _ _ _ Kp.refl R (.bl _)
    | _ => cases e
  | IsNot =>
    refine ⟨_, op_notN, fun {x y dx dy d F r t σ H Q} e R rx ry q => ?_⟩
    cases dy with
    | non =>
      have e : some (D.bl (!isN dx)) = some d := e
      cases e
      cases ry.rp R (fun _ z => by cases z) (fun _ z => by cases z)
      refine ⟨rfl, ?_⟩
      have hx : decide (x = V.non) = isN dx := by
        rcases rx with rx | ⟨i, h1, h2⟩
        · cases rx <;> simp [isN]
        · obtain ⟨p, e, o⟩ := R.own i _ h1
          rw [e] at h2
          cases h2
          have := o.at_
          cases dx <;> first | exact this.elim | simp [isN]
      rw [hx]
      exact q _ _ _ Kp.refl R (.bl _)
    | _ => cases e
  | In =>
    refine ⟨_, OpR.or op_inA op_in_sign, fun {x y dx dy d F r t σ H Q} e R rx ry q => ?_⟩
    obtain ⟨c, e1, rfl⟩ := Option.map_eq_some_iff.mp (show (inB dx dy).map D.bl = some d from e)
    rw [hK]
    exact inS (neg := false) hu e1 R rx ry (q _ _ _ Kp.refl R (.bl _))
  | NotIn =>
    refine ⟨_, OpR.or op_notInA op_notIn_sign, fun {x y dx dy d F r t σ H Q} e R rx ry q => ?_⟩
    obtain ⟨c, e1, rfl⟩ := Option.map_eq_some_iff.mp (show (inB dx dy).map (fun r => D.bl (!r)) = some d from e)
    rw [hK]
    exact inS (neg := true) hu e1 R rx ry (q _ _ _ Kp.refl R (.bl _))
theorem cmp_bl {op : CmpOp} {x y d : D} (h : cmpD op x y = some d) : ∃ b, d = .bl b := by
  have m : ∀ {o : Option Bool} {f : Bool → Bool}, (o.map fun r => D.bl (f r)) = some d → ∃ b, d = .bl b := fun {o f} h => by
    obtain ⟨b, _, e⟩ := Option.map_eq_some_iff.mp h
    exact ⟨_, e.symm⟩
  cases op with
  | Eq =>
    simp only [cmpD, eqOp] at h
    split at h <;> cases h
    exact ⟨_, rfl⟩
  | NotEq =>
    simp only [cmpD, neOp] at h
    split at h <;> cases h
    exact ⟨_, rfl⟩
  | In => exact m (f := id) h
  | NotIn => exact m (f := Bool.not) h
  | Lt => cases x <;> cases y <;> first | (cases h; done) | (cases h; exact ⟨_, rfl⟩)
  | LtE => cases x <;> cases y <;> first | (cases h; done) | (cases h; exact ⟨_, rfl⟩)
  | Gt => cases x <;> cases y <;> first | (cases h; done) | (cases h; exact ⟨_, rfl⟩)
  | GtE => cases x <;> cases y <;> first | (cases h; done) | (cases h; exact ⟨_, rfl⟩)
  | Is => cases y <;> first | (cases h; done) | (cases h; exact ⟨_, rfl⟩)
  | IsNot => cases y <;> first | (cases h; done) | (cases h; exact ⟨_, rfl⟩)
end
/-! ### tests -/
def tT (P : Pm) (f : Rho → Tw → Res D) : TT := fun σ H Q => ∃ F r t, RelP P F r t σ H ∧ Aft P F (f r t) fun d t' => ∃ b, truD d = some b ∧ ∀ F' H', Kp P.T F H F' H' → RelP P F' r t' σ H' → Q b H'
section
variable {P : Pm} {X : Cx} {a b c : Expr} {pos : Pos} {fa fb fc : Rho → Tw → Res D}
theorem t_plain (hK : X.K = P.K) (ha : PE X a (tB P fa)) (he : ∀ whole, isTrue a X.env whole = (do let v ← whole; standAt a.pos; holding [v] (truthy v))) : PT X a (tT P fa) :=
  ptMono (pt_truth ha he) fun σ H Q ⟨F, r, t, R, h⟩ => ⟨F, r, t, R, h.mono fun d t' ⟨b, e, q⟩ v F' H' s R' rv => ⟨b, by rw [hK]; exact rv.tru R' e, q F' H' s R'⟩⟩
theorem t_not (ha : PT X a (tT P fa)) : PT X (.UnaryOp .Not a pos) (tT P fun r t => (fa r t).bind fun x t1 => Fm.lift (notD x) t1) :=
  ptMono (pt_not ha) fun σ H Q ⟨F, r, t, R, h⟩ => ⟨F, r, t, R, h.bind.mono fun d t' h => by
    obtain ⟨e, h1, b, h2, q⟩ := h.lift
    obtain ⟨b2, h3, rfl⟩ := Option.map_eq_some_iff.mp h1
    cases h2
    exact ⟨b2, h3, q⟩⟩
theorem t_cmp (hK : X.K = P.K) (hu : X.A.units + 200 < cLine) {op : CmpOp} (ha : PE X a (tB P fa)) (hb : PE X b (tB P fb)) (hm : behindInMarks op b = false) :
    PT X (.Compare a [op] [b] pos) (tT P fun r t => (fa r t).bind fun x t1 => (fb r t1).bind fun y t2 => Fm.lift (cmpD op x y) t2) := by
  obtain ⟨rr, ho, hr⟩ := cmpS (P := P) hK hu op
  refine ptMono (pt_cmpR ho ha hb hm) fun σ H Q ⟨F, r, t, R, h⟩ => op2 (P := P) hr σ H _ ⟨F, r, t, R, ?_⟩
  refine Aft.thn (h.bind.mono fun dx t1 h => Aft.thn (h.bind.mono fun dy t2 h => ?_))
  obtain ⟨d, e, b, e2, q⟩ := h.lift
  obtain ⟨k, rfl⟩ := cmp_bl e
  cases e2
  rw [e]
  exact fun v F' H' s R' rv => by
    cases rv
    exact ⟨_, rfl, q F' H' s R'⟩
/-- a comparison as a value -/
theorem s_cmp (hK : X.K = P.K) (hu : X.A.units + 200 < cLine) {op : CmpOp} (ha : PE X a (tB P fa)) (hb : PE X b (tB P fb)) (hm : behindInMarks op b = false) :
    PE X (.Compare a [op] [b] pos) (tD P fun r t => (fa r t).bind fun x t1 => (fb r t1).bind fun y t2 => Fm.lift (cmpD op x y) t2) := by
  obtain ⟨rr, ho, hr⟩ := cmpS (P := P) hK hu op
  exact peMono (pe_cmpR ho ha hb hm) (op2 (P := P) hr)
def chainE (o1 o2 : CmpOp) (fa fb fc : Rho → Tw → Res D) (r : Rho) (t : Tw) : Res D := (fa r t).bind fun x t1 => (fb r t1).bind fun y t2 => match cmpD o1 x y with
    | some (.bl true) => (fc r t2).bind fun z t3 => Fm.lift (cmpD o2 y z) t3
    | some (.bl false) => .ok (.bl false) t2
    | _ => .bad
theorem chain_of {rr rr' : R2} {o1 o2 : CmpOp} (hr : ∀ {x y : V} {dx dy d : D} {F : Hp} {r : Rho} {t : Tw} {σ : L2.St} {H : Hp} {Q : VK}, cmpD o1 dx dy = some d → RelP P F r t σ H → RpB P F r σ x dx → RpB P F r σ y dy →
      (∀ v F' H', Kp P.T F H F' H' → RelP P F' r t σ H' → Rp P.K P.T F' v d → Q v H') → rr x y H Q)
    (hr' : ∀ {x y : V} {dx dy d : D} {F : Hp} {r : Rho} {t : Tw} {σ : L2.St} {H : Hp} {Q : VK}, cmpD o2 dx dy = some d → RelP P F r t σ H → RpB P F r σ x dx → RpB P F r σ y dy →
      (∀ v F' H', Kp P.T F H F' H' → RelP P F' r t σ H' → Rp P.K P.T F' v d → Q v H') → rr' x y H Q) (σ : L2.St) (H : Hp) (Q : VK) (h : tD P (chainE o1 o2 fa fb fc) σ H Q) : tChain rr rr' (tB P fa) (tB P fb) (tB P fc) σ H Q := by
  obtain ⟨F, r, t, R, h⟩ := h
  refine ⟨F, r, t, R, h.bind.mono fun dx t1 h v F1 H1 s1 R1 rx => ?_⟩
  refine ⟨F1, r, t1, R1, (h.up s1.1).bind.mono fun dy t2 h w F2 H2 s2 R2 ry => ?_⟩
  have h := h.up s2.1
  cases e : cmpD o1 dx dy with
  | none =>
    rw [e] at h
    exact h.elim
  | some d =>
    obtain ⟨k, rfl⟩ := cmp_bl e
    rw [e] at h
    refine hr e R2 (rx.mono s2.1) ry fun z F3 H3 s3 R3 rz => ?_
    cases rz
    refine ⟨k, rfl, ?_⟩
    cases k with
    | false => exact h _ _ _ (s1.trans (s2.trans s3)) R3 (.bl false)
    | true =>
      refine ⟨F3, r, t2, R3, ((show Aft P F2 ((fc r t2).bind fun z t3 => Fm.lift (cmpD o2 dy z) t3) _ from h).up s3.1).bind.mono fun dz t4 h u F4 H4 s4 R4 rz => ?_⟩
      obtain ⟨d4, e4, q⟩ := h.lift
      exact hr' e4 R4 (ry.mono (s3.trans s4).1) rz fun v F' H' s R' h => q v F' H' (s1.trans (s2.trans (s3.trans (s4.trans s)))) R' h
theorem s_chain (hK : X.K = P.K) (hu : X.A.units + 200 < cLine) {o1 o2 : CmpOp} (ha : PE X a (tB P fa)) (hb : PE X b (tB P fb)) (hc : PE X c (tB P fc)) (hm : lastMarks [o1, o2] [b, c] = false) :
    PE X (.Compare a [o1, o2] [b, c] pos) (tD P (chainE o1 o2 fa fb fc)) := by
  obtain ⟨rr, ho, hr⟩ := cmpS (P := P) hK hu o1
  obtain ⟨rr', ho', hr'⟩ := cmpS (P := P) hK hu o2
  exact peMono (pe_chain ho ho' ha hb hc hm) (chain_of hr hr')
theorem chain_bl {o1 o2 : CmpOp} {F : Hp} {r : Rho} {t : Tw} {Z : D → Tw → Prop} (h : Aft P F (chainE o1 o2 fa fb fc r t) Z) : Aft P F (chainE o1 o2 fa fb fc r t) fun d t => (∃ k, d = .bl k) ∧ Z d t := by
  unfold chainE at h ⊢
  refine Aft.thn (h.bind.mono fun dx t1 h => Aft.thn (h.bind.mono fun dy t2 h => ?_))
  cases e : cmpD o1 dx dy with
  | none =>
    rw [e] at h
    exact h.elim
  | some d =>
    obtain ⟨k, rfl⟩ := cmp_bl e
    rw [e] at h
    cases k with
    | false => exact ⟨⟨_, rfl⟩, h⟩
    | true =>
      refine Aft.thn ((show Aft P F ((fc r t2).bind fun z t3 => Fm.lift (cmpD o2 dy z) t3) _ from h).bind.mono fun dz t3 h => ?_)
      obtain ⟨d4, e4, q⟩ := h.lift
      rw [e4]
      exact ⟨cmp_bl e4, q⟩
theorem t_chain (hK : X.K = P.K) (hu : X.A.units + 200 < cLine) {o1 o2 : CmpOp} (ha : PE X a (tB P fa)) (hb : PE X b (tB P fb)) (hc : PE X c (tB P fc)) (hm : lastMarks [o1, o2] [b, c] = false) :
    PT X (.Compare a [o1, o2] [b, c] pos) (tT P (chainE o1 o2 fa fb fc)) := by
  obtain ⟨rr, ho, hr⟩ := cmpS (P := P) hK hu o1
  obtain ⟨rr', ho', hr'⟩ := cmpS (P := P) hK hu o2
  refine ptMono (pt_chain ho ho' ha hb hc hm) fun σ H Q ⟨F, r, t, R, h⟩ => chain_of hr hr' σ H _ ⟨F, r, t, R, (chain_bl h).mono fun d t' h => ?_⟩
  obtain ⟨⟨k, rfl⟩, b, e, q⟩ := h
  cases e
  exact fun v F' H' s R' rv => by
    cases rv
    exact ⟨_, rfl, q F' H' s R'⟩
/-! ### not, and, or, if as values -/
theorem s_not (hK : X.K = P.K) (ha : PE X a (tB P fa)) : PE X (.UnaryOp .Not a pos) (tD P fun r t => (fa r t).bind fun x t1 => Fm.lift (notD x) t1) :=
  peMono (pe_notT ha) fun σ H Q ⟨F, r, t, R, h⟩ => ⟨F, r, t, R, h.bind.mono fun d t' h v F' H' s R' rv => by
    obtain ⟨e, h1, q⟩ := h.lift
    obtain ⟨b2, h3, rfl⟩ := Option.map_eq_some_iff.mp h1
    exact ⟨b2, by rw [hK]; exact rv.tru R' h3, q _ _ _ s R' (.bl _)⟩⟩
def andE (fa fb : Rho → Tw → Res D) (r : Rho) (t : Tw) : Res D := (fa r t).bind fun x t1 => match truD x with
    | some true => fb r t1
    | some false => .ok x t1
    | none => .bad
def orE (fa fb : Rho → Tw → Res D) (r : Rho) (t : Tw) : Res D := (fa r t).bind fun x t1 => match truD x with
    | some true => .ok x t1
    | some false => fb r t1
    | none => .bad
def iteE (fc fa fb : Rho → Tw → Res D) (r : Rho) (t : Tw) : Res D := (fc r t).bind fun x t1 => match truD x with
    | some true => fa r t1
    | some false => fb r t1
    | none => .bad
variable {rest : List Expr}
theorem s_and (hK : X.K = P.K) (ha : PE X a (tD P fa)) (hb : PE X (.BoolOp .And (b :: rest) pos) (tD P fb)) : PE X (.BoolOp .And (a :: b :: rest) pos) (tD P (andE fa fb)) :=
  peMono (pe_andT ha hb) fun σ H Q ⟨F, r, t, R, h⟩ => ⟨F, r, t, R, h.bind.mono fun d t' h v F' H' s R' rv => by
    cases e : truD d with
    | none =>
      rw [e] at h
      exact h.elim
    | some k =>
      rw [e] at h
      refine ⟨k, by rw [hK]; exact (RpB.of (r := r) (σ := σ) rv).tru R' e, ?_⟩
      cases k with
      | true => exact ⟨F', r, t', R', ((show Aft P F (fb r t') _ from h).up s.1).mono fun d2 t2 q v2 F2 H2 s2 R2 rv2 => q v2 F2 H2 (s.trans s2) R2 rv2⟩
      | false => exact h v F' H' s R' rv⟩
theorem s_or (hK : X.K = P.K) (ha : PE X a (tD P fa)) (hb : PE X (.BoolOp .Or (b :: rest) pos) (tD P fb)) : PE X (.BoolOp .Or (a :: b :: rest) pos) (tD P (orE fa fb)) :=
  peMono (pe_orT ha hb) fun σ H Q ⟨F, r, t, R, h⟩ => ⟨F, r, t, R, h.bind.mono fun d t' h v F' H' s R' rv => by
    cases e : truD d with
    | none =>
      rw [e] at h
      exact h.elim
    | some k =>
      rw [e] at h
      refine ⟨k, by rw [hK]; exact (RpB.of (r := r) (σ := σ) rv).tru R' e, ?_⟩
      cases k with
      | false => exact ⟨F', r, t', R', ((show Aft P F (fb r t') _ from h).up s.1).mono fun d2 t2 q v2 F2 H2 s2 R2 rv2 => q v2 F2 H2 (s.trans s2) R2 rv2⟩
      | true => exact h v F' H' s R' rv⟩
theorem s_ite (hc : PT X c (tT P fc)) (ha : PE X a (tD P fa)) (hb : PE X b (tD P fb)) : PE X (.IfExp c a b pos) (tD P (iteE fc fa fb)) :=
  peMono (pe_ifExp hc ha hb) fun σ H Q ⟨F, r, t, R, h⟩ => ⟨F, r, t, R, h.bind.mono fun d t' h => by
    cases e : truD d with
    | none =>
      rw [e] at h
      exact h.elim
    | some k =>
      rw [e] at h
      refine ⟨k, rfl, fun F' H' s R' => ?_⟩
      cases k with
      | true => exact ⟨F', r, t', R', ((show Aft P F (fa r t') _ from h).up s.1).mono fun d2 t2 q v2 F2 H2 s2 R2 rv2 => q v2 F2 H2 (s.trans s2) R2 rv2⟩
      | false => exact ⟨F', r, t', R', ((show Aft P F (fb r t') _ from h).up s.1).mono fun d2 t2 q v2 F2 H2 s2 R2 rv2 => q v2 F2 H2 (s.trans s2) R2 rv2⟩⟩
/-- and, or as tests -/
theorem t_and (ha : PT X a (tT P fa)) (hb : PW X (.BoolOp .And (b :: rest) pos) (tT P fb)) : PW X (.BoolOp .And (a :: b :: rest) pos) (tT P (andE fa fb)) :=
  ⟨fun wh pins s0 σ H Q I ⟨F, r, t, R, h⟩ => (pw_and ha hb).run wh pins s0 σ H Q I ⟨F, r, t, R, h.bind.mono fun d t' h => by
    cases e : truD d with
    | none =>
      rw [e] at h
      exact h.elim
    | some k =>
      rw [e] at h
      refine ⟨k, rfl, fun F' H' s R' => ?_⟩
      cases k with
      | true => exact ⟨F', r, t', R', ((show Aft P F (fb r t') _ from h).up s.1).mono fun d2 t2 ⟨b2, e2, q⟩ => ⟨b2, e2, fun F2 H2 s2 R2 => q F2 H2 (s.trans s2) R2⟩⟩
      | false =>
        obtain ⟨b2, e2, q⟩ := h
        rw [e] at e2
        cases e2
        exact q F' H' s R'⟩⟩
theorem t_or (ha : PT X a (tT P fa)) (hb : PW X (.BoolOp .Or (b :: rest) pos) (tT P fb)) : PW X (.BoolOp .Or (a :: b :: rest) pos) (tT P (orE fa fb)) :=
  ⟨fun wh pins s0 σ H Q I ⟨F, r, t, R, h⟩ => (pw_or ha hb).run wh pins s0 σ H Q I ⟨F, r, t, R, h.bind.mono fun d t' h => by
    cases e : truD d with
    | none =>
      rw [e] at h
      exact h.elim
    | some k =>
      rw [e] at h
      refine ⟨k, rfl, fun F' H' s R' => ?_⟩
      cases k with
      | false => exact ⟨F', r, t', R', ((show Aft P F (fb r t') _ from h).up s.1).mono fun d2 t2 ⟨b2, e2, q⟩ => ⟨b2, e2, fun F2 H2 s2 R2 => q F2 H2 (s.trans s2) R2⟩⟩
      | true =>
        obtain ⟨b2, e2, q⟩ := h
        rw [e] at e2
        cases e2
        exact q F' H' s R'⟩⟩
end
end Fm

/-! ### subscripts, displays, built-in calls, dicts -/
namespace Fm
open PySem PySem.Spec PyProof.Rows L2
section
variable {P : Pm} {X : Cx} {a b c : Expr} {pos : Pos} {fa fb fc : Rho → Tw → Res D}
theorem atI_map {ns : List Int} {i v : Int} (e : atI ns i = some v) : atI (ns.map V.int) i = some (.int v) := by
  unfold atI at e ⊢
  rw [List.length_map]
  cases h : ixN ns.length i with
  | none =>
    rw [h] at e
    cases e
  | some j =>
    rw [h] at e
    have e : ns[j]? = some v := e
    show (ns.map V.int)[j]? = _
    rw [List.getElem?_map, e]
    rfl
theorem ix_nat {xs : List V} {ds : List D} {F : Hp} {i : Int} {d : D} (q : RpL P.K P.T F xs ds) (e : atI ds i = some d) : ∃ v, atI xs i = some v ∧ Rp P.K P.T F v d := by
  unfold atI at e ⊢
  rw [q.length]
  cases h : ixN ds.length i with
  | none =>
    rw [h] at e
    cases e
  | some j =>
    rw [h] at e
    obtain ⟨v, e2, r2⟩ := q.get (i := j) e
    exact ⟨v, e2, r2⟩
theorem s_ix (hK : X.K = P.K) (ha : PE X a (tB P fa)) (hb : PE X b (tB P fb)) (hs : PlainIx b) : PE X (.Subscript a b pos) (tD P fun r t => (fa r t).bind fun x t1 => (fb r t1).bind fun y t2 => Fm.lift (ixD x y) t2) := by
  refine peMono (pe_ix ix_seq ha hb hs) (op2 fun {x y dx dy d F r t σ H Q} e R rx ry q => ?_)
  cases dx with
  | tup xs =>
    cases dy with
    | int i =>
      obtain ⟨p1, v1, rfl, e1, z1, q1⟩ := rx.tup R
      obtain ⟨v, e2, r2⟩ := ix_nat q1 e
      rw [hK]
      exact .inr (.inl ⟨p1, v1, i, v, rfl, ry.int R, sqT_mono R.sub e1, e2, q _ _ _ Kp.refl R r2⟩)
    | _ => cases e
  | lst xs =>
    cases dy with
    | int i =>
      obtain ⟨p1, v1, rfl, e1, z1, q1⟩ := rx.lst R
      obtain ⟨v, e2, r2⟩ := ix_nat q1 e
      rw [hK]
      exact .inl ⟨p1, v1, i, v, rfl, ry.int R, SqL.of e1, e2, q _ _ _ Kp.refl R r2⟩
    | _ => cases e
  | str z =>
    cases dy with
    | int i =>
      have e : (if okLen z.length then (atI z.cps.toList i).map fun c => D.str ⟨#[c]⟩ else none) = some d := e
      split at e
      · rename_i hl
        obtain ⟨c, e1, rfl⟩ := Option.map_eq_some_iff.mp e
        exact .inr (.inr ⟨z, i, c, rx.str R, ry.int R, okLen_le hl, e1, q _ _ _ Kp.refl R (.str _)⟩)
      · cases e
    | _ => cases e
  | scr ns =>
    cases dy with
    | int i =>
      have e : (L2.atI ns i).map D.int = some d := e
      obtain ⟨v, e1, rfl⟩ := Option.map_eq_some_iff.mp e
      cases rx.rp R (fun _ z => by cases z) (fun _ z => by cases z)
      rw [hK]
      exact .inl ⟨_, _, i, .int v, rfl, ry.int R, sqL_mono R.sub R.sc, atI_map e1, q _ _ _ Kp.refl R (.int v)⟩
    | _ => cases e
  | _ => cases dy <;> cases e
/-! ### slices -/
def tO (P : Pm) (f : Rho → Tw → Res (Option D)) : TO := fun σ H Q => ∃ F r t, RelP P F r t σ H ∧ Aft P F (f r t) fun o t' => ∃ i, optI o = some i ∧ ∀ F' H', Kp P.T F H F' H' → RelP P F' r t' σ H' → Q i H'
theorem poMono {e : Option Expr} {t u : TO} (h : PO X e t) (i : ∀ σ H Q, u σ H Q → t σ H Q) : PO X e u := ⟨fun pins s σ H Q I q => h.run pins s σ H Q I (i σ H Q q)⟩
theorem s_none : PO X none (tO P fun r t => .ok none t) := poMono po_none fun σ H Q ⟨F, r, t, R, i, e, q⟩ => by
  cases e
  exact q F H Kp.refl R
theorem s_some (ha : PE X a (tB P fa)) : PO X (some a) (tO P fun r t => (fa r t).bind fun x t1 => .ok (some x) t1) := poMono (po_some ha) fun σ H Q ⟨F, r, t, R, h⟩ => ⟨F, r, t, R, h.bind.mono fun d t' ⟨i, e, q⟩ v F' H' s R' rv => by
  cases d with
  | int j =>
    cases e
    exact ⟨j, rv.int R', q F' H' s R'⟩
  | _ => cases e⟩
theorem cut_rel {xs : List V} {ds : List D} {F : Hp} (q : RpL P.K P.T F xs ds) (l h : Option Int) : RpL P.K P.T F (cutV xs l h) (cutL ds l h) := by
  unfold cutV cutL
  rw [q.length]
  exact (q.drop _).take _
def cutE (fa : Rho → Tw → Res D) (fl fh : Rho → Tw → Res (Option D)) (r : Rho) (t : Tw) : Res D := (fa r t).bind fun x t1 => (fl r t1).bind fun l t2 => (Fm.lift (optI l) t2).bind fun l t2 => (fh r t2).bind fun h t3 => (Fm.lift (optI h) t3).bind fun h t3 => Fm.lift (cutD x l h) t3
theorem s_cut (hK : X.K = P.K) {lo hi : Option Expr} {p2 : Pos} {fl fh : Rho → Tw → Res (Option D)} (ha : PE X a (tB P fa)) (hl : PO X lo (tO P fl)) (hh : PO X hi (tO P fh)) :
    PE X (.Subscript a (.Slice lo hi none p2) pos) (tD P (cutE fa fl fh)) := by
  refine peMono (pe_slice (SlR.or sl_tupA sl_list) ha hl hh) fun σ H Q ⟨F, r, t, R, h⟩ => ⟨F, r, t, R, h.bind.mono fun dx t1 h v F1 H1 s1 R1 rx => ?_⟩
  refine ⟨F1, r, t1, R1, (h.up s1.1).bind.mono fun dl t2 h => ?_⟩
  obtain ⟨l, ol, h⟩ := h.bind.lift
  refine ⟨l, ol, fun F2 H2 s2 R2 => ⟨F2, r, t2, R2, (h.up s2.1).bind.mono fun dh t3 h => ?_⟩⟩
  obtain ⟨u, ou, h⟩ := h.bind.lift
  obtain ⟨d, e, q⟩ := h.lift
  refine ⟨u, ou, fun F3 H3 s3 R3 => ?_⟩
  have rx := rx.mono (s2.trans s3).1
  have q : ∀ v F' H', Kp P.T F3 H3 F' H' → RelP P F' r t3 σ H' → Rp P.K P.T F' v d → Q v H' := fun v F' H' s R' h => q v F' H' (s1.trans (s2.trans (s3.trans s))) R' h
  cases dx with
  | tup xs =>
    cases e
    obtain ⟨p1, v1, rfl, e1, z1, q1⟩ := rx.tup R3
    rw [hK]
    refine .inl ⟨p1, v1, rfl, sqT_mono R3.sub e1, fun hw => ?_, fun _ => ?_⟩
    · refine q _ _ _ Kp.refl R3 ?_
      have ec : cutL xs l u = xs := by
        unfold cutL
        rw [← q1.length, hw.1, hw.2]
        simp [q1.length]
      rw [ec]
      exact .tup e1 z1 q1
    · exact mkTup R3 (Nat.le_trans (cutV_length _ _ _) z1) (cut_rel q1 l u) q
  | lst xs =>
    cases e
    obtain ⟨p1, v1, rfl, e1, z1, q1⟩ := rx.lst R3
    exact .inr ⟨p1, v1, rfl, SqL.of e1, mkLst R3 (Nat.le_trans (cutV_length _ _ _) z1) (cut_rel q1 l u) q⟩
  | _ => cases e
/-! ### argument lists, displays -/
theorem s_nil : PA X [] (tDs P fun r t => .ok [] t) := paMono pa_nil fun σ H Q ⟨F, r, t, R, q⟩ => q [] F H Kp.refl R .nil
theorem s_cons {es : List Expr} {fs : Rho → Tw → Res (List D)} (ha : PE X a (tD P fa)) (hr : PA X es (tDs P fs)) (hs : starEach (a :: es) X.env = (false, eval a X.env) :: starEach es X.env) :
    PA X (a :: es) (tDs P fun r t => (fa r t).bind fun x t1 => (fs r t1).bind fun xs t2 => .ok (x :: xs) t2) :=
  paMono (pa_cons ha hr hs) fun σ H Q ⟨F, r, t, R, h⟩ => ⟨F, r, t, R, h.bind.mono fun d t1 h v F1 H1 s1 R1 rv => ⟨F1, r, t1, R1, (h.up s1.1).bind.mono fun ds t2 q vs F2 H2 s2 R2 rvs =>
    q (v :: vs) F2 H2 (s1.trans s2) R2 (.cons (rv.mono s2.1) rvs)⟩⟩
theorem s_tup {es : List Expr} {x1 : Nat} {fs : Rho → Tw → Res (List D)} (h : PA X es (tDs P fs)) : PE X (.Tuple es x1 pos) (tD P fun r t => (fs r t).bind fun xs t1 => if okLen xs.length then .ok (.tup xs) t1 else .bad) :=
  peMono (pe_tup h) fun σ H Q ⟨F, r, t, R, h⟩ => ⟨F, r, t, R, h.bind.mono fun ds t1 h vs F1 H1 s1 R1 rv => by
    split at h
    · rename_i hl
      have z : vs.length ≤ sizeLine := by
        rw [rv.length]
        exact okLen_le hl
      exact ⟨z, mkTup R1 z rv fun v F' H' s R' r => h v F' H' (s1.trans s) R' r⟩
    · exact h.elim⟩
/-! ### an object that is nobody's yet -/
/-- a new object: nobody's -/
structure Fre (P : Pm) (F : Hp) (r : Rho) (σ : L2.St) (H : Hp) (v : V) (d : D) (p : Addr) : Prop where
  v : v = .ref p
  own : Fm.Own P.K P.T P.H0 F H p d
  no : ∀ (i : Nat) (e : D), r[i]? = some (.own e) → σ[i]? ≠ some (some (.ref p))
def tN (P : Pm) (f : Rho → Tw → Res D) : TE := fun σ H Q => ∃ F r t, RelP P F r t σ H ∧ Aft P F (f r t) fun d t' => ∀ v F' H' p, Kp P.T F H F' H' → RelP P F' r t' σ H' → H p = none → Fre P F' r σ H' v d p → Q v H'
/-- .. it may be frozen -/
theorem tNtD_mono {f : Rho → Tw → Res D} (σ : L2.St) (H : Hp) (Q : VK) (z : tD P f σ H Q) : tN P f σ H Q := by
  obtain ⟨F, r, t, R, h⟩ := z
  refine ⟨F, r, t, R, h.mono fun d t' q v F' H' p s R' hp fr => ?_⟩
  obtain ⟨rfl, o, no⟩ := fr
  obtain ⟨ob, ho, _⟩ := o.at_.obj
  have R2 := R'.freeze (o := ob) ho o.fr o.h0 o.n1 o.n2 no
  have s2 : Same F' (upd F' p ob) := same_new o.fr
  refine q _ _ _ ⟨s.1.trans s2, fun c u h => ?_, s.old, s.had⟩ R2 ?_
  · by_cases hc : c = p
    · rw [hc]
      exact .inr hp
    · rw [upd_ne hc] at h
      exact s.new c u h
  have w := o.at_
  cases d with
  | lst ds =>
    obtain ⟨vs, h1, h2, h3⟩ := w
    rw [ho] at h1
    cases h1
    exact .lst upd_same h2 (h3.mono s2)
  | dct es =>
    obtain ⟨vs, h1, h2, h3⟩ := w
    rw [ho] at h1
    cases h1
    exact .dct upd_same (h3.mono s2)
  | _ => exact w.elim
theorem tN_tD {f : Rho → Tw → Res D} {e : Expr} (h : PE X e (tN P f)) : PE X e (tD P f) := peMono h tNtD_mono
/-- laid just now -/
theorem mkNew {F : Hp} {r : Rho} {t : Tw} {σ : L2.St} {H : Hp} {o : HO} {d : D} (R : RelP P F r t σ H) {p : Addr} (hp : H p = none) (h : OwnAt P.K P.T F (upd H p o) p d) :
    RelP P F r t σ (upd H p o) ∧ Kp P.T F H F (upd H p o) ∧ Fre P F r σ (upd H p o) (.ref p) d p := by
  have b := R.toRelH.newO (o := o) hp
  have n1 : p ≠ P.T.a := fun e => by
    rw [e, R.tw.a] at hp
    cases hp
  have n2 : p ≠ P.T.b := fun e => by
    rw [e, R.tw.b] at hp
    cases hp
  refine ⟨R.step b, Kp.of b, rfl, ⟨R.sub.free hp, n1, n2, R.had p hp, h⟩, fun i e h1 h2 => ?_⟩
  obtain ⟨q, e1, w⟩ := R.own i e h1
  rw [h2] at e1
  cases e1
  obtain ⟨o2, ho, _⟩ := w.at_.obj
  rw [hp] at ho
  cases ho
theorem n_lst {es : List Expr} {fs : Rho → Tw → Res (List D)} (h : PA X es (tDs P fs)) : PE X (.List es pos) (tN P fun r t => (fs r t).bind fun xs t1 => if okLen xs.length then .ok (.lst xs) t1 else .bad) :=
  peMono (pe_lst h) fun σ H Q ⟨F, r, t, R, h⟩ => ⟨F, r, t, R, h.bind.mono fun ds t1 h vs F1 H1 s1 R1 rv => by
    split at h
    · rename_i hl
      have z : vs.length ≤ sizeLine := by
        rw [rv.length]
        exact okLen_le hl
      refine ⟨z, fun p hp => ?_⟩
      obtain ⟨R2, k2, fr⟩ := mkNew (o := .lst vs) (d := .lst ds) R1 hp ⟨vs, upd_same, z, rv⟩
      exact h _ _ _ p (s1.trans k2) R2 (s1.had p hp) fr
    · exact h.elim⟩
/-! ### built-in calls of one value -/
def CallS (P : Pm) (X : Cx) (f : Value) (g : D → Option D) : Prop :=
  ∃ rr : List V → Hp → VK → Prop, CallR X f rr ∧ ∀ {x : V} {dx d : D} {F : Hp} {r : Rho} {t : Tw} {σ : L2.St} {H : Hp} {Q : VK}, g dx = some d → RelP P F r t σ H → RpB P F r σ x dx →
      (∀ v F' H', Kp P.T F H F' H' → RelP P F' r t σ H' → Rp P.K P.T F' v d → Q v H') → rr [x] H Q
/-- .. that make a new list, nobody's -/
def CallN (P : Pm) (X : Cx) (f : Value) (g : D → Option D) : Prop :=
  ∃ rr : List V → Hp → VK → Prop, CallR X f rr ∧ ∀ {x : V} {dx d : D} {F : Hp} {r : Rho} {t : Tw} {σ : L2.St} {H : Hp} {Q : VK}, g dx = some d → RelP P F r t σ H → RpB P F r σ x dx →
      (∀ v F' H' p, Kp P.T F H F' H' → RelP P F' r t σ H' → H p = none → Fre P F' r σ H' v d p → Q v H') → rr [x] H Q
theorem cs_abs : CallS P X (.builtin "abs") (blt1 .abs) := by
  refine ⟨_, call_abs, fun {x dx d F r t σ H Q} e R rx q => ?_⟩
  cases dx with
  | int i =>
    cases e
    exact ⟨i, by rw [rx.int R], q _ _ _ Kp.refl R (.int _)⟩
  | _ => cases e
theorem cs_len (hK : X.K = P.K) : CallS P X (.builtin "len") (blt1 .len) := by
  refine ⟨_, CallR.or call_len call_lenD, fun {x dx d F r t σ H Q} e R rx q => ?_⟩
  rw [hK]
  cases dx with
  | tup ds =>
    cases e
    obtain ⟨p1, v1, rfl, e1, z1, q1⟩ := rx.tup R
    exact .inl ⟨_, v1.length, rfl, .inr ⟨v1, sqT_mono R.sub e1, rfl⟩, by rw [q1.length]; exact q _ _ _ Kp.refl R (.int _)⟩
  | lst ds =>
    cases e
    obtain ⟨p1, v1, rfl, e1, z1, q1⟩ := rx.lst R
    exact .inl ⟨_, v1.length, rfl, .inl ⟨v1, SqL.of e1, rfl⟩, by rw [q1.length]; exact q _ _ _ Kp.refl R (.int _)⟩
  | scr ns =>
    cases rx.rp R (fun _ z => by cases z) (fun _ z => by cases z)
    cases e
    exact .inl ⟨_, (P.T.ns.map V.int).length, rfl, .inl ⟨_, sqL_mono R.sub R.sc, rfl⟩, by rw [List.length_map]; exact q _ _ _ Kp.refl R (.int _)⟩
  | str z =>
    have e : (if okLen z.length then some (D.int z.length) else none) = some d := e
    split at e
    · rename_i hl
      cases e
      obtain rfl := rx.str R
      exact .inl ⟨_, z.length, rfl, ⟨okLen_le hl, rfl⟩, q _ _ _ Kp.refl R (.int _)⟩
    · cases e
  | dct es =>
    cases e
    obtain ⟨p1, v1, rfl, e1, q1⟩ := rx.dct R
    exact .inr ⟨p1, v1, rfl, e1, by rw [q1.length]; exact q _ _ _ Kp.refl R (.int _)⟩
  | _ => cases e
theorem cs_all (hK : X.K = P.K) (hc : X.calm = true) : CallS P X (.builtin "all") (blt1 .all) := by
  refine ⟨_, cr_all hc, fun {x dx d F r t σ H Q} e R rx q => ?_⟩
  cases dx with
  | lst ds =>
    obtain ⟨bs, e1, rfl⟩ := Option.map_eq_some_iff.mp (show (bls ds).map (fun bs => D.bl (bs.all id)) = some d from e)
    obtain ⟨p1, v1, rfl, e2, z1, q1⟩ := rx.lst R
    obtain rfl := q1.blsOf e1
    exact ⟨p1, bs, rfl, SqL.of e2, q _ _ _ Kp.refl R (.bl _)⟩
  | _ => cases e
theorem cs_any (hK : X.K = P.K) (hc : X.calm = true) : CallS P X (.builtin "any") (blt1 .any) := by
  refine ⟨_, cr_any hc, fun {x dx d F r t σ H Q} e R rx q => ?_⟩
  cases dx with
  | lst ds =>
    obtain ⟨bs, e1, rfl⟩ := Option.map_eq_some_iff.mp (show (bls ds).map (fun bs => D.bl (bs.any id)) = some d from e)
    obtain ⟨p1, v1, rfl, e2, z1, q1⟩ := rx.lst R
    obtain rfl := q1.blsOf e1
    exact ⟨p1, bs, rfl, SqL.of e2, q _ _ _ Kp.refl R (.bl _)⟩
  | _ => cases e
theorem cs_sum (hK : X.K = P.K) (hc : X.calm = true) : CallS P X (.builtin "sum") (blt1 .sum) := by
  refine ⟨_, cr_sum hc, fun {x dx d F r t σ H Q} e R rx q => ?_⟩
  cases dx with
  | lst ds =>
    obtain ⟨bs, e1, rfl⟩ := Option.map_eq_some_iff.mp (show (intsD ds).map (fun ns => D.int ns.sum) = some d from e)
    obtain ⟨p1, v1, rfl, e2, z1, q1⟩ := rx.lst R
    obtain rfl := q1.intsOf e1
    exact ⟨p1, bs, rfl, SqL.of e2, q _ _ _ Kp.refl R (.int _)⟩
  | _ => cases e
theorem cs_tuple (hK : X.K = P.K) : CallS P X (.type "tuple") (blt1 .tuple) := by
  refine ⟨_, call_tuple_of, fun {x dx d F r t σ H Q} e R rx q => ?_⟩
  rw [hK]
  cases dx with
  | lst ds =>
    cases e
    obtain ⟨p1, v1, rfl, e2, z1, q1⟩ := rx.lst R
    exact ⟨p1, v1, rfl, .inl ⟨SqL.of e2, mkTup R z1 q1 q⟩⟩
  | tup ds =>
    cases e
    obtain ⟨p1, v1, rfl, e2, z1, q1⟩ := rx.tup R
    exact ⟨p1, v1, rfl, .inr ⟨sqT_mono R.sub e2, q _ _ _ Kp.refl R (.tup e2 z1 q1)⟩⟩
  | _ => cases e
theorem cn_list (hK : X.K = P.K) : CallN P X (.type "list") (blt1 .list) := by
  refine ⟨_, call_list_of, fun {x dx d F r t σ H Q} e R rx q => ?_⟩
  rw [hK]
  cases dx with
  | lst ds =>
    cases e
    obtain ⟨p1, v1, rfl, e2, z1, q1⟩ := rx.lst R
    refine ⟨p1, v1, rfl, .inl (SqL.of e2), fun p hp => ?_⟩
    obtain ⟨R2, k2, fr⟩ := mkNew (o := .lst v1) (d := .lst ds) R hp ⟨v1, upd_same, z1, q1⟩
    exact q _ _ _ p k2 R2 hp fr
  | tup ds =>
    cases e
    obtain ⟨p1, v1, rfl, e2, z1, q1⟩ := rx.tup R
    refine ⟨p1, v1, rfl, .inr (sqT_mono R.sub e2), fun p hp => ?_⟩
    obtain ⟨R2, k2, fr⟩ := mkNew (o := .lst v1) (d := .lst ds) R hp ⟨v1, upd_same, z1, q1⟩
    exact q _ _ _ p k2 R2 hp fr
  | _ => cases e
/-! sorted -/
theorem insI_perm (x : Int) : ∀ l : List Int, (insI x l).Perm (x :: l)
  | [] => List.Perm.refl _
  | y :: r => by
    unfold insI
    split
    · exact List.Perm.refl _
    · exact ((insI_perm x r).cons y).trans (List.Perm.swap x y r)
theorem srtI_perm : ∀ l : List Int, (srtI l).Perm l
  | [] => List.Perm.refl _
  | x :: r => (insI_perm x _).trans ((srtI_perm r).cons x)
theorem insI_sorted (x : Int) : ∀ l : List Int, l.Pairwise (· ≤ ·) → (insI x l).Pairwise (· ≤ ·)
  | [], _ => List.pairwise_singleton _ _
  | y :: r, h => by
    obtain ⟨h1, h2⟩ := List.pairwise_cons.mp h
    unfold insI
    split
    · rename_i hx
      refine List.pairwise_cons.mpr ⟨fun z hz => ?_, h⟩
      rcases List.mem_cons.mp hz with rfl | hz
      · exact hx
      · exact Int.le_trans hx (h1 z hz)
    · rename_i hx
      refine List.pairwise_cons.mpr ⟨fun z hz => ?_, insI_sorted x r h2⟩
      rcases List.mem_cons.mp ((insI_perm x r).mem_iff.mp hz) with rfl | hz
      · omega
      · exact h1 z hz
theorem srtI_sorted : ∀ l : List Int, (srtI l).Pairwise (· ≤ ·)
  | [] => List.Pairwise.nil
  | x :: r => insI_sorted x _ (srtI_sorted r)
theorem srtI_one {l m : List Int} (h : m.Perm l) (s : m.Pairwise (· ≤ ·)) : m = srtI l := PySem.W.ksm_same (h.trans (srtI_perm l).symm) s (srtI_sorted l)
theorem keys_of {F : Hp} : ∀ {kvs : List (Key × V)} {es : List (Key × D)} {ns : List Int}, RpK P.K P.T F kvs es → keysI es = some ns → kvs.map (·.1) = ns.map Sum.inl
  | _, _, ns, .nil, h => by
    cases h
    rfl
  | _, _, ns, @RpK.cons _ _ _ k v kvs d es h q, e => by
    cases k with
    | inl i =>
      obtain ⟨ms, e1, rfl⟩ := Option.map_eq_some_iff.mp (show (keysI es).map (i :: ·) = some ns from e)
      simp [keys_of q e1]
    | inr x => cases e
theorem cn_sorted (hK : X.K = P.K) (hc : X.calm = true) : CallN P X (.builtin "sorted") (blt1 .sorted) := by
  refine ⟨_, CallR.or cr_sortedI (call_sortedDI hc), fun {x dx d F r t σ H Q} e R rx q => ?_⟩
  cases dx with
  | lst ds =>
    obtain ⟨ns, e1, rfl⟩ := Option.map_eq_some_iff.mp (show (intsD ds).map (fun ns => D.lst ((srtI ns).map D.int)) = some d from e)
    obtain ⟨p1, v1, rfl, e2, z1, q1⟩ := rx.lst R
    obtain rfl := q1.intsOf e1
    refine .inl ⟨p1, ns, rfl, SqL.of e2, fun ms p h1 h2 hp => ?_⟩
    obtain rfl := srtI_one h1 h2
    obtain ⟨R2, k2, fr⟩ := mkNew (o := .lst ((srtI ns).map V.int)) (d := .lst ((srtI ns).map D.int)) R hp ⟨_, upd_same, by rw [List.length_map, (srtI_perm ns).length_eq]; simpa using z1, RpL.ofInts _⟩
    exact q _ _ _ p k2 R2 hp fr
  | dct es =>
    have e : ((keysI es).bind fun ns => if decide (ns.length < 64) then some (.lst ((srtI ns).map D.int)) else none) = some d := e
    obtain ⟨ns, e1, e2⟩ := Option.bind_eq_some_iff.mp e
    split at e2
    · rename_i hl
      cases e2
      have hl := of_decide_eq_true hl
      obtain ⟨p1, v1, rfl, e3, q1⟩ := rx.dct R
      refine .inr ⟨p1, v1, ns, rfl, .inl e3, keys_of q1 e1, hl, fun ms p h1 h2 hp => ?_⟩
      obtain rfl := srtI_one h1 h2
      obtain ⟨R2, k2, fr⟩ := mkNew (o := .lst ((srtI ns).map V.int)) (d := .lst ((srtI ns).map D.int)) R hp ⟨_, upd_same, by rw [List.length_map, (srtI_perm ns).length_eq, sizeLine_eq]; omega, RpL.ofInts _⟩
      exact q _ _ _ p k2 R2 hp fr
    · cases e2
  | _ => cases e
/-! the call itself -/
variable {x : Str} {p1 : Pos}
theorem call_form {g : D → Option D} {rr : List V → Hp → VK → Prop} (hr : ∀ {x : V} {dx d : D} {F : Hp} {r : Rho} {t : Tw} {σ : L2.St} {H : Hp} {Q : VK}, g dx = some d → RelP P F r t σ H → RpB P F r σ x dx →
      (∀ v F' H', Kp P.T F H F' H' → RelP P F' r t σ H' → Rp P.K P.T F' v d → Q v H') → rr [x] H Q) (σ : L2.St) (H : Hp) (Q : VK) (h : tD P (fun r t => (fa r t).bind fun x t1 => Fm.lift (g x) t1) σ H Q) : tCB rr (tCons (tB P fa) tNil) σ H Q := by
  obtain ⟨F, r, t, R, h⟩ := h
  refine ⟨F, r, t, R, h.bind.mono fun d t1 h v F1 H1 s1 R1 rv => ?_⟩
  obtain ⟨d2, e, q⟩ := h.lift
  exact hr e R1 rv fun v F' H' s R' h => q v F' H' (s1.trans s) R' h
theorem call_formN {g : D → Option D} {rr : List V → Hp → VK → Prop} (hr : ∀ {x : V} {dx d : D} {F : Hp} {r : Rho} {t : Tw} {σ : L2.St} {H : Hp} {Q : VK}, g dx = some d → RelP P F r t σ H → RpB P F r σ x dx →
      (∀ v F' H' p, Kp P.T F H F' H' → RelP P F' r t σ H' → H p = none → Fre P F' r σ H' v d p → Q v H') → rr [x] H Q) (σ : L2.St) (H : Hp) (Q : VK) (h : tN P (fun r t => (fa r t).bind fun x t1 => Fm.lift (g x) t1) σ H Q) : tCB rr (tCons (tB P fa) tNil) σ H Q := by
  obtain ⟨F, r, t, R, h⟩ := h
  refine ⟨F, r, t, R, h.bind.mono fun d t1 h v F1 H1 s1 R1 rv => ?_⟩
  obtain ⟨d2, e, q⟩ := h.lift
  exact hr e R1 rv fun v F' H' p s R' hp h => q v F' H' p (s1.trans s) R' (s1.had p hp) h
theorem s_callB {id : String} {g : D → Option D} (hc : CallS P X (.builtin id) g) (hg : Gl X x) (hm : X.mg x = none) (hv : bootBuiltins x = some (.builtin id)) (ha : PE X a (tB P fa)) (hn : x ≠ "__name__") (hdb : (x == ("__debug__" : Str)) = false)
    (hs : starEach [a] X.env = (false, eval a X.env) :: starEach [] X.env) : PE X (.Call (.Name x p1) [a] [] pos) (tD P fun r t => (fa r t).bind fun x t1 => Fm.lift (g x) t1) := by
  obtain ⟨rr, h1, h2⟩ := hc
  exact peMono (pe_callB h1 hg hm hv (pa_cons ha pa_nil hs) hn hdb hs) (call_form h2)
theorem s_callT {id : String} {g : D → Option D} (hc : CallS P X (.type id) g) (hg : Gl X x) (hm : X.mg x = none) (hv : bootBuiltins x = some (.type id)) (ha : PE X a (tB P fa)) (hn : x ≠ "__name__") (hdb : (x == ("__debug__" : Str)) = false)
    (hs : starEach [a] X.env = (false, eval a X.env) :: starEach [] X.env) : PE X (.Call (.Name x p1) [a] [] pos) (tD P fun r t => (fa r t).bind fun x t1 => Fm.lift (g x) t1) := by
  obtain ⟨rr, h1, h2⟩ := hc
  exact peMono (pe_callTy h1 hg hm hv (pa_cons ha pa_nil hs) hn hdb hs) (call_form h2)
theorem n_callB {id : String} {g : D → Option D} (hc : CallN P X (.builtin id) g) (hg : Gl X x) (hm : X.mg x = none) (hv : bootBuiltins x = some (.builtin id)) (ha : PE X a (tB P fa)) (hn : x ≠ "__name__") (hdb : (x == ("__debug__" : Str)) = false)
    (hs : starEach [a] X.env = (false, eval a X.env) :: starEach [] X.env) : PE X (.Call (.Name x p1) [a] [] pos) (tN P fun r t => (fa r t).bind fun x t1 => Fm.lift (g x) t1) := by
  obtain ⟨rr, h1, h2⟩ := hc
  exact peMono (pe_callB h1 hg hm hv (pa_cons ha pa_nil hs) hn hdb hs) (call_formN h2)
theorem n_callT {id : String} {g : D → Option D} (hc : CallN P X (.type id) g) (hg : Gl X x) (hm : X.mg x = none) (hv : bootBuiltins x = some (.type id)) (ha : PE X a (tB P fa)) (hn : x ≠ "__name__") (hdb : (x == ("__debug__" : Str)) = false)
    (hs : starEach [a] X.env = (false, eval a X.env) :: starEach [] X.env) : PE X (.Call (.Name x p1) [a] [] pos) (tN P fun r t => (fa r t).bind fun x t1 => Fm.lift (g x) t1) := by
  obtain ⟨rr, h1, h2⟩ := hc
  exact peMono (pe_callTy h1 hg hm hv (pa_cons ha pa_nil hs) hn hdb hs) (call_formN h2)
end
end Fm

/-! ### isinstance, dicts, names, calls of the text's own defs -/
namespace Fm
open PySem PySem.Spec PyProof.Rows L2
section
variable {P : Pm} {X : Cx} {a b c : Expr} {pos p1 p2 : Pos} {fa fb fc : Rho → Tw → Res D}
theorem tup_ty {K : PySem.W.Frag} {H : Hp} {p : Addr} {xs : List V} (h : SqT K H p xs) : TyX K H (.ref p) (.type "tuple") := by
  rcases h with (h | ⟨o, h⟩) | ⟨o, its, n, h1, h2, _⟩
  · exact .base (.tup h)
  · exact .fTuple h
  · exact .kTuple h1 h2
theorem isa_of {F : Hp} {r : Rho} {t : Tw} {σ : L2.St} {H : Hp} {x : V} {dx : D} {T : Ty} {k : Bool} (R : RelP P F r t σ H) (rx : RpB P F r σ x dx) (e : isaD dx T = some k) : ∃ t, TyX P.K H x t ∧ PySem.W.kitOne P.K t (.type T.name) = some k := by
  cases dx with
  | non =>
    cases rx.rp R (fun _ z => by cases z) (fun _ z => by cases z)
    refine ⟨_, .base .non, ?_⟩
    cases T <;> cases e <;> exact kit_ty (by decide +kernel)
  | bl z =>
    obtain rfl := rx.bl R
    refine ⟨_, .base (.bl _), ?_⟩
    cases T <;> cases e <;> exact kit_ty (by decide +kernel)
  | int z =>
    obtain rfl := rx.int R
    refine ⟨_, .base (.int _), ?_⟩
    cases T <;> cases e <;> exact kit_ty (by decide +kernel)
  | str z =>
    obtain rfl := rx.str R
    refine ⟨_, .base (.str _), ?_⟩
    cases T <;> cases e <;> exact kit_ty (by decide +kernel)
  | tup z =>
    obtain ⟨p, xs, rfl, h, _, _⟩ := rx.tup R
    refine ⟨_, tup_ty (sqT_mono R.sub h), ?_⟩
    cases T <;> cases e <;> exact kit_ty (by decide +kernel)
  | lst z =>
    obtain ⟨p, xs, rfl, h, _, _⟩ := rx.lst R
    refine ⟨_, .base (.lst h), ?_⟩
    cases T <;> cases e <;> exact kit_ty (by decide +kernel)
  | dct z =>
    obtain ⟨p, xs, rfl, h, _⟩ := rx.dct R
    refine ⟨_, .base (.dK h), ?_⟩
    cases T <;> cases e <;> exact kit_ty (by decide +kernel)
  | tok => cases T <;> cases e
  | scr => cases T <;> cases e
def Ty.nm (T : Ty) : Str := Str.ofString T.name
theorem Ty.boot (T : Ty) : bootBuiltins T.nm = some (.type T.name) := by
  cases T
  · exact PyProof.Rows.boot_int
  · exact PyProof.Rows.boot_bool
  · exact PyProof.Rows.boot_str
  · exact PyProof.Rows.boot_tuple
  · exact PyProof.Rows.boot_list
theorem s_isa (hK : X.K = P.K) {T : Ty} (hg : Gl X "isinstance") (hm : X.mg "isinstance" = none) (hgT : Gl X T.nm) (hmT : X.mg T.nm = none) (ha : PE X a (tB P fa))
    (hs : starEach [a, .Name T.nm p2] X.env = (false, eval a X.env) :: starEach [.Name T.nm p2] X.env) :
    PE X (.Call (.Name "isinstance" p1) [a, .Name T.nm p2] [] pos) (tD P fun r t => (fa r t).bind fun x t1 => Fm.lift ((isaD x T).map D.bl) t1) := by
  have hT : PE X (.Name T.nm p2) (tC (.ty T.name)) := pe_bltn hgT hmT T.boot rfl (by cases T <;> decide) (by cases T <;> decide)
  refine peMono (pe_callB call_isi hg hm PyProof.Rows.boot_isinstance (pa_cons ha (pa_cons hT pa_nil rfl) hs) (by decide) (by decide) hs (by rfl)) fun σ H Q ⟨F, r, t, R, h⟩ => ⟨F, r, t, R, h.bind.mono fun d t1 h v F1 H1 s1 R1 rv => ?_⟩
  obtain ⟨d2, e, q⟩ := h.lift
  obtain ⟨k, e1, rfl⟩ := Option.map_eq_some_iff.mp e
  obtain ⟨ty, h1, h2⟩ := isa_of R1 rv e1
  exact ⟨v, .ty T.name, ty, .type T.name, k, rfl, .ty _, by rw [hK]; exact h1, by rw [hK]; exact h2, q _ _ _ s1 R1 (.bl _)⟩
/-! ### dicts -/
theorem RpK.look {K : PySem.W.Frag} {T : Tn} {F : Hp} (k : Key) : ∀ {kvs : List (Key × V)} {es : List (Key × D)}, RpK K T F kvs es → (∃ v d, valV kvs k = some v ∧ lookD es k = some d ∧ Rp K T F v d) ∨ (valV kvs k = none ∧ lookD es k = none)
  | _, _, .nil => .inr ⟨rfl, rfl⟩
  | _, _, @RpK.cons _ _ _ k' v kvs d es h q => by
    by_cases e : k' = k
    · refine .inl ⟨v, d, valV_pos e, ?_, h⟩
      simp [lookD, List.find?_cons, e]
    · rcases RpK.look k q with ⟨v2, d2, h1, h2, h3⟩ | ⟨h1, h2⟩
      · refine .inl ⟨v2, d2, by rw [valV_neg e]; exact h1, ?_, h3⟩
        simpa [lookD, List.find?_cons, e] using h2
      · refine .inr ⟨by rw [valV_neg e]; exact h1, ?_⟩
        simpa [lookD, List.find?_cons, e] using h2
theorem RpK.any {K : PySem.W.Frag} {T : Tn} {F : Hp} (k : Key) : ∀ {kvs : List (Key × V)} {es : List (Key × D)}, RpK K T F kvs es → (kvs.any fun kv => decide (kv.1 = k)) = es.any fun kv => decide (kv.1 = k)
  | _, _, .nil => rfl
  | _, _, .cons h q => by simp only [List.any_cons, RpK.any k q]
theorem RpK.repl {K : PySem.W.Frag} {T : Tn} {F : Hp} {v : V} {d : D} (k : Key) (h : Rp K T F v d) : ∀ {kvs : List (Key × V)} {es : List (Key × D)}, RpK K T F kvs es →
    RpK K T F (kvs.map fun kv => if kv.1 = k then (kv.1, v) else kv) (es.map fun kv => if kv.1 = k then (kv.1, d) else kv)
  | _, _, .nil => .nil
  | _, _, @RpK.cons _ _ _ k' v' kvs d' es h' q => by
    simp only [List.map_cons]
    by_cases e : k' = k
    · rw [if_pos e, if_pos e]
      exact .cons h (RpK.repl k h q)
    · rw [if_neg e, if_neg e]
      exact .cons h' (RpK.repl k h q)
theorem RpK.snoc {K : PySem.W.Frag} {T : Tn} {F : Hp} {v : V} {d : D} (k : Key) (h : Rp K T F v d) : ∀ {kvs : List (Key × V)} {es : List (Key × D)}, RpK K T F kvs es → RpK K T F (kvs ++ [(k, v)]) (es ++ [(k, d)])
  | _, _, .nil => .cons h .nil
  | _, _, .cons h' q => .cons h' (RpK.snoc k h q)
theorem RpK.put {K : PySem.W.Frag} {T : Tn} {F : Hp} {v : V} {d : D} (k : Key) (h : Rp K T F v d) {kvs : List (Key × V)} {es : List (Key × D)} (q : RpK K T F kvs es) : RpK K T F (L2.putK kvs k v) (putD es k d) := by
  unfold L2.putK putD
  rw [q.any k]
  split
  · exact q.repl k h
  · exact q.snoc k h
theorem key_of' {F : Hp} {r : Rho} {t : Tw} {σ : L2.St} {H : Hp} {x : V} {dx : D} {k : Key} (R : RelP P F r t σ H) (rx : RpB P F r σ x dx) (e : keyD dx = some k) : x = kV k := by
  cases dx with
  | int i =>
    cases e
    exact rx.int R
  | str i =>
    cases e
    exact rx.str R
  | _ => cases e
theorem s_dix (hu : X.A.units + 200 < cLine) (ha : PE X a (tB P fa)) (hb : PE X b (tB P fb)) (hs : PlainIx b) : PE X (.Subscript a b pos) (tD P fun r t => (fa r t).bind fun x t1 => (fb r t1).bind fun y t2 => Fm.lift (dixD x y) t2) := by
  refine peMono (pe_dget (by omega) ha hb hs) fun σ H Q h => op2 (P := P) (rr := fun x y H2 Q => ∃ a v, x = .ref a ∧ DGet H2 a y (some v) ∧ Q v H2) (fun {x y dx dy d F r t σ H Q} e R rx ry q => ?_) σ H Q h
  cases dx with
  | dct es =>
    obtain ⟨k, e1, e2⟩ := Option.bind_eq_some_iff.mp (show ((keyD dy).bind fun k => lookD es k) = some d from e)
    obtain ⟨p, kvs, rfl, h1, h2⟩ := rx.dct R
    obtain rfl := key_of' R ry e1
    rcases h2.look k with ⟨v, d2, h3, h4, h5⟩ | ⟨h3, h4⟩
    · rw [e2] at h4
      cases h4
      exact ⟨p, v, rfl, h3 ▸ DGet.k h1, q _ _ _ Kp.refl R h5⟩
    · rw [e2] at h4
      cases h4
  | _ => cases e
def getE (fa fb fc : Rho → Tw → Res D) (r : Rho) (t : Tw) : Res D := (fa r t).bind fun x t1 => match x with
    | .dct kvs => (fb r t1).bind fun y t2 => (fc r t2).bind fun z t3 => (match keyD y with
      | some k => .ok ((lookD kvs k).getD z) t3
      | none => .bad)
    | _ => .bad
theorem s_get (hu : X.A.units + 200 < cLine) (ha : PE X a (tB P fa)) (hb : PE X b (tB P fb)) (hc : PE X c (tD P fc)) (m : M2 X a "get" p1 b c pos) : PE X (.Call (.Attribute a "get" p1) [b, c] [] pos) (tD P (getE fa fb fc)) := by
  refine peMono (pe_dget2 (by omega) ha hb hc m) fun σ H Q ⟨F, r, t, R, h⟩ => ⟨F, r, t, R, h.bind.mono fun dx t1 h v F1 H1 s1 R1 rx => ?_⟩
  cases dx with
  | dct es =>
    obtain ⟨p, kvs, rfl, h1, h2⟩ := rx.dct R1
    have h : Aft P F ((fb r t1).bind fun y t2 => (fc r t2).bind fun z t3 => (match keyD y with
      | some k => .ok ((lookD es k).getD z) t3
      | none => .bad)) _ := h
    refine ⟨p, rfl, .inl ⟨kvs, .inl h1⟩, F1, r, t1, R1, (h.up s1.1).bind.mono fun dy t2 h w F2 H2 s2 R2 ry => ⟨F2, r, t2, R2, (h.up s2.1).bind.mono fun dz t3 h u F3 H3 s3 R3 rz => ?_⟩⟩
    cases e : keyD dy with
    | none =>
      rw [e] at h
      exact h.elim
    | some k =>
      rw [e] at h
      have h : ∀ v F' H', Kp P.T F H F' H' → RelP P F' r t3 σ H' → Rp P.K P.T F' v ((lookD es k).getD dz) → Q v H' := h
      obtain ⟨p', kvs', e1, h1', h2'⟩ := (rx.mono (s2.trans s3).1).dct R3
      cases e1
      obtain rfl := key_of' R3 (ry.mono s3.1) e
      refine ⟨_, DGet.k h1', h _ _ _ (s1.trans (s2.trans s3)) R3 ?_⟩
      rcases h2'.look k with ⟨v, d2, h3, h4, h5⟩ | ⟨h3, h4⟩
      · rw [h3, h4]
        exact h5
      · rw [h3, h4]
        exact rz
  | _ => exact (show False from h).elim
/-! ### a dict of written texts and constants -/
def Cst.v : Cst → V
  | .non => .non
  | .bl b => .bl b
  | .int i => .int i
  | .str x => .str x
theorem Cst.rp {K : PySem.W.Frag} {T : Tn} {F : Hp} (c : Cst) : Rp K T F c.v c.d := by
  cases c
  · exact .non
  · exact .bl _
  · exact .int _
  · exact .str _
def Cst.k : Cst → Const
  | .non => .none
  | .bl b => .bool b
  | .int i => .int i
  | .str x => .str x
theorem pe_cst {k : Cst} {j : Nat} : PE X (.Constant k.k j pos) (tC k.v) := by
  cases k
  · exact pe_non
  · exact pe_bl
  · exact pe_int
  · exact pe_str
theorem s_cst {k : Cst} {j : Nat} : PE X (.Constant k.k j pos) (tD P fun _ t => .ok k.d t) := peMono pe_cst fun σ H Q ⟨F, r, t, R, q⟩ => q _ _ _ Kp.refl R k.rp
/-- keys and values as they are written -/
inductive DspIs : List (Str × Cst) → List (Option Expr) → List Expr → Prop
  | nil : DspIs [] [] []
  | cons {x : Str} {c : Cst} {kvs : List (Str × Cst)} {ks : List (Option Expr)} {vs : List Expr} {j j' : Nat} {q q' : Pos} : DspIs kvs ks vs → DspIs ((x, c) :: kvs) (some (.Constant (.str x) j q) :: ks) (.Constant c.k j' q' :: vs)
theorem DspIs.pps {kvs : List (Str × Cst)} {ks : List (Option Expr)} {vs : List Expr} (h : DspIs kvs ks vs) : PPs X pos ks vs (kvs.map fun p => (tC (.str p.1), tC p.2.v)) := by
  induction h with
  | nil => exact pps_nil
  | cons h ih => exact pps_cons pe_str pe_cst ih
theorem DspIs.all {kvs : List (Str × Cst)} {ks : List (Option Expr)} {vs : List Expr} (h : DspIs kvs ks vs) : ks.all (·.isSome) = true ∧ ks.length = kvs.length ∧ vs.length = kvs.length := by
  induction h with
  | nil => exact ⟨rfl, rfl, rfl⟩
  | cons h ih => exact ⟨by simp [ih.1], by simp [ih.2.1], by simp [ih.2.2]⟩
theorem tPairs_cst {σ : L2.St} {H : Hp} : ∀ {kvs : List (Str × Cst)} {Q : List (V × V) → Hp → Prop}, Q (kvs.map fun p => (V.str p.1, p.2.v)) H → tPairs (kvs.map fun p => (tC (.str p.1), tC p.2.v)) σ H Q
  | [], _, h => h
  | p :: r, Q, h => tPairs_cst (kvs := r) (Q := fun ps H3 => Q ((V.str p.1, p.2.v) :: ps) H3) h
theorem merge_rel {K : PySem.W.Frag} {T : Tn} {F : Hp} : ∀ {l : List (Str × Cst)} {kvs : List (Key × V)} {es : List (Key × D)}, RpK K T F kvs es →
    RpK K T F (mergeK kvs (l.map fun p => (Sum.inr p.1, p.2.v))) (mergeD es (l.map fun p => (p.1, p.2.d)))
  | [], _, _, q => q
  | p :: r, _, _, q => merge_rel (l := r) (q.put (Sum.inr p.1) p.2.rp)
theorem n_dsp {kvs : List (Str × Cst)} {ks : List (Option Expr)} {vs : List Expr} (h : DspIs kvs ks vs) : PE X (.Dict ks vs pos) (tN P fun _ t => if decide (kvs.length ≤ 15) then .ok (.dct (mergeD [] (kvs.map fun p => (p.1, p.2.d)))) t else .bad) := by
  obtain ⟨a1, a2, a3⟩ := h.all
  by_cases hl : kvs.length ≤ 15
  · obtain rfl | hne : kvs = [] ∨ kvs ≠ [] := by
      cases kvs with
      | nil => exact .inl rfl
      | cons => exact .inr (List.cons_ne_nil _ _)
    · cases h
      refine peMono pe_dnewK fun σ H Q ⟨F, r, t, R, q⟩ p hp => ?_
      have q : ∀ v F' H' p, Kp P.T F H F' H' → RelP P F' r t σ H' → H p = none → Fre P F' r σ H' v (.dct []) p → Q v H' := q
      obtain ⟨R2, k2, fr⟩ := mkNew (o := .dK []) (d := .dct []) R hp ⟨[], upd_same, Nat.zero_le _, .nil⟩
      exact q _ _ _ p k2 R2 hp fr
    · have h0 : ks ≠ [] := fun e => hne (List.length_eq_zero_iff.mp (by rw [← a2, e]; rfl))
      refine peMono (pe_disp h.pps a1 (a2.trans a3.symm) h0 (by rw [a2]; exact hl)) fun σ H Q ⟨F, r, t, R, q⟩ p hp => ?_
      dsimp only at q
      rw [decide_eq_true hl] at q
      have q : ∀ v F' H' p, Kp P.T F H F' H' → RelP P F' r t σ H' → H p = none → Fre P F' r σ H' v (.dct (mergeD [] (kvs.map fun p => (p.1, p.2.d)))) p → Q v H' := q
      refine tPairs_cst ⟨upd_same, kvs.map (fun p => (Sum.inr p.1, p.2.v)), by simp [kV], by simpa using hl, ?_⟩
      rw [upd_upd]
      obtain ⟨R2, k2, fr⟩ := mkNew (o := .dK (mergeK [] (kvs.map fun p => (Sum.inr p.1, p.2.v)))) (d := .dct (mergeD [] (kvs.map fun p => (p.1, p.2.d)))) R hp
        ⟨_, upd_same, by have := length_mergeK (kvs.map fun p => (Sum.inr p.1, p.2.v)) []; rw [sizeLine_eq]; simp at this; omega, merge_rel .nil⟩
      exact q _ _ _ p k2 R2 hp fr
  · exact peMono (t := fun _ _ _ => False) ⟨fun _ _ _ _ _ _ z => False.elim z⟩ fun σ H Q ⟨F, r, t, R, q⟩ => by
      dsimp only at q
      rw [decide_eq_false hl] at q
      exact q
/-! ### names -/
theorem s_var {i : Nat} {x : Str} (hN : X.N[i]? = some x) (hv : Vis X.env.scope x) (hd : (x == ("__debug__" : Str)) = false) (hcd : (x == ("__classdict__" : Str)) = false) :
    PE X (.Name x pos) (tD P fun r t => match r[i]? with
      | some (.val d) => .ok d t
      | _ => .bad) := by
  refine peMono (pe_var hN hv hd hcd) fun σ H Q ⟨F, r, t, R, q⟩ => ?_
  dsimp only at q
  cases e : r[i]? with
  | none =>
    rw [e] at q
    exact q.elim
  | some s =>
    rw [e] at q
    cases s with
    | val d =>
      obtain ⟨v, e1, h⟩ := R.val i d e
      exact ⟨v, e1, q v F H Kp.refl R h⟩
    | _ => exact q.elim
theorem b_var {i : Nat} {x : Str} (hN : X.N[i]? = some x) (hv : Vis X.env.scope x) (hd : (x == ("__debug__" : Str)) = false) (hcd : (x == ("__classdict__" : Str)) = false) :
    PE X (.Name x pos) (tB P fun r t => match r[i]? with
      | some (.val d) => .ok d t
      | some (.own d) => .ok d t
      | _ => .bad) := by
  refine peMono (pe_var hN hv hd hcd) fun σ H Q ⟨F, r, t, R, q⟩ => ?_
  dsimp only at q
  cases e : r[i]? with
  | none =>
    rw [e] at q
    exact q.elim
  | some s =>
    rw [e] at q
    cases s with
    | val d =>
      obtain ⟨v, e1, h⟩ := R.val i d e
      exact ⟨v, e1, q v F H Kp.refl R (.inl h)⟩
    | own d =>
      obtain ⟨p, e1, h⟩ := R.own i d e
      exact ⟨_, e1, q _ F H Kp.refl R (.inr ⟨i, e, e1⟩)⟩
    | _ => exact q.elim
theorem s_glob {x : Str} {v : V} {u : Value} {d : D} (hg : Gl X x) (hm : X.mg x = some u) (rv : RelV v u) (h : Rp P.K P.T (fun _ => none) v d) (hd : (x == ("__debug__" : Str)) = false) : PE X (.Name x pos) (tD P fun _ t => .ok d t) :=
  peMono (pe_glob hg hm rv hd) fun σ H Q ⟨F, r, t, R, q⟩ => q v F H Kp.refl R (h.mono fun _ _ z => by cases z)
end
end Fm

/-! ### targets, what is walked, comprehensions -/
namespace Fm
open PySem PySem.Spec PyProof.Rows L2
/-- only these slots have changed -/
def Chg (is : List Nat) (σ σ' : L2.St) : Prop := σ'.length = σ.length ∧ ∀ j, j ∉ is → σ'[j]? = σ[j]?
mutual
def Tg.slots : Tg → List Nat
  | .name i => [i]
  | .tup ts => ts.slots
def Tgs.slots : Tgs → List Nat
  | .nil => []
  | .cons t ts => t.slots ++ ts.slots
end
theorem Chg.refl {is : List Nat} {σ : L2.St} : Chg is σ σ := ⟨rfl, fun _ _ => rfl⟩
theorem Chg.trans {is js : List Nat} {σ σ1 σ2 : L2.St} (a : Chg is σ σ1) (b : Chg js σ1 σ2) : Chg (is ++ js) σ σ2 :=
  ⟨b.1.trans a.1, fun j h => (b.2 j fun z => h (List.mem_append_right _ z)).trans (a.2 j fun z => h (List.mem_append_left _ z))⟩
theorem wipe_get (σ : L2.St) (j : Nat) : ∀ vs : List Nat, (wipe σ vs)[j]? = if j ∈ vs ∧ j < σ.length then some none else σ[j]?
  | [] => by simp [wipe]
  | v :: vs => by
    unfold wipe
    rw [List.getElem?_set, wipe_get σ j vs, wipe_length]
    by_cases h : v = j
    · subst h
      by_cases hl : v < σ.length
      · simp [hl]
      · simp [hl]
    · simp [h, Ne.symm h]
theorem Chg.wipe {is vs : List Nat} {σ σ' : L2.St} (c : Chg is σ σ') (h : ∀ i ∈ is, i ∈ vs) : wipe σ' vs = wipe σ vs := by
  refine List.ext_getElem? fun j => ?_
  rw [wipe_get, wipe_get, c.1]
  by_cases hj : j ∈ vs
  · by_cases hl : j < σ.length
    · simp [hj, hl]
    · simp only [hj, hl, and_false, if_false]
      rw [List.getElem?_eq_none (by rw [c.1]; omega), List.getElem?_eq_none (by omega)]
  · simp only [hj, false_and, if_false]
    exact c.2 j fun z => hj (h j z)
section
variable {P : Pm} {X : Cx} {a b c : Expr} {pos p1 p2 : Pos} {fa fb fc : Rho → Tw → Res D}
def gT (P : Pm) (tg : Tg) : TG := fun v σ H Q => ∃ F r t d r', RelP P F r t σ H ∧ Rp P.K P.T F v d ∧ setT tg d r = some r' ∧ ∀ σ', RelP P F r' t σ' H → Chg tg.slots σ σ' → Q σ' H
def gTs (P : Pm) (ts : Tgs) : TGs := fun vs σ H Q => ∃ F r t ds r', RelP P F r t σ H ∧ RpL P.K P.T F vs ds ∧ setTs ts ds r = some r' ∧ ∀ σ', RelP P F r' t σ' H → Chg ts.slots σ σ' → Q σ' H
theorem pgMono {tg : Expr} {t u : TG} (h : PG X tg t) (i : ∀ v σ H Q, u v σ H Q → t v σ H Q) : PG X tg u := ⟨fun pins s σ H v w Q I r q => h.run pins s σ H v w Q I r (i v σ H Q q)⟩
theorem pgsMono {tg : List Expr} {t u : TGs} (h : PGs X tg t) (i : ∀ v σ H Q, u v σ H Q → t v σ H Q) : PGs X tg u := ⟨fun pins s σ H v w Q I r q => h.run pins s σ H v w Q I r (i v σ H Q q)⟩
theorem g_name {i : Nat} {x : Str} (hN : X.N.Nodup) (hi : X.N[i]? = some x) (hx : Loc X.env.scope x) (hf : X.fn x = true ∨ X.env.scope.names.lookup x = some .local) : PG X (.Name x pos) (gT P (.name i)) := by
  refine pgMono (pg_name hN hi hx hf) fun v σ H Q ⟨F, r, t, d, r', R, rv, e, q⟩ => ?_
  simp only [setT] at e
  split at e
  · cases e
    refine q _ (R.setVal rv) ⟨by simp, fun j h => ?_⟩
    exact List.getElem?_set_ne (fun z => h (by simp [Tg.slots, z]))
  · cases e
theorem g_nil : PGs X [] (gTs P .nil) := pgsMono pgs_nil fun v σ H Q ⟨F, r, t, ds, r', R, rv, e, q⟩ => by
  cases rv with
  | nil =>
    cases e
    exact ⟨rfl, q σ R Chg.refl⟩
  | cons _ _ => cases e
theorem g_cons {e : Expr} {es : List Expr} {tg : Tg} {ts : Tgs} (h1 : PG X e (gT P tg)) (h2 : PGs X es (gTs P ts)) (hs : (assignEach (e :: es) X.env).map (·.2) = assign e X.env :: (assignEach es X.env).map (·.2)) : PGs X (e :: es) (gTs P (.cons tg ts)) :=
  pgsMono (pgs_cons h1 h2 hs) fun v σ H Q ⟨F, r, t, ds, r', R, rv, e, q⟩ => by
    cases rv with
    | nil => cases e
    | @cons v vs d ds h hr =>
      obtain ⟨r1, e1, e2⟩ := Option.bind_eq_some_iff.mp (show ((setT tg d r).bind fun r1 => setTs ts ds r1) = some r' from e)
      exact ⟨v, vs, rfl, F, r, t, d, r1, R, h, e1, fun σ1 R1 c1 => ⟨F, r1, t, ds, r', R1, hr, e2, fun σ2 R2 c2 => q σ2 R2 (c1.trans c2)⟩⟩
theorem setTs_len : ∀ {ts : Tgs} {ds : List D} {r r' : Rho}, setTs ts ds r = some r' → ∀ {n : Nat}, (∀ ds r r', setTs ts ds r = some r' → ds.length = n) → ds.length = n := fun h n k => k _ _ _ h
def Tgs.count : Tgs → Nat
  | .nil => 0
  | .cons _ ts => ts.count + 1
theorem setTs_count : ∀ {ts : Tgs} {ds : List D} {r r' : Rho}, setTs ts ds r = some r' → ds.length = ts.count
  | .nil, [], _, _, _ => rfl
  | .nil, _ :: _, _, _, h => by cases h
  | .cons _ _, [], _, _, h => by cases h
  | .cons t ts, d :: ds, r, r', h => by
    obtain ⟨r1, e1, e2⟩ := Option.bind_eq_some_iff.mp (show ((setT t d r).bind fun r1 => setTs ts ds r1) = some r' from h)
    show ds.length + 1 = ts.count + 1
    rw [setTs_count e2]
theorem g_tup {es : List Expr} {k : Nat} {ts : Tgs} (hK : X.K = P.K) (hc : X.calm = true) (h : PGs X es (gTs P ts)) (hn : (assignEach es X.env).length = ts.count) (hst : (assignEach es X.env).findIdx? (·.1) = none) :
    PG X (.Tuple es k pos) (gT P (.tup ts)) :=
  pgMono (pg_tup hc h hn hst) fun v σ H Q ⟨F, r, t, d, r', R, rv, e, q⟩ => by
    cases d with
    | tup ds =>
      cases rv with
      | @tup p xs ds h1 z h2 =>
        have e : setTs ts ds r = some r' := by simpa only [setT] using e
        rw [hK]
        exact ⟨p, xs, rfl, sqT_mono R.sub h1, by rw [h2.length]; exact setTs_count e, F, r, t, ds, r', R, h2, e, q⟩
    | _ => simp [setT] at e
/-! ### what is walked -/
structure WD (P : Pm) (J : It) (G : Hp → Prop) (F : Hp) (ds : List D) : Prop where
  goes : ∀ i H, i < ds.length → G H → J.go i H
  stops : ∀ H, G H → J.stop ds.length H
  yields : ∀ i H x H' d, ds[i]? = some d → G H → J.yld i H x H' → (H' = H ∧ Rp P.K P.T F x d) ∨ ∃ p xs es, x = .ref p ∧ H p = none ∧ H' = upd H p (.tup xs) ∧ d = .tup es ∧ xs.length ≤ sizeLine ∧ RpL P.K P.T F xs es
def keepG (P : Pm) (F H : Hp) (H2 : Hp) : Prop := Same F H2 ∧ ∀ a o, H a = some o → a ≠ P.T.a → a ≠ P.T.b → H2 a = some o
/-- G: what must stand while it is walked -/
def tI (P : Pm) (fz : Bool) (f : Rho → Tw → Res (List D)) : TI := fun σ H Q => ∃ F r t, RelP P F r t σ H ∧ Aft P F (f r t) fun ds t' => ∀ J F' H', Kp P.T F H F' H' → RelP P F' r t' σ H' →
  WD P J (if fz then Same F' else keepG P F' H') F' ds → Q J H'
theorem piMono {tg e : Expr} {t u : TI} (h : PI X tg e t) (i : ∀ σ H Q, u σ H Q → t σ H Q) : PI X tg e u := ⟨fun pins s σ H Q I q => h.run pins s σ H Q I (i σ H Q q)⟩
theorem WD.weak {J : It} {G G' : Hp → Prop} {F : Hp} {ds : List D} (w : WD P J G F ds) (h : ∀ H, G' H → G H) : WD P J G' F ds :=
  ⟨fun i H hi g => w.goes i H hi (h H g), fun H g => w.stops H (h H g), fun i H x H' d e g y => w.yields i H x H' d e (h H g) y⟩
theorem WD.fz {J : It} {F H : Hp} {ds : List D} (w : WD P J (Same F) F ds) (b : Bool) : WD P J (if b then Same F else keepG P F H) F ds := by
  cases b
  · exact w.weak fun H g => g.1
  · exact w
/-- a list, a tuple, a text -/
theorem pi_seq {tg : Expr} {tl : TE} (hl : PE X a tl) : PI X tg a (fun σ H R => tl σ H fun x H1 => (∃ p, x = .ref p ∧ (∃ xs, SqL X.K H1 p xs) ∧ R (Itl X.K p) H1) ∨ (∃ p, x = .ref p ∧ (∃ xs, SqT X.K H1 p xs) ∧ R (Itt X.K p) H1) ∨ ∃ z, x = .str z ∧ R (Its z) H1) := by
  constructor
  intro pins s σ H R I h
  have run := hl.run pins s σ H _ I h
  refine thn run fun v s1 ⟨_, H1, I1, rel, q⟩ => ?_
  rcases q with ⟨p, rfl, ⟨_, seq⟩, q⟩ | ⟨p, rfl, ⟨_, seq⟩, q⟩ | ⟨z, rfl, q⟩
  · cases rel
    have ⟨_, _, l, _⟩ := I1.list seq
    exact wpAny_pyIter_list l.isList (pi_one (tk := s1.toks) I1 _ (turn_list p _) ⟨_, Heap.get?_push_size _ rfl, rfl, rfl⟩ q)
  · cases rel
    have ⟨_, _, t, _⟩ := I1.tuple seq
    exact wpAny_pyIter_tuple t (pi_one (tk := s1.toks) I1 _ (turn_tuple p _) ⟨_, Heap.get?_push_size _ rfl, rfl, rfl⟩ q)
  · obtain ⟨t, rfl⟩ := rel
    cases narrow : z.cps.all (· < 128)
    · exact wpAny_pyIter_wide narrow (pi_one (tk := s1.toks) I1 _ (turn_str _ z t "str_iterator" (.inr rfl)) ⟨_, Heap.get?_push_size _ rfl, rfl, rfl⟩ q)
    · exact wpAny_pyIter_ascii narrow (pi_one (tk := s1.toks) I1 _ (turn_str _ z t "str_ascii_iterator" (.inl rfl)) ⟨_, Heap.get?_push_size _ rfl, rfl, rfl⟩ q)
theorem wd_at {J : It} {n : Nat} {G : Hp → Prop} {F : Hp} {xs : List V} {ds : List D} (w : Walk J xs.length G (YAt xs)) (q : RpL P.K P.T F xs ds) : WD P J G F ds := by
  refine ⟨fun i H hi g => w.goes i H (by rw [q.length]; exact hi) g, fun H g => by rw [← q.length]; exact w.stops H g, fun i H x H' d e g y => .inl ?_⟩
  obtain ⟨v, e1, r1⟩ := q.get e
  have hi : i < xs.length := (List.getElem?_eq_some_iff.mp e1).1
  obtain ⟨h1, h2⟩ := w.yields i H x H' hi g y
  rw [e1] at h2
  cases h2
  exact ⟨h1, r1⟩
theorem wd_lst {F : Hp} {p : Addr} {xs : List V} {ds : List D} {K : PySem.W.Frag} (hK : K = P.K) (h : F p = some (.lst xs)) (q : RpL P.K P.T F xs ds) : WD P (Itl K p) (Same F) F ds :=
  wd_at (n := 0) (walk_list.mono (fun H g => SqL.of (g _ _ h)) fun i H x H' _ _ y => y) q
theorem wd_lstO {F H : Hp} {p : Addr} {xs : List V} {ds : List D} {K : PySem.W.Frag} (hK : K = P.K) (h : H p = some (.lst xs)) (n1 : p ≠ P.T.a) (n2 : p ≠ P.T.b) (q : RpL P.K P.T F xs ds) : WD P (Itl K p) (keepG P F H) F ds :=
  wd_at (n := 0) (walk_list.mono (fun H g => SqL.of (g.2 _ _ h n1 n2)) fun i H x H' _ _ y => y) q
theorem wd_tup {F : Hp} {p : Addr} {xs : List V} {ds : List D} {K : PySem.W.Frag} (hK : K = P.K) (h : SqT K F p xs) (q : RpL P.K P.T F xs ds) : WD P (Itt K p) (Same F) F ds :=
  wd_at (n := 0) (walk_tup.mono (fun H g => sqT_mono g h) fun i H x H' _ _ y => y) q
theorem wd_str {F : Hp} {z : Str} : WD P (Its z) (Same F) F (strD z) := by
  have hl : (strD z).length = z.cps.size := by simp [strD]
  have w := walk_str (z := z)
  refine ⟨fun i H hi g => w.goes i H (by rw [← hl]; exact hi) trivial, fun H g => by rw [hl]; exact w.stops H trivial, fun i H x H' d e g y => .inl ?_⟩
  have hi : i < z.cps.size := by
    rw [← hl]
    exact (List.getElem?_eq_some_iff.mp e).1
  obtain ⟨h1, c, h2, rfl⟩ := w.yields i H x H' hi trivial y
  refine ⟨h1, ?_⟩
  have e2 : (strD z)[i]? = some (.str ⟨#[c]⟩) := by
    unfold strD
    rw [List.getElem?_map, Array.getElem?_toList, h2]
    rfl
  rw [e2] at e
  cases e
  exact .str _
def evV (f : Rho → Tw → Res D) (r : Rho) (t : Tw) : Res (List D) := (f r t).bind fun x t1 => match x with
    | .tup xs => .ok xs t1
    | .lst xs => .ok xs t1
    | .str x => .ok (strD x) t1
    | _ => .bad
theorem i_val {tg : Expr} (hK : X.K = P.K) (ha : PE X a (tD P fa)) : PI X tg a (tI P true (evV fa)) := piMono (pi_seq ha) fun σ H Q ⟨F, r, t, R, h⟩ => ⟨F, r, t, R, h.bind.mono fun d t' h v F' H' s R' rv => by
  cases d with
  | tup ds =>
    cases rv with
    | @tup p xs ds h1 z h2 => exact .inr (.inl ⟨p, rfl, ⟨xs, by rw [hK]; exact sqT_mono R'.sub h1⟩, h _ _ _ s R' (wd_tup hK (by rw [hK]; exact h1) h2)⟩)
  | lst ds =>
    cases rv with
    | @lst p xs ds h1 z h2 => exact .inl ⟨p, rfl, ⟨xs, SqL.of (R'.sub _ _ h1)⟩, h _ _ _ s R' (wd_lst hK h1 h2)⟩
  | str z =>
    cases rv
    exact .inr (.inr ⟨z, rfl, h _ _ _ s R' wd_str⟩)
  | _ => exact (show False from h).elim⟩
theorem i_bor {tg : Expr} (hK : X.K = P.K) (ha : PE X a (tB P fa)) : PI X tg a (tI P false (evV fa)) := piMono (pi_seq ha) fun σ H Q ⟨F, r, t, R, h⟩ => ⟨F, r, t, R, h.bind.mono fun d t' h v F' H' s R' rv => by
  cases d with
  | tup ds =>
    obtain ⟨p, xs, rfl, h1, z, h2⟩ := rv.tup R'
    exact .inr (.inl ⟨p, rfl, ⟨xs, by rw [hK]; exact sqT_mono R'.sub h1⟩, h _ _ _ s R' ((wd_tup hK (by rw [hK]; exact h1) h2).fz false)⟩)
  | lst ds =>
    obtain ⟨p, xs, rfl, h1, z, h2⟩ := rv.lst R'
    have n1 : p ≠ P.T.a := fun e => by
      rw [e, R'.tw.a] at h1
      cases h1
    have n2 : p ≠ P.T.b := fun e => by
      rw [e, R'.tw.b] at h1
      cases h1
    exact .inl ⟨p, rfl, ⟨xs, SqL.of h1⟩, h _ _ _ s R' (wd_lstO hK h1 n1 n2 h2)⟩
  | str z =>
    obtain rfl := rv.str R'
    exact .inr (.inr ⟨z, rfl, h _ _ _ s R' (wd_str.fz false)⟩)
  | _ => exact (show False from h).elim⟩
theorem wd_rng {F : Hp} {lo : Int} {n : Nat} : WD P (Itr lo n) (Same F) F (rngD lo n) := by
  have hl : (rngD lo n).length = n := by simp [rngD]
  refine ⟨fun i H hi g => (by rw [hl] at hi; exact hi), fun H g => (by rw [hl]; exact Nat.le_refl _), fun i H x H' d e g y => .inl ?_⟩
  obtain ⟨h1, h2⟩ := y
  refine ⟨h1, ?_⟩
  have hi : i < n := by
    rw [← hl]
    exact (List.getElem?_eq_some_iff.mp e).1
  have e2 : (rngD lo n)[i]? = some (.int (lo + (i : Nat))) := by
    unfold rngD
    rw [List.getElem?_map, List.getElem?_range hi]
    rfl
  rw [e2] at e
  cases e
  rw [h2]
  exact .int _
theorem okRng_of {i : Int} (h : okRng i = true) : -(2 ^ 62) ≤ i ∧ i < 2 ^ 62 := by
  have := Bool.and_eq_true_iff.mp h
  exact ⟨of_decide_eq_true this.1, of_decide_eq_true this.2⟩
theorem i_rng1 {tg : Expr} {fz : Bool} (hg : Gl X "range") (hm : X.mg "range" = none) (ha : PE X a (tB P fa)) (hs : starEach [a] X.env = (false, eval a X.env) :: starEach [] X.env) :
    PI X tg (.Call (.Name "range" p1) [a] [] pos) (tI P fz fun r t => (fa r t).bind fun x t1 => match x with
    | .int j => if okRng j then .ok (rngD 0 j.toNat) t1 else .bad
    | _ => .bad) := piMono (pi_range1 hg hm (pa_cons ha pa_nil hs) hs) fun σ H Q ⟨F, r, t, R, h⟩ => ⟨F, r, t, R, h.bind.mono fun d t' h v F' H' s R' rv => by
  cases d with
  | int j =>
    have h : Aft P F (if okRng j then .ok (rngD 0 j.toNat) t' else .bad) _ := h
    split at h
    · rename_i hr
      obtain ⟨h1, h2⟩ := okRng_of hr
      exact ⟨j, by rw [rv.int R'], h1, h2, h _ _ _ s R' (wd_rng.fz fz)⟩
    · exact h.elim
  | _ => exact (show False from h).elim⟩
theorem i_rng2 {tg : Expr} {fz : Bool} (hg : Gl X "range") (hm : X.mg "range" = none) (ha : PE X a (tB P fa)) (hb : PE X b (tB P fb)) (hs : starEach [a, b] X.env = (false, eval a X.env) :: starEach [b] X.env) (hs2 : starEach [b] X.env = (false, eval b X.env) :: starEach [] X.env) :
    PI X tg (.Call (.Name "range" p1) [a, b] [] pos) (tI P fz fun r t => (fa r t).bind fun x t1 => (fb r t1).bind fun y t2 => match x, y with
    | .int i, .int j => if okRng i && okRng j then .ok (rngD i (j - i).toNat) t2 else .bad
    | _, _ => .bad) := piMono (pi_range2 hg hm (pa_cons ha (pa_cons hb pa_nil hs2) hs) (hs.trans (by rw [hs2]; rfl)) hs2) fun σ H Q ⟨F, r, t, R, h⟩ => ⟨F, r, t, R, h.bind.mono fun dx t1 h v F1 H1 s1 R1 rx => ⟨F1, r, t1, R1, (h.up s1.1).bind.mono fun dy t2 h w F2 H2 s2 R2 ry => by
  cases dx with
  | int i =>
    cases dy with
    | int j =>
      have h : Aft P F1 (if okRng i && okRng j then .ok (rngD i (j - i).toNat) t2 else .bad) _ := h
      split at h
      · rename_i hr
        have hr := Bool.and_eq_true_iff.mp hr
        obtain ⟨h1, h2⟩ := okRng_of hr.1
        obtain ⟨h3, h4⟩ := okRng_of hr.2
        exact ⟨i, j, by rw [rx.int R1, ry.int R2], ⟨h1, h2, h3, h4⟩, h _ _ _ (s1.trans s2) R2 (wd_rng.fz fz)⟩
      · exact h.elim
    | _ => exact (show False from h).elim
  | _ => exact (show False from h).elim⟩⟩
/-! zip, enumerate -/
theorem zipD_len : ∀ xs ys : List D, (zipD xs ys).length = min xs.length ys.length
  | [], ys => by simp [zipD]
  | _ :: _, [] => by simp [zipD]
  | x :: xs, y :: ys => by
    simp only [zipD, List.length_cons, zipD_len xs ys]
    omega
theorem zipD_get : ∀ {xs ys : List D} {i : Nat} {d : D}, (zipD xs ys)[i]? = some d → ∃ a b, xs[i]? = some a ∧ ys[i]? = some b ∧ d = .tup [a, b]
  | [], ys, i, d, h => by simp [zipD] at h
  | _ :: _, [], i, d, h => by simp [zipD] at h
  | x :: xs, y :: ys, 0, d, h => by
    simp only [zipD, List.getElem?_cons_zero, Option.some.injEq] at h
    exact ⟨x, y, rfl, rfl, h.symm⟩
  | x :: xs, y :: ys, i + 1, d, h => by
    simp only [zipD, List.getElem?_cons_succ] at h
    obtain ⟨a, b, h1, h2, h3⟩ := zipD_get h
    exact ⟨a, b, by simpa using h1, by simpa using h2, h3⟩
theorem two_line : (2 : Nat) ≤ sizeLine := by
  rw [sizeLine_eq]
  decide
theorem wd_pair {J : It} {n : Nat} {G : Hp → Prop} {F : Hp} {ds : List D} {f g : Nat → Option V} (w : Walk J n G (YPair f g)) (hl : ds.length = n)
    (h : ∀ i d, ds[i]? = some d → ∃ x y a b, f i = some x ∧ g i = some y ∧ d = .tup [a, b] ∧ Rp P.K P.T F x a ∧ Rp P.K P.T F y b) : WD P J G F ds := by
  refine ⟨fun i H hi g => w.goes i H (by rw [← hl]; exact hi) g, fun H g => by rw [hl]; exact w.stops H g, fun i H x H' d e g y => .inr ?_⟩
  have hi : i < n := by
    rw [← hl]
    exact (List.getElem?_eq_some_iff.mp e).1
  obtain ⟨T, x1, y1, h1, h2, h3, h4, h5⟩ := w.yields i H x H' hi g y
  obtain ⟨x2, y2, a, b, h6, h7, h8, h9, h10⟩ := h i d e
  rw [h4] at h6
  rw [h5] at h7
  cases h6
  cases h7
  exact ⟨T, [x1, y1], [a, b], h1, h2, h3, h8, two_line, .cons h9 (.cons h10 .nil)⟩
theorem zip_both {F : Hp} {xs ys : List V} {ds es : List D} (q1 : RpL P.K P.T F xs ds) (q2 : RpL P.K P.T F ys es) (i : Nat) (d : D) (e : (zipD ds es)[i]? = some d) :
    ∃ x y a b, xs[i]? = some x ∧ ys[i]? = some y ∧ d = .tup [a, b] ∧ Rp P.K P.T F x a ∧ Rp P.K P.T F y b := by
  obtain ⟨a, b, h1, h2, h3⟩ := zipD_get e
  obtain ⟨x, h4, h5⟩ := q1.get h1
  obtain ⟨y, h6, h7⟩ := q2.get h2
  exact ⟨x, y, a, b, h4, h6, h3, h5, h7⟩
def zipE (fa fb : Rho → Tw → Res D) (r : Rho) (t : Tw) : Res (List D) := (fa r t).bind fun x t1 => (fb r t1).bind fun y t2 => match x, y with
    | .tup xs, .tup ys => .ok (zipD xs ys) t2
    | .lst xs, .lst ys => .ok (zipD xs ys) t2
    | _, _ => .bad
theorem own_ne {F H : Hp} {r : Rho} {t : Tw} {σ : L2.St} {p : Addr} {xs : List V} (R : RelP P F r t σ H) (h1 : H p = some (.lst xs)) : p ≠ P.T.a ∧ p ≠ P.T.b := by
  refine ⟨fun e => ?_, fun e => ?_⟩
  · rw [e, R.tw.a] at h1
    cases h1
  · rw [e, R.tw.b] at h1
    cases h1
theorem walk_zipT {K : PySem.W.Frag} {a b : Addr} {xs ys : List V} {n : Nat} (hn : n = min xs.length ys.length) : Walk (RZ.ItzT K a b) n (fun H => SqT K H a xs ∧ SqT K H b ys) (YPair (fun i => xs[i]?) (fun i => ys[i]?)) where
  goes := fun i _ lt ⟨sa, sb⟩ =>
    have la : i < xs.length := by omega
    have lb : i < ys.length := by omega
    ⟨xs, ys, xs[i], ys[i], sa, sb, List.getElem?_eq_getElem la, List.getElem?_eq_getElem lb⟩
  stops := fun _ ⟨sa, sb⟩ => ⟨xs, ys, sa, sb, by omega⟩
  yields := fun _ _ _ _ _ ⟨sa, sb⟩ ⟨T, x, z, ev, new, eH, ia, ib⟩ => ⟨T, x, z, ev, new, eH, ia xs sa, ib ys sb⟩
theorem i_zipB {elts : List Expr} {kk : Nat} {tpos : Pos} (hK : X.K = P.K) (hg : Gl X "zip") (hm : X.mg "zip" = none) (ha : PE X a (tB P fa)) (hb : PE X b (tB P fb)) (hs : starEach [a, b] X.env = (false, eval a X.env) :: starEach [b] X.env) (hs2 : starEach [b] X.env = (false, eval b X.env) :: starEach [] X.env) :
    PI X (.Tuple elts kk tpos) (.Call (.Name "zip" p1) [a, b] [] pos) (tI P false (zipE fa fb)) :=
  piMono (RZ.pi_zipA hg hm (pa_cons ha (pa_cons hb pa_nil hs2) hs) hs (by rw [hs2]; rfl)) fun σ H Q ⟨F, r, t, R, h⟩ => ⟨F, r, t, R, h.bind.mono fun dx t1 h v F1 H1 s1 R1 rx => ⟨F1, r, t1, R1, (h.up s1.1).bind.mono fun dy t2 h w F2 H2 s2 R2 ry => by
    cases dx with
    | tup xs =>
      cases dy with
      | tup ys =>
        obtain ⟨p1, v1, rfl, e1, z1, q1⟩ := (rx.mono s2.1).tup R2
        obtain ⟨p2, v2, rfl, e2, z2, q2⟩ := ry.tup R2
        refine ⟨p1, p2, v1, v2, rfl, .inr ⟨by rw [hK]; exact sqT_mono R2.sub e1, by rw [hK]; exact sqT_mono R2.sub e2, h _ _ _ (s1.trans s2) R2 ?_⟩⟩
        refine (wd_pair (G := fun H => SqT X.K H p1 v1 ∧ SqT X.K H p2 v2) (walk_zipT (n := min v1.length v2.length) rfl) (by rw [zipD_len, q1.length, q2.length]) (zip_both q1 q2)).weak fun H g => ?_
        rw [hK]
        exact ⟨sqT_mono g.1 e1, sqT_mono g.1 e2⟩
      | _ => exact (show False from h).elim
    | lst xs =>
      cases dy with
      | lst ys =>
        obtain ⟨p1, v1, rfl, e1, z1, q1⟩ := (rx.mono s2.1).lst R2
        obtain ⟨p2, v2, rfl, e2, z2, q2⟩ := ry.lst R2
        have n1 := own_ne R2 e1
        have n2 := own_ne R2 e2
        refine ⟨p1, p2, v1, v2, rfl, .inl ⟨SqL.of e1, SqL.of e2, h _ _ _ (s1.trans s2) R2 ?_⟩⟩
        exact (wd_pair (walk_zip (n := min v1.length v2.length) rfl) (by rw [zipD_len, q1.length, q2.length]) (zip_both q1 q2)).weak fun H g => ⟨SqL.of (g.2 _ _ e1 n1.1 n1.2), SqL.of (g.2 _ _ e2 n2.1 n2.2)⟩
      | _ => exact (show False from h).elim
    | _ => exact (show False from h).elim⟩⟩
theorem i_zip {elts : List Expr} {kk : Nat} {tpos : Pos} (hK : X.K = P.K) (hg : Gl X "zip") (hm : X.mg "zip" = none) (ha : PE X a (tD P fa)) (hb : PE X b (tD P fb)) (hs : starEach [a, b] X.env = (false, eval a X.env) :: starEach [b] X.env) (hs2 : starEach [b] X.env = (false, eval b X.env) :: starEach [] X.env) :
    PI X (.Tuple elts kk tpos) (.Call (.Name "zip" p1) [a, b] [] pos) (tI P true (zipE fa fb)) :=
  piMono (RZ.pi_zipA hg hm (pa_cons ha (pa_cons hb pa_nil hs2) hs) hs (by rw [hs2]; rfl)) fun σ H Q ⟨F, r, t, R, h⟩ => ⟨F, r, t, R, h.bind.mono fun dx t1 h v F1 H1 s1 R1 rx => ⟨F1, r, t1, R1, (h.up s1.1).bind.mono fun dy t2 h w F2 H2 s2 R2 ry => by
    have rx := rx.mono s2.1
    cases dx with
    | tup xs =>
      cases dy with
      | tup ys =>
        cases rx with
        | @tup p1 v1 _ e1 z1 q1 =>
        cases ry with
        | @tup p2 v2 _ e2 z2 q2 =>
        refine ⟨p1, p2, v1, v2, rfl, .inr ⟨by rw [hK]; exact sqT_mono R2.sub e1, by rw [hK]; exact sqT_mono R2.sub e2, h _ _ _ (s1.trans s2) R2 ?_⟩⟩
        refine (wd_pair (G := fun H => SqT X.K H p1 v1 ∧ SqT X.K H p2 v2) (walk_zipT (n := min v1.length v2.length) rfl) (by rw [zipD_len, q1.length, q2.length]) (zip_both q1 q2)).weak fun H g => ?_
        rw [hK]
        exact ⟨sqT_mono g e1, sqT_mono g e2⟩
      | _ => exact (show False from h).elim
    | lst xs =>
      cases dy with
      | lst ys =>
        cases rx with
        | @lst p1 v1 _ e1 z1 q1 =>
        cases ry with
        | @lst p2 v2 _ e2 z2 q2 =>
        refine ⟨p1, p2, v1, v2, rfl, .inl ⟨SqL.of (R2.sub _ _ e1), SqL.of (R2.sub _ _ e2), h _ _ _ (s1.trans s2) R2 ?_⟩⟩
        exact (wd_pair (walk_zip (n := min v1.length v2.length) rfl) (by rw [zipD_len, q1.length, q2.length]) (zip_both q1 q2)).weak fun H g => ⟨SqL.of (g _ _ e1), SqL.of (g _ _ e2)⟩
      | _ => exact (show False from h).elim
    | _ => exact (show False from h).elim⟩⟩
theorem enumD_get : ∀ {xs : List D} {k i : Nat} {d : D}, (enumD k xs)[i]? = some d → ∃ a, xs[i]? = some a ∧ d = .tup [.int ((k + i : Nat) : Int), a]
  | [], k, i, d, h => by simp [enumD] at h
  | x :: xs, k, 0, d, h => by
    simp only [enumD, List.getElem?_cons_zero, Option.some.injEq] at h
    exact ⟨x, rfl, h.symm⟩
  | x :: xs, k, i + 1, d, h => by
    simp only [enumD, List.getElem?_cons_succ] at h
    obtain ⟨a, h1, h2⟩ := enumD_get h
    refine ⟨a, by simpa using h1, ?_⟩
    rw [h2, show k + 1 + i = k + (i + 1) by omega]
theorem enumD_len : ∀ (xs : List D) (k : Nat), (enumD k xs).length = xs.length
  | [], _ => rfl
  | x :: xs, k => by simp only [enumD, List.length_cons, enumD_len xs]
theorem enum_one {F : Hp} {xs : List V} {ds : List D} (q1 : RpL P.K P.T F xs ds) (i : Nat) (d : D) (e : (enumD 0 ds)[i]? = some d) :
    ∃ x y a b, (some (V.int (i : Nat)) : Option V) = some x ∧ xs[i]? = some y ∧ d = .tup [a, b] ∧ Rp P.K P.T F x a ∧ Rp P.K P.T F y b := by
  obtain ⟨a, h1, h2⟩ := enumD_get e
  obtain ⟨x, h4, h5⟩ := q1.get h1
  refine ⟨_, x, _, a, rfl, h4, h2, ?_, h5⟩
  rw [Nat.zero_add]
  exact .int _
def enumE (fa : Rho → Tw → Res D) (r : Rho) (t : Tw) : Res (List D) := (fa r t).bind fun x t1 => match x with
    | .lst xs => .ok (enumD 0 xs) t1
    | _ => .bad
theorem i_enumB {elts : List Expr} {kk : Nat} {tpos : Pos} (hK : X.K = P.K) (hg : Gl X "enumerate") (hm : X.mg "enumerate" = none) (ha : PE X a (tB P fa)) (hs : starEach [a] X.env = (false, eval a X.env) :: starEach [] X.env) :
    PI X (.Tuple elts kk tpos) (.Call (.Name "enumerate" p1) [a] [] pos) (tI P false (enumE fa)) :=
  piMono (pi_enum hg hm (pa_cons ha pa_nil hs) hs) fun σ H Q ⟨F, r, t, R, h⟩ => ⟨F, r, t, R, h.bind.mono fun dx t1 h v F1 H1 s1 R1 rx => by
    cases dx with
    | lst xs =>
      obtain ⟨p1, v1, rfl, e1, z1, q1⟩ := rx.lst R1
      have n1 := own_ne R1 e1
      refine ⟨p1, v1, rfl, SqL.of e1, h _ _ _ s1 R1 ?_⟩
      exact (wd_pair walk_enum (by rw [enumD_len, q1.length]) (enum_one q1)).weak fun H g => SqL.of (g.2 _ _ e1 n1.1 n1.2)
    | _ => exact (show False from h).elim⟩
theorem i_enum {elts : List Expr} {kk : Nat} {tpos : Pos} (hK : X.K = P.K) (hg : Gl X "enumerate") (hm : X.mg "enumerate" = none) (ha : PE X a (tD P fa)) (hs : starEach [a] X.env = (false, eval a X.env) :: starEach [] X.env) :
    PI X (.Tuple elts kk tpos) (.Call (.Name "enumerate" p1) [a] [] pos) (tI P true (enumE fa)) :=
  piMono (pi_enum hg hm (pa_cons ha pa_nil hs) hs) fun σ H Q ⟨F, r, t, R, h⟩ => ⟨F, r, t, R, h.bind.mono fun dx t1 h v F1 H1 s1 R1 rx => by
    cases dx with
    | lst xs =>
      cases rx with
      | @lst p1 v1 _ e1 z1 q1 =>
      refine ⟨p1, v1, rfl, SqL.of (R1.sub _ _ e1), h _ _ _ s1 R1 ?_⟩
      exact (wd_pair walk_enum (by rw [enumD_len, q1.length]) (enum_one q1)).weak fun H g => SqL.of (g _ _ e1)
    | _ => exact (show False from h).elim⟩
/-! ### comprehensions -/
/-- a turn's outcome: the element, or nothing -/
def turnE (tg : Tg) (vs : List Nat) (fc : Rho → Tw → Res (Option D)) (fe : Rho → Tw → Res D) (r : Rho) (d : D) (t : Tw) : Res (Option D) := match setT tg d (wipeR r vs) with
        | some r2 => (fc r2 t).bind fun o t => match o with
          | none => (fe r2 t).bind fun x t => .ok (some x) t
          | some y => match truD y with
            | some true => (fe r2 t).bind fun x t => .ok (some x) t
            | some false => .ok none t
            | none => .bad
        | none => .bad
/-- a clause's tests, none or one -/
def tC1 (P : Pm) (f : Rho → Tw → Res (Option D)) : TT := fun σ H Q => ∃ F r t, RelP P F r t σ H ∧ Aft P F (f r t) fun o t' => ∃ b, (match o with | none => some true | some y => truD y) = some b ∧ ∀ F' H', Kp P.T F H F' H' → RelP P F' r t' σ H' → Q b H'
theorem c_none : PTs X [] (tC1 P fun _ t => .ok none t) := ⟨fun pins s σ H Q I ⟨F, r, t, R, b, e, q⟩ => by
  cases e
  exact pts_nil.run pins s σ H Q I (q F H Kp.refl R)⟩
theorem c_some (ha : PT X a (tT P fa)) : PTs X [a] (tC1 P fun r t => (fa r t).bind fun x t1 => .ok (some x) t1) := ⟨fun pins s σ H Q I ⟨F, r, t, R, h⟩ =>
  (pts_one ha).run pins s σ H Q I ⟨F, r, t, R, h.bind.mono fun d t' q => q⟩⟩
end
end Fm

/-! ### comprehensions; statements -/
namespace Fm
open PySem PySem.Spec PyProof.Rows L2
/-- without exceptions -/
abbrev Pm.nox (P : Pm) : Pm := { P with XE := fun _ _ => False }
section
variable {P : Pm} {X : Cx}
/-- an object of ours that no slot has is changed -/
theorem Rel.upd {F H : Hp} {r : Rho} {t : Tw} {σ : L2.St} {p : Addr} {o : HO} {K : PySem.W.Frag} {T : Tn} {F0 H0 : Hp} (R : Rel K T F0 H0 F r t σ H) (hp : H p ≠ none) (f : F p = none) (h0 : H0 p = none) (n1 : p ≠ T.a) (n2 : p ≠ T.b)
    (no : ∀ (i : Nat) (e : D), r[i]? = some (.own e) → σ[i]? ≠ some (some (.ref p))) : Rel K T F0 H0 F r t σ (L2.upd H p o) := by
  have nF : ∀ b u, F b = some u → b ≠ p := fun b u h e => by
    rw [e, f] at h
    cases h
  refine ⟨⟨fun b u h => ?_, R.new, R.base, fun b u h m1 m2 => ?_, fun b h => R.had b (upd_none h).1, ⟨?_, ?_, R.tw.ne, R.tw.small⟩, R.tF1, R.tF2, R.sc⟩, R.len, R.val, fun i d h => ?_, R.inj⟩
  · rw [upd_ne (nF b u h)]
    exact R.sub b u h
  · have : b ≠ p := fun e => by
      rw [e, h0] at h
      cases h
    rw [upd_ne this]
    exact R.old b u h m1 m2
  · rw [upd_ne (Ne.symm n1)]
    exact R.tw.a
  · rw [upd_ne (Ne.symm n2)]
    exact R.tw.b
  · obtain ⟨q, e, w⟩ := R.own i d h
    have nq : q ≠ p := fun z => no i d h (z ▸ e)
    exact ⟨q, e, ⟨w.fr, w.n1, w.n2, w.h0, w.at_.keep (Same.refl F) fun o h => by rw [upd_ne nq]; exact h⟩⟩
theorem wipe_wipe (σ : L2.St) (vs : List Nat) : wipe (wipe σ vs) vs = wipe σ vs := by
  refine List.ext_getElem? fun j => ?_
  rw [wipe_get, wipe_get, wipe_length]
  by_cases h : j ∈ vs ∧ j < σ.length
  · rw [if_pos h, if_pos h]
  · rw [if_neg h, if_neg h]
def compE (tg : Tg) (vs : List Nat) (fi : Rho → Tw → Res (List D)) (fc : Rho → Tw → Res (Option D)) (fe : Rho → Tw → Res D) (r : Rho) (t : Tw) : Res D :=
  (fi r t).bind fun xs t1 => if okLen xs.length then (compL (turnE tg vs fc fe r) xs t1).bind fun ys t2 => .ok (.lst ys) t2 else .bad
/-- the invariant of a comprehension's turns -/
structure CInv (P : Pm) (f : D → Tw → Res (Option D)) (r : Rho) (σ : L2.St) (F1 H1 : Hp) (D : Addr) (ds ys : List Fm.D) (t2 : Tw) (i : Nat) (H : Hp) (F2 : Hp) (t' : Tw) (vacc : List V) (acc rest : List Fm.D) : Prop where
  k : Kp P.T F1 H1 F2 H
  R : RelP P F2 r t' σ H
  d : H D = some (.lst vacc)
  q : RpL P.K P.T F2 vacc acc
  l : vacc.length ≤ i
  e : compL f (ds.drop i) t' = .ok rest t2
  y : ys = acc ++ rest
theorem turn_ok {tg : Tg} {vs : List Nat} {fc : Rho → Tw → Res (Option D)} {fe : Rho → Tw → Res D} {r : Rho} {d : D} {t t1 : Tw} {o : Option D} (h : turnE tg vs fc fe r d t = .ok o t1) :
    ∃ r2 oc tc b, setT tg d (wipeR r vs) = some r2 ∧ fc r2 t = .ok oc tc ∧ (match oc with | none => some true | some y => truD y) = some b ∧
      ((b = true ∧ ∃ x, fe r2 tc = .ok x t1 ∧ o = some x) ∨ (b = false ∧ o = none ∧ tc = t1)) := by
  unfold turnE at h
  cases e : setT tg d (wipeR r vs) with
  | none =>
    rw [e] at h
    cases h
  | some r2 =>
    rw [e] at h
    dsimp only at h
    cases e2 : fc r2 t with
    | bad =>
      rw [e2] at h
      cases h
    | exc n t3 =>
      rw [e2] at h
      cases h
    | ok oc tc =>
      rw [e2] at h
      simp only [Res.bind_ok] at h
      have fin : ∀ {res : Res D}, (res.bind fun x t => Res.ok (some x) t) = .ok o t1 → ∃ x, res = .ok x t1 ∧ o = some x := fun {res} h => by
        cases res with
        | ok x t =>
          cases h
          exact ⟨x, rfl, rfl⟩
        | exc n t => cases h
        | bad => cases h
      cases oc with
      | none => exact ⟨r2, none, tc, true, rfl, e2, rfl, .inl ⟨rfl, fin h⟩⟩
      | some y =>
        dsimp only at h
        cases e3 : truD y with
        | none =>
          rw [e3] at h
          cases h
        | some b =>
          rw [e3] at h
          cases b with
          | true => exact ⟨r2, some y, tc, true, rfl, e2, e3, .inl ⟨rfl, fin h⟩⟩
          | false =>
            have h : Res.ok none tc = Res.ok o t1 := h
            injection h with h1 h2
            exact ⟨r2, some y, tc, false, rfl, e2, e3, .inr ⟨rfl, h1.symm, h2⟩⟩
theorem comp_read {tg : Tg} {vs : List Nat} {fi : Rho → Tw → Res (List D)} {fc : Rho → Tw → Res (Option D)} {fe : Rho → Tw → Res D} (hsl : ∀ i ∈ tg.slots, i ∈ vs) (σ : L2.St) (H : Hp) (Q : VK) (h : tN P (compE tg vs fi fc fe) σ H Q) :
    tLc (tI P false fi) (gT P.nox tg) (tC1 P.nox fc) (tD P.nox fe) vs σ H Q := by
  obtain ⟨F, r, t, R, h⟩ := h
  refine ⟨F, r, t, R, h.bind.mono fun ds t1 h J F1 H1 s1 R1 w D hD => ?_⟩
  have w : WD P J (keepG P F1 H1) F1 ds := w
  split at h
  rotate_left
  · exact h.elim
  rename_i hok
  -- what the turns give
  obtain ⟨ys, t2, ec, h⟩ : ∃ ys t2, compL (turnE tg vs fc fe r) ds t1 = .ok ys t2 ∧ ∀ v F' H' p, Kp P.T F H F' H' → RelP P F' r t2 σ H' → H p = none → Fre P F' r σ H' v (.lst ys) p → Q v H' := by
    cases e : compL (turnE tg vs fc fe r) ds t1 with
    | ok ys t2 =>
      rw [e] at h
      exact ⟨ys, t2, rfl, h⟩
    | exc n t2 =>
      exfalso
      have no : ∀ (l : List Fm.D) (t : Tw) (n : Nat) (t2 : Tw), compL (turnE tg vs fc fe r) l t ≠ .exc n t2 := by
        intro l
        induction l with
        | nil =>
          intro t n t2 z
          cases z
        | cons d l ih =>
          intro t n t2 z
          unfold compL at z
          split at z
          · rename_i o t3 _
            cases e4 : compL (turnE tg vs fc fe r) l t3 with
            | ok a b =>
              rw [e4] at z
              cases z
            | exc a b => exact ih _ _ _ e4
            | bad =>
              rw [e4] at z
              cases z
          · cases z
      exact no _ _ _ _ e
    | bad =>
      rw [e] at h
      exact h.elim
  have nTa : D ≠ P.T.a := fun e => by
    rw [e, R1.tw.a] at hD
    cases hD
  have nTb : D ≠ P.T.b := fun e => by
    rw [e, R1.tw.b] at hD
    cases hD
  have no : ∀ (i : Nat) (e : Fm.D), r[i]? = some (.own e) → σ[i]? ≠ some (some (.ref D)) := fun i e h1 h2 => by
    obtain ⟨q, e1, w⟩ := R1.own i e h1
    rw [h2] at e1
    cases e1
    obtain ⟨o2, ho, _⟩ := w.at_.obj
    rw [hD] at ho
    cases ho
  have FD : ∀ {F2 H2 : Hp}, Kp P.T F1 H1 F2 H2 → H2 D ≠ none → True := fun _ _ => trivial
  have b0 := R1.toRelH.newO (o := .lst []) hD
  -- D is never frozen while it is filled
  refine ⟨fun i m H => m = ds.length - i ∧ i ≤ ds.length ∧ ∃ F2 t' vacc acc rest, CInv P (turnE tg vs fc fe r) r σ F1 H1 D ds ys t2 i H F2 t' vacc acc rest ∧ F2 D = none, ⟨ds.length, by simp, Nat.zero_le _, F1, t1, [], [], ys, ?_, ?_⟩, fun i m H2 hW => ?_⟩
  · exact ⟨Kp.of b0, R1.step b0, upd_same, .nil, Nat.zero_le _, by simpa using ec, rfl⟩
  · exact R1.sub.free hD
  · obtain ⟨rfl, hi, F2, t', vacc, acc, rest, ⟨k, R2, hd, q, hl, e, ey⟩, fD⟩ := hW
    have hG : keepG P F1 H1 H2 := ⟨k.base.trans R2.sub, k.old⟩
    by_cases hlt : i < ds.length
    · refine .inr ⟨w.goes i H2 hlt hG, fun H' => ∃ F2 t' vacc acc rest, CInv P (turnE tg vs fc fe r) r σ F1 H1 D ds ys t2 (i + 1) H' F2 t' vacc acc rest ∧ F2 D = none, fun H' hn => ⟨_, by omega, rfl, hlt, hn⟩, fun x H' hy => ?_⟩
      have hdi : ds[i]? = some ds[i] := List.getElem?_eq_getElem hlt
      -- the turn
      have e' : compL (turnE tg vs fc fe r) (ds[i] :: ds.drop (i + 1)) t' = .ok rest t2 := by
        rw [← List.drop_eq_getElem_cons hlt]
        exact e
      unfold compL at e'
      cases et : turnE tg vs fc fe r ds[i] t' with
      | exc n t3 =>
        rw [et] at e'
        cases e'
      | bad =>
        rw [et] at e'
        cases e'
      | ok o t3 =>
        rw [et] at e'
        dsimp only at e'
        obtain ⟨rest', er, eo⟩ : ∃ rest', compL (turnE tg vs fc fe r) (ds.drop (i + 1)) t3 = .ok rest' t2 ∧ rest = consO o rest' := by
          cases e4 : compL (turnE tg vs fc fe r) (ds.drop (i + 1)) t3 with
          | ok a b =>
            rw [e4] at e'
            simp only [Res.bind_ok] at e'
            cases e'
            exact ⟨a, rfl, rfl⟩
          | exc a b =>
            rw [e4] at e'
            cases e'
          | bad =>
            rw [e4] at e'
            cases e'
        obtain ⟨r2, oc, tc, b, es, efc, eb, alt⟩ := turn_ok et
        -- the item
        obtain ⟨F3, k3, R3, rx⟩ : ∃ F3, Kp P.T F2 H2 F3 H' ∧ RelP P F3 r t' σ H' ∧ Rp P.K P.T F3 x ds[i] := by
          rcases w.yields i H2 x H' _ hdi hG hy with ⟨rfl, rx⟩ | ⟨p, xs, es', rfl, hp, rfl, ed, z, qx⟩
          · exact ⟨F2, Kp.refl, R2, rx.mono k.base⟩
          · have b := R2.toRelH.newF (o := .tup xs) hp
            refine ⟨_, Kp.of b, R2.step b, ?_⟩
            rw [ed]
            exact .tup (SqT.of upd_same) z (qx.mono (k.base.trans b.base))
        refine ⟨F3, wipeR r vs, t', ds[i], r2, R3.wipe vs, rx, es, fun σ' R4 c => ⟨(c.wipe hsl).trans (wipe_wipe σ vs), ?_⟩⟩
        refine ⟨F3, r2, t', R4, ?_⟩
        rw [efc]
        refine ⟨b, eb, fun F4 H4 k4 R5 => ?_⟩
        rcases alt with ⟨rfl, y, efe, rfl⟩ | ⟨rfl, rfl, rfl⟩
        · rw [if_pos rfl]
          refine ⟨F4, r2, tc, R5, ?_⟩
          rw [efe]
          intro v F5 H5 k5 R6 rv
          have k6 : Kp P.T F2 H2 F5 H5 := k3.trans (k4.trans k5)
          have hd5 : H5 D = some (.lst vacc) := k6.old D _ hd nTa nTb
          have fD5 : F5 D = none := by
            cases z : F5 D with
            | none => rfl
            | some u =>
              rcases k6.new D u z with z | z
              · rw [fD] at z
                cases z
              · rw [hd] at z
                cases z
          have hsz : vacc.length < sizeLine := by
            have := of_decide_eq_true hok
            rw [sizeLine_eq]
            omega
          have R7 : RelP P F5 r t3 σ H5 := R2.step (Kp.relH (P := P.nox) k6 R6)
          have R8 : RelP P F5 r t3 σ (L2.upd H5 D (.lst (vacc ++ [v]))) := Rel.upd R7 (by rw [hd5]; simp) fD5 (R1.had D hD) nTa nTb no
          refine ⟨vacc, hd5, hsz, F5, t3, vacc ++ [v], acc ++ [y], rest', ⟨?_, R8, upd_same, (q.mono k6.base).append (.cons rv .nil), ?_, er, ?_⟩, fD5⟩
          · have k7 := k.trans k6
            refine ⟨k7.base, k7.new, fun a o ha m1 m2 => ?_, fun a ha => k7.had a (upd_none ha).1⟩
            have : a ≠ D := fun e => by
              rw [e, hD] at ha
              cases ha
            rw [upd_ne this]
            exact k7.old a o ha m1 m2
          · rw [List.length_append, List.length_singleton]
            omega
          · rw [ey, eo]
            simp [consO]
        · rw [if_neg (by decide)]
          have k6 : Kp P.T F2 H2 F4 H4 := k3.trans k4
          have R7 : RelP P F4 r tc σ H4 := R2.step (Kp.relH (P := P.nox) k6 R5)
          refine ⟨F4, tc, vacc, acc, rest', ⟨k.trans k6, R7, k6.old D _ hd nTa nTb, q.mono k6.base, by omega, er, ?_⟩, ?_⟩
          · rw [ey, eo]; rfl
          · cases z : F4 D with
            | none => rfl
            | some u =>
              rcases k6.new D u z with z | z
              · rw [fD] at z
                cases z
              · rw [hd] at z
                cases z
    · have ei : i = ds.length := by omega
      subst ei
      refine .inl ⟨w.stops H2 hG, ?_⟩
      rw [List.drop_length] at e
      cases e
      rw [List.append_nil] at ey
      subst ey
      refine h _ _ _ D (s1.trans k) R2 (s1.had D hD) ⟨rfl, ⟨fD, nTa, nTb, R1.had D hD, vacc, hd, ?_, q⟩, no⟩
      have := of_decide_eq_true hok
      rw [sizeLine_eq]
      omega
theorem n_comp {elt tg iter : Expr} {ifs : List Expr} {scope : Scope} {own : List (Str × Nat)} {pos : Pos} {tgt : Tg} {fi : Rho → Tw → Res (List D)} {fc : Rho → Tw → Res (Option D)} {fe : Rho → Tw → Res D} (hc : X.calm = true) (hN : X.N.Nodup)
    (hi : PI X tg iter (tI P false fi)) (ok : BlkOk X.N X.env.scope scope own) (hg : ∀ (s : Shared) (H : Hp) (C : Addr) (cl : List (Str × Addr)) (fp : List Addr), PG (X.blk s H scope (compEnvC scope cl C X.env) fp) tg (gT P.nox tgt))
    (ht : ∀ (s : Shared) (H : Hp) (C : Addr) (cl : List (Str × Addr)) (fp : List Addr), PTs (X.blk s H scope (compEnvC scope cl C X.env) fp) ifs (tC1 P.nox fc))
    (he : ∀ (s : Shared) (H : Hp) (C : Addr) (cl : List (Str × Addr)) (fp : List Addr), PE (X.blk s H scope (compEnvC scope cl C X.env) fp) elt (tD P.nox fe)) (hs : ∀ x, foldedSetIterable iter X.env x = pure x) (hsl : ∀ i ∈ tgt.slots, i ∈ own.map (·.2)) :
    PE X (.ListComp elt [⟨tg, iter, ifs, 0⟩] scope pos) (tN P (compE tgt (own.map (·.2)) fi fc fe)) :=
  peMono (pe_lc hc hN hi ok hg ht he hs) (comp_read hsl)
/-! ### calls of own defs -/
/-- what a def promises: its value by data -/
def spD (K : PySem.W.Frag) (T : Tn) (cl : Nat → Addr) (np : Nat) (Γ : List D → Tw → Res D) : Sp := fun vs H Q E => ∃ F t ds, RelH K T F H F t H ∧ RpL K T F vs ds ∧ ds.length = np ∧ match Γ ds t with
  | .ok d t' => ∀ v F' H', RelH K T F H F' t' H' → Rp K T F' v d → Q v H'
  | .exc n t' => ∀ F' H', RelH K T F H F' t' H' → E (.ref (cl n)) none H'
  | .bad => False
/-- an exception's wish -/
def EX (cl : Nat → Addr) (XE : Nat → Hp → Prop) : XK := fun c d H => ∃ n, c = .ref (cl n) ∧ d = none ∧ XE n H
theorem sp_call {cl : Nat → Addr} {np : Nat} {Γ : List D → Tw → Res D} {F H : Hp} {r : Rho} {t : Tw} {σ : L2.St} {vs : List V} {ds : List D} {Q : VK} (R : RelP P F r t σ H) (rv : RpL P.K P.T F vs ds) (hl : ds.length = np)
    (h : Aft P F (Γ ds t) fun d t' => ∀ v F' H', Kp P.T F H F' H' → RelP P F' r t' σ H' → Rp P.K P.T F' v d → Q v H') : spD P.K P.T cl np Γ vs H Q (EX cl P.XE) := by
  refine ⟨F, t, ds, R.toRelH.refl, rv, hl, ?_⟩
  cases e : Γ ds t with
  | ok d t' =>
    rw [e] at h
    exact fun v F' H' b rv => h v F' H' (Kp.of b) (R.step b) rv
  | exc n t' =>
    rw [e] at h
    exact fun F' H' b => ⟨n, rfl, rfl, h F' H' b.base (R.toRelH.trans b)⟩
  | bad =>
    rw [e] at h
    exact h
variable {k np : Nat} {f : Addr} {fd : FuncData} {ps ks : List Str} {x : Str} {p pos : Pos} {e : Expr} {es : List Expr} {kws : List Keyword} {cl : Nat → Addr} {Γ : List D → Tw → Res D} {fs gs : Rho → Tw → Res (List D)} {dvs : List V} {ds : List Value} {dds : List D}
theorem s_call (F : FnOk X.prog X.w X.K X.mg X.base (CX X.prog X.w) k f fd ps (spD P.K P.T cl np Γ)) (hr : Room k X.A) (hg : Gl X x) (hm : X.mg x = some (.ref f)) (hk : PySem.W.keepIn X.K (.ref f) = true) (hb : Binds X.K fd ps ds) (hd : Vals dvs ds)
    (hdd : ∀ F, RpL P.K P.T F dvs dds) (tk : Takes X fun c d _ H => EX cl P.XE c d H) (ha : PA X (e :: es) (tDs P fs)) (hnp : ∀ r t xs t1, fs r t = .ok xs t1 → xs.length + dds.length = np) (hdb : (x == ("__debug__" : Str)) = false)
    (he : starEach (e :: es) X.env = (false, eval e X.env) :: starEach es X.env) (hpl : (backTo pos (starEach es X.env)).any (·.1) = false) :
    PE X (.Call (.Name x p) (e :: es) [] pos) (tD P fun r t => (fs r t).bind fun xs t1 => Γ (xs ++ dds) t1) :=
  peMono (pe_call F hr hg hm hk hb hd (passes_call tk fun _ _ _ _ h => h) ha hdb he hpl) fun σ H Q ⟨F, r, t, R, h⟩ => ⟨F, r, t, R, by
    dsimp only at h
    cases ef : fs r t with
    | ok xs t1 =>
      rw [ef] at h
      intro vs F1 H1 s1 R1 rv
      exact sp_call R1 (rv.append (hdd F1)) (by rw [List.length_append]; exact hnp r t xs t1 ef) (((show Aft P F (Γ (xs ++ dds) t1) _ from h).up s1.1).mono fun d t' q v F' H' s R' rv => q v F' H' (s1.trans s) R' rv)
    | exc n t1 =>
      rw [ef] at h
      exact h
    | bad =>
      rw [ef] at h
      exact h⟩
theorem s_call0 (F : FnOk X.prog X.w X.K X.mg X.base (CX X.prog X.w) k f fd ps (spD P.K P.T cl np Γ)) (hr : Room k X.A) (hg : Gl X x) (hm : X.mg x = some (.ref f)) (hk : PySem.W.keepIn X.K (.ref f) = true) (hb : Binds X.K fd ps ds) (hd : Vals dvs ds)
    (hdd : ∀ F, RpL P.K P.T F dvs dds) (tk : Takes X fun c d _ H => EX cl P.XE c d H) (hnp : dds.length = np) (hdb : (x == ("__debug__" : Str)) = false) :
    PE X (.Call (.Name x p) [] [] pos) (tD P fun r t => Γ dds t) :=
  peMono (pe_call0 F hr hg hm hk hb hd (passes_call tk fun _ _ _ _ h => h) hdb) fun σ H Q ⟨F, r, t, R, h⟩ => sp_call R (by simpa using hdd F) hnp h
/-- keywords' values -/
theorem pkMono {t u : TA} (h : PK X kws t) (i : ∀ σ H Q, u σ H Q → t σ H Q) : PK X kws u := ⟨fun pos pins s σ H Q I q => h.run pos pins s σ H Q I (i σ H Q q)⟩
theorem k_nil : PK X [] (tDs P fun _ t => .ok [] t) := pkMono pk_nil fun σ H Q ⟨F, r, t, R, q⟩ => q [] F H Kp.refl R .nil
theorem k_cons {fa : Rho → Tw → Res D} {nm : Option Str} {kpos : Pos} (ha : PE X e (tD P fa)) (hr : PK X kws (tDs P fs)) : PK X (⟨nm, e, kpos⟩ :: kws) (tDs P fun r t => (fa r t).bind fun x t1 => (fs r t1).bind fun xs t2 => .ok (x :: xs) t2) :=
  pkMono (pk_cons ha hr) fun σ H Q ⟨F, r, t, R, h⟩ => ⟨F, r, t, R, h.bind.mono fun d t1 h v F1 H1 s1 R1 rv => ⟨F1, r, t1, R1, (h.up s1.1).bind.mono fun ds t2 q vs F2 H2 s2 R2 rvs =>
    q (v :: vs) F2 H2 (s1.trans s2) R2 (.cons (rv.mono s2.1) rvs)⟩⟩
theorem s_callK {n : Nat} {g : List Value → List Value → List Value} (F : FnOk X.prog X.w X.K X.mg X.base (CX X.prog X.w) k f fd ps (spD P.K P.T cl np Γ)) (hr : Room k X.A) (hg : Gl X x) (hm : X.mg x = some (.ref f)) (hk : PySem.W.keepIn X.K (.ref f) = true)
    (hb : KBn X.K fd ps n ks g (fun vs zs => vs ++ zs ++ dvs)) (hdd : ∀ F, RpL P.K P.T F dvs dds) (tk : Takes X fun c d _ H => EX cl P.XE c d H) (ha : PA X (e :: es) (tDs P fs)) (hkw : PK X kws (tDs P gs))
    (hn1 : ∀ r t xs t1, fs r t = .ok xs t1 → xs.length = n) (hn2 : ∀ r t xs t1, gs r t = .ok xs t1 → xs.length = ks.length) (hnp : n + ks.length + dds.length = np)
    (hall : (backToKw pos (keywordEach kws X.env)).all (·.1.isSome) = true) (hks : (backToKw pos (keywordEach kws X.env)).filterMap (·.1) = ks)
    (hdb : (x == ("__debug__" : Str)) = false) (he : starEach (e :: es) X.env = (false, eval e X.env) :: starEach es X.env)
    (hpl : ((backTo pos (starEach (e :: es) X.env)).any (·.1) || (backToKw pos (keywordEach kws X.env)).any (·.1.isNone)) = false) :
    PE X (.Call (.Name x p) (e :: es) kws pos) (tD P fun r t => (fs r t).bind fun xs t1 => (gs r t1).bind fun ys t2 => Γ (xs ++ ys ++ dds) t2) :=
  peMono (pe_callN F hr hg hm hk hb (passes_call tk fun _ _ _ _ h => h) ha hkw hall hks hdb he hpl) fun σ H Q ⟨F, r, t, R, h⟩ => ⟨F, r, t, R, by
    dsimp only at h
    cases ef : fs r t with
    | ok xs t1 =>
      rw [ef] at h
      intro vs F1 H1 s1 R1 rv
      have h : Aft P F ((gs r t1).bind fun ys t2 => Γ (xs ++ ys ++ dds) t2) _ := h
      refine ⟨F1, r, t1, R1, ?_⟩
      have h := h.up s1.1
      cases eg : gs r t1 with
      | ok ys t2 =>
        rw [eg] at h
        intro zs F2 H2 s2 R2 rz
        have l1 := hn1 r t xs t1 ef
        have l2 := hn2 r t1 ys t2 eg
        refine ⟨by rw [rv.length]; exact l1, by rw [rz.length]; exact l2, sp_call R2 (((rv.mono s2.1).append rz).append (hdd F2)) (by rw [List.length_append, List.length_append]; omega) (((show Aft P F1 (Γ (xs ++ ys ++ dds) t2) _ from h).up s2.1).mono fun d t' q v F' H' s R' rv => q v F' H' (s1.trans (s2.trans s)) R' rv)⟩
      | exc n t1 =>
        rw [eg] at h
        exact h
      | bad =>
        rw [eg] at h
        exact h
    | exc n t1 =>
      rw [ef] at h
      exact h
    | bad =>
      rw [ef] at h
      exact h⟩
end
end Fm

/-! ### statements -/
namespace Fm
open PySem PySem.Spec PyProof.Rows L2
def aftS (P : Pm) (F : Hp) (D : Ends) (p : Fl × Rho) (t' : Tw) : Prop := match p.1 with
  | .nx => ∀ F' σ' H', Same F F' → RelP P F' p.2 t' σ' H' → D.nx σ' H'
  | .brk => ∀ F' σ' H', Same F F' → RelP P F' p.2 t' σ' H' → D.bk σ' H'
  | .cont => ∀ F' σ' H', Same F F' → RelP P F' p.2 t' σ' H' → D.ct σ' H'
  | .ret d => ∀ v F' H', Same F F' → RelH P.K P.T P.F0 P.H0 F' t' H' → Rp P.K P.T F' v d → D.rt v H'
def tS (P : Pm) (f : Rho → Tw → Res (Fl × Rho)) : TS := fun D σ H => ∃ F r t, RelP P F r t σ H ∧ Aft P F (f r t) (aftS P F D)
section
variable {P : Pm} {X : Cx} {a b c : Expr} {pos p1 p2 : Pos} {fa fb fc : Rho → Tw → Res D} {st : Stmt} {rest : List Stmt} {f g : Rho → Tw → Res (Fl × Rho)}
theorem aftS.up {F F' : Hp} {D : Ends} {p : Fl × Rho} {t : Tw} (h : aftS P F D p t) (s : Same F F') : aftS P F' D p t := by
  obtain ⟨fl, r⟩ := p
  cases fl with
  | nx => exact fun F2 σ2 H2 s2 => h F2 σ2 H2 (s.trans s2)
  | brk => exact fun F2 σ2 H2 s2 => h F2 σ2 H2 (s.trans s2)
  | cont => exact fun F2 σ2 H2 s2 => h F2 σ2 H2 (s.trans s2)
  | ret d => exact fun v F2 H2 s2 => h v F2 H2 (s.trans s2)
def nilE (r : Rho) (t : Tw) : Res (Fl × Rho) := .ok (.nx, r) t
def consE (f g : Rho → Tw → Res (Fl × Rho)) (r : Rho) (t : Tw) : Res (Fl × Rho) := (f r t).bind fun p t1 => match p with
    | (.nx, r1) => g r1 t1
    | q => .ok q t1
theorem ss_nil : PSs X [] (tS P nilE) := pssMono pss_nil fun D σ H ⟨F, r, t, R, h⟩ => h F σ H (Same.refl F) R
theorem seq_aft {F : Hp} {D : Ends} {r : Rho} {t : Tw} (h : Aft P F (consE f g r t) (aftS P F D)) : Aft P F (f r t) (aftS P F { D with nx := tS P g D }) := by
  unfold consE at h
  refine h.bind.mono fun p t1 h => ?_
  obtain ⟨fl, r1⟩ := p
  cases fl with
  | nx => exact fun F' σ' H' s R => ⟨F', r1, t1, R, ((show Aft P F (g r1 t1) (aftS P F D) from h).up s).mono fun p t2 q => q.up s⟩
  | brk => exact h
  | cont => exact h
  | ret d => exact h
theorem ss_cons (h1 : PS X st (tS P f)) (h2 : PSs X rest (tS P g)) : PSs X (st :: rest) (tS P (consE f g)) := pssMono (pss_cons h1 h2) fun D σ H ⟨F, r, t, R, h⟩ => ⟨F, r, t, R, seq_aft h⟩
theorem st_ret (ha : PE X a (tD P fa)) : PS X (.Return (some a) pos) (tS P fun r t => (fa r t).bind fun x t1 => .ok (.ret x, r) t1) :=
  psMono (ps_ret ha) fun D σ H ⟨F, r, t, R, h⟩ => ⟨F, r, t, R, h.bind.mono fun d t' q v F' H' s R' rv => q v F' H' s.1 R'.toRelH rv⟩
theorem st_exp (ha : PE X a (tD P fa)) (hs : swapsWith a none pos.line X.env = pure false) : PS X (.Expr a pos) (tS P fun r t => (fa r t).bind fun _ t1 => .ok (.nx, r) t1) :=
  psMono (ps_expr ha hs) fun D σ H ⟨F, r, t, R, h⟩ => ⟨F, r, t, R, h.bind.mono fun d t' q v F' H' s R' rv => q F' σ H' s.1 R'⟩
def iteS (fc : Rho → Tw → Res D) (f g : Rho → Tw → Res (Fl × Rho)) (r : Rho) (t : Tw) : Res (Fl × Rho) := (fc r t).bind fun x t1 => match truD x with
    | some true => f r t1
    | some false => g r t1
    | none => .bad
theorem st_ite {as bs : List Stmt} (hc : PT X c (tT P fc)) (ha : PSs X as (tS P f)) (hb : PSs X bs (tS P g)) : PS X (.If c as bs pos) (tS P (iteS fc f g)) :=
  psMono (ps_if hc ha hb) fun D σ H ⟨F, r, t, R, h⟩ => ⟨F, r, t, R, h.bind.mono fun d t' h => by
    cases e : truD d with
    | none =>
      rw [e] at h
      exact h.elim
    | some k =>
      rw [e] at h
      refine ⟨k, rfl, fun F' H' s R' => ?_⟩
      cases k with
      | true => exact ⟨F', r, t', R', ((show Aft P F (f r t') _ from h).up s.1).mono fun p t2 q => q.up s.1⟩
      | false => exact ⟨F', r, t', R', ((show Aft P F (g r t') _ from h).up s.1).mono fun p t2 q => q.up s.1⟩⟩
theorem st_brk : PS X (.Break pos) (tS P fun r t => .ok (.brk, r) t) := psMono ps_break fun D σ H ⟨F, r, t, R, h⟩ => h F σ H (Same.refl F) R
theorem st_cont : PS X (.Continue pos) (tS P fun r t => .ok (.cont, r) t) := psMono ps_continue fun D σ H ⟨F, r, t, R, h⟩ => h F σ H (Same.refl F) R
/-! ### assignments -/
/-- name = e -/
theorem st_set {i : Nat} {y : Str} {py : Pos} (h : PS X (.Assign [.Name y py] a pos) (tAsg (tD P fa) (gName i))) : PS X (.Assign [.Name y py] a pos) (tS P fun r t => (fa r t).bind fun x t1 => Fm.lift ((setT (.name i) x r).map fun r1 => (.nx, r1)) t1) :=
  psMono h fun D σ H ⟨F, r, t, R, h⟩ => ⟨F, r, t, R, h.bind.mono fun d t' h v F' H' s R' rv => by
    obtain ⟨p, e, q⟩ := h.lift
    obtain ⟨r1, e1, rfl⟩ := Option.map_eq_some_iff.mp e
    simp only [setT] at e1
    split at e1
    · cases e1
      exact q F' _ H' s.1 (R'.setVal rv)
    · cases e1⟩
theorem st_new {i : Nat} {y : Str} {py : Pos} (h : PS X (.Assign [.Name y py] a pos) (tAsg (tN P fa) (gName i))) : PS X (.Assign [.Name y py] a pos) (tS P fun r t => (fa r t).bind fun x t1 => okSet r i (.own x) t1) :=
  psMono h fun D σ H ⟨F, r, t, R, h⟩ => ⟨F, r, t, R, h.bind.mono fun d t' h v F' H' p s R' hp fr => by
    unfold okSet at h
    split at h
    · obtain ⟨rfl, o, no⟩ := fr
      exact h F' _ H' s.1 (R'.setOwn o fun j e h1 _ => no j e h1)
    · exact h.elim⟩
theorem asg_plain {i : Nat} {y : Str} {py : Pos} {te : TE} (hN : X.N.Nodup) (hi : X.N[i]? = some y) (hx : Loc X.env.scope y) (ha : PE X a te) (hs : swapsWith a (some (.Name y py)) pos.line X.env = pure false) (hf : X.fn y = true ∨ X.env.scope.names.lookup y = some .local) :
    PS X (.Assign [.Name y py] a pos) (tAsg te (gName i)) := ps_set hN hi hx ha hs hf
/-- targets = e -/
theorem st_asg {tg : Expr} {tt : Tg} (ha : PE X a (tD P fa)) (hg : PG X tg (gT P tt)) (hs : swapsWithSole [tg] a pos.line X.env = pure false) (hw : swappedStores [tg] a X.env = pure none)
    (h1 : (assignEach [tg] X.env).map (·.2) = [assign tg X.env]) : PS X (.Assign [tg] a pos) (tS P fun r t => (fa r t).bind fun x t1 => Fm.lift ((setT tt x r).map fun r1 => (.nx, r1)) t1) :=
  psMono (ps_asg ha hg hs hw h1) fun D σ H ⟨F, r, t, R, h⟩ => ⟨F, r, t, R, h.bind.mono fun d t' h v F' H' s R' rv => by
    obtain ⟨p, e, q⟩ := h.lift
    obtain ⟨r1, e1, rfl⟩ := Option.map_eq_some_iff.mp e
    exact ⟨F', r, t', d, r1, R', rv, e1, fun σ' R2 _ => q F' σ' H' s.1 R2⟩⟩
def parE (is : List Nat) (fs : Rho → Tw → Res (List D)) (r : Rho) (t : Tw) : Res (Fl × Rho) := (fs r t).bind fun xs t1 => Fm.lift ((setAll is xs r).map fun r1 => (.nx, r1)) t1
theorem st_par2 {i j : Nat} {x y : Str} {fs : Rho → Tw → Res (List D)} {px py pt pt2 : Pos} {kt k2 : Nat} (hc : X.calm = true) (hN : X.N.Nodup) (hi : X.N[i]? = some x) (hj : X.N[j]? = some y) (hij : i ≠ j)
    (hx : X.env.scope.names.lookup x = some .local) (hy : X.env.scope.names.lookup y = some .local) (ha : PA X [a, b] (tDs P fs))
    (hw : swappedStores [.Tuple [.Name x px, .Name y py] kt pt] (.Tuple [a, b] k2 pt2) X.env = pure (some [x, y])) :
    PS X (.Assign [.Tuple [.Name x px, .Name y py] kt pt] (.Tuple [a, b] k2 pt2) pos) (tS P (parE [i, j] fs)) :=
  psMono (ps_par hc hN hi hj hij hx hy ha hw) fun D σ H ⟨F, r, t, R, h⟩ => ⟨F, r, t, R, h.bind.mono fun ds t' h vs F' H' s R' rv => by
    obtain ⟨p, e, q⟩ := h.lift
    obtain ⟨r1, e1, rfl⟩ := Option.map_eq_some_iff.mp e
    cases rv with
    | nil => simp [setAll] at e1
    | @cons v1 _ d1 _ h1 rv =>
      cases rv with
      | nil => simp [setAll] at e1
      | @cons v2 _ d2 _ h2 rv =>
        cases rv with
        | nil =>
          simp only [setAll] at e1
          split at e1
          · split at e1
            · cases e1
              exact ⟨v1, v2, rfl, q F' _ H' s.1 ((R'.setVal h1).setVal h2)⟩
            · cases e1
          · cases e1
        | cons _ _ =>
          simp only [setAll] at e1
          split at e1
          · split at e1
            · cases e1
            · cases e1
          · cases e1⟩
theorem st_par3 {i j l : Nat} {x y z : Str} {fs : Rho → Tw → Res (List D)} {px py pz pt pt2 : Pos} {kt k2 : Nat} (hc : X.calm = true) (hN : X.N.Nodup) (hi : X.N[i]? = some x) (hj : X.N[j]? = some y) (hl : X.N[l]? = some z) (hij : i ≠ j) (hil : i ≠ l) (hjl : j ≠ l)
    (hx : X.env.scope.names.lookup x = some .local) (hy : X.env.scope.names.lookup y = some .local) (hz : X.env.scope.names.lookup z = some .local) (ha : PA X [a, b, c] (tDs P fs))
    (hw : swappedStores [.Tuple [.Name x px, .Name y py, .Name z pz] kt pt] (.Tuple [a, b, c] k2 pt2) X.env = pure (some [x, y, z])) :
    PS X (.Assign [.Tuple [.Name x px, .Name y py, .Name z pz] kt pt] (.Tuple [a, b, c] k2 pt2) pos) (tS P (parE [i, j, l] fs)) :=
  psMono (ps_par3 hc hN hi hj hl hij hil hjl hx hy hz ha hw) fun D σ H ⟨F, r, t, R, h⟩ => ⟨F, r, t, R, h.bind.mono fun ds t' h vs F' H' s R' rv => by
    obtain ⟨p, e, q⟩ := h.lift
    obtain ⟨r1, e1, rfl⟩ := Option.map_eq_some_iff.mp e
    cases rv with
    | nil => simp [setAll] at e1
    | @cons v1 _ d1 _ h1 rv =>
      cases rv with
      | nil => simp [setAll] at e1
      | @cons v2 _ d2 _ h2 rv =>
        cases rv with
        | nil => simp [setAll] at e1
        | @cons v3 _ d3 _ h3 rv =>
          cases rv with
          | nil =>
            simp only [setAll] at e1
            split at e1
            · split at e1
              · split at e1
                · cases e1
                  exact ⟨v1, v2, v3, rfl, q F' _ H' s.1 (((R'.setVal h1).setVal h2).setVal h3)⟩
                · cases e1
              · cases e1
            · cases e1
          | cons _ _ => simp [setAll] at e1⟩
/-! ### freezing a slot -/
theorem Rel.frzSlot {F H : Hp} {r : Rho} {t : Tw} {σ : L2.St} {i : Nat} {d : D} (R : RelP P F r t σ H) (e : r[i]? = some (.own d)) : ∃ F', Same F F' ∧ RelP P F' (r.set i (.val d)) t σ H := by
  obtain ⟨p, e1, o⟩ := R.own i d e
  obtain ⟨ob, ho, _⟩ := o.at_.obj
  have hi : i < r.length := (List.getElem?_eq_some_iff.mp e).1
  have s2 : Same F (L2.upd F p ob) := same_new o.fr
  have cs : ∀ {j : Nat} {s : Sl}, (r.set i (.val d))[j]? = some s → (i = j ∧ s = .val d) ∨ (i ≠ j ∧ r[j]? = some s) := fun {j s} q => by
    by_cases hj : i = j
    · subst hj
      rw [List.getElem?_set_self hi] at q
      exact .inl ⟨rfl, (Option.some.inj q).symm⟩
    · rw [List.getElem?_set_ne hj] at q
      exact .inr ⟨hj, q⟩
  refine ⟨_, s2, R.toRelH.freeze ho o.fr o.h0 o.n1 o.n2, by simpa using R.len, fun j e2 h2 => ?_, fun j e2 h2 => ?_, fun j k e2 e3 q h1 h2 h3 h4 => ?_⟩
  · rcases cs h2 with ⟨rfl, z⟩ | ⟨hj, z⟩
    · cases z
      refine ⟨_, e1, ?_⟩
      have w := o.at_
      cases d with
      | lst ds =>
        obtain ⟨vs, h1, h2, h3⟩ := w
        rw [ho] at h1
        cases h1
        exact .lst upd_same h2 (h3.mono s2)
      | dct es =>
        obtain ⟨vs, h1, h2, h3⟩ := w
        rw [ho] at h1
        cases h1
        exact .dct upd_same (h3.mono s2)
      | _ => exact w.elim
    · obtain ⟨v, e4, q⟩ := R.val j e2 z
      exact ⟨v, e4, q.mono s2⟩
  · rcases cs h2 with ⟨rfl, z⟩ | ⟨hj, z⟩
    · cases z
    · obtain ⟨q, e4, w⟩ := R.own j e2 z
      have nq : q ≠ p := fun z2 => by
        subst z2
        exact hj (R.inj i j d e2 q e z e1 e4)
      exact ⟨q, e4, ⟨by rw [upd_ne nq]; exact w.fr, w.n1, w.n2, w.h0, w.at_.keep s2 fun o h => h⟩⟩
  · rcases cs h1 with ⟨rfl, z⟩ | ⟨_, z⟩
    · cases z
    · rcases cs h2 with ⟨rfl, z2⟩ | ⟨_, z2⟩
      · cases z2
      · exact R.inj j k e2 e3 q z z2 h3 h4
def frzE (i : Nat) (r : Rho) (t : Tw) : Res (Fl × Rho) := match r[i]? with
    | some (.own d) => .ok (.nx, r.set i (.val d)) t
    | some (.val _) => .ok (.nx, r) t
    | _ => .bad
theorem ss_frz {i : Nat} (h2 : PSs X rest (tS P g)) : PSs X rest (tS P (consE (frzE i) g)) := pssMono h2 fun D σ H ⟨F, r, t, R, h⟩ => by
  unfold consE frzE at h
  cases e : r[i]? with
  | none =>
    rw [e] at h
    exact h.elim
  | some s =>
    rw [e] at h
    cases s with
    | un => exact h.elim
    | val d => exact ⟨F, r, t, R, h⟩
    | own d =>
      obtain ⟨F', s', R'⟩ := Rel.frzSlot R e
      exact ⟨F', _, t, R', ((show Aft P F (g (r.set i (.val d)) t) (aftS P F D) from h).up s').mono fun p t2 q => q.up s'⟩
/-! ### an object of ours is changed -/
theorem Rel.updOwn {F H : Hp} {r : Rho} {t : Tw} {σ : L2.St} {i : Nat} {d d' : D} {p : Addr} {o : HO} (R : RelP P F r t σ H) (e : r[i]? = some (.own d)) (e1 : σ[i]? = some (some (.ref p))) (h : OwnAt P.K P.T F (L2.upd H p o) p d') :
    RelP P F (r.set i (.own d')) t σ (L2.upd H p o) := by
  obtain ⟨p', e2, w⟩ := R.own i d e
  rw [e1] at e2
  cases e2
  have hi : i < r.length := (List.getElem?_eq_some_iff.mp e).1
  obtain ⟨ob, ho, _⟩ := w.at_.obj
  have cs : ∀ {j : Nat} {s : Sl}, (r.set i (.own d'))[j]? = some s → (i = j ∧ s = .own d') ∨ (i ≠ j ∧ r[j]? = some s) := fun {j s} q => by
    by_cases hj : i = j
    · subst hj
      rw [List.getElem?_set_self hi] at q
      exact .inl ⟨rfl, (Option.some.inj q).symm⟩
    · rw [List.getElem?_set_ne hj] at q
      exact .inr ⟨hj, q⟩
  have nF : ∀ b u, F b = some u → b ≠ p := fun b u h e => by
    rw [e, w.fr] at h
    cases h
  refine ⟨⟨fun b u h => ?_, R.new, R.base, fun b u h m1 m2 => ?_, fun b h => R.had b (upd_none h).1, ⟨?_, ?_, R.tw.ne, R.tw.small⟩, R.tF1, R.tF2, R.sc⟩, by simpa using R.len, fun j e2 h2 => ?_, fun j e2 h2 => ?_, fun j k e2 e3 q h1 h2 h3 h4 => ?_⟩
  · rw [upd_ne (nF b u h)]
    exact R.sub b u h
  · have : b ≠ p := fun e => by
      rw [e, w.h0] at h
      cases h
    rw [upd_ne this]
    exact R.old b u h m1 m2
  · rw [upd_ne (Ne.symm w.n1)]
    exact R.tw.a
  · rw [upd_ne (Ne.symm w.n2)]
    exact R.tw.b
  · rcases cs h2 with ⟨rfl, z⟩ | ⟨hj, z⟩
    · cases z
    · exact R.val j e2 z
  · rcases cs h2 with ⟨rfl, z⟩ | ⟨hj, z⟩
    · cases z
      exact ⟨p, e1, ⟨w.fr, w.n1, w.n2, w.h0, h⟩⟩
    · obtain ⟨q, e4, w2⟩ := R.own j e2 z
      have nq : q ≠ p := fun z2 => by
        subst z2
        exact hj (R.inj i j d e2 q e z e1 e4)
      exact ⟨q, e4, ⟨w2.fr, w2.n1, w2.n2, w2.h0, w2.at_.keep (Same.refl F) fun o h => by rw [upd_ne nq]; exact h⟩⟩
  · have own : ∀ {j : Nat} {e2 : D}, (r.set i (.own d'))[j]? = some (.own e2) → ∃ e3, r[j]? = some (.own e3) := fun {j e2} q => by
      rcases cs q with ⟨rfl, z⟩ | ⟨_, z⟩
      · exact ⟨d, e⟩
      · exact ⟨e2, z⟩
    obtain ⟨e4, z1⟩ := own h1
    obtain ⟨e5, z2⟩ := own h2
    exact R.inj j k e4 e5 q z1 z2 h3 h4
def borE (i : Nat) (r : Rho) (t : Tw) : Res D := match r[i]? with
    | some (.val d) => .ok d t
    | some (.own d) => .ok d t
    | _ => .bad
/-- the slot itself -/
theorem pe_slot {i : Nat} {x : Str} (hN : X.N[i]? = some x) (hv : Vis X.env.scope x) (hd : (x == ("__debug__" : Str)) = false) (hcd : (x == ("__classdict__" : Str)) = false) : PE X (.Name x pos) (tVar i) := pe_var hN hv hd hcd
def appE (i : Nat) (fa : Rho → Tw → Res D) (r : Rho) (t : Tw) : Res (Fl × Rho) := match r[i]? with
    | some (.own (.lst xs)) => (fa r t).bind fun x t1 => if decide (xs.length < 16777216) then .ok (.nx, r.set i (.own (.lst (xs ++ [x])))) t1 else .bad
    | _ => .bad
/-- the list that a slot has -/
theorem own_lst {F H : Hp} {r : Rho} {t : Tw} {σ : L2.St} {i : Nat} {xs : List D} (R : RelP P F r t σ H) (e : r[i]? = some (.own (.lst xs))) : ∃ p vs, σ[i]? = some (some (.ref p)) ∧ H p = some (.lst vs) ∧ vs.length ≤ sizeLine ∧ RpL P.K P.T F vs xs := by
  obtain ⟨p, e1, w⟩ := R.own i _ e
  obtain ⟨vs, h1, h2, h3⟩ := w.at_
  exact ⟨p, vs, e1, h1, h2, h3⟩
theorem own_dct {F H : Hp} {r : Rho} {t : Tw} {σ : L2.St} {i : Nat} {xs : List (Key × D)} (R : RelP P F r t σ H) (e : r[i]? = some (.own (.dct xs))) : ∃ p vs, σ[i]? = some (some (.ref p)) ∧ H p = some (.dK vs) ∧ vs.length ≤ sizeLine ∧ RpK P.K P.T F vs xs := by
  obtain ⟨p, e1, w⟩ := R.own i _ e
  obtain ⟨vs, h1, h2, h3⟩ := w.at_
  exact ⟨p, vs, e1, h1, h2, h3⟩
theorem appE_ok {i : Nat} {F : Hp} {r : Rho} {t : Tw} {Z : Fl × Rho → Tw → Prop} (h : Aft P F (appE i fa r t) Z) : ∃ xs, r[i]? = some (.own (.lst xs)) ∧ Aft P F ((fa r t).bind fun x t1 => if decide (xs.length < 16777216) then .ok (.nx, r.set i (.own (.lst (xs ++ [x])))) t1 else .bad) Z := by
  unfold appE at h
  split at h
  · rename_i xs e
    exact ⟨xs, e, h⟩
  · exact h.elim
theorem st_app {i : Nat} {y : Str} (hK : X.K = P.K) (hN : X.N[i]? = some y) (hv : Vis X.env.scope y) (hd : (y == ("__debug__" : Str)) = false) (hcd : (y == ("__classdict__" : Str)) = false) (ha : PE X a (tD P fa)) (hline : (p1.endLine == p2.line) = true)
    (hs : starEach [a] X.env = (false, eval a X.env) :: starEach [] X.env) {q : Pos} : PS X (.Expr (.Call (.Attribute (.Name y q) "append" p1) [a] [] p2) pos) (tS P (appE i fa)) := by
  have hfew : ((backTo p2 (starEach [a] X.env)).all (fun x => !x.1) && (backToKw p2 (keywordEach [] X.env)).all (fun x => x.1.isSome)
      && decide (([a] : List Expr).length + ([] : List Keyword).length + (if ([] : List Keyword).isEmpty then 0 else 1) < 30)) = true := by
    rw [hs]
    rfl
  refine psMono (ps_expr (pe_bm PySem.F.plainAttrs_list PySem.F.slot_list_append PySem.F.type_list_append mt_append (pe_slot hN hv hd hcd) (pa_cons ha pa_nil hs) rfl hfew hline hs rfl) rfl) fun D σ H ⟨F, r, t, R, h⟩ => ?_
  obtain ⟨xs, e, h⟩ := appE_ok h
  obtain ⟨p, vs, e1, h1, h2, h3⟩ := own_lst R e
  refine ⟨_, e1, .inl ⟨rfl, vs, SqL.of h1⟩, F, r, t, R, h.bind.mono fun d t' h v F' H' s R' rv => ?_⟩
  split at h
  · rename_i hl
    have hl := of_decide_eq_true hl
    obtain ⟨p', vs', e1', h1', h2', h3'⟩ := own_lst R' e
    rw [e1] at e1'
    cases e1'
    have hz : vs'.length < sizeLine := by
      rw [h3'.length, sizeLine_eq]
      exact hl
    refine ⟨p, vs', v, rfl, rfl, h1', hz, h F' σ _ s.1 (Rel.updOwn R' e e1 ⟨_, upd_same, ?_, h3'.append (.cons rv .nil)⟩)⟩
    rw [List.length_append, List.length_singleton]
    omega
  · exact h.elim
def putE (i : Nat) (fk fa : Rho → Tw → Res D) (r : Rho) (t : Tw) : Res (Fl × Rho) := match r[i]? with
    | some (.own (.dct kvs)) => (fa r t).bind fun x t1 => (fk r t1).bind fun y t2 => (match keyD y with
      | some k => if decide (kvs.length < 16777216) then .ok (.nx, r.set i (.own (.dct (putD kvs k x)))) t2 else .bad
      | none => .bad)
    | _ => .bad
theorem putE_ok {i : Nat} {fk : Rho → Tw → Res D} {F : Hp} {r : Rho} {t : Tw} {Z : Fl × Rho → Tw → Prop} (h : Aft P F (putE i fk fa r t) Z) : ∃ kvs, r[i]? = some (.own (.dct kvs)) ∧ Aft P F ((fa r t).bind fun x t1 => (fk r t1).bind fun y t2 => (match keyD y with
      | some k => if decide (kvs.length < 16777216) then .ok (.nx, r.set i (.own (.dct (putD kvs k x)))) t2 else .bad
      | none => .bad)) Z := by
  unfold putE at h
  split at h
  · rename_i xs e
    exact ⟨xs, e, h⟩
  · exact h.elim
theorem st_put {i : Nat} {y : Str} {q : Pos} (hu : X.A.units + 200 < cLine) (hN : X.N[i]? = some y) (hv : Vis X.env.scope y) (hd : (y == ("__debug__" : Str)) = false) (hcd : (y == ("__classdict__" : Str)) = false) (hb : PE X b (tB P fb)) (ha : PE X a (tD P fa))
    (hs : swapsWith a (some (.Subscript (.Name y q) b p1)) pos.line X.env = pure false) : PS X (.Assign [.Subscript (.Name y q) b p1] a pos) (tS P (putE i fb fa)) := by
  refine psMono (ps_dput (by omega) (pe_slot hN hv hd hcd) hb ha hs) fun D σ H ⟨F, r, t, R, h⟩ => ?_
  obtain ⟨xs, e, h⟩ := putE_ok h
  obtain ⟨p, vs, e1, h1, h2, h3⟩ := own_dct R e
  refine ⟨F, r, t, R, h.bind.mono fun d t1 h v F1 H1 s1 R1 rv => ⟨_, e1, F1, r, t1, R1, (h.up s1.1).bind.mono fun dk t2 h w F2 H2 s2 R2 rw' => ?_⟩⟩
  cases ek : keyD dk with
  | none =>
    rw [ek] at h
    exact h.elim
  | some k =>
    rw [ek] at h
    obtain rfl := key_of' R2 rw' ek
    have h : Aft P F1 (if decide (xs.length < 16777216) then .ok (.nx, r.set i (.own (.dct (putD xs k d)))) t2 else .bad) (aftS P F D) := h
    split at h
    · rename_i hl
      have hl := of_decide_eq_true hl
      obtain ⟨p', vs', e1', h1', h2', h3'⟩ := own_dct R2 e
      rw [e1] at e1'
      cases e1'
      have hz : vs'.length < sizeLine := by
        rw [h3'.length, sizeLine_eq]
        exact hl
      refine ⟨p, _, rfl, DPut.k h1' hz, h F2 σ _ (s1.1.trans s2.1) (Rel.updOwn R2 e e1 ⟨_, upd_same, ?_, h3'.put k (rv.mono s2.1)⟩)⟩
      have := length_putK vs' k v
      omega
    · exact h.elim
def putLE (i : Nat) (fk fa : Rho → Tw → Res D) (r : Rho) (t : Tw) : Res (Fl × Rho) := match r[i]? with
    | some (.own (.lst xs)) => (fa r t).bind fun x t1 => (fk r t1).bind fun y t2 => (match y with
      | .int j => (match L2.ixN xs.length j with
        | some n => .ok (.nx, r.set i (.own (.lst (xs.set n x)))) t2
        | none => .bad)
      | _ => .bad)
    | _ => .bad
theorem putLE_ok {i : Nat} {fk : Rho → Tw → Res D} {F : Hp} {r : Rho} {t : Tw} {Z : Fl × Rho → Tw → Prop} (h : Aft P F (putLE i fk fa r t) Z) : ∃ xs, r[i]? = some (.own (.lst xs)) ∧ Aft P F ((fa r t).bind fun x t1 => (fk r t1).bind fun y t2 => (match y with
      | .int j => (match L2.ixN xs.length j with
        | some n => .ok (.nx, r.set i (.own (.lst (xs.set n x)))) t2
        | none => .bad)
      | _ => .bad)) Z := by
  unfold putLE at h
  split at h
  · rename_i xs e
    exact ⟨xs, e, h⟩
  · exact h.elim
theorem st_putL {i : Nat} {y : Str} {q : Pos} (hN : X.N[i]? = some y) (hv : Vis X.env.scope y) (hd : (y == ("__debug__" : Str)) = false) (hcd : (y == ("__classdict__" : Str)) = false) (hb : PE X b (tB P fb)) (ha : PE X a (tD P fa))
    (hasg : ∀ v, assign (.Subscript (.Name y q) b p1) X.env v = (do
      let ov ← holding [v] (eval (.Name y q) X.env)
      let iv ← holding [v, ov] (eval b X.env)
      standAt p1
      holding [v, ov, iv] (setItem ov iv v)
      release [v, ov, iv] []))
    (hs : swapsWithSole [.Subscript (.Name y q) b p1] a pos.line X.env = pure false) (hw : swappedStores [.Subscript (.Name y q) b p1] a X.env = pure none) : PS X (.Assign [.Subscript (.Name y q) b p1] a pos) (tS P (putLE i fb fa)) := by
  refine psMono (ps_asg ha (pg_sub (pe_slot hN hv hd hcd) hb set_list hasg) hs hw rfl) fun D σ H ⟨F, r, t, R, h⟩ => ?_
  obtain ⟨xs, e, h⟩ := putLE_ok h
  obtain ⟨p, vs, e1, h1, h2, h3⟩ := own_lst R e
  refine ⟨F, r, t, R, h.bind.mono fun d t1 h v F1 H1 s1 R1 rv => ⟨_, e1, F1, r, t1, R1, (h.up s1.1).bind.mono fun dk t2 h w F2 H2 s2 R2 rw' => ?_⟩⟩
  cases dk with
  | int j =>
    obtain rfl := rw'.int R2
    obtain ⟨p', vs', e1', h1', h2', h3'⟩ := own_lst R2 e
    rw [e1] at e1'
    cases e1'
    have h : Aft P F1 (match L2.ixN xs.length j with
        | some n => .ok (.nx, r.set i (.own (.lst (xs.set n d)))) t2
        | none => .bad) (aftS P F D) := h
    cases en : L2.ixN xs.length j with
    | none =>
      rw [en] at h
      exact h.elim
    | some n =>
      rw [en] at h
      refine ⟨p, vs', j, n, rfl, rfl, h1', by rw [h3'.length]; exact en, ?_⟩
      exact h F2 σ _ (s1.1.trans s2.1) (Rel.updOwn R2 e e1 ⟨_, upd_same, by rw [List.length_set]; exact h2', h3'.set (rv.mono s2.1) n⟩)
  | _ => exact (show False from h).elim
/-! ### name op= e, of ints -/
def augE (i : Nat) (op : Operator) (fa : Rho → Tw → Res D) (r : Rho) (t : Tw) : Res (Fl × Rho) := match r[i]? with
    | some (.val x) => (fa r t).bind fun y t1 => match x, y with
      | .int _, .int _ => Fm.lift ((binD op x y).map fun z => (.nx, r.set i (.val z))) t1
      | _, _ => .bad
    | _ => .bad
theorem augE_ok {i : Nat} {op : Operator} {F : Hp} {r : Rho} {t : Tw} {Z : Fl × Rho → Tw → Prop} (h : Aft P F (augE i op fa r t) Z) : ∃ x, r[i]? = some (.val x) ∧ Aft P F ((fa r t).bind fun y t1 => match x, y with
      | .int _, .int _ => Fm.lift ((binD op x y).map fun z => (.nx, r.set i (.val z))) t1
      | _, _ => .bad) Z := by
  unfold augE at h
  split at h
  · rename_i xs e
    exact ⟨xs, e, h⟩
  · exact h.elim
/-- the rule of an in-place operator upon ints -/
def IpS (X : Cx) (op : Operator) : Prop := ∃ (C : Int → Int → Prop) (g : Int → Int → Int), OpR X (inplaceOp op) (rI C fun i j => .int (g i j)) ∧ ∀ i j d, binD op (.int i) (.int j) = some d → C i j ∧ d = .int (g i j)
theorem ip_of {op : Operator} (h : op = .Add ∨ op = .Sub ∨ op = .Mult ∨ op = .FloorDiv ∨ op = .Mod) : IpS X op := by
  rcases h with rfl | rfl | rfl | rfl | rfl
  · exact ⟨fun _ _ => True, fun i j => i + j, opI fun _ _ _ _ _ _ _ _ q => iadd_int q, fun i j d e => by cases e; exact ⟨trivial, rfl⟩⟩
  · exact ⟨fun _ _ => True, fun i j => i - j, opI fun _ _ _ _ _ _ _ _ q => isub_int q, fun i j d e => by cases e; exact ⟨trivial, rfl⟩⟩
  · refine ⟨CMulW, fun i j => i * j, opI fun _ _ _ _ _ _ _ hc q => imul_int q hc.ok, fun i j d e => ?_⟩
    simp only [binD, mulD] at e
    split at e
    · rename_i h
      cases e
      exact ⟨(of_decide_eq_true h : i.natAbs.log2 + j.natAbs.log2 < 1000000), rfl⟩
    · cases e
  · refine ⟨CDivA, fun i j => i.fdiv j, opI fun i j _ _ _ _ _ hc q => ifloordiv_int hc.1 q (.inl (PyProof.noPylong_of_log2 hc.2)), fun i j d e => ?_⟩
    simp only [binD, fdivD] at e
    split at e
    · rename_i h
      cases e
      have h2 := Bool.and_eq_true_iff.mp h
      exact ⟨⟨of_decide_eq_true h2.1, of_decide_eq_true h2.2⟩, rfl⟩
    · cases e
  · refine ⟨fun _ j => j ≠ 0, fun i j => i.fmod j, opI fun i j _ _ _ _ _ hc q => imod_int hc q, fun i j d e => ?_⟩
    simp only [binD, modD] at e
    split at e
    · cases e
    · rename_i h
      cases e
      exact ⟨h, rfl⟩
theorem st_aug {i : Nat} {y : Str} {q : Pos} {op : Operator} (hop : IpS X op) (hN : X.N.Nodup) (hi : X.N[i]? = some y) (hx : Loc X.env.scope y) (hf : X.fn y = true ∨ X.env.scope.names.lookup y = some .local) (ha : PE X a (tB P fa)) :
    PS X (.AugAssign (.Name y q) op a pos) (tS P (augE i op fa)) := by
  obtain ⟨C, g, ho, hg⟩ := hop
  refine psMono (ps_aug hN hi hx ha ho hf) fun D σ H ⟨F, r, t, R, h⟩ => ?_
  obtain ⟨x, e, h⟩ := augE_ok h
  obtain ⟨v, e1, rv⟩ := R.val i x e
  refine ⟨v, e1, F, r, t, R, h.bind.mono fun d t' h w F' H' s R' rw' => ?_⟩
  cases x with
  | int m =>
    cases d with
    | int n =>
      obtain ⟨p, e2, q⟩ := Aft.lift h
      obtain ⟨z, e3, rfl⟩ := Option.map_eq_some_iff.mp e2
      obtain ⟨c, rfl⟩ := hg m n z e3
      cases rv
      exact ⟨m, n, rfl, rw'.int R', c, q F' _ H' s.1 (R'.setVal (.int _))⟩
    | _ => exact (show False from h).elim
  | _ => exact (show False from h).elim
end
end Fm

/-! ### loops, starred targets, raise -/
namespace Fm
open PySem PySem.Spec PyProof.Rows L2
section
variable {P : Pm} {X : Cx} {a b c : Expr} {pos p1 p2 : Pos} {fa fb fc : Rho → Tw → Res D} {st : Stmt} {rest : List Stmt} {f g : Rho → Tw → Res (Fl × Rho)}
def forE (tg : Tg) (fi : Rho → Tw → Res (List D)) (f : Rho → Tw → Res (Fl × Rho)) (r : Rho) (t : Tw) : Res (Fl × Rho) := (fi r t).bind fun xs t1 => loopF (fun d r t => match setT tg d r with
    | some r1 => f r1 t
    | none => .bad) xs r t1
theorem for_turn {tg : Tg} {d : D} {ds : List D} {F : Hp} {r : Rho} {t : Tw} {D' : Ends} (h : Aft P F (loopF (fun d r t => match setT tg d r with
    | some r1 => f r1 t
    | none => .bad) (d :: ds) r t) (aftS P F D')) : ∃ r1, setT tg d r = some r1 ∧ Aft P F (f r1 t) fun p t1 => match p with
      | (.nx, r2) => Aft P F (loopF (fun d r t => match setT tg d r with
        | some r1 => f r1 t
        | none => .bad) ds r2 t1) (aftS P F D')
      | (.cont, r2) => Aft P F (loopF (fun d r t => match setT tg d r with
        | some r1 => f r1 t
        | none => .bad) ds r2 t1) (aftS P F D')
      | (.brk, r2) => aftS P F D' (.nx, r2) t1
      | (.ret d, r2) => aftS P F D' (.ret d, r2) t1 := by
  simp only [loopF] at h
  cases e : setT tg d r with
  | none =>
    rw [e] at h
    exact h.elim
  | some r1 =>
    rw [e] at h
    refine ⟨r1, rfl, h.bind.mono fun p t1 h => ?_⟩
    obtain ⟨fl, r2⟩ := p
    cases fl with
    | nx => exact h
    | cont => exact h
    | brk => exact h
    | ret d => exact h
theorem st_for {tg iter : Expr} {tt : Tg} {body : List Stmt} {fi : Rho → Tw → Res (List D)} (hp : PassesOwn (model X.prog X.w) X.A X.env X.xe) (hc : X.calm = true) (hi : PI X tg iter (tI P true fi)) (hg : PG X tg (gT P tt)) (hb : PSs X body (tS P f))
    (hs : ∀ x, foldedSetIterable iter X.env x = pure x) : PS X (.For tg iter body [] pos) (tS P (forE tt fi f)) := by
  refine psMono (ps_for hp hc hi hg hb hs) fun D σ H ⟨F, r, t, R, h⟩ => ⟨F, r, t, R, h.bind.mono fun ds t1 h J F1 H1 s1 R1 w => ?_⟩
  have w : WD P J (Same F1) F1 ds := w
  refine ⟨fun i m σ H => m = ds.length - i ∧ i ≤ ds.length ∧ ∃ F2 r2 t2, Same F1 F2 ∧ RelP P F2 r2 t2 σ H ∧ Aft P F2 (loopF (fun d r t => match setT tt d r with
    | some r1 => f r1 t
    | none => .bad) (ds.drop i) r2 t2) (aftS P F2 D), ⟨ds.length, by simp, Nat.zero_le _, F1, r, t1, Same.refl F1, R1, (h.up s1.1).mono fun p t2 q => q.up s1.1⟩, fun i m σ2 H2 hW => ?_⟩
  obtain ⟨rfl, hi, F2, r2, t2, s2, R2, h⟩ := hW
  have hG : Same F1 H2 := s2.trans R2.sub
  by_cases hlt : i < ds.length
  · refine .inr ⟨w.goes i H2 hlt hG, fun σ' H' => ∃ F2 r2 t2, Same F1 F2 ∧ RelP P F2 r2 t2 σ' H' ∧ Aft P F2 (loopF (fun d r t => match setT tt d r with
      | some r1 => f r1 t
      | none => .bad) (ds.drop (i + 1)) r2 t2) (aftS P F2 D), fun σ' H' hn => ⟨_, by omega, rfl, hlt, hn⟩, fun x H' hy => ?_⟩
    have hdi : ds[i]? = some ds[i] := List.getElem?_eq_getElem hlt
    rw [List.drop_eq_getElem_cons hlt] at h
    obtain ⟨r3, e3, h⟩ := for_turn h
    obtain ⟨F3, s3, R3, rx⟩ : ∃ F3, Same F2 F3 ∧ RelP P F3 r2 t2 σ2 H' ∧ Rp P.K P.T F3 x ds[i] := by
      rcases w.yields i H2 x H' _ hdi hG hy with ⟨rfl, rx⟩ | ⟨p, xs, es', rfl, hp, rfl, ed, z, qx⟩
      · exact ⟨F2, Same.refl F2, R2, rx.mono s2⟩
      · have b := R2.toRelH.newF (o := .tup xs) hp
        refine ⟨_, b.base, R2.step b, ?_⟩
        rw [ed]
        exact .tup (SqT.of upd_same) z (qx.mono (s2.trans b.base))
    refine ⟨F3, r2, t2, ds[i], r3, R3, rx, e3, fun σ4 R4 _ => ⟨F3, r3, t2, R4, (h.up s3).mono fun p t4 h => ?_⟩⟩
    obtain ⟨fl, r4⟩ := p
    cases fl with
    | nx => exact fun F5 σ5 H5 s5 R5 => ⟨F5, r4, t4, (s2.trans s3).trans s5, R5, ((show Aft P F2 _ (aftS P F2 D) from h).up (s3.trans s5)).mono fun p t q => q.up (s3.trans s5)⟩
    | cont => exact fun F5 σ5 H5 s5 R5 => ⟨F5, r4, t4, (s2.trans s3).trans s5, R5, ((show Aft P F2 _ (aftS P F2 D) from h).up (s3.trans s5)).mono fun p t q => q.up (s3.trans s5)⟩
    | brk => exact fun F5 σ5 H5 s5 R5 => h F5 σ5 H5 (s3.trans s5) R5
    | ret d => exact fun v F5 H5 s5 R5 rv => h v F5 H5 (s3.trans s5) R5 rv
  · have ei : i = ds.length := by omega
    subst ei
    refine .inl ⟨w.stops H2 hG, ?_⟩
    rw [List.drop_length] at h
    exact h F2 σ2 H2 (Same.refl F2) R2
theorem st_while {body : List Stmt} (hp : PassesOwn (model X.prog X.w) X.A X.env X.xe) (hc : PT X c (tT P fc)) (hb : PSs X body (tS P f)) : PS X (.While c body [] pos) (tS P (loopW fc f)) := by
  refine psMono (ps_while hp hc hb) fun D σ H ⟨F, r, t, R, h⟩ => ?_
  obtain ⟨n, hn⟩ := loopW_not (c := fc) (f := f) (r := r) (t := t) fun e => by
    rw [e] at h
    exact h
  refine ⟨fun m σ H => ∃ F2 r2 t2 v, RelP P F2 r2 t2 σ H ∧ loopN fc f m r2 t2 = some v ∧ Aft P F2 v (aftS P F2 D), ⟨n, F, r, t, _, R, hn, h⟩, fun m σ2 H2 hW => ?_⟩
  obtain ⟨F2, r2, t2, v, R2, hm, h⟩ := hW
  cases m with
  | zero => simp [loopN] at hm
  | succ m =>
    simp only [loopN] at hm
    refine ⟨F2, r2, t2, R2, ?_⟩
    cases ec : fc r2 t2 with
    | exc k t3 =>
      rw [ec] at hm
      cases hm
      exact h
    | bad =>
      rw [ec] at hm
      cases hm
      exact h
    | ok x t3 =>
      rw [ec] at hm
      dsimp only at hm
      cases ex : truD x with
      | none =>
        rw [ex] at hm
        cases hm
        exact h.elim
      | some k =>
        rw [ex] at hm
        refine ⟨k, ex, fun F3 H3 s3 R3 => ?_⟩
        cases k with
        | false =>
          cases hm
          rw [if_neg (by decide)]
          exact h F3 σ2 H3 s3.1 R3
        | true =>
          rw [if_pos rfl]
          dsimp only at hm
          refine ⟨fun σ' H' => ∃ F2 r2 t2 v, RelP P F2 r2 t2 σ' H' ∧ loopN fc f m r2 t2 = some v ∧ Aft P F2 v (aftS P F2 D), fun σ' H' q => ⟨m, by omega, q⟩, F3, r2, t3, R3, ?_⟩
          cases ef : f r2 t3 with
          | exc k t4 =>
            rw [ef] at hm
            cases hm
            exact Aft.up h s3.1
          | bad =>
            rw [ef] at hm
            cases hm
            exact h
          | ok p t4 =>
            rw [ef] at hm
            obtain ⟨fl, r4⟩ := p
            cases fl with
            | nx => exact fun F5 σ5 H5 s5 R5 => ⟨F5, r4, t4, v, R5, hm, (h.up (s3.1.trans s5)).mono fun p t q => q.up (s3.1.trans s5)⟩
            | cont => exact fun F5 σ5 H5 s5 R5 => ⟨F5, r4, t4, v, R5, hm, (h.up (s3.1.trans s5)).mono fun p t q => q.up (s3.1.trans s5)⟩
            | brk =>
              cases hm
              exact fun F5 σ5 H5 s5 R5 => h F5 σ5 H5 (s3.1.trans s5) R5
            | ret d =>
              cases hm
              exact fun v F5 H5 s5 R5 rv => h v F5 H5 (s3.1.trans s5) R5 rv
/-! ### x, *y = e -/
theorem star_unpack {prog : Program} {w : World} {A : Around} {E : Value → Shared → Prop} {s : Shared} {l : Addr} {y : Value} {ys : List Value} {Q : List Value → Shared → Prop} (hl : IsTup s.heap l (y :: ys).toArray) (hh : A.handled = none) (hz : ys.length < 16384)
    (h : ∀ (h' : Heap) (tk : Nat), (∀ b o, s.heap.get? b = some o → h'.get? b = some o) → Q [y, .ref h'.objs.size] { s with heap := h'.push { cls := .type "list", data := .seq ys.toArray }, toks := tk }) :
    wpAny (model prog w) A (unpackItems (.ref l) 2 (some 1)) Q E s := by
  have hlt : l ≠ s.heap.objs.size := let ⟨_, ho, _⟩ := hl; Nat.ne_of_lt (Heap.lt_size ho)
  have iterable : ∀ {R : Bool → Shared → Prop}, R false s → wpAny (model prog w) A (notIterableAtAll (.ref l)) R E s := fun q => wpAny_bind (wpAny_specialOf hl.typeIs slot_tuple_iter.lookup (wpAny_pure q))
  unfold unpackItems
  refine wpAny_bind (iterable ?_)
  rw [if_neg Bool.false_ne_true]
  refine wpAny_bind (wpAny_holding (iter_tuple hl (?_)))
  refine wpAny_bind (wpAny_holding (draw_tuple hlt 1 0 _ _ ⟨_, Heap.get?_push_size _ rfl, rfl, rfl⟩ (hl.push _) (by simp) fun h₁ hit₁ hs₁ => ?_))
  have hl₁ : IsTup h₁ l (y :: ys).toArray := (hl.push _).extBut hs₁.extBut hlt
  rw [Nat.zero_add] at hit₁
  have hit₁' := hit₁
  obtain ⟨oi, hoi, _⟩ := hit₁'
  have hl₁' := hl₁
  obtain ⟨ol, hol, _⟩ := hl₁'
  refine wpAny_bind (wpAny_holding (PySem.W.kun_collect (s := { s with heap := h₁ }) (T := "tuple_iterator") (.inr (.inr (.inr rfl))) (Walks.tuple (A := A.in1) hh s.heap.objs.size l hlt (y :: ys).toArray) (fun j u st => st.1.typeIs) (k := 1) (by simp) ⟨hit₁, hl₁⟩ (Heap.lt_size hoi) (Heap.lt_size hol) (fun h₂ tk hk => ?_) (by rw [sizeLine_eq]; simp; omega)))
  show wpAny _ _ (newList (ys.take (ys.length - 0)) >>= fun d => pure ([y] ++ [d] ++ ys.drop (ys.length - 0))) _ _ _
  have e1 : ys.take (ys.length - 0) = ys := by simp
  have e2 : ys.drop (ys.length - 0) = [] := by simp
  rw [e1, e2]
  have he : ∀ b o, s.heap.get? b = some o → h₂.get? b = some o := fun b o e => by
    have nb : b ≠ s.heap.objs.size := Nat.ne_of_lt (Heap.lt_size e)
    exact hk b o nb (hs₁.extBut b o nb (Heap.get?_push_of_some _ e))
  refine wpAny_bind (wpAny_newList (wpAny_pure ?_) (by rw [sizeLine_eq]; omega))
  exact h h₂ tk he
def starE (i j : Nat) (fa : Rho → Tw → Res D) (r : Rho) (t : Tw) : Res (Fl × Rho) := (fa r t).bind fun x t1 => match x with
    | .tup (y :: ys) => if decide (i < r.length) && decide (j < r.length) && decide (ys.length < 16384) then .ok (.nx, (r.set i (.val y)).set j (.val (.lst ys))) t1 else .bad
    | _ => .bad
def gSt (P : Pm) (i j : Nat) : TG := fun v σ H Q => ∃ F r t y ys, RelP P F r t σ H ∧ Rp P.K P.T F v (.tup (y :: ys)) ∧ ys.length < 16384 ∧ ∀ F' σ' H', Same F F' → RelP P F' ((r.set i (.val y)).set j (.val (.lst ys))) t σ' H' → Q σ' H'
theorem g_star {i j : Nat} {x y : Str} {k : Nat} {q1 q2 q3 : Pos} (hK : X.K = P.K) (hc : X.calm = true) (hN : X.N.Nodup) (hi : X.N[i]? = some x) (hj : X.N[j]? = some y) (hx : Loc X.env.scope x) (hy : Loc X.env.scope y)
    (hfx : X.fn x = true ∨ X.env.scope.names.lookup x = some .local) (hfy : X.fn y = true ∨ X.env.scope.names.lookup y = some .local) : PG X (.Tuple [.Name x q1, .Starred (.Name y q2) q3] k pos) (gSt P i j) := by
  refine ⟨fun pins s σ H v u Q I rv h => ?_⟩
  obtain ⟨F, r, t, d, ds, R, rd, hl, q⟩ := h
  cases rd with
  | @tup p xs _ h1 z h2 =>
  cases h2 with
  | @cons v1 vs _ _ r1 r2 =>
  cases rv
  have h1' : SqT X.K H p (v1 :: vs) := by
    rw [hK]
    exact sqT_mono R.sub h1
  obtain ⟨its, rv, ht, hz⟩ := I.tuple h1'
  cases rv with
  | @cons _ u1 _ us ru rus =>
  rw [assign_Tuple]
  refine wpAny_bind (wpAny_standAt ?_)
  unfold unpack
  show wpAny _ _ (assignInOrder _ =<< holding [.ref p] (unpackItems (.ref p) 2 (some 1))) _ _ _
  have hlen : vs.length = us.length := rus.length
  have hvs : vs.length = ds.length := r2.length
  refine wpAny_bind (wpAny_holding (star_unpack ht (I.ok.hd hc) (by omega) fun h' tk hk => ?_))
  have I1 : Inv X pins σ H { s with heap := h', toks := tk } := I.kept hk
  have hf : H h'.objs.size = none := I1.hok.fresh (Nat.le_refl _)
  have hzz : vs.length ≤ sizeLine := by
    rw [sizeLine_eq]
    omega
  have I2 : Inv X pins σ (L2.upd H h'.objs.size (.lst vs)) { s with heap := h'.push { cls := .type "list", data := .seq us.toArray }, toks := tk } := I1.lnew rus hzz
  have b := R.toRelH.newF (o := .lst vs) hf
  have R2 := R.step b
  have pgs : PGs X [.Name x q1, .Name y q2] (gCons (gName i) (gCons (gName j) gNil)) := pgs_cons (pg_name hN hi hx hfx) (pgs_cons (pg_name hN hj hy hfy) pgs_nil rfl) rfl
  refine pgs.run pins _ σ _ [v1, .ref h'.objs.size] [u1, .ref h'.objs.size] Q I2 (.cons ru (.cons rfl .nil)) ⟨v1, _, rfl, .ref _, [], rfl, rfl, ?_⟩
  exact q _ _ _ b.base ((R2.setVal (r1.mono b.base)).setVal (.lst upd_same hzz (r2.mono b.base)))
theorem st_star {i j : Nat} {x y : Str} {k : Nat} {q1 q2 q3 q4 : Pos} (hK : X.K = P.K) (hc : X.calm = true) (hN : X.N.Nodup) (hi : X.N[i]? = some x) (hj : X.N[j]? = some y) (hx : Loc X.env.scope x) (hy : Loc X.env.scope y)
    (hfx : X.fn x = true ∨ X.env.scope.names.lookup x = some .local) (hfy : X.fn y = true ∨ X.env.scope.names.lookup y = some .local) (ha : PE X a (tD P fa)) (hs : swapsWithSole [.Tuple [.Name x q1, .Starred (.Name y q2) q3] k q4] a pos.line X.env = pure false)
    (hw : swappedStores [.Tuple [.Name x q1, .Starred (.Name y q2) q3] k q4] a X.env = pure none) : PS X (.Assign [.Tuple [.Name x q1, .Starred (.Name y q2) q3] k q4] a pos) (tS P (starE i j fa)) :=
  psMono (ps_asg ha (g_star (P := P) hK hc hN hi hj hx hy hfx hfy) hs hw rfl) fun D σ H ⟨F, r, t, R, h⟩ => ⟨F, r, t, R, h.bind.mono fun d t' h v F' H' s R' rv => by
    cases d with
    | tup xs =>
      cases xs with
      | nil => exact (show False from h).elim
      | cons y ys =>
        have h : Aft P F (if decide (i < r.length) && decide (j < r.length) && decide (ys.length < 16384) then .ok (.nx, (r.set i (.val y)).set j (.val (.lst ys))) t' else .bad) (aftS P F D) := h
        split at h
        · rename_i hb
          exact ⟨F', r, t', y, ys, R', rv, of_decide_eq_true (Bool.and_eq_true_iff.mp hb).2, fun F2 σ2 H2 s2 R2 => h F2 σ2 H2 (s.1.trans s2) R2⟩
        · exact h.elim
    | _ => exact (show False from h).elim⟩
/-! ### raise -/
theorem st_raise {n : Nat} {C : Addr} {cl : Nat → Addr} {x m : Str} {j : Nat} {p3 p4 : Pos} {bmB : List Value} {B newId initId : String} (hc : X.calm = true) (tk : Takes X fun c d _ H => EX cl P.XE c d H) (F : ExcBaseFacts B newId initId bmB)
    (q : PySem.W.excIn X.K (cl n) bmB newId = true) (gC : X.mg x = some (.ref (cl n))) (kC : PySem.W.keepIn X.K (.ref (cl n)) = true) (rC : Raises X (.ref (cl n))) (hg : Gl X x) (hdb : (x == ("__debug__" : Str)) = false) :
    PS X (.Raise (some (.Call (.Name x p1) [.Constant (.str m) j p2] [] p3)) none p4) (tS P fun _ t => .exc n t) :=
  psMono (ps_raise hc tk (pmk_own F q gC kC rC hg hdb)) fun D σ H ⟨F, r, t, R, h⟩ => ⟨n, rfl, rfl, h F H (Same.refl F) R.toRelH⟩
end
end Fm

/-! ### the town of the draws -/
namespace Fm
open PySem PySem.Spec PyProof.Rows L2
section
variable {P : Pm} {X : Cx} {a b c : Expr} {pos p1 p2 : Pos} {fa fb fc : Rho → Tw → Res D} {i : Nat} {y : Str} {q : Pos} {j : Nat}
theorem tok_at {F H : Hp} {r : Rho} {t : Tw} {σ : L2.St} (R : RelP P F r t σ H) (e : r[i]? = some (.val .tok)) : σ[i]? = some (some (.ref P.T.a)) := by
  obtain ⟨v, e1, h⟩ := R.val i _ e
  cases h
  exact e1
/-- the town is changed -/
theorem Rel.town {F H H' : Hp} {r : Rho} {t t' : Tw} {σ : L2.St} (R : RelP P F r t σ H) (hn : ∀ b, b ≠ P.T.a → b ≠ P.T.b → H' b = H b) (tw : Town P.T t' H') : RelP P F r t' σ H' := by
  have fa := R.tF1
  have fb := R.tF2
  refine ⟨⟨fun b o h => ?_, R.new, R.base, fun b o h n1 n2 => ?_, fun b h => ?_, tw, fa, fb, R.sc⟩, R.len, R.val, fun i d h => ?_, R.inj⟩
  · have n1 : b ≠ P.T.a := fun e => by
      rw [e, fa] at h
      cases h
    have n2 : b ≠ P.T.b := fun e => by
      rw [e, fb] at h
      cases h
    rw [hn b n1 n2]
    exact R.sub b o h
  · rw [hn b n1 n2]
    exact R.old b o h n1 n2
  · by_cases n1 : b = P.T.a
    · subst n1
      rw [tw.a] at h
      cases h
    · by_cases n2 : b = P.T.b
      · subst n2
        rw [tw.b] at h
        cases h
      · rw [hn b n1 n2] at h
        exact R.had b h
  · obtain ⟨p, e, w⟩ := R.own i d h
    exact ⟨p, e, ⟨w.fr, w.n1, w.n2, w.h0, w.at_.keep (Same.refl F) fun o h => by rw [hn p w.n1 w.n2]; exact h⟩⟩
def tcountE (i : Nat) (r : Rho) (t : Tw) : Res D := match r[i]? with
    | some (.val .tok) => .ok (.int t.count) t
    | _ => .bad
def tgetE (i : Nat) (fk fd : Rho → Tw → Res D) (r : Rho) (t : Tw) : Res D := match r[i]? with
    | some (.val .tok) => (fk r t).bind fun y t1 => (fd r t1).bind fun z t2 => (match y, z with
      | .int a, .int b => .ok (.int ((lkT t2.rests a).getD b)) t2
      | _, _ => .bad)
    | _ => .bad
def tcntE (i : Nat) (fa : Rho → Tw → Res D) (r : Rho) (t : Tw) : Res (Fl × Rho) := match r[i]? with
    | some (.val .tok) => (fa r t).bind fun x t1 => (match x with
      | .int c => .ok (.nx, r) { t1 with count := c }
      | _ => .bad)
    | _ => .bad
def trstE (i : Nat) (fk fa : Rho → Tw → Res D) (r : Rho) (t : Tw) : Res (Fl × Rho) := match r[i]? with
    | some (.val .tok) => (fa r t).bind fun x t1 => (fk r t1).bind fun y t2 => (match x, y with
      | .int v, .int a => if decide (t2.rests.length < 1000000) then .ok (.nx, r) { t2 with rests := putT t2.rests a v } else .bad
      | _, _ => .bad)
    | _ => .bad
theorem tok_of {α : Type} {F : Hp} {r : Rho} {m : Res α} {Z : α → Tw → Prop} (h : Aft P F (match r[i]? with
    | some (.val .tok) => m
    | _ => .bad) Z) : r[i]? = some (.val .tok) ∧ Aft P F m Z := by
  split at h
  · rename_i e
    exact ⟨e, h⟩
  · exact h.elim
theorem valV_rests (rs : List (Int × Int)) (k : Int) : valV (rs.map fun p => ((.inl p.1 : Key), V.int p.2)) (.inl k) = (lkT rs k).map V.int := by
  induction rs with
  | nil => rfl
  | cons p r ih =>
    by_cases e : p.1 = k
    · rw [List.map_cons, valV_pos (by rw [e])]
      simp [lkT, List.find?_cons, e]
    · rw [List.map_cons, valV_neg (by simpa using e), ih]
      simp [lkT, List.find?_cons, e]
theorem putK_rests (rs : List (Int × Int)) (k v : Int) : putK (rs.map fun p => ((.inl p.1 : Key), V.int p.2)) (.inl k) (.int v) = (putT rs k v).map fun p => ((.inl p.1 : Key), V.int p.2) := by
  unfold putK putT
  have e : ((rs.map fun p => ((.inl p.1 : Key), V.int p.2)).any fun kv => decide (kv.1 = (.inl k : Key))) = rs.any fun p => decide (p.1 = k) := by
    rw [List.any_map]
    congr 1
    funext p
    simp
  rw [e]
  split
  · rw [List.map_map, List.map_map]
    refine List.map_congr_left fun p _ => ?_
    simp only [Function.comp]
    by_cases e : p.1 = k
    · simp [e]
    · simp [e]
  · simp
theorem putT_len (rs : List (Int × Int)) (k v : Int) : (putT rs k v).length ≤ rs.length + 1 := by
  unfold putT
  split <;> simp
/-- town['count'] -/
theorem s_tcount (hu : X.A.units + 200 < cLine) (hN : X.N[i]? = some y) (hv : Vis X.env.scope y) (hd : (y == ("__debug__" : Str)) = false) (hcd : (y == ("__classdict__" : Str)) = false) : PE X (.Subscript (.Name y q) (.Constant (.str "count") j p1) pos) (tD P (tcountE i)) := by
  refine peMono (pe_dget (by omega) (pe_slot hN hv hd hcd) pe_str (fun _ _ => rfl)) fun σ H Q ⟨F, r, t, R, h⟩ => ?_
  obtain ⟨e, h⟩ := tok_of h
  refine ⟨_, tok_at R e, P.T.a, .int t.count, rfl, DGet.k (k := .inr "count") R.tw.a, h _ _ _ Kp.refl R (.int _)⟩
theorem town_rests (hu : X.A.units + 200 < cLine) (hN : X.N[i]? = some y) (hv : Vis X.env.scope y) (hd : (y == ("__debug__" : Str)) = false) (hcd : (y == ("__classdict__" : Str)) = false) :
    PE X (.Subscript (.Name y q) (.Constant (.str "rests") j p1) pos) (fun σ H Q => ∃ F r t, RelP P F r t σ H ∧ r[i]? = some (.val .tok) ∧ Q (.ref P.T.b) H) := by
  refine peMono (pe_dget (by omega) (pe_slot hN hv hd hcd) pe_str (fun _ _ => rfl)) fun σ H Q ⟨F, r, t, R, e, h⟩ => ?_
  refine ⟨_, tok_at R e, P.T.a, .ref P.T.b, rfl, ?_, h⟩
  have := DGet.k (k := .inr "rests") R.tw.a
  exact this
theorem s_tget (hu : X.A.units + 200 < cLine) (hN : X.N[i]? = some y) (hv : Vis X.env.scope y) (hd : (y == ("__debug__" : Str)) = false) (hcd : (y == ("__classdict__" : Str)) = false) {p3 p4 : Pos} (hb : PE X b (tB P fb)) (hc : PE X c (tD P fc))
    (m : M2 X (.Subscript (.Name y q) (.Constant (.str "rests") j p1) pos) "get" p3 b c p4) : PE X (.Call (.Attribute (.Subscript (.Name y q) (.Constant (.str "rests") j p1) pos) "get" p3) [b, c] [] p4) (tD P (tgetE i fb fc)) := by
  refine peMono (pe_dget2 (by omega) (town_rests (P := P) hu hN hv hd hcd) hb hc m) fun σ H Q ⟨F, r, t, R, h⟩ => ?_
  obtain ⟨e, h⟩ := tok_of h
  refine ⟨F, r, t, R, e, P.T.b, rfl, .inl ⟨_, .inl R.tw.b⟩, F, r, t, R, h.bind.mono fun dy t1 h v F1 H1 s1 R1 ry => ⟨F1, r, t1, R1, (h.up s1.1).bind.mono fun dz t2 h u F2 H2 s2 R2 rz => ?_⟩⟩
  cases dy with
  | int k =>
    cases dz with
    | int z =>
      obtain rfl := (ry.mono s2.1).int R2
      cases rz
      refine ⟨_, DGet.k (k := .inl k) R2.tw.b, ?_⟩
      rw [valV_rests]
      have := h (.int ((lkT t2.rests k).getD z)) F2 H2 (s1.trans s2) R2 (.int _)
      cases e2 : lkT t2.rests k with
      | none =>
        rw [e2] at this
        exact this
      | some w =>
        rw [e2] at this
        exact this
    | _ => exact (show False from h).elim
  | _ => exact (show False from h).elim
/-- town['count'] = e -/
theorem st_tcnt (hu : X.A.units + 200 < cLine) (hN : X.N[i]? = some y) (hv : Vis X.env.scope y) (hd : (y == ("__debug__" : Str)) = false) (hcd : (y == ("__classdict__" : Str)) = false) (ha : PE X a (tD P fa))
    (hs : swapsWith a (some (.Subscript (.Name y q) (.Constant (.str "count") j p1) p2)) pos.line X.env = pure false) : PS X (.Assign [.Subscript (.Name y q) (.Constant (.str "count") j p1) p2] a pos) (tS P (tcntE i fa)) := by
  refine psMono (ps_dput (by omega) (pe_slot hN hv hd hcd) pe_str ha hs) fun D σ H ⟨F, r, t, R, h⟩ => ?_
  obtain ⟨e, h⟩ := tok_of h
  refine ⟨F, r, t, R, h.bind.mono fun d t1 h v F1 H1 s1 R1 rv => ⟨_, tok_at R1 e, ?_⟩⟩
  split at h
  · rename_i c
    cases rv
    have d := DPut.k (k := .inr "count") (v := .int c) R1.tw.a (by rw [sizeLine_eq]; simp)
    refine ⟨P.T.a, _, rfl, d, h F1 σ _ s1.1 (Rel.town R1 (fun b n1 n2 => upd_ne n1) ⟨?_, ?_, R1.tw.ne, R1.tw.small⟩)⟩
    · rw [upd_same]
      rfl
    · rw [upd_ne (Ne.symm R1.tw.ne)]
      exact R1.tw.b
  · exact h.elim
/-- town['rests'][k] = e -/
theorem st_trst (hu : X.A.units + 200 < cLine) (hN : X.N[i]? = some y) (hv : Vis X.env.scope y) (hd : (y == ("__debug__" : Str)) = false) (hcd : (y == ("__classdict__" : Str)) = false) {p3 : Pos} (hb : PE X b (tB P fb)) (ha : PE X a (tD P fa))
    (hs : swapsWith a (some (.Subscript (.Subscript (.Name y q) (.Constant (.str "rests") j p1) p2) b p3)) pos.line X.env = pure false) : PS X (.Assign [.Subscript (.Subscript (.Name y q) (.Constant (.str "rests") j p1) p2) b p3] a pos) (tS P (trstE i fb fa)) := by
  refine psMono (ps_dput (by omega) (town_rests (P := P) hu hN hv hd hcd) hb ha hs) fun D σ H ⟨F, r, t, R, h⟩ => ?_
  obtain ⟨e, h⟩ := tok_of h
  refine ⟨F, r, t, R, h.bind.mono fun d t1 h v F1 H1 s1 R1 rv => ⟨F1, r, t1, R1, e, F1, r, t1, R1, (h.up s1.1).bind.mono fun dk t2 h w F2 H2 s2 R2 rk => ?_⟩⟩
  cases d with
  | int z =>
    cases dk with
    | int k =>
      obtain rfl := rk.int R2
      have rv := rv.mono s2.1
      cases rv
      have h : Aft P F1 (if decide (t2.rests.length < 1000000) then .ok (.nx, r) { t2 with rests := putT t2.rests k z } else .bad) (aftS P F D) := h
      split at h
      · rename_i hl
        have hl := of_decide_eq_true hl
        have d := DPut.k (k := .inl k) (v := .int z) R2.tw.b (by rw [List.length_map, sizeLine_eq]; omega)
        rw [putK_rests] at d
        refine ⟨P.T.b, _, rfl, d, h F2 σ _ (s1.1.trans s2.1) (Rel.town R2 (fun b n1 n2 => upd_ne n2) ⟨?_, ?_, R2.tw.ne, ?_⟩)⟩
        · rw [upd_ne R2.tw.ne]
          exact R2.tw.a
        · rw [upd_same]
        · have := putT_len t2.rests k z
          show (putT t2.rests k z).length ≤ 1000000
          omega
      · exact h.elim
    | _ => exact (show False from h).elim
  | _ => exact (show False from h).elim
end
end Fm

/-! ### the text is the one of a Core text: a check by computation -/
namespace Fm
open PySem PySem.Spec PyProof.Rows L2
/-- a call's form: the def's name, positional values, keywords' names, what fills up -/
structure Sh where
  name : Str
  np : Nat
  ks : List Str
  dfl : List Cst
  fn : Nat
structure Tb where
  sh : List Sh
  cs : List Str
  ex : List Str
/-- a block's names: its scope; the names whose cells are its own -/
structure Cs where
  sc : Scope
  fn : Str → Bool
def nameB (x : Str) : Bool := !(x == ("__debug__" : Str)) && !(x == ("__classdict__" : Str)) && decide (x ≠ "__name__")
def visB (c : Cs) (x : Str) : Bool := match c.sc.names.lookup x with
  | some .local => true
  | some .cell => true
  | some .free => true
  | _ => false
def locB (c : Cs) (x : Str) : Bool := match c.sc.names.lookup x with
  | some .local => true
  | some .cell => c.fn x
  | _ => false
def lclB (c : Cs) (x : Str) : Bool := match c.sc.names.lookup x with
  | some .local => true
  | _ => false
def glB (c : Cs) (x : Str) : Bool := nameB x && match c.sc.names.lookup x with
  | some .globalImplicit => true
  | _ => false
def varB (N : List Str) (c : Cs) (i : Nat) (x : Str) : Bool := decide (N[i]? = some x) && visB c x && nameB x
def tgtB (N : List Str) (c : Cs) (i : Nat) (x : Str) : Bool := decide (N[i]? = some x) && locB c x && nameB x
def nStar : Expr → Bool
  | .Starred _ _ => false
  | _ => true
def nSlice : Expr → Bool
  | .Slice _ _ _ _ => false
  | _ => true
def nSet : Expr → Bool
  | .Set _ _ _ => false
  | _ => true
def nComp : Expr → Bool
  | .ListComp _ _ _ _ => false
  | .SetComp _ _ _ _ => false
  | .DictComp _ _ _ _ _ => false
  | _ => true
def nCall : Expr → Bool
  | .Call _ _ _ _ => false
  | _ => true
def isTupB : Expr → Bool
  | .Tuple _ _ _ => true
  | _ => false
def opB : Operator → Bool
  | .Add => true
  | .Sub => true
  | .Mult => true
  | .FloorDiv => true
  | .Mod => true
  | .Pow => true
  | .LShift => true
  | _ => false
def Blt.nm : Blt → Str
  | .len => "len"
  | .abs => "abs"
  | .all => "all"
  | .any => "any"
  | .sum => "sum"
  | .tuple => "tuple"
  | .list => "list"
  | .sorted => "sorted"
  | .int => "int"
def bltB : Blt → Bool
  | .int => false
  | _ => true
mutual
def mTg (N : List Str) (c : Cs) : Tg → Expr → Bool
  | .name i, .Name x _ => tgtB N c i x
  | .tup ts, .Tuple es _ _ => mTgs N c ts es
  | _, _ => false
def mTgs (N : List Str) (c : Cs) : Tgs → List Expr → Bool
  | .nil, [] => true
  | .cons t ts, e :: es => nStar e && mTg N c t e && mTgs N c ts es
  | _, _ => false
end
def mDsp : List (Str × Cst) → List (Option Expr) → List Expr → Bool
  | [], [], [] => true
  | (x, k) :: r, some (.Constant (.str y) _ _) :: ks, .Constant k' _ _ :: vs => decide (x = y) && decide (k.k = k') && mDsp r ks vs
  | _, _, _ => false
def isStr (x : Str) : Expr → Bool
  | .Constant (.str y) _ _ => decide (y = x)
  | _ => false
/-- a block of a comprehension -/
def blkCs (c : Cs) (scope : Scope) : Cs := ⟨relS scope c.sc, fun x => scope.names.lookup x == some .cell⟩
mutual
def mE (tb : Tb) (N : List Str) (c : Cs) (fl : Bool) : E → Expr → Bool
  | .cst k, .Constant k' _ _ => decide (k.k = k')
  | .var i, .Name x _ => varB N c i x
  | .bor i, .Name x _ => fl && varB N c i x
  | .glob g, .Name x _ => decide (tb.cs[g]? = some x) && glB c x
  | .bin op a b, .BinOp ea op' eb _ => decide (op = op') && opB op && mE tb N c true a ea && mE tb N c true b eb
  | .cat a b, .BinOp ea .Add eb _ => mE tb N c true a ea && mE tb N c true b eb
  | .neg a, .UnaryOp .USub ea _ => mE tb N c true a ea
  | .not a, .UnaryOp .Not ea _ => mE tb N c true a ea
  | .and a b, .BoolOp .And (x :: y :: r) pos => mE tb N c false a x && (match r with
    | [] => mE tb N c false b y
    | z :: r' => mE tb N c false b (.BoolOp .And (y :: z :: r') pos))
  | .or a b, .BoolOp .Or (x :: y :: r) pos => mE tb N c false a x && (match r with
    | [] => mE tb N c false b y
    | z :: r' => mE tb N c false b (.BoolOp .Or (y :: z :: r') pos))
  | .ite k a b, .IfExp ek ea eb _ => mE tb N c true k ek && mE tb N c false a ea && mE tb N c false b eb
  | .cmp op a b, .Compare ea [op'] [eb] _ => decide (op = op') && !behindInMarks op eb && mE tb N c true a ea && mE tb N c true b eb
  | .chain o1 o2 a b k, .Compare ea [o1', o2'] [eb, ek] _ => decide (o1 = o1') && decide (o2 = o2') && !lastMarks [o1, o2] [eb, ek] && mE tb N c true a ea && mE tb N c true b eb && mE tb N c true k ek
  | .cut a lo hi, .Subscript ea (.Slice l h none _) _ => mE tb N c true a ea && mO tb N c lo l && mO tb N c hi h
  | .ix a b, .Subscript ea eb _ => nSlice eb && mE tb N c true a ea && mE tb N c true b eb
  | .dix a b, .Subscript ea eb _ => nSlice eb && mE tb N c true a ea && mE tb N c true b eb
  | .tup es, .Tuple xs _ _ => mEs tb N c es xs
  | .lst es, .List xs _ => mEs tb N c es xs
  | .call i es ks, .Call (.Name x _) xs kws _ => (match tb.sh[i]? with
    | some sh => decide (sh.name = x) && glB c x && decide (xs.length = sh.np) && decide (kws.map (·.arg) = sh.ks.map some) && (decide (kws = []) || !decide (xs = [])) && mEs tb N c es xs && mKs tb N c ks kws
    | none => false)
  | .blt b a, .Call (.Name x _) [ea] [] _ => bltB b && decide (b.nm = x) && glB c x && nStar ea && mE tb N c true a ea
  | .isa a T, .Call (.Name x _) [ea, .Name y _] [] _ => decide (x = "isinstance") && decide (T.nm = y) && glB c x && glB c y && nStar ea && mE tb N c true a ea
  | .get a k d, .Call (.Attribute ea m p) [ek, ed] [] cp => decide (m = "get") && nCall ea && (p.endLine == cp.line) && nStar ek && nStar ed && mE tb N c true a ea && mE tb N c true k ek && mE tb N c false d ed
  | .tcount i, .Subscript (.Name y _) eb _ => varB N c i y && isStr "count" eb
  | .tget i k d, .Call (.Attribute (.Subscript (.Name y _) eb _) m p) [ek, ed] [] cp => varB N c i y && isStr "rests" eb && decide (m = "get") && (p.endLine == cp.line) && nStar ek && nStar ed && mE tb N c true k ek && mE tb N c false d ed
  | .dsp kvs, .Dict ks vs _ => mDsp kvs ks vs
  | .comp own elt tg it cd, .ListComp ee [⟨et, ei, ifs, z⟩] scope _ => decide (z = 0) && blkC N c.sc scope own && (tg.slots.all fun i => (own.map (·.2)).contains i) && mI tb N c false et it ei && nSet ei && mTg N (blkCs c scope) tg et && mCd tb N (blkCs c scope) cd ifs && mE tb N (blkCs c scope) false elt ee
  | _, _ => false
def mO (tb : Tb) (N : List Str) (c : Cs) : O → Option Expr → Bool
  | .none, none => true
  | .some e, some x => mE tb N c true e x
  | _, _ => false
def mCd (tb : Tb) (N : List Str) (c : Cs) : O → List Expr → Bool
  | .none, [] => true
  | .some k, [x] => mE tb N c true k x
  | _, _ => false
def mEs (tb : Tb) (N : List Str) (c : Cs) : Es → List Expr → Bool
  | .nil, [] => true
  | .cons e es, x :: xs => nStar x && mE tb N c false e x && mEs tb N c es xs
  | _, _ => false
def mKs (tb : Tb) (N : List Str) (c : Cs) : Es → List Keyword → Bool
  | .nil, [] => true
  | .cons e es, ⟨_, x, _⟩ :: xs => mE tb N c false e x && mKs tb N c es xs
  | _, _ => false
def mI (tb : Tb) (N : List Str) (c : Cs) (fz : Bool) (tg : Expr) : I → Expr → Bool
  | .val e, x => mE tb N c (!fz) e x
  | .rng1 a, .Call (.Name x _) [ea] [] _ => decide (x = "range") && glB c x && nStar ea && mE tb N c true a ea
  | .rng2 a b, .Call (.Name x _) [ea, eb] [] _ => decide (x = "range") && glB c x && nStar ea && nStar eb && mE tb N c true a ea && mE tb N c true b eb
  | .zip a b, .Call (.Name x _) [ea, eb] [] _ => isTupB tg && decide (x = "zip") && glB c x && nStar ea && nStar eb && mE tb N c (!fz) a ea && mE tb N c (!fz) b eb
  | .enum a, .Call (.Name x _) [ea] [] _ => isTupB tg && decide (x = "enumerate") && glB c x && nStar ea && mE tb N c (!fz) a ea
  | _, _ => false
end
end Fm

/-! ### soundness of expressions -/
namespace Fm
open PySem PySem.Spec PyProof.Rows L2
/-- a def that may be called -/
structure CallOk (X : Cx) (P : Pm) (cl : Nat → Addr) (sh : Sh) (g : List D → List D → Tw → Res D) : Prop where
  ex : ∃ k f fd ps Γ, FnOk X.prog X.w X.K X.mg X.base (CX X.prog X.w) k f fd ps (spD P.K P.T cl (sh.np + sh.ks.length + sh.dfl.length) Γ) ∧ Room k X.A ∧ X.mg sh.name = some (.ref f) ∧ PySem.W.keepIn X.K (.ref f) = true ∧
    (sh.ks = [] → ∃ ds, Vals (sh.dfl.map Cst.v) ds ∧ Binds X.K fd ps ds) ∧ (sh.ks ≠ [] → ∃ gg, KBn X.K fd ps sh.np sh.ks gg (fun vs zs => vs ++ zs ++ sh.dfl.map Cst.v)) ∧ ∀ xs ys t, g xs ys t = Γ (xs ++ ys ++ sh.dfl.map Cst.d) t
structure ExcOk (X : Cx) (C : Addr) (x : Str) : Prop where
  q : PySem.W.excIn X.K C He.veBase "ValueError.__new__" = true
  g : X.mg x = some (.ref C)
  k : PySem.W.keepIn X.K (.ref C) = true
  r : Raises X (.ref C)
def freeNames : List Str := ["len", "abs", "all", "any", "sum", "tuple", "list", "sorted", "isinstance", "int", "bool", "str", "range", "zip", "enumerate"]
structure Ok (tb : Tb) (N : List Str) (G : Gam) (cs : Nat → D) (cl : Nat → Addr) (X : Cx) (P : Pm) (c : Cs) : Prop where
  hK : X.K = P.K
  hN : X.N = N
  nd : N.Nodup
  sc : X.env.scope = c.sc
  fn : X.fn = c.fn
  calm : X.calm = true
  hu : X.A.units + 200 < cLine
  free : ∀ x ∈ freeNames, X.mg x = none
  con : ∀ g x, tb.cs[g]? = some x → ∃ u v, X.mg x = some u ∧ RelV v u ∧ Rp P.K P.T (fun _ => none) v (cs g)
  call : ∀ i sh, tb.sh[i]? = some sh → CallOk X P cl sh (G i)
  tk : Takes X fun cc d _ H => EX cl P.XE cc d H
  own : PassesOwn (model X.prog X.w) X.A X.env X.xe
  exc : ∀ n x, tb.ex[n]? = some x → ExcOk X (cl n) x
structure Snd (X : Cx) (P : Pm) (f : Rho → Tw → Res D) (fl : Bool) (e : Expr) : Prop where
  b : PE X e (tB P f)
  d : fl = false → PE X e (tD P f)
  t : PT X e (tT P f)
  w : ∀ op vs pos, e = .BoolOp op vs pos → PW X e (tT P f)
theorem Snd.plain {X : Cx} {P : Pm} {f : Rho → Tw → Res D} {fl : Bool} {e : Expr} (hK : X.K = P.K) (h : PE X e (tD P f)) (he : ∀ whole, isTrue e X.env whole = (do let v ← whole; standAt e.pos; holding [v] (truthy v))) (nw : ∀ op vs pos, e ≠ .BoolOp op vs pos) : Snd X P f fl e :=
  ⟨tB_tD h, fun _ => h, t_plain hK (tB_tD h) he, fun op vs pos z => absurd z (nw op vs pos)⟩
section
variable {tb : Tb} {N : List Str} {G : Gam} {cs : Nat → D} {cl : Nat → Addr} {X : Cx} {P : Pm} {c : Cs}
theorem and2 {a b : Bool} (h : (a && b) = true) : a = true ∧ b = true := Bool.and_eq_true_iff.mp h
theorem nameB_of {x : Str} (h : nameB x = true) : (x == ("__debug__" : Str)) = false ∧ (x == ("__classdict__" : Str)) = false ∧ x ≠ "__name__" := by
  obtain ⟨h1, h3⟩ := and2 h
  obtain ⟨h1, h2⟩ := and2 h1
  exact ⟨by simpa using h1, by simpa using h2, of_decide_eq_true h3⟩
theorem varB_of (ok : Ok tb N G cs cl X P c) {i : Nat} {x : Str} (h : varB N c i x = true) : X.N[i]? = some x ∧ Vis X.env.scope x ∧ (x == ("__debug__" : Str)) = false ∧ (x == ("__classdict__" : Str)) = false := by
  obtain ⟨h1, h3⟩ := and2 h
  obtain ⟨h1, h2⟩ := and2 h1
  obtain ⟨n1, n2, _⟩ := nameB_of h3
  refine ⟨by rw [ok.hN]; exact of_decide_eq_true h1, ?_, n1, n2⟩
  rw [ok.sc]
  unfold visB at h2
  unfold Vis
  split at h2
  · rename_i e
    exact .inl e
  · rename_i e
    exact .inr (.inl e)
  · rename_i e
    exact .inr (.inr e)
  · cases h2
theorem tgtB_of (ok : Ok tb N G cs cl X P c) {i : Nat} {x : Str} (h : tgtB N c i x = true) : X.N[i]? = some x ∧ Loc X.env.scope x ∧ (X.fn x = true ∨ X.env.scope.names.lookup x = some .local) := by
  obtain ⟨h1, h3⟩ := and2 h
  obtain ⟨h1, h2⟩ := and2 h1
  refine ⟨by rw [ok.hN]; exact of_decide_eq_true h1, ?_⟩
  rw [ok.sc, ok.fn]
  unfold locB at h2
  unfold L2.Loc
  split at h2
  · rename_i e
    exact ⟨.inl e, .inr e⟩
  · rename_i e
    exact ⟨.inr e, .inl h2⟩
  · cases h2
theorem glB_of (ok : Ok tb N G cs cl X P c) {x : Str} (h : glB c x = true) : Gl X x ∧ (x == ("__debug__" : Str)) = false ∧ x ≠ "__name__" := by
  obtain ⟨h1, h2⟩ := and2 h
  obtain ⟨n1, n2, n3⟩ := nameB_of h1
  refine ⟨?_, n1, n3⟩
  show X.env.scope.names.lookup x = _
  rw [ok.sc]
  split at h2
  · rename_i e
    exact e
  · cases h2
theorem star_of {e : Expr} {es : List Expr} {env : Env} (h : nStar e = true) : starEach (e :: es) env = (false, eval e env) :: starEach es env := by
  cases e <;> first | rfl | (cases h; done)
theorem plain_of {b : Expr} (h : nSlice b = true) : PlainIx b := by
  intro o i
  cases b <;> first | rfl | (cases h; done)
theorem fold_of {e : Expr} {env : Env} (h : nSet e = true) : ∀ x, foldedSetIterable e env x = pure x := by
  intro x
  cases e <;> first | rfl | (cases h; done)
theorem base_of {e : Expr} {m : Str} {env : Env} (h : nCall e = true) : attributeBase e m env (eval e env) = eval e env := by
  cases e <;> first | rfl | (cases h; done)
/-- in a comprehension's block -/
theorem Ok.blk (ok : Ok tb N G cs cl X P c) (scope : Scope) (s : Shared) (H : Hp) (C : Addr) (cls : List (Str × Addr)) (fp : List Addr) : Ok tb N G cs cl (X.blk s H scope (compEnvC scope cls C X.env) fp) P.nox (blkCs c scope) where
  hK := ok.hK
  hN := ok.hN
  nd := ok.nd
  sc := by
    show relS scope X.env.scope = relS scope c.sc
    rw [ok.sc]
  fn := rfl
  calm := ok.calm
  hu := ok.hu
  free := ok.free
  con := ok.con
  call := fun i sh e => by
    obtain ⟨k, f, fd, ps, Γ, h1, h2, h3⟩ := (ok.call i sh e).ex
    exact ⟨k, f, fd, ps, Γ, h1, h2, h3⟩
  tk := fun u s' ⟨a, B, sI, pins, σ, H, cls, d, e, I, nb, up, sky, na, os, ag, w⟩ => by
    obtain ⟨n, _, _, z⟩ := w
    exact z
  own := PassesOwn.never
  exc := fun n x e => by
    obtain ⟨h1, h2, h3, h4⟩ := ok.exc n x e
    exact ⟨h1, h2, h3, h4⟩
theorem dsp_of : ∀ {kvs : List (Str × Cst)} {ks : List (Option Expr)} {vs : List Expr}, mDsp kvs ks vs = true → DspIs kvs ks vs
  | [], [], [], _ => .nil
  | (x, k) :: r, some (.Constant (.str y) j q) :: ks, .Constant k' j' q' :: vs, h => by
    obtain ⟨h1, h2⟩ := and2 (show (decide (x = y) && decide (k.k = k') && mDsp r ks vs) = true from h)
    obtain ⟨h3, h4⟩ := and2 h1
    obtain rfl := of_decide_eq_true h3
    obtain rfl := of_decide_eq_true h4
    exact .cons (dsp_of h2)
mutual
theorem sTg (ok : Ok tb N G cs cl X P c) : ∀ {t : Tg} {e : Expr}, mTg N c t e = true → PG X e (gT P t)
  | .name i, .Name x p, h => by
    obtain ⟨h1, h2, h3⟩ := tgtB_of ok (show tgtB N c i x = true from h)
    exact g_name (by rw [ok.hN]; exact ok.nd) h1 h2 h3
  | .tup ts, .Tuple es k p, h => by
    have h : mTgs N c ts es = true := h
    obtain ⟨h1, h2, h3⟩ := sTgs ok h
    exact g_tup ok.hK ok.calm h1 h2 h3
theorem sTgs (ok : Ok tb N G cs cl X P c) : ∀ {ts : Tgs} {es : List Expr}, mTgs N c ts es = true → PGs X es (gTs P ts) ∧ (assignEach es X.env).length = ts.count ∧ (assignEach es X.env).findIdx? (·.1) = none
  | .nil, [], _ => ⟨g_nil, rfl, rfl⟩
  | .cons t ts, e :: es, h => by
    obtain ⟨h1, h2⟩ := and2 (show (nStar e && mTg N c t e && mTgs N c ts es) = true from h)
    obtain ⟨h3, h4⟩ := and2 h1
    obtain ⟨g1, g2, g3⟩ := sTgs ok h2
    have ea : assignEach (e :: es) X.env = (false, assign e X.env) :: assignEach es X.env := by
      cases e <;> first | rfl | (cases h3; done)
    refine ⟨g_cons (sTg ok h4) g1 (by rw [ea]; rfl), ?_, ?_⟩
    · rw [ea, List.length_cons, g2]
      rfl
    · rw [ea, List.findIdx?_cons]
      simp [g3]
end
end
end Fm

namespace Fm
open PySem PySem.Spec PyProof.Rows L2
section
variable {G : Gam} {cs : Nat → D}
theorem ev_cst (k : Cst) : ev G cs (.cst k) = fun _ t => .ok k.d t := by funext r t; rw [ev]
theorem ev_var (i : Nat) : ev G cs (.var i) = fun r t => match r[i]? with
    | some (.val d) => .ok d t
    | _ => .bad := by funext r t; first | (rw [ev]; done) | (rw [ev]; rfl)
theorem ev_bor (i : Nat) : ev G cs (.bor i) = fun r t => match r[i]? with
    | some (.val d) => .ok d t
    | some (.own d) => .ok d t
    | _ => .bad := by funext r t; first | (rw [ev]; done) | (rw [ev]; rfl)
theorem ev_glob (g : Nat) : ev G cs (.glob g) = fun _ t => .ok (cs g) t := by funext r t; rw [ev]
theorem ev_bin (op : Operator) (a b : E) : ev G cs (.bin op a b) = fun r t => (ev G cs a r t).bind fun x t1 => (ev G cs b r t1).bind fun y t2 => lift (binD op x y) t2 := by funext r t; rw [ev]
theorem ev_cat (a b : E) : ev G cs (.cat a b) = fun r t => (ev G cs a r t).bind fun x t1 => (ev G cs b r t1).bind fun y t2 => lift (catD x y) t2 := by funext r t; rw [ev]
theorem ev_neg (a : E) : ev G cs (.neg a) = fun r t => (ev G cs a r t).bind fun x t1 => lift (negD x) t1 := by funext r t; rw [ev]
theorem ev_not (a : E) : ev G cs (.not a) = fun r t => (ev G cs a r t).bind fun x t1 => lift (notD x) t1 := by funext r t; rw [ev]
theorem ev_and (a b : E) : ev G cs (.and a b) = andE (ev G cs a) (ev G cs b) := by funext r t; first | (rw [ev]; done) | (rw [ev]; rfl)
theorem ev_or (a b : E) : ev G cs (.or a b) = orE (ev G cs a) (ev G cs b) := by funext r t; first | (rw [ev]; done) | (rw [ev]; rfl)
theorem ev_ite (k a b : E) : ev G cs (.ite k a b) = iteE (ev G cs k) (ev G cs a) (ev G cs b) := by funext r t; first | (rw [ev]; done) | (rw [ev]; rfl)
theorem ev_cmp (op : CmpOp) (a b : E) : ev G cs (.cmp op a b) = fun r t => (ev G cs a r t).bind fun x t1 => (ev G cs b r t1).bind fun y t2 => lift (cmpD op x y) t2 := by funext r t; rw [ev]
theorem ev_chain (o1 o2 : CmpOp) (a b k : E) : ev G cs (.chain o1 o2 a b k) = chainE o1 o2 (ev G cs a) (ev G cs b) (ev G cs k) := by funext r t; first | (rw [ev]; done) | (rw [ev]; rfl)
theorem ev_ix (a b : E) : ev G cs (.ix a b) = fun r t => (ev G cs a r t).bind fun x t1 => (ev G cs b r t1).bind fun y t2 => lift (ixD x y) t2 := by funext r t; rw [ev]
theorem ev_dix (a b : E) : ev G cs (.dix a b) = fun r t => (ev G cs a r t).bind fun x t1 => (ev G cs b r t1).bind fun y t2 => lift (dixD x y) t2 := by funext r t; rw [ev]
theorem ev_cut (a : E) (lo hi : O) : ev G cs (.cut a lo hi) = cutE (ev G cs a) (evO G cs lo) (evO G cs hi) := by funext r t; first | (rw [ev]; done) | (rw [ev]; rfl)
theorem ev_tup (es : Es) : ev G cs (.tup es) = fun r t => (evs G cs es r t).bind fun xs t1 => if okLen xs.length then .ok (.tup xs) t1 else .bad := by funext r t; rw [ev]
theorem ev_lst (es : Es) : ev G cs (.lst es) = fun r t => (evs G cs es r t).bind fun xs t1 => if okLen xs.length then .ok (.lst xs) t1 else .bad := by funext r t; rw [ev]
theorem ev_call (i : Nat) (es ks : Es) : ev G cs (.call i es ks) = fun r t => (evs G cs es r t).bind fun xs t1 => (evs G cs ks r t1).bind fun ys t2 => G i xs ys t2 := by funext r t; rw [ev]
theorem ev_blt (b : Blt) (a : E) : ev G cs (.blt b a) = fun r t => (ev G cs a r t).bind fun x t1 => lift (blt1 b x) t1 := by funext r t; rw [ev]
theorem ev_isa (a : E) (T : Ty) : ev G cs (.isa a T) = fun r t => (ev G cs a r t).bind fun x t1 => lift ((isaD x T).map D.bl) t1 := by funext r t; rw [ev]
theorem ev_comp (own : List (Str × Nat)) (elt : E) (tg : Tg) (it : I) (cd : O) : ev G cs (.comp own elt tg it cd) = compE tg (own.map (·.2)) (evI G cs it) (evO G cs cd) (ev G cs elt) := by funext r t; first | (rw [ev]; done) | (rw [ev]; rfl)
theorem ev_get (a k d : E) : ev G cs (.get a k d) = getE (ev G cs a) (ev G cs k) (ev G cs d) := by funext r t; first | (rw [ev]; done) | (rw [ev]; rfl)
theorem ev_dsp (kvs : List (Str × Cst)) : ev G cs (.dsp kvs) = fun _ t => if decide (kvs.length ≤ 15) then .ok (.dct (mergeD [] (kvs.map fun p => (p.1, p.2.d)))) t else .bad := by funext r t; rw [ev]
theorem ev_tcount (i : Nat) : ev G cs (.tcount i) = tcountE i := by funext r t; first | (rw [ev]; done) | (rw [ev]; rfl)
theorem ev_tget (i : Nat) (k d : E) : ev G cs (.tget i k d) = tgetE i (ev G cs k) (ev G cs d) := by funext r t; first | (rw [ev]; done) | (rw [ev]; rfl)
theorem evO_none : evO G cs .none = fun _ t => .ok none t := by funext r t; rw [evO]
theorem evO_some (e : E) : evO G cs (.some e) = fun r t => (ev G cs e r t).bind fun x t1 => .ok (some x) t1 := by funext r t; rw [evO]
theorem evs_nil : evs G cs .nil = fun _ t => .ok [] t := by funext r t; rw [evs]
theorem evs_cons (e : E) (es : Es) : evs G cs (.cons e es) = fun r t => (ev G cs e r t).bind fun x t1 => (evs G cs es r t1).bind fun xs t2 => .ok (x :: xs) t2 := by funext r t; rw [evs]
theorem evI_val (e : E) : evI G cs (.val e) = evV (ev G cs e) := by funext r t; first | (rw [evI]; done) | (rw [evI]; rfl)
theorem evI_rng1 (a : E) : evI G cs (.rng1 a) = fun r t => (ev G cs a r t).bind fun x t1 => match x with
    | .int j => if okRng j then .ok (rngD 0 j.toNat) t1 else .bad
    | _ => .bad := by funext r t; first | (rw [evI]; done) | (rw [evI]; rfl)
theorem evI_rng2 (a b : E) : evI G cs (.rng2 a b) = fun r t => (ev G cs a r t).bind fun x t1 => (ev G cs b r t1).bind fun y t2 => match x, y with
    | .int i, .int j => if okRng i && okRng j then .ok (rngD i (j - i).toNat) t2 else .bad
    | _, _ => .bad := by funext r t; first | (rw [evI]; done) | (rw [evI]; rfl)
theorem evI_zip (a b : E) : evI G cs (.zip a b) = zipE (ev G cs a) (ev G cs b) := by funext r t; first | (rw [evI]; done) | (rw [evI]; rfl)
theorem evI_enum (a : E) : evI G cs (.enum a) = enumE (ev G cs a) := by funext r t; first | (rw [evI]; done) | (rw [evI]; rfl)
theorem evs_len {xs : List Expr} {tb : Tb} {N : List Str} {c : Cs} : ∀ {es : Es} {xs : List Expr}, mEs tb N c es xs = true → ∀ r t ys t1, evs G cs es r t = .ok ys t1 → ys.length = xs.length
  | .nil, [], _, r, t, ys, t1, e => by
    rw [evs_nil] at e
    cases e
    rfl
  | .cons k es, x :: xs, h, r, t, ys, t1, e => by
    obtain ⟨_, h2⟩ := and2 (show (nStar x && mE tb N c false k x && mEs tb N c es xs) = true from h)
    rw [evs_cons] at e
    cases e1 : ev G cs k r t with
    | ok y t2 =>
      simp only [e1, Res.bind_ok] at e
      cases e2 : evs G cs es r t2 with
      | ok zs t3 =>
        simp only [e2, Res.bind_ok] at e
        cases e
        rw [List.length_cons, List.length_cons, evs_len (xs := xs) h2 r t2 zs _ e2]
      | exc n t3 =>
        simp only [e2] at e
        cases e
      | bad =>
        simp only [e2] at e
        cases e
    | exc n t2 =>
      simp only [e1] at e
      cases e
    | bad =>
      simp only [e1] at e
      cases e
theorem evs_lenK {tb : Tb} {N : List Str} {c : Cs} : ∀ {es : Es} {xs : List Keyword}, mKs tb N c es xs = true → ∀ r t ys t1, evs G cs es r t = .ok ys t1 → ys.length = xs.length
  | .nil, [], _, r, t, ys, t1, e => by
    rw [evs_nil] at e
    cases e
    rfl
  | .cons k es, ⟨nm, x, p⟩ :: xs, h, r, t, ys, t1, e => by
    obtain ⟨_, h2⟩ := and2 (show (mE tb N c false k x && mKs tb N c es xs) = true from h)
    rw [evs_cons] at e
    cases e1 : ev G cs k r t with
    | ok y t2 =>
      simp only [e1, Res.bind_ok] at e
      cases e2 : evs G cs es r t2 with
      | ok zs t3 =>
        simp only [e2, Res.bind_ok] at e
        cases e
        rw [List.length_cons, List.length_cons, evs_lenK h2 r t2 zs _ e2]
      | exc n t3 =>
        simp only [e2] at e
        cases e
      | bad =>
        simp only [e2] at e
        cases e
    | exc n t2 =>
      simp only [e1] at e
      cases e
    | bad =>
      simp only [e1] at e
      cases e
end
/-- a new object is told as nobody's -/
def freshB : E → Bool
  | .lst _ => true
  | .comp _ _ _ _ _ => true
  | .blt .list _ => true
  | .blt .sorted _ => true
  | .dsp _ => true
  | _ => false
theorem t_ite {X : Cx} {P : Pm} {a b c : Expr} {pos : Pos} {fa fb fc : Rho → Tw → Res D} (hc : PT X c (tT P fc)) (ha : PT X a (tT P fa)) (hb : PT X b (tT P fb)) : PT X (.IfExp c a b pos) (tT P (iteE fc fa fb)) := by
  refine ⟨fun pins s0 σ H Q I ⟨F, r, t, R, h⟩ => ?_⟩
  show wpAny _ _ (isTrue c X.env (eval c X.env) >>= fun d => if d = true then isTrue a X.env (eval a X.env) else isTrue b X.env (eval b X.env)) _ _ _
  refine wpAny_bind (thn (hc.run pins s0 σ H (fun k H1 => if k = true then tT P fa σ H1 Q else tT P fb σ H1 Q) I ⟨F, r, t, R, h.bind.mono fun d t' h => ?_⟩) fun d s1 ⟨H1, I1, q1⟩ => ?_)
  · cases e : truD d with
    | none =>
      rw [e] at h
      exact h.elim
    | some k =>
      rw [e] at h
      refine ⟨k, rfl, fun F' H' s R' => ?_⟩
      cases k with
      | true => exact ⟨F', r, t', R', ((show Aft P F (fa r t') _ from h).up s.1).mono fun d2 t2 ⟨b2, e2, q⟩ => ⟨b2, e2, fun F2 H2 s2 R2 => q F2 H2 (s.trans s2) R2⟩⟩
      | false => exact ⟨F', r, t', R', ((show Aft P F (fb r t') _ from h).up s.1).mono fun d2 t2 ⟨b2, e2, q⟩ => ⟨b2, e2, fun F2 H2 s2 R2 => q F2 H2 (s.trans s2) R2⟩⟩
  · cases d with
    | true => exact ha.run pins s1 σ H1 Q I1 q1
    | false => exact hb.run pins s1 σ H1 Q I1 q1
section
variable {tb : Tb} {N : List Str} {G : Gam} {cs : Nat → D} {cl : Nat → Addr}
theorem notWord {X : Cx} {P : Pm} {f : Rho → Tw → Res D} {e : Expr} (nw : ∀ op vs pos, e ≠ .BoolOp op vs pos) : ∀ op vs pos, e = .BoolOp op vs pos → PW X e (tT P f) := fun op vs pos z => absurd z (nw op vs pos)
theorem s_callA {X : Cx} {P : Pm} {c : Cs} (ok : Ok tb N G cs cl X P c) {i : Nat} {sh : Sh} {x : Str} {p pos : Pos} {xs : List Expr} {kws : List Keyword} {es ks : Es} (hsh : tb.sh[i]? = some sh) (hx : sh.name = x) (hg : glB c x = true) (hl : xs.length = sh.np)
    (hk : kws.map (·.arg) = sh.ks.map some) (h0 : kws = [] ∨ xs ≠ []) (he : mEs tb N c es xs = true) (hke : mKs tb N c ks kws = true) (pa : PA X xs (tDs P (evs G cs es))) (pk : PK X kws (tDs P (evs G cs ks))) :
    PE X (.Call (.Name x p) xs kws pos) (tD P (ev G cs (.call i es ks))) := by
  subst hx
  obtain ⟨k, f, fd, ps, Γ, F, hr, hm, hkp, hb0, hb1, hG⟩ := (ok.call i sh hsh).ex
  obtain ⟨g1, g2, g3⟩ := glB_of ok hg
  have lk : kws.length = sh.ks.length := by
    have := congrArg List.length hk
    simpa using this
  have dd : ∀ F, RpL P.K P.T F (sh.dfl.map Cst.v) (sh.dfl.map Cst.d) := fun F => by
    induction sh.dfl with
    | nil => exact .nil
    | cons d r ih => exact .cons d.rp ih
  have ld : (sh.dfl.map Cst.d).length = sh.dfl.length := List.length_map ..
  rw [ev_call]
  by_cases hks : sh.ks = []
  · obtain ⟨ds, hv, hb⟩ := hb0 hks
    rw [hks] at lk F
    have ek : kws = [] := List.length_eq_zero_iff.mp lk
    subst ek
    cases ks with
    | cons _ _ => cases hke
    | nil =>
      cases xs with
      | nil =>
        cases es with
        | cons _ _ => cases he
        | nil =>
          have e : (fun r t => (evs G cs .nil r t).bind fun xs t1 => (evs G cs .nil r t1).bind fun ys t2 => G i xs ys t2) = fun (r : Rho) t => Γ (sh.dfl.map Cst.d) t := by
            funext r t
            simp only [evs_nil, Res.bind_ok, hG, List.nil_append]
          rw [e]
          have hl : 0 = sh.np := hl
          exact s_call0 F hr g1 hm hkp hb hv dd ok.tk (by rw [ld, ← hl]; simp) g2
      | cons y ys =>
        have e : (fun r t => (evs G cs es r t).bind fun xs t1 => (evs G cs .nil r t1).bind fun ys t2 => G i xs ys t2) = fun (r : Rho) t => (evs G cs es r t).bind fun xs t1 => Γ (xs ++ sh.dfl.map Cst.d) t1 := by
          funext r t
          simp only [evs_nil, Res.bind_ok, hG, List.append_nil]
        rw [e]
        have hst : starEach (y :: ys) X.env = (false, eval y X.env) :: starEach ys X.env := by
          cases es with
          | nil => cases he
          | cons k0 es0 =>
            obtain ⟨h1, _⟩ := and2 (show (nStar y && mE tb N c false k0 y && mEs tb N c es0 ys) = true from he)
            exact star_of (and2 h1).1
        have hpl : ∀ {es0 : Es} {ys : List Expr}, mEs tb N c es0 ys = true → (backTo pos (starEach ys X.env)).any (·.1) = false := by
          intro es0 ys
          induction ys generalizing es0 with
          | nil => intro _; rfl
          | cons z zs ih =>
            intro h
            cases es0 with
            | nil => cases h
            | cons k0 es1 =>
              obtain ⟨h1, h2⟩ := and2 (show (nStar z && mE tb N c false k0 z && mEs tb N c es1 zs) = true from h)
              rw [star_of (and2 h1).1]
              exact ih h2
        have hys : ∃ es0, mEs tb N c es0 ys = true := by
          cases es with
          | nil => cases he
          | cons k0 es0 => exact ⟨es0, (and2 (show (nStar y && mE tb N c false k0 y && mEs tb N c es0 ys) = true from he)).2⟩
        obtain ⟨es0, hys⟩ := hys
        refine s_call F hr g1 hm hkp hb hv dd ok.tk pa (fun r t zs t1 e1 => ?_) g2 hst (hpl hys)
        rw [evs_len (xs := y :: ys) he r t zs t1 e1, ld, hl]
        simp
  · obtain ⟨gg, hb⟩ := hb1 hks
    have kne : kws ≠ [] := fun e => hks (List.length_eq_zero_iff.mp (by rw [← lk, e]; rfl))
    rcases h0 with h0 | h0
    · exact absurd h0 kne
    cases xs with
    | nil => exact absurd rfl h0
    | cons y ys =>
      have hst : starEach (y :: ys) X.env = (false, eval y X.env) :: starEach ys X.env := by
        cases es with
        | nil => cases he
        | cons k0 es0 =>
          obtain ⟨h1, _⟩ := and2 (show (nStar y && mE tb N c false k0 y && mEs tb N c es0 ys) = true from he)
          exact star_of (and2 h1).1
      have hpl : ∀ {es0 : Es} {ys : List Expr}, mEs tb N c es0 ys = true → (backTo pos (starEach ys X.env)).any (·.1) = false := by
        intro es0 ys
        induction ys generalizing es0 with
        | nil => intro _; rfl
        | cons z zs ih =>
          intro h
          cases es0 with
          | nil => cases h
          | cons k0 es1 =>
            obtain ⟨h1, h2⟩ := and2 (show (nStar z && mE tb N c false k0 z && mEs tb N c es1 zs) = true from h)
            rw [star_of (and2 h1).1]
            exact ih h2
      have kwl : ∀ {kws : List Keyword} {l : List Str}, kws.map (·.arg) = l.map some → (backToKw pos (keywordEach kws X.env)).all (·.1.isSome) = true ∧ (backToKw pos (keywordEach kws X.env)).filterMap (·.1) = l ∧ (backToKw pos (keywordEach kws X.env)).any (·.1.isNone) = false := by
        intro kws
        induction kws with
        | nil =>
          intro l h
          cases l with
          | nil => exact ⟨rfl, rfl, rfl⟩
          | cons _ _ => cases h
        | cons k0 kr ih =>
          intro l h
          cases l with
          | nil => cases h
          | cons z zs =>
            obtain ⟨nm, e0, p0⟩ := k0
            simp only [List.map_cons, List.cons.injEq] at h
            obtain ⟨h1, h2⟩ := h
            subst h1
            obtain ⟨i1, i2, i3⟩ := ih h2
            refine ⟨?_, ?_, ?_⟩
            · show (true && (backToKw pos (keywordEach kr X.env)).all (·.1.isSome)) = true
              rw [i1]
              rfl
            · show z :: (backToKw pos (keywordEach kr X.env)).filterMap (·.1) = z :: zs
              rw [i2]
            · show (false || (backToKw pos (keywordEach kr X.env)).any (·.1.isNone)) = false
              rw [i3]
              rfl
      obtain ⟨k1, k2, k3⟩ := kwl hk
      have e : (fun r t => (evs G cs es r t).bind fun xs t1 => (evs G cs ks r t1).bind fun ys t2 => G i xs ys t2) = fun (r : Rho) t => (evs G cs es r t).bind fun xs t1 => (evs G cs ks r t1).bind fun ys t2 => Γ (xs ++ ys ++ sh.dfl.map Cst.d) t2 := by
        funext r t
        simp only [hG]
      rw [e]
      refine s_callK F hr g1 hm hkp hb dd ok.tk pa pk (fun r t zs t1 e1 => ?_) (fun r t zs t1 e1 => ?_) (by rw [ld]) k1 k2 g2 hst ?_
      · rw [evs_len (xs := y :: ys) he r t zs t1 e1, hl]
      · rw [evs_lenK hke r t zs t1 e1, lk]
      · rw [hpl he, k3]
        rfl
end
end Fm

namespace Fm
open PySem PySem.Spec PyProof.Rows L2
section
variable {tb : Tb} {N : List Str} {c : Cs} {fl : Bool}
theorem mE_cst {k : Cst} {e : Expr} (h : mE tb N c fl (.cst k) e = true) : ∃ k' j p, e = .Constant k' j p ∧ (decide (k.k = k')) = true := by
  cases e
  all_goals first
    | (cases h; done)
    | exact ⟨_, _, _, rfl, h⟩
theorem mE_var {i : Nat} {e : Expr} (h : mE tb N c fl (.var i) e = true) : ∃ x p, e = .Name x p ∧ (varB N c i x) = true := by
  cases e
  all_goals first
    | (cases h; done)
    | exact ⟨_, _, rfl, h⟩
theorem mE_bor {i : Nat} {e : Expr} (h : mE tb N c fl (.bor i) e = true) : ∃ x p, e = .Name x p ∧ (fl && varB N c i x) = true := by
  cases e
  all_goals first
    | (cases h; done)
    | exact ⟨_, _, rfl, h⟩
theorem mE_glob {g : Nat} {e : Expr} (h : mE tb N c fl (.glob g) e = true) : ∃ x p, e = .Name x p ∧ (decide (tb.cs[g]? = some x) && glB c x) = true := by
  cases e
  all_goals first
    | (cases h; done)
    | exact ⟨_, _, rfl, h⟩
theorem mE_bin {op : Operator} {a b : E} {e : Expr} (h : mE tb N c fl (.bin op a b) e = true) : ∃ ea op' eb p, e = .BinOp ea op' eb p ∧ (decide (op = op') && opB op && mE tb N c true a ea && mE tb N c true b eb) = true := by
  cases e
  all_goals first
    | (cases h; done)
    | exact ⟨_, _, _, _, rfl, h⟩
theorem mE_cat {a b : E} {e : Expr} (h : mE tb N c fl (.cat a b) e = true) : ∃ ea eb p, e = .BinOp ea .Add eb p ∧ (mE tb N c true a ea && mE tb N c true b eb) = true := by
  cases e
  all_goals first
    | (cases h; done)
    | exact ⟨_, _, _, rfl, h⟩
    | (rename_i a1 a2 a3 a4; cases a2 <;> first | (cases h; done) | exact ⟨_, _, _, rfl, h⟩)
theorem mE_neg {a : E} {e : Expr} (h : mE tb N c fl (.neg a) e = true) : ∃ ea p, e = .UnaryOp .USub ea p ∧ (mE tb N c true a ea) = true := by
  cases e
  all_goals first
    | (cases h; done)
    | exact ⟨_, _, rfl, h⟩
    | (rename_i a1 a2 a3; cases a1 <;> first | (cases h; done) | exact ⟨_, _, rfl, h⟩)
theorem mE_not {a : E} {e : Expr} (h : mE tb N c fl (.not a) e = true) : ∃ ea p, e = .UnaryOp .Not ea p ∧ (mE tb N c true a ea) = true := by
  cases e
  all_goals first
    | (cases h; done)
    | exact ⟨_, _, rfl, h⟩
    | (rename_i a1 a2 a3; cases a1 <;> first | (cases h; done) | exact ⟨_, _, rfl, h⟩)
def mAnd (tb : Tb) (N : List Str) (c : Cs) (b : E) (y : Expr) (r : List Expr) (p : Pos) : Bool := match r with
    | [] => mE tb N c false b y
    | z :: r' => mE tb N c false b (.BoolOp .And (y :: z :: r') p)
theorem mE_and {a b : E} {e : Expr} (h : mE tb N c fl (.and a b) e = true) : ∃ x y r p, e = .BoolOp .And (x :: y :: r) p ∧ (mE tb N c false a x && mAnd tb N c b y r p) = true := by
  cases e
  all_goals first
    | (cases h; done)
    | exact ⟨_, _, _, _, rfl, h⟩
    | (rename_i a1 a2 a3; cases a1 <;> first | (cases h; done) | (cases a2 with | nil => (cases h; done) | cons x a2 => cases a2 with | nil => (cases h; done) | cons y r => exact ⟨_, _, _, _, rfl, h⟩))
def mOr (tb : Tb) (N : List Str) (c : Cs) (b : E) (y : Expr) (r : List Expr) (p : Pos) : Bool := match r with
    | [] => mE tb N c false b y
    | z :: r' => mE tb N c false b (.BoolOp .Or (y :: z :: r') p)
theorem mE_or {a b : E} {e : Expr} (h : mE tb N c fl (.or a b) e = true) : ∃ x y r p, e = .BoolOp .Or (x :: y :: r) p ∧ (mE tb N c false a x && mOr tb N c b y r p) = true := by
  cases e
  all_goals first
    | (cases h; done)
    | exact ⟨_, _, _, _, rfl, h⟩
    | (rename_i a1 a2 a3; cases a1 <;> first | (cases h; done) | (cases a2 with | nil => (cases h; done) | cons x a2 => cases a2 with | nil => (cases h; done) | cons y r => exact ⟨_, _, _, _, rfl, h⟩))
theorem mE_ite {k a b : E} {e : Expr} (h : mE tb N c fl (.ite k a b) e = true) : ∃ ek ea eb p, e = .IfExp ek ea eb p ∧ (mE tb N c true k ek && mE tb N c false a ea && mE tb N c false b eb) = true := by
  cases e
  all_goals first
    | (cases h; done)
    | exact ⟨_, _, _, _, rfl, h⟩
theorem mE_cmp {op : CmpOp} {a b : E} {e : Expr} (h : mE tb N c fl (.cmp op a b) e = true) : ∃ ea op' eb p, e = .Compare ea [op'] [eb] p ∧ (decide (op = op') && !behindInMarks op eb && mE tb N c true a ea && mE tb N c true b eb) = true := by
  cases e
  all_goals first
    | (cases h; done)
    | exact ⟨_, _, _, _, rfl, h⟩
    | (rename_i a1 a2 a3 a4; cases a2 with | nil => (cases h; done) | cons o1 a2 => cases a2 with | nil => (cases a3 with | nil => (cases h; done) | cons x a3 => cases a3 with | nil => exact ⟨_, _, _, _, rfl, h⟩ | cons _ _ => (cases h; done)) | cons o2 a2 => cases a2 with | cons _ _ => (cases a3 <;> (cases h; done)) | nil => (cases a3 with | nil => (cases h; done) | cons x a3 => cases a3 with | nil => (cases h; done) | cons y a3 => cases a3 with | nil => (cases h; done) | cons _ _ => (cases h; done)))
theorem mE_chain {o1 o2 : CmpOp} {a b k : E} {e : Expr} (h : mE tb N c fl (.chain o1 o2 a b k) e = true) : ∃ ea o1' o2' eb ek p, e = .Compare ea [o1', o2'] [eb, ek] p ∧ (decide (o1 = o1') && decide (o2 = o2') && !lastMarks [o1, o2] [eb, ek] && mE tb N c true a ea && mE tb N c true b eb && mE tb N c true k ek) = true := by
  cases e
  all_goals first
    | (cases h; done)
    | exact ⟨_, _, _, _, _, _, rfl, h⟩
    | (rename_i a1 a2 a3 a4; cases a2 with | nil => (cases h; done) | cons o1 a2 => cases a2 with | nil => (cases a3 with | nil => (cases h; done) | cons x a3 => cases a3 with | nil => (cases h; done) | cons _ _ => (cases h; done)) | cons o2 a2 => cases a2 with | cons _ _ => (cases a3 <;> (cases h; done)) | nil => (cases a3 with | nil => (cases h; done) | cons x a3 => cases a3 with | nil => (cases h; done) | cons y a3 => cases a3 with | nil => exact ⟨_, _, _, _, _, _, rfl, h⟩ | cons _ _ => (cases h; done)))
theorem mE_cut {a : E} {lo hi : O} {e : Expr} (h : mE tb N c fl (.cut a lo hi) e = true) : ∃ ea l u p2 p, e = .Subscript ea (.Slice l u none p2) p ∧ (mE tb N c true a ea && mO tb N c lo l && mO tb N c hi u) = true := by
  cases e
  all_goals first
    | (cases h; done)
    | exact ⟨_, _, _, _, _, rfl, h⟩
    | (rename_i a1 a2 a3; cases a2 <;> first | (cases h; done) | (rename_i l u st p2; cases st <;> first | (cases h; done) | exact ⟨_, _, _, _, _, rfl, h⟩))
theorem mE_ix {a b : E} {e : Expr} (h : mE tb N c fl (.ix a b) e = true) : ∃ ea eb p, e = .Subscript ea eb p ∧ (nSlice eb && mE tb N c true a ea && mE tb N c true b eb) = true := by
  cases e
  all_goals first
    | (cases h; done)
    | exact ⟨_, _, _, rfl, h⟩
    | (rename_i a1 a2 a3; cases a2 <;> first | exact ⟨_, _, _, rfl, h⟩ | (rename_i l u st p2; cases st <;> first | exact ⟨_, _, _, rfl, h⟩ | (cases h; done)))
theorem mE_dix {a b : E} {e : Expr} (h : mE tb N c fl (.dix a b) e = true) : ∃ ea eb p, e = .Subscript ea eb p ∧ (nSlice eb && mE tb N c true a ea && mE tb N c true b eb) = true := by
  cases e
  all_goals first
    | (cases h; done)
    | exact ⟨_, _, _, rfl, h⟩
    | (rename_i a1 a2 a3; cases a2 <;> first | exact ⟨_, _, _, rfl, h⟩ | (rename_i l u st p2; cases st <;> first | exact ⟨_, _, _, rfl, h⟩ | (cases h; done)))
theorem mE_tup {es : Es} {e : Expr} (h : mE tb N c fl (.tup es) e = true) : ∃ xs k p, e = .Tuple xs k p ∧ (mEs tb N c es xs) = true := by
  cases e
  all_goals first
    | (cases h; done)
    | exact ⟨_, _, _, rfl, h⟩
theorem mE_lst {es : Es} {e : Expr} (h : mE tb N c fl (.lst es) e = true) : ∃ xs p, e = .List xs p ∧ (mEs tb N c es xs) = true := by
  cases e
  all_goals first
    | (cases h; done)
    | exact ⟨_, _, rfl, h⟩
def mCall (tb : Tb) (N : List Str) (c : Cs) (i : Nat) (es ks : Es) (x : Str) (xs : List Expr) (kws : List Keyword) : Bool := match tb.sh[i]? with
    | some sh => decide (sh.name = x) && glB c x && decide (xs.length = sh.np) && decide (kws.map (·.arg) = sh.ks.map some) && (decide (kws = []) || !decide (xs = [])) && mEs tb N c es xs && mKs tb N c ks kws
    | none => false
theorem mE_call {i : Nat} {es ks : Es} {e : Expr} (h : mE tb N c fl (.call i es ks) e = true) : ∃ x q xs kws p, e = .Call (.Name x q) xs kws p ∧ (mCall tb N c i es ks x xs kws) = true := by
  cases e
  all_goals first
    | (cases h; done)
    | exact ⟨_, _, _, _, _, rfl, h⟩
    | (rename_i f0 xs kws p; cases f0 <;> first | (cases h; done) | exact ⟨_, _, _, _, _, rfl, h⟩)
theorem mE_blt {b : Blt} {a : E} {e : Expr} (h : mE tb N c fl (.blt b a) e = true) : ∃ x q ea p, e = .Call (.Name x q) [ea] [] p ∧ (bltB b && decide (b.nm = x) && glB c x && nStar ea && mE tb N c true a ea) = true := by
  cases e
  all_goals first
    | (cases h; done)
    | exact ⟨_, _, _, _, rfl, h⟩
    | (rename_i f0 xs kws p; cases f0 <;> first | (cases h; done) | (cases xs with | nil => (cases h; done) | cons y xs => cases xs with | cons _ _ => (cases h; done) | nil => cases kws with | cons _ _ => (cases h; done) | nil => exact ⟨_, _, _, _, rfl, h⟩))
theorem mE_isa {a : E} {T : Ty} {e : Expr} (h : mE tb N c fl (.isa a T) e = true) : ∃ x q ea y q2 p, e = .Call (.Name x q) [ea, .Name y q2] [] p ∧ (decide (x = "isinstance") && decide (T.nm = y) && glB c x && glB c y && nStar ea && mE tb N c true a ea) = true := by
  cases e
  all_goals first
    | (cases h; done)
    | exact ⟨_, _, _, _, _, _, rfl, h⟩
    | (rename_i f0 xs kws p; cases f0 <;> first | (cases h; done) | (cases xs with | nil => (cases h; done) | cons y xs => cases xs with | nil => (cases h; done) | cons z xs => cases xs with | cons _ _ => (cases z <;> (cases h; done)) | nil => cases kws with | cons _ _ => (cases z <;> (cases h; done)) | nil => (cases z <;> first | (cases h; done) | exact ⟨_, _, _, _, _, _, rfl, h⟩)))
theorem mE_get {a k d : E} {e : Expr} (h : mE tb N c fl (.get a k d) e = true) : ∃ ea m q ek ed cp, e = .Call (.Attribute ea m q) [ek, ed] [] cp ∧ (decide (m = "get") && nCall ea && (q.endLine == cp.line) && nStar ek && nStar ed && mE tb N c true a ea && mE tb N c true k ek && mE tb N c false d ed) = true := by
  cases e
  all_goals first
    | (cases h; done)
    | exact ⟨_, _, _, _, _, _, rfl, h⟩
    | (rename_i f0 xs kws p; cases f0 <;> first | (cases h; done) | (cases xs with | nil => (cases h; done) | cons y xs => cases xs with | nil => (cases h; done) | cons z xs => cases xs with | cons _ _ => (cases h; done) | nil => cases kws with | cons _ _ => (cases h; done) | nil => exact ⟨_, _, _, _, _, _, rfl, h⟩))
theorem mE_tcount {i : Nat} {e : Expr} (h : mE tb N c fl (.tcount i) e = true) : ∃ y q eb p, e = .Subscript (.Name y q) eb p ∧ (varB N c i y && isStr "count" eb) = true := by
  cases e
  all_goals first
    | (cases h; done)
    | exact ⟨_, _, _, _, rfl, h⟩
    | (rename_i a1 a2 a3; cases a1 <;> first | (cases h; done) | exact ⟨_, _, _, _, rfl, h⟩)
theorem mE_tget {i : Nat} {k d : E} {e : Expr} (h : mE tb N c fl (.tget i k d) e = true) : ∃ y q eb q2 m p ek ed cp, e = .Call (.Attribute (.Subscript (.Name y q) eb q2) m p) [ek, ed] [] cp ∧ (varB N c i y && isStr "rests" eb && decide (m = "get") && (p.endLine == cp.line) && nStar ek && nStar ed && mE tb N c true k ek && mE tb N c false d ed) = true := by
  cases e
  all_goals first
    | (cases h; done)
    | exact ⟨_, _, _, _, _, _, _, _, _, rfl, h⟩
    | (rename_i f0 xs kws p; cases f0 <;> first | (cases h; done) | (rename_i ob m p1; cases ob <;> first | (cases h; done) | (rename_i ob2 eb q2; cases ob2 <;> first | (cases h; done) | (cases xs with | nil => (cases h; done) | cons y xs => cases xs with | nil => (cases h; done) | cons z xs => cases xs with | cons _ _ => (cases h; done) | nil => cases kws with | cons _ _ => (cases h; done) | nil => exact ⟨_, _, _, _, _, _, _, _, _, rfl, h⟩))))
theorem mE_dsp {kvs : List (Str × Cst)} {e : Expr} (h : mE tb N c fl (.dsp kvs) e = true) : ∃ ks vs p, e = .Dict ks vs p ∧ (mDsp kvs ks vs) = true := by
  cases e
  all_goals first
    | (cases h; done)
    | exact ⟨_, _, _, rfl, h⟩
theorem mE_comp {own : List (Str × Nat)} {elt : E} {tg : Tg} {it : I} {cd : O} {e : Expr} (h : mE tb N c fl (.comp own elt tg it cd) e = true) : ∃ ee et ei ifs z scope p, e = .ListComp ee [⟨et, ei, ifs, z⟩] scope p ∧ (decide (z = 0) && blkC N c.sc scope own && (tg.slots.all fun i => (own.map (·.2)).contains i) && mI tb N c false et it ei && nSet ei && mTg N (blkCs c scope) tg et && mCd tb N (blkCs c scope) cd ifs && mE tb N (blkCs c scope) false elt ee) = true := by
  cases e
  all_goals first
    | (cases h; done)
    | exact ⟨_, _, _, _, _, _, _, rfl, h⟩
    | (rename_i ee gs scope p; cases gs with | nil => (cases h; done) | cons g gs => cases g with | mk et ei ifs z => cases gs with | cons _ _ => (cases h; done) | nil => exact ⟨_, _, _, _, _, _, _, rfl, h⟩)
theorem mI_rng1 {a : E} {e : Expr} {fz : Bool} {tg : Expr} (h : mI tb N c fz tg (.rng1 a) e = true) : ∃ x q ea p, e = .Call (.Name x q) [ea] [] p ∧ (decide (x = "range") && glB c x && nStar ea && mE tb N c true a ea) = true := by
  cases e
  all_goals first
    | (cases h; done)
    | exact ⟨_, _, _, _, rfl, h⟩
    | (rename_i f0 xs kws p; cases f0 <;> first | (cases h; done) | (cases xs with | nil => (cases h; done) | cons y xs => cases xs with | cons _ _ => (cases h; done) | nil => cases kws with | cons _ _ => (cases h; done) | nil => exact ⟨_, _, _, _, rfl, h⟩))
theorem mI_rng2 {a b : E} {e : Expr} {fz : Bool} {tg : Expr} (h : mI tb N c fz tg (.rng2 a b) e = true) : ∃ x q ea eb p, e = .Call (.Name x q) [ea, eb] [] p ∧ (decide (x = "range") && glB c x && nStar ea && nStar eb && mE tb N c true a ea && mE tb N c true b eb) = true := by
  cases e
  all_goals first
    | (cases h; done)
    | exact ⟨_, _, _, _, _, rfl, h⟩
    | (rename_i f0 xs kws p; cases f0 <;> first | (cases h; done) | (cases xs with | nil => (cases h; done) | cons y xs => cases xs with | nil => (cases h; done) | cons z xs => cases xs with | cons _ _ => (cases h; done) | nil => cases kws with | cons _ _ => (cases h; done) | nil => exact ⟨_, _, _, _, _, rfl, h⟩))
theorem mI_zip {a b : E} {e : Expr} {fz : Bool} {tg : Expr} (h : mI tb N c fz tg (.zip a b) e = true) : ∃ x q ea eb p, e = .Call (.Name x q) [ea, eb] [] p ∧ (isTupB tg && decide (x = "zip") && glB c x && nStar ea && nStar eb && mE tb N c (!fz) a ea && mE tb N c (!fz) b eb) = true := by
  cases e
  all_goals first
    | (cases h; done)
    | exact ⟨_, _, _, _, _, rfl, h⟩
    | (rename_i f0 xs kws p; cases f0 <;> first | (cases h; done) | (cases xs with | nil => (cases h; done) | cons y xs => cases xs with | nil => (cases h; done) | cons z xs => cases xs with | cons _ _ => (cases h; done) | nil => cases kws with | cons _ _ => (cases h; done) | nil => exact ⟨_, _, _, _, _, rfl, h⟩))
theorem mI_enum {a : E} {e : Expr} {fz : Bool} {tg : Expr} (h : mI tb N c fz tg (.enum a) e = true) : ∃ x q ea p, e = .Call (.Name x q) [ea] [] p ∧ (isTupB tg && decide (x = "enumerate") && glB c x && nStar ea && mE tb N c (!fz) a ea) = true := by
  cases e
  all_goals first
    | (cases h; done)
    | exact ⟨_, _, _, _, rfl, h⟩
    | (rename_i f0 xs kws p; cases f0 <;> first | (cases h; done) | (cases xs with | nil => (cases h; done) | cons y xs => cases xs with | cons _ _ => (cases h; done) | nil => cases kws with | cons _ _ => (cases h; done) | nil => exact ⟨_, _, _, _, rfl, h⟩))
end
end Fm

/-! ### soundness of expressions, all together -/
namespace Fm
open PySem PySem.Spec PyProof.Rows L2
section
variable {tb : Tb} {N : List Str} {G : Gam} {cs : Nat → D} {cl : Nat → Addr}
theorem s_bin {X : Cx} {P : Pm} {a b : Expr} {pos : Pos} {fa fb : Rho → Tw → Res D} (hK : X.K = P.K) {op : Operator} (h : opB op = true) (ha : PE X a (tB P fa)) (hb : PE X b (tB P fb)) :
    PE X (.BinOp a op b pos) (tD P fun r t => (fa r t).bind fun x t1 => (fb r t1).bind fun y t2 => Fm.lift (binD op x y) t2) := by
  cases op with
  | Add => exact s_add hK ha hb
  | Sub => exact s_sub ha hb
  | Mult => exact s_mul ha hb
  | FloorDiv => exact s_fdiv ha hb
  | Mod => exact s_mod ha hb
  | Pow => exact s_pow ha hb
  | LShift => exact s_shl ha hb
  | _ => cases h
theorem mem_free {x : Str} (h : x ∈ freeNames) : x ∈ freeNames := h
theorem s_blt {X : Cx} {P : Pm} {c : Cs} (ok : Ok tb N G cs cl X P c) {a : Expr} {p1 pos : Pos} {fa : Rho → Tw → Res D} {b : Blt} (hb : bltB b = true) (hg : glB c b.nm = true) (hs : nStar a = true) (ha : PE X a (tB P fa)) :
    PE X (.Call (.Name b.nm p1) [a] [] pos) (tD P fun r t => (fa r t).bind fun x t1 => Fm.lift (blt1 b x) t1) ∧ (freshB (.blt b (.cst .non)) = true → PE X (.Call (.Name b.nm p1) [a] [] pos) (tN P fun r t => (fa r t).bind fun x t1 => Fm.lift (blt1 b x) t1)) := by
  obtain ⟨g1, g2, g3⟩ := glB_of ok hg
  have st := star_of (es := []) (env := X.env) hs
  cases b with
  | len => exact ⟨s_callB (cs_len ok.hK) g1 (ok.free _ (by decide)) PySem.boot_len ha g3 g2 st, fun z => by cases z⟩
  | abs => exact ⟨s_callB cs_abs g1 (ok.free _ (by decide)) PyProof.Rows.boot_abs ha g3 g2 st, fun z => by cases z⟩
  | all => exact ⟨s_callB (cs_all ok.hK ok.calm) g1 (ok.free _ (by decide)) PyProof.Rows.boot_all ha g3 g2 st, fun z => by cases z⟩
  | any => exact ⟨s_callB (cs_any ok.hK ok.calm) g1 (ok.free _ (by decide)) PyProof.Rows.boot_any ha g3 g2 st, fun z => by cases z⟩
  | sum => exact ⟨s_callB (cs_sum ok.hK ok.calm) g1 (ok.free _ (by decide)) PyProof.Rows.boot_sum ha g3 g2 st, fun z => by cases z⟩
  | tuple => exact ⟨s_callT (cs_tuple ok.hK) g1 (ok.free _ (by decide)) PyProof.Rows.boot_tuple ha g3 g2 st, fun z => by cases z⟩
  | list =>
    have h := n_callT (cn_list ok.hK) g1 (ok.free _ (by decide)) PyProof.Rows.boot_list ha g3 g2 st (p1 := p1) (pos := pos)
    exact ⟨tN_tD h, fun _ => h⟩
  | sorted =>
    have h := n_callB (cn_sorted ok.hK ok.calm) g1 (ok.free _ (by decide)) PyProof.Rows.boot_sorted ha g3 g2 st (p1 := p1) (pos := pos)
    exact ⟨tN_tD h, fun _ => h⟩
  | int => cases hb
theorem isTup_of {e : Expr} (h : isTupB e = true) : ∃ elts k p, e = .Tuple elts k p := by
  cases e <;> first | (cases h; done) | exact ⟨_, _, _, rfl⟩
theorem isStr_of {x : Str} {e : Expr} (h : isStr x e = true) : ∃ j p, e = .Constant (.str x) j p := by
  unfold isStr at h
  split at h
  · obtain rfl := of_decide_eq_true h
    exact ⟨_, _, rfl⟩
  · cases h
mutual
theorem sE : ∀ (k : E) {X : Cx} {P : Pm} {c : Cs} {fl : Bool} {e : Expr}, Ok tb N G cs cl X P c → mE tb N c fl k e = true → Snd X P (ev G cs k) fl e
  | .cst k, X, P, c, fl, e, ok, h => by
    obtain ⟨k', j, p, rfl, h⟩ := mE_cst h
    obtain rfl : k.k = k' := of_decide_eq_true h
    rw [ev_cst]
    exact .plain ok.hK s_cst (fun _ => rfl) (fun _ _ _ z => by cases z)
  | .var i, X, P, c, fl, e, ok, h => by
    obtain ⟨x, p, rfl, h⟩ := mE_var h
    obtain ⟨h1, h2, h3, h4⟩ := varB_of ok h
    rw [ev_var]
    exact .plain ok.hK (s_var h1 h2 h3 h4) (fun _ => rfl) (fun _ _ _ z => by cases z)
  | .bor i, X, P, c, fl, e, ok, h => by
    obtain ⟨x, p, rfl, h⟩ := mE_bor h
    obtain ⟨h0, h⟩ := and2 h
    obtain ⟨h1, h2, h3, h4⟩ := varB_of ok h
    rw [ev_bor]
    have hb := b_var (P := P) (pos := p) h1 h2 h3 h4
    exact ⟨hb, fun z => (by rw [z] at h0; cases h0), t_plain ok.hK hb (fun _ => rfl), notWord (fun _ _ _ z => by cases z)⟩
  | .glob g, X, P, c, fl, e, ok, h => by
    obtain ⟨x, p, rfl, h⟩ := mE_glob h
    obtain ⟨h1, h2⟩ := and2 h
    obtain ⟨g1, g2, g3⟩ := glB_of ok h2
    obtain ⟨u, v, m1, m2, m3⟩ := ok.con g x (of_decide_eq_true h1)
    rw [ev_glob]
    exact .plain ok.hK (s_glob g1 m1 m2 m3 g2) (fun _ => rfl) (fun _ _ _ z => by cases z)
  | .bin op a b, X, P, c, fl, e, ok, h => by
    obtain ⟨ea, op', eb, p, rfl, h⟩ := mE_bin h
    obtain ⟨h, h4⟩ := and2 h
    obtain ⟨h, h3⟩ := and2 h
    obtain ⟨h1, h2⟩ := and2 h
    obtain rfl := of_decide_eq_true h1
    rw [ev_bin]
    exact .plain ok.hK (s_bin ok.hK h2 (sE a ok h3).b (sE b ok h4).b) (fun _ => rfl) (fun _ _ _ z => by cases z)
  | .cat a b, X, P, c, fl, e, ok, h => by
    obtain ⟨ea, eb, p, rfl, h⟩ := mE_cat h
    obtain ⟨h3, h4⟩ := and2 h
    rw [ev_cat]
    exact .plain ok.hK (s_cat (sE a ok h3).b (sE b ok h4).b) (fun _ => rfl) (fun _ _ _ z => by cases z)
  | .neg a, X, P, c, fl, e, ok, h => by
    obtain ⟨ea, p, rfl, h⟩ := mE_neg h
    rw [ev_neg]
    exact .plain ok.hK (s_neg (sE a ok h).b) (fun _ => rfl) (fun _ _ _ z => by cases z)
  | .not a, X, P, c, fl, e, ok, h => by
    obtain ⟨ea, p, rfl, h⟩ := mE_not h
    have ha := sE a ok h
    rw [ev_not]
    have hd := s_not ok.hK ha.b (pos := p)
    exact ⟨tB_tD hd, fun _ => hd, t_not ha.t, notWord (fun _ _ _ z => by cases z)⟩
  | .and a b, X, P, c, fl, e, ok, h => by
    obtain ⟨x, y, r, p, rfl, h⟩ := mE_and h
    obtain ⟨h1, h2⟩ := and2 h
    have ha := sE a ok h1
    rw [ev_and]
    cases r with
    | nil =>
      have hb := sE b ok (show mE tb N c false b y = true from h2)
      have hd := s_and ok.hK (ha.d rfl) (pe_one (op := .And) (pos := p) (hb.d rfl))
      have hw := t_and ha.t (pw_and1 (pos := p) hb.t)
      exact ⟨tB_tD hd, fun _ => hd, hw.pt, fun _ _ _ _ => hw⟩
    | cons z r' =>
      have hb := sE b ok (show mE tb N c false b (.BoolOp .And (y :: z :: r') p) = true from h2)
      have hd := s_and ok.hK (ha.d rfl) (hb.d rfl)
      have hw := t_and ha.t (hb.w _ _ _ rfl)
      exact ⟨tB_tD hd, fun _ => hd, hw.pt, fun _ _ _ _ => hw⟩
  | .or a b, X, P, c, fl, e, ok, h => by
    obtain ⟨x, y, r, p, rfl, h⟩ := mE_or h
    obtain ⟨h1, h2⟩ := and2 h
    have ha := sE a ok h1
    rw [ev_or]
    cases r with
    | nil =>
      have hb := sE b ok (show mE tb N c false b y = true from h2)
      have hd := s_or ok.hK (ha.d rfl) (pe_one (op := .Or) (pos := p) (hb.d rfl))
      have hw := t_or ha.t (pw_or1 (pos := p) hb.t)
      exact ⟨tB_tD hd, fun _ => hd, hw.pt, fun _ _ _ _ => hw⟩
    | cons z r' =>
      have hb := sE b ok (show mE tb N c false b (.BoolOp .Or (y :: z :: r') p) = true from h2)
      have hd := s_or ok.hK (ha.d rfl) (hb.d rfl)
      have hw := t_or ha.t (hb.w _ _ _ rfl)
      exact ⟨tB_tD hd, fun _ => hd, hw.pt, fun _ _ _ _ => hw⟩
  | .ite k a b, X, P, c, fl, e, ok, h => by
    obtain ⟨ek, ea, eb, p, rfl, h⟩ := mE_ite h
    obtain ⟨h, h3⟩ := and2 h
    obtain ⟨h1, h2⟩ := and2 h
    have hk := sE k ok h1
    have ha := sE a ok h2
    have hb := sE b ok h3
    rw [ev_ite]
    have hd := s_ite hk.t (ha.d rfl) (hb.d rfl) (pos := p)
    exact ⟨tB_tD hd, fun _ => hd, t_ite hk.t ha.t hb.t, notWord (fun _ _ _ z => by cases z)⟩
  | .cmp op a b, X, P, c, fl, e, ok, h => by
    obtain ⟨ea, op', eb, p, rfl, h⟩ := mE_cmp h
    obtain ⟨h, h4⟩ := and2 h
    obtain ⟨h, h3⟩ := and2 h
    obtain ⟨h1, h2⟩ := and2 h
    obtain rfl := of_decide_eq_true h1
    have hm : behindInMarks op eb = false := by simpa using h2
    have ha := sE a ok h3
    have hb := sE b ok h4
    rw [ev_cmp]
    have hd := s_cmp ok.hK ok.hu ha.b hb.b hm (pos := p)
    exact ⟨tB_tD hd, fun _ => hd, t_cmp ok.hK ok.hu ha.b hb.b hm, notWord (fun _ _ _ z => by cases z)⟩
  | .chain o1 o2 a b k, X, P, c, fl, e, ok, h => by
    obtain ⟨ea, o1', o2', eb, ek, p, rfl, h⟩ := mE_chain h
    obtain ⟨h, h6⟩ := and2 h
    obtain ⟨h, h5⟩ := and2 h
    obtain ⟨h, h4⟩ := and2 h
    obtain ⟨h, h3⟩ := and2 h
    obtain ⟨h1, h2⟩ := and2 h
    obtain rfl := of_decide_eq_true h1
    obtain rfl := of_decide_eq_true h2
    have hm : lastMarks [o1, o2] [eb, ek] = false := by simpa using h3
    have ha := sE a ok h4
    have hb := sE b ok h5
    have hk := sE k ok h6
    rw [ev_chain]
    have hd := s_chain ok.hK ok.hu ha.b hb.b hk.b hm (pos := p)
    exact ⟨tB_tD hd, fun _ => hd, t_chain ok.hK ok.hu ha.b hb.b hk.b hm, notWord (fun _ _ _ z => by cases z)⟩
  | .cut a lo hi, X, P, c, fl, e, ok, h => by
    obtain ⟨ea, l, u, p2, p, rfl, h⟩ := mE_cut h
    obtain ⟨h, h3⟩ := and2 h
    obtain ⟨h1, h2⟩ := and2 h
    rw [ev_cut]
    exact .plain ok.hK (s_cut ok.hK (sE a ok h1).b (sO lo ok h2) (sO hi ok h3)) (fun _ => rfl) (fun _ _ _ z => by cases z)
  | .ix a b, X, P, c, fl, e, ok, h => by
    obtain ⟨ea, eb, p, rfl, h⟩ := mE_ix h
    obtain ⟨h, h3⟩ := and2 h
    obtain ⟨h1, h2⟩ := and2 h
    rw [ev_ix]
    exact .plain ok.hK (s_ix ok.hK (sE a ok h2).b (sE b ok h3).b (plain_of h1)) (fun _ => rfl) (fun _ _ _ z => by cases z)
  | .dix a b, X, P, c, fl, e, ok, h => by
    obtain ⟨ea, eb, p, rfl, h⟩ := mE_dix h
    obtain ⟨h, h3⟩ := and2 h
    obtain ⟨h1, h2⟩ := and2 h
    rw [ev_dix]
    exact .plain ok.hK (s_dix ok.hu (sE a ok h2).b (sE b ok h3).b (plain_of h1)) (fun _ => rfl) (fun _ _ _ z => by cases z)
  | .tup es, X, P, c, fl, e, ok, h => by
    obtain ⟨xs, k, p, rfl, h⟩ := mE_tup h
    rw [ev_tup]
    exact .plain ok.hK (s_tup (sEs es ok h)) (fun _ => rfl) (fun _ _ _ z => by cases z)
  | .lst es, X, P, c, fl, e, ok, h => by
    obtain ⟨xs, p, rfl, h⟩ := mE_lst h
    rw [ev_lst]
    exact .plain ok.hK (tN_tD (n_lst (sEs es ok h))) (fun _ => rfl) (fun _ _ _ z => by cases z)
  | .call i es ks, X, P, c, fl, e, ok, h => by
    obtain ⟨x, q, xs, kws, p, rfl, hc⟩ := mE_call h
    clear h
    have h := hc
    unfold mCall at h
    cases e : tb.sh[i]? with
    | none =>
      rw [e] at h
      cases h
    | some sh =>
      rw [e] at h
      obtain ⟨h, h7⟩ := and2 h
      obtain ⟨h, h6⟩ := and2 h
      obtain ⟨h, h5⟩ := and2 h
      obtain ⟨h, h4⟩ := and2 h
      obtain ⟨h, h3⟩ := and2 h
      obtain ⟨h1, h2⟩ := and2 h
      refine .plain ok.hK (s_callA ok e (of_decide_eq_true h1) h2 (of_decide_eq_true h3) (of_decide_eq_true h4) ?_ h6 h7 (sEs es ok h6) (sKs ks ok h7)) (fun _ => rfl) (fun _ _ _ z => by cases z)
      rcases Bool.or_eq_true_iff.mp h5 with h5 | h5
      · exact .inl (of_decide_eq_true h5)
      · exact .inr (by simpa using h5)
  | .blt b a, X, P, c, fl, e, ok, h => by
    obtain ⟨x, q, ea, p, rfl, h⟩ := mE_blt h
    obtain ⟨h, h5⟩ := and2 h
    obtain ⟨h, h4⟩ := and2 h
    obtain ⟨h, h3⟩ := and2 h
    obtain ⟨h1, h2⟩ := and2 h
    obtain rfl := of_decide_eq_true h2
    rw [ev_blt]
    exact .plain ok.hK (s_blt ok h1 h3 h4 (sE a ok h5).b).1 (fun _ => rfl) (fun _ _ _ z => by cases z)
  | .isa a T, X, P, c, fl, e, ok, h => by
    obtain ⟨x, q, ea, y, q2, p, rfl, h⟩ := mE_isa h
    obtain ⟨h, h6⟩ := and2 h
    obtain ⟨h, h5⟩ := and2 h
    obtain ⟨h, h4⟩ := and2 h
    obtain ⟨h, h3⟩ := and2 h
    obtain ⟨h1, h2⟩ := and2 h
    obtain rfl := of_decide_eq_true h1
    obtain rfl := of_decide_eq_true h2
    rw [ev_isa]
    have mT : T.nm ∈ freeNames := by cases T <;> decide
    exact .plain ok.hK (s_isa ok.hK (glB_of ok h3).1 (ok.free _ (by decide)) (glB_of ok h4).1 (ok.free _ mT) (sE a ok h6).b (star_of h5)) (fun _ => rfl) (fun _ _ _ z => by cases z)
  | .get a k d, X, P, c, fl, e, ok, h => by
    obtain ⟨ea, m, q, ek, ed, cp, rfl, h⟩ := mE_get h
    obtain ⟨h, h8⟩ := and2 h
    obtain ⟨h, h7⟩ := and2 h
    obtain ⟨h, h6⟩ := and2 h
    obtain ⟨h, h5⟩ := and2 h
    obtain ⟨h, h4⟩ := and2 h
    obtain ⟨h, h3⟩ := and2 h
    obtain ⟨h1, h2⟩ := and2 h
    obtain rfl := of_decide_eq_true h1
    rw [ev_get]
    have hst : starEach [ek, ed] X.env = [(false, eval ek X.env), (false, eval ed X.env)] := by
      rw [star_of h4, star_of h5]
      rfl
    have m2 : M2 X ea "get" q ek ed cp := ⟨base_of h2, by rw [hst]; rfl, h3, by rw [hst]; rfl⟩
    exact .plain ok.hK (s_get ok.hu (sE a ok h6).b (sE k ok h7).b ((sE d ok h8).d rfl) m2) (fun _ => rfl) (fun _ _ _ z => by cases z)
  | .tcount i, X, P, c, fl, e, ok, h => by
    obtain ⟨y, q, eb, p, rfl, h⟩ := mE_tcount h
    obtain ⟨h1, h2⟩ := and2 h
    obtain ⟨a1, a2, a3, a4⟩ := varB_of ok h1
    obtain ⟨j, q2, rfl⟩ := isStr_of h2
    rw [ev_tcount]
    exact .plain ok.hK (s_tcount ok.hu a1 a2 a3 a4) (fun _ => rfl) (fun _ _ _ z => by cases z)
  | .tget i k d, X, P, c, fl, e, ok, h => by
    obtain ⟨y, q, eb, q2, m, p, ek, ed, cp, rfl, h⟩ := mE_tget h
    obtain ⟨h, h8⟩ := and2 h
    obtain ⟨h, h7⟩ := and2 h
    obtain ⟨h, h6⟩ := and2 h
    obtain ⟨h, h5⟩ := and2 h
    obtain ⟨h, h4⟩ := and2 h
    obtain ⟨h, h3⟩ := and2 h
    obtain ⟨h1, h2⟩ := and2 h
    obtain rfl := of_decide_eq_true h3
    obtain ⟨a1, a2, a3, a4⟩ := varB_of ok h1
    obtain ⟨j, q3, rfl⟩ := isStr_of h2
    rw [ev_tget]
    have hst : starEach [ek, ed] X.env = [(false, eval ek X.env), (false, eval ed X.env)] := by
      rw [star_of h5, star_of h6]
      rfl
    exact .plain ok.hK (s_tget ok.hu a1 a2 a3 a4 (sE k ok h7).b ((sE d ok h8).d rfl) ⟨rfl, by rw [hst]; rfl, h4, by rw [hst]; rfl⟩) (fun _ => rfl) (fun _ _ _ z => by cases z)
  | .dsp kvs, X, P, c, fl, e, ok, h => by
    obtain ⟨ks, vs, p, rfl, h⟩ := mE_dsp h
    rw [ev_dsp]
    exact .plain ok.hK (tN_tD (n_dsp (dsp_of h))) (fun _ => rfl) (fun _ _ _ z => by cases z)
  | .comp own elt tg it cd, X, P, c, fl, e, ok, h => by
    obtain ⟨ee, et, ei, ifs, z, scope, p, rfl, h⟩ := mE_comp h
    obtain ⟨h, h8⟩ := and2 h
    obtain ⟨h, h7⟩ := and2 h
    obtain ⟨h, h6⟩ := and2 h
    obtain ⟨h, h5⟩ := and2 h
    obtain ⟨h, h4⟩ := and2 h
    obtain ⟨h, h3⟩ := and2 h
    obtain ⟨h1, h2⟩ := and2 h
    obtain rfl := of_decide_eq_true h1
    rw [ev_comp]
    have hsl : ∀ i ∈ tg.slots, i ∈ own.map (·.2) := fun i hi => by
      have := List.all_eq_true.mp h3 i hi
      simpa using this
    refine .plain ok.hK (tN_tD (n_comp ok.calm (by rw [ok.hN]; exact ok.nd) (sI it ok h4) (by rw [ok.hN, ok.sc]; exact blkOk_by h2) (fun s H C cl' fp => sTg (ok.blk scope s H C cl' fp) h6) (fun s H C cl' fp => ?_)
      (fun s H C cl' fp => (sE elt (ok.blk scope s H C cl' fp) h8).d rfl) (fold_of h5) hsl)) (fun _ => rfl) (fun _ _ _ z => by cases z)
    cases cd with
    | none =>
      cases ifs with
      | nil =>
        rw [evO_none]
        exact c_none
      | cons _ _ => cases h7
    | some k =>
      cases ifs with
      | nil => cases h7
      | cons x xs =>
        cases xs with
        | nil =>
          rw [evO_some]
          exact c_some (sE k (ok.blk scope s H C cl' fp) (show mE tb N (blkCs c scope) true k x = true from h7)).t
        | cons _ _ => cases h7
theorem sO : ∀ (o : O) {X : Cx} {P : Pm} {c : Cs} {e : Option Expr}, Ok tb N G cs cl X P c → mO tb N c o e = true → PO X e (tO P (evO G cs o))
  | .none, X, P, c, none, ok, h => by
    rw [evO_none]
    exact s_none
  | .some k, X, P, c, some e, ok, h => by
    rw [evO_some]
    exact s_some (sE k ok h).b
theorem sEs : ∀ (es : Es) {X : Cx} {P : Pm} {c : Cs} {xs : List Expr}, Ok tb N G cs cl X P c → mEs tb N c es xs = true → PA X xs (tDs P (evs G cs es))
  | .nil, X, P, c, [], ok, h => by
    rw [evs_nil]
    exact s_nil
  | .cons k es, X, P, c, x :: xs, ok, h => by
    obtain ⟨h, h3⟩ := and2 h
    obtain ⟨h1, h2⟩ := and2 h
    rw [evs_cons]
    exact s_cons ((sE k ok h2).d rfl) (sEs es ok h3) (star_of h1)
theorem sKs : ∀ (es : Es) {X : Cx} {P : Pm} {c : Cs} {xs : List Keyword}, Ok tb N G cs cl X P c → mKs tb N c es xs = true → PK X xs (tDs P (evs G cs es))
  | .nil, X, P, c, [], ok, h => by
    rw [evs_nil]
    exact k_nil
  | .cons k es, X, P, c, ⟨nm, x, p⟩ :: xs, ok, h => by
    obtain ⟨h2, h3⟩ := and2 h
    rw [evs_cons]
    exact k_cons ((sE k ok h2).d rfl) (sKs es ok h3)
theorem sI : ∀ (i : I) {X : Cx} {P : Pm} {c : Cs} {fz : Bool} {tg e : Expr}, Ok tb N G cs cl X P c → mI tb N c fz tg i e = true → PI X tg e (tI P fz (evI G cs i))
  | .val k, X, P, c, fz, tg, e, ok, h => by
    have h : mE tb N c (!fz) k e = true := h
    rw [evI_val]
    cases fz with
    | true => exact i_val ok.hK ((sE k ok h).d rfl)
    | false => exact i_bor ok.hK (sE k ok h).b
  | .rng1 a, X, P, c, fz, tg, e, ok, h => by
    obtain ⟨x, q, ea, p, rfl, h⟩ := mI_rng1 h
    obtain ⟨h, h4⟩ := and2 h
    obtain ⟨h, h3⟩ := and2 h
    obtain ⟨h1, h2⟩ := and2 h
    obtain rfl := of_decide_eq_true h1
    rw [evI_rng1]
    exact i_rng1 (glB_of ok h2).1 (ok.free _ (by decide)) (sE a ok h4).b (star_of h3)
  | .rng2 a b, X, P, c, fz, tg, e, ok, h => by
    obtain ⟨x, q, ea, eb, p, rfl, h⟩ := mI_rng2 h
    obtain ⟨h, h6⟩ := and2 h
    obtain ⟨h, h5⟩ := and2 h
    obtain ⟨h, h4⟩ := and2 h
    obtain ⟨h, h3⟩ := and2 h
    obtain ⟨h1, h2⟩ := and2 h
    obtain rfl := of_decide_eq_true h1
    rw [evI_rng2]
    exact i_rng2 (glB_of ok h2).1 (ok.free _ (by decide)) (sE a ok h5).b (sE b ok h6).b (star_of h3) (star_of h4)
  | .zip a b, X, P, c, fz, tg, e, ok, h => by
    obtain ⟨x, q, ea, eb, p, rfl, h⟩ := mI_zip h
    obtain ⟨h, h6⟩ := and2 h
    obtain ⟨h, h5⟩ := and2 h
    obtain ⟨h, h4⟩ := and2 h
    obtain ⟨h, h3⟩ := and2 h
    obtain ⟨h, h2⟩ := and2 h
    obtain ⟨h0, h1⟩ := and2 h
    obtain rfl := of_decide_eq_true h1
    obtain ⟨elts, kk, tpos, rfl⟩ := isTup_of h0
    rw [evI_zip]
    cases fz with
    | true => exact i_zip ok.hK (glB_of ok h2).1 (ok.free _ (by decide)) ((sE a ok h5).d rfl) ((sE b ok h6).d rfl) (star_of h3) (star_of h4)
    | false => exact i_zipB ok.hK (glB_of ok h2).1 (ok.free _ (by decide)) (sE a ok h5).b (sE b ok h6).b (star_of h3) (star_of h4)
  | .enum a, X, P, c, fz, tg, e, ok, h => by
    obtain ⟨x, q, ea, p, rfl, h⟩ := mI_enum h
    obtain ⟨h, h5⟩ := and2 h
    obtain ⟨h, h3⟩ := and2 h
    obtain ⟨h, h2⟩ := and2 h
    obtain ⟨h0, h1⟩ := and2 h
    obtain rfl := of_decide_eq_true h1
    obtain ⟨elts, kk, tpos, rfl⟩ := isTup_of h0
    rw [evI_enum]
    cases fz with
    | true => exact i_enum ok.hK (glB_of ok h2).1 (ok.free _ (by decide)) ((sE a ok h5).d rfl) (star_of h3)
    | false => exact i_enumB ok.hK (glB_of ok h2).1 (ok.free _ (by decide)) (sE a ok h5).b (star_of h3)
end
end
end Fm

/-! ### statements: the check by computation -/
namespace Fm
open PySem PySem.Spec PyProof.Rows L2
def augB : Operator → Bool
  | .Add => true
  | .Sub => true
  | .Mult => true
  | .FloorDiv => true
  | .Mod => true
  | _ => false
def isComp : E → Bool
  | .comp _ _ _ _ _ => true
  | _ => false
/-- of name = [..]: the name is stored ahead of the block's names' going, or not -/
def swT (c : Cs) (y : Str) (py : Pos) : Expr → Bool
  | .ListComp _ _ scope p => decide (c.sc.kind = .function) && lclB c y && (py.line == p.line) && !(scope.names.any fun (n, k) => n == y && (k == .local || k == .cell))
  | _ => false
def swF (c : Cs) (y : Str) (py : Pos) (v : Expr) : Bool := nComp v || match v with
  | .ListComp _ _ scope p => decide (c.sc.names.lookup y = some .cell) || !(py.line == p.line)
  | _ => false
def nonLoc (c : Cs) : Expr → Bool
  | .Name x _ => !lclB c x
  | _ => true
def noneB (c : Cs) (ts : List Expr) : Expr → Bool
  | .Tuple vs _ _ => !(ts.length == 2 || ts.length == 3) || ts.any (nonLoc c) || vs.all (foldedForSure 8)
  | _ => true
def mAsg (tb : Tb) (N : List Str) (c : Cs) (tg : Tg) (k : E) : Expr → Expr → Bool
  | .Name y py, v => mTg N c tg (.Name y py) && (swF c y py v || (isComp k && swT c y py v)) && mE tb N c false k v
  | .Tuple ts a p, v => mTg N c tg (.Tuple ts a p) && nComp v && noneB c ts v && mE tb N c false k v
  | _, _ => false
def locAt (N : List Str) (c : Cs) (i : Nat) (x : Str) : Bool := decide (N[i]? = some x) && lclB c x
def mPar (tb : Tb) (N : List Str) (c : Cs) (is : List Nat) (es : Es) (ts vs : List Expr) : Bool := decide (c.sc.kind = .function) && !vs.any (fun e => !nStar e) && !vs.all (foldedForSure 8) && !vs.all (constantsAlone 8) && mEs tb N c es vs &&
  (match is, ts, vs with
    | [i, j], [.Name x px, .Name y py], [_, _] => decide (i ≠ j) && locAt N c i x && locAt N c j y && decide (x ≠ y) && (py.line == px.line)
    | [i, j, l], [.Name x px, .Name y py, .Name z pz], [_, _, _] => decide (i ≠ j) && decide (i ≠ l) && decide (j ≠ l) && locAt N c i x && locAt N c j y && locAt N c l z && decide (x ≠ y) && decide (x ≠ z) && decide (y ≠ z) && (py.line == px.line) && (pz.line == px.line)
    | _, _, _ => false)
def nTup : Expr → Bool
  | .Tuple _ _ _ => false
  | _ => true
def mStar (tb : Tb) (N : List Str) (c : Cs) (i j : Nat) (k : E) (t v : Expr) : Bool := match t with
  | .Tuple [.Name x _, .Starred (.Name y _) _] _ _ => tgtB N c i x && tgtB N c j y && nComp v && nTup v && mE tb N c false k v
  | _ => false
def mNew (tb : Tb) (N : List Str) (c : Cs) (i : Nat) (k : E) (t v : Expr) : Bool := match t with
  | .Name y py => freshB k && tgtB N c i y && (swF c y py v || (isComp k && swT c y py v)) && mE tb N c false k v
  | _ => false
def mApp (tb : Tb) (N : List Str) (c : Cs) (i : Nat) (k : E) : Expr → Bool
  | .Call (.Attribute (.Name y _) m p1) [a] [] p2 => decide (m = "append") && varB N c i y && (p1.endLine == p2.line) && nStar a && mE tb N c false k a
  | _ => false
def mPut (tb : Tb) (N : List Str) (c : Cs) (i : Nat) (k e : E) (t v : Expr) : Bool := match t with
  | .Subscript (.Name y _) b _ => varB N c i y && nSlice b && nComp v && mE tb N c true k b && mE tb N c false e v
  | _ => false
def mAug (tb : Tb) (N : List Str) (c : Cs) (i : Nat) (op : Operator) (k : E) (t : Expr) (op' : Operator) (v : Expr) : Bool := match t with
  | .Name y _ => decide (op = op') && augB op && tgtB N c i y && mE tb N c true k v
  | _ => false
def mRaise (tb : Tb) (c : Cs) (n : Nat) (m : Str) (a b : Option Expr) : Bool := match a, b with
  | some (.Call (.Name x _) [.Constant (.str m') _ _] [] _), none => decide (m = m') && decide (tb.ex[n]? = some x) && glB c x
  | _, _ => false
def mTcnt (tb : Tb) (N : List Str) (c : Cs) (i : Nat) (k : E) (t v : Expr) : Bool := match t with
  | .Subscript (.Name y _) eb _ => varB N c i y && isStr "count" eb && nComp v && mE tb N c false k v
  | _ => false
def mTrst (tb : Tb) (N : List Str) (c : Cs) (i : Nat) (k a : E) (t v : Expr) : Bool := match t with
  | .Subscript (.Subscript (.Name y _) eb _) b _ => varB N c i y && isStr "rests" eb && nComp v && mE tb N c true k b && mE tb N c false a v
  | _ => false
def isFrz : S → Option Nat
  | .frz i => some i
  | _ => none
mutual
def mS (tb : Tb) (N : List Str) (c : Cs) : S → Stmt → Bool
  | .asg tg k, .Assign [t] v _ => mAsg tb N c tg k t v
  | .par is es, .Assign [.Tuple ts _ _] (.Tuple vs _ _) _ => mPar tb N c is es ts vs
  | .star i j k, .Assign [t] v _ => mStar tb N c i j k t v
  | .aug i op k, .AugAssign t op' v _ => mAug tb N c i op k t op' v
  | .ret k, .Return (some v) _ => mE tb N c false k v
  | .ite k a b, .If ek sa sb _ => mE tb N c true k ek && mSs tb N c a sa && mSs tb N c b sb
  | .for tg it b, .For et ei sb [] _ => nSet ei && mTg N c tg et && mI tb N c true et it ei && mSs tb N c b sb
  | .while k b, .While ek sb [] _ => mE tb N c true k ek && mSs tb N c b sb
  | .exp k, .Expr v _ => nComp v && mE tb N c false k v
  | .new i k, .Assign [t] v _ => mNew tb N c i k t v
  | .app i k, .Expr v _ => mApp tb N c i k v
  | .put i k e, .Assign [t] v _ => mPut tb N c i k e t v
  | .putL i k e, .Assign [t] v _ => mPut tb N c i k e t v
  | .tcnt i k, .Assign [t] v _ => mTcnt tb N c i k t v
  | .trst i k e, .Assign [t] v _ => mTrst tb N c i k e t v
  | .brk, .Break _ => true
  | .cont, .Continue _ => true
  | .raise n m, .Raise a b _ => mRaise tb c n m a b
  | _, _ => false
def mSs (tb : Tb) (N : List Str) (c : Cs) : Ss → List Stmt → Bool
  | .nil, [] => true
  | .nil, _ :: _ => false
  | .cons s r, ss => match isFrz s with
    | some _ => mSs tb N c r ss
    | none => match ss with
      | st :: rest => mS tb N c s st && mSs tb N c r rest
      | [] => false
end
section
variable {tb : Tb} {N : List Str} {c : Cs}
theorem mS_asg {tg : Tg} {k : E} {e : Stmt} (h : mS tb N c (.asg tg k) e = true) : ∃ t v p, e = .Assign [t] v p ∧ (mAsg tb N c tg k t v) = true := by
  cases e
  all_goals first
    | (cases h; done)
    | exact ⟨_, _, _, rfl, h⟩
    | (rename_i ts v p; cases ts with | nil => (cases h; done) | cons t ts => cases ts with | nil => exact ⟨_, _, _, rfl, h⟩ | cons _ _ => (cases h; done))
theorem mS_star {i j : Nat} {k : E} {e : Stmt} (h : mS tb N c (.star i j k) e = true) : ∃ t v p, e = .Assign [t] v p ∧ (mStar tb N c i j k t v) = true := by
  cases e
  all_goals first
    | (cases h; done)
    | exact ⟨_, _, _, rfl, h⟩
    | (rename_i ts v p; cases ts with | nil => (cases h; done) | cons t ts => cases ts with | nil => exact ⟨_, _, _, rfl, h⟩ | cons _ _ => (cases h; done))
theorem mS_new {i : Nat} {k : E} {e : Stmt} (h : mS tb N c (.new i k) e = true) : ∃ t v p, e = .Assign [t] v p ∧ (mNew tb N c i k t v) = true := by
  cases e
  all_goals first
    | (cases h; done)
    | exact ⟨_, _, _, rfl, h⟩
    | (rename_i ts v p; cases ts with | nil => (cases h; done) | cons t ts => cases ts with | nil => exact ⟨_, _, _, rfl, h⟩ | cons _ _ => (cases h; done))
theorem mS_put {i : Nat} {k a : E} {e : Stmt} (h : mS tb N c (.put i k a) e = true) : ∃ t v p, e = .Assign [t] v p ∧ (mPut tb N c i k a t v) = true := by
  cases e
  all_goals first
    | (cases h; done)
    | exact ⟨_, _, _, rfl, h⟩
    | (rename_i ts v p; cases ts with | nil => (cases h; done) | cons t ts => cases ts with | nil => exact ⟨_, _, _, rfl, h⟩ | cons _ _ => (cases h; done))
theorem mS_putL {i : Nat} {k a : E} {e : Stmt} (h : mS tb N c (.putL i k a) e = true) : ∃ t v p, e = .Assign [t] v p ∧ (mPut tb N c i k a t v) = true := by
  cases e
  all_goals first
    | (cases h; done)
    | exact ⟨_, _, _, rfl, h⟩
    | (rename_i ts v p; cases ts with | nil => (cases h; done) | cons t ts => cases ts with | nil => exact ⟨_, _, _, rfl, h⟩ | cons _ _ => (cases h; done))
theorem mS_tcnt {i : Nat} {k : E} {e : Stmt} (h : mS tb N c (.tcnt i k) e = true) : ∃ t v p, e = .Assign [t] v p ∧ (mTcnt tb N c i k t v) = true := by
  cases e
  all_goals first
    | (cases h; done)
    | exact ⟨_, _, _, rfl, h⟩
    | (rename_i ts v p; cases ts with | nil => (cases h; done) | cons t ts => cases ts with | nil => exact ⟨_, _, _, rfl, h⟩ | cons _ _ => (cases h; done))
theorem mS_trst {i : Nat} {k a : E} {e : Stmt} (h : mS tb N c (.trst i k a) e = true) : ∃ t v p, e = .Assign [t] v p ∧ (mTrst tb N c i k a t v) = true := by
  cases e
  all_goals first
    | (cases h; done)
    | exact ⟨_, _, _, rfl, h⟩
    | (rename_i ts v p; cases ts with | nil => (cases h; done) | cons t ts => cases ts with | nil => exact ⟨_, _, _, rfl, h⟩ | cons _ _ => (cases h; done))
theorem mS_par {is : List Nat} {es : Es} {e : Stmt} (h : mS tb N c (.par is es) e = true) : ∃ ts kt pt vs kv pv p, e = .Assign [.Tuple ts kt pt] (.Tuple vs kv pv) p ∧ (mPar tb N c is es ts vs) = true := by
  cases e
  all_goals first
    | (cases h; done)
    | exact ⟨_, _, _, _, _, _, _, rfl, h⟩
    | (rename_i ts v p; cases ts with | nil => (cases h; done) | cons t ts => cases t <;> first | (cases h; done) | (cases ts with | nil => (cases v <;> first | (cases h; done) | exact ⟨_, _, _, _, _, _, _, rfl, h⟩) | cons _ _ => (cases h; done)))
theorem mS_aug {i : Nat} {op : Operator} {k : E} {e : Stmt} (h : mS tb N c (.aug i op k) e = true) : ∃ t op' v p, e = .AugAssign t op' v p ∧ (mAug tb N c i op k t op' v) = true := by
  cases e
  all_goals first
    | (cases h; done)
    | exact ⟨_, _, _, _, rfl, h⟩
theorem mS_ret {k : E} {e : Stmt} (h : mS tb N c (.ret k) e = true) : ∃ v p, e = .Return (some v) p ∧ (mE tb N c false k v) = true := by
  cases e
  all_goals first
    | (cases h; done)
    | exact ⟨_, _, rfl, h⟩
    | (rename_i v p; cases v with | none => (cases h; done) | some v => exact ⟨_, _, rfl, h⟩)
theorem mS_ite {k : E} {a b : Ss} {e : Stmt} (h : mS tb N c (.ite k a b) e = true) : ∃ ek sa sb p, e = .If ek sa sb p ∧ (mE tb N c true k ek && mSs tb N c a sa && mSs tb N c b sb) = true := by
  cases e
  all_goals first
    | (cases h; done)
    | exact ⟨_, _, _, _, rfl, h⟩
theorem mS_for {tg : Tg} {it : I} {b : Ss} {e : Stmt} (h : mS tb N c (.for tg it b) e = true) : ∃ et ei sb p, e = .For et ei sb [] p ∧ (nSet ei && mTg N c tg et && mI tb N c true et it ei && mSs tb N c b sb) = true := by
  cases e
  all_goals first
    | (cases h; done)
    | exact ⟨_, _, _, _, rfl, h⟩
    | (rename_i et ei sb el p; cases el with | nil => exact ⟨_, _, _, _, rfl, h⟩ | cons _ _ => (cases h; done))
theorem mS_while {k : E} {b : Ss} {e : Stmt} (h : mS tb N c (.while k b) e = true) : ∃ ek sb p, e = .While ek sb [] p ∧ (mE tb N c true k ek && mSs tb N c b sb) = true := by
  cases e
  all_goals first
    | (cases h; done)
    | exact ⟨_, _, _, rfl, h⟩
    | (rename_i ek sb el p; cases el with | nil => exact ⟨_, _, _, rfl, h⟩ | cons _ _ => (cases h; done))
theorem mS_exp {k : E} {e : Stmt} (h : mS tb N c (.exp k) e = true) : ∃ v p, e = .Expr v p ∧ (nComp v && mE tb N c false k v) = true := by
  cases e
  all_goals first
    | (cases h; done)
    | exact ⟨_, _, rfl, h⟩
theorem mS_app {i : Nat} {k : E} {e : Stmt} (h : mS tb N c (.app i k) e = true) : ∃ v p, e = .Expr v p ∧ (mApp tb N c i k v) = true := by
  cases e
  all_goals first
    | (cases h; done)
    | exact ⟨_, _, rfl, h⟩
theorem mS_brk  {e : Stmt} (h : mS tb N c .brk e = true) : ∃ p, e = .Break p ∧ (true) = true := by
  cases e
  all_goals first
    | (cases h; done)
    | exact ⟨_, rfl, h⟩
theorem mS_cont  {e : Stmt} (h : mS tb N c .cont e = true) : ∃ p, e = .Continue p ∧ (true) = true := by
  cases e
  all_goals first
    | (cases h; done)
    | exact ⟨_, rfl, h⟩
theorem mS_raise {n : Nat} {m : Str} {e : Stmt} (h : mS tb N c (.raise n m) e = true) : ∃ a b p, e = .Raise a b p ∧ (mRaise tb c n m a b) = true := by
  cases e
  all_goals first
    | (cases h; done)
    | exact ⟨_, _, _, rfl, h⟩
theorem mSs_frz {i : Nat} {r : Ss} {ss : List Stmt} (h : mSs tb N c (.cons (.frz i) r) ss = true) : mSs tb N c r ss = true := h
theorem mSs_cons {s : S} {r : Ss} {ss : List Stmt} (hf : isFrz s = none) (h : mSs tb N c (.cons s r) ss = true) : ∃ st rest, ss = st :: rest ∧ mS tb N c s st = true ∧ mSs tb N c r rest = true := by
  cases s <;> first | (cases hf; done) | (cases ss with | nil => (cases h; done) | cons st rest => exact ⟨st, rest, rfl, and2 h⟩)
end
end Fm

/-! ### statements: soundness -/
namespace Fm
open PySem PySem.Spec PyProof.Rows L2
section
variable {tb : Tb} {N : List Str} {G : Gam} {cs : Nat → D} {cl : Nat → Addr} {X : Cx} {P : Pm} {c : Cs}
theorem sw_plain {v : Expr} {t : Option Expr} {l : Nat} {env : Env} (h : nComp v = true) : swapsWith v t l env = pure false := by
  cases v <;> first | rfl | (cases h; done)
theorem sw_sole {v t : Expr} {l : Nat} {env : Env} (h : nComp v = true) : swapsWithSole [t] v l env = pure false := sw_plain h
theorem sw_off {elt : Expr} {gs : List Comprehension} {scope : Scope} {pos py : Pos} {y : Str} {l : Nat} {env : Env} (h : env.scope.names.lookup y = some .cell ∨ (py.line == pos.line) = false) : swapsWith (.ListComp elt gs scope pos) (some (.Name y py)) l env = pure false := by
  unfold swapsWith
  rcases h with h | h
  · have ky : env.kindOf y = some .cell := h
    simp only [ky, Expr.pos]
    have : ((some NameKind.cell : Option NameKind) == some NameKind.local) = false := rfl
    simp only [this, Bool.and_false, Bool.false_and]
  · simp only [Expr.pos, h, Bool.and_false, Bool.false_and]
theorem lclB_of {x : Str} (h : lclB c x = true) : c.sc.names.lookup x = some .local := by
  unfold lclB at h
  split at h
  · assumption
  · cases h
theorem swF_of (ok : Ok tb N G cs cl X P c) {y : Str} {py : Pos} {v : Expr} {l : Nat} (h : swF c y py v = true) : swapsWith v (some (.Name y py)) l X.env = pure false := by
  unfold swF at h
  rcases Bool.or_eq_true_iff.mp h with h | h
  · exact sw_plain h
  · split at h
    · refine sw_off ?_
      rw [ok.sc]
      rcases Bool.or_eq_true_iff.mp h with h | h
      · exact .inl (of_decide_eq_true h)
      · exact .inr (by simpa using h)
    · cases h
theorem sCd (ok : Ok tb N G cs cl X P c) {cd : O} {ifs : List Expr} (h7 : mCd tb N c cd ifs = true) : PTs X ifs (tC1 P (evO G cs cd)) := by
  cases cd with
  | none =>
    cases ifs with
    | nil =>
      rw [evO_none]
      exact c_none
    | cons _ _ => cases h7
  | some k =>
    cases ifs with
    | nil => cases h7
    | cons x xs =>
      cases xs with
      | nil =>
        rw [evO_some]
        exact c_some (sE k ok (show mE tb N c true k x = true from h7)).t
      | cons _ _ => cases h7
/-- what is new is told as nobody's -/
theorem sN (ok : Ok tb N G cs cl X P c) {k : E} {v : Expr} (hf : freshB k = true) (hv : mE tb N c false k v = true) : PE X v (tN P (ev G cs k)) := by
  cases k with
  | lst es =>
    obtain ⟨xs, p, rfl, h⟩ := mE_lst hv
    rw [ev_lst]
    exact n_lst (sEs es ok h)
  | dsp kvs =>
    obtain ⟨ks, vs, p, rfl, h⟩ := mE_dsp hv
    rw [ev_dsp]
    exact n_dsp (dsp_of h)
  | comp own elt tg it cd =>
    obtain ⟨ee, et, ei, ifs, z, scope, p, rfl, h⟩ := mE_comp hv
    obtain ⟨h, h8⟩ := and2 h
    obtain ⟨h, h7⟩ := and2 h
    obtain ⟨h, h6⟩ := and2 h
    obtain ⟨h, h5⟩ := and2 h
    obtain ⟨h, h4⟩ := and2 h
    obtain ⟨h, h3⟩ := and2 h
    obtain ⟨h1, h2⟩ := and2 h
    obtain rfl := of_decide_eq_true h1
    have hsl : ∀ i ∈ tg.slots, i ∈ own.map (·.2) := fun i hi => by
      have := List.all_eq_true.mp h3 i hi
      simpa using this
    rw [ev_comp]
    exact n_comp ok.calm (by rw [ok.hN]; exact ok.nd) (sI it ok h4) (by rw [ok.hN, ok.sc]; exact blkOk_by h2) (fun s H C cl' fp => sTg (ok.blk scope s H C cl' fp) h6) (fun s H C cl' fp => sCd (ok.blk scope s H C cl' fp) h7)
      (fun s H C cl' fp => (sE elt (ok.blk scope s H C cl' fp) h8).d rfl) (fold_of h5) hsl
  | blt b a =>
    obtain ⟨x, q, ea, p, rfl, h⟩ := mE_blt hv
    obtain ⟨h, h5⟩ := and2 h
    obtain ⟨h, h4⟩ := and2 h
    obtain ⟨h, h3⟩ := and2 h
    obtain ⟨h1, h2⟩ := and2 h
    obtain rfl := of_decide_eq_true h2
    rw [ev_blt]
    exact (s_blt ok h1 h3 h4 (sE a ok h5).b).2 (by cases b <;> first | rfl | (cases hf; done))
  | _ => cases hf
/-- name = value, the value told as it may be -/
theorem asgN (ok : Ok tb N G cs cl X P c) {i : Nat} {y : Str} {py pos : Pos} {k : E} {v : Expr} {te : TE} (ht : tgtB N c i y = true) (hs : swF c y py v = true) (hv : PE X v te) : PS X (.Assign [.Name y py] v pos) (tAsg te (gName i)) := by
  obtain ⟨h1, h2, h3⟩ := tgtB_of ok ht
  exact asg_plain (by rw [ok.hN]; exact ok.nd) h1 h2 hv (swF_of ok hs) h3
theorem asgC (ok : Ok tb N G cs cl X P c) {i : Nat} {y : Str} {py pos : Pos} {k : E} {v : Expr} (ht : tgtB N c i y = true) (hi : isComp k = true) (hs : swT c y py v = true) (hv : mE tb N c false k v = true) : PS X (.Assign [.Name y py] v pos) (tAsg (tN P (ev G cs k)) (gName i)) := by
  obtain ⟨t1, t2, t3⟩ := tgtB_of ok ht
  cases k <;> first | (cases hi; done) | skip
  rename_i own elt tg it cd
  obtain ⟨ee, et, ei, ifs, z, scope, p, rfl, h⟩ := mE_comp hv
  obtain ⟨h, h8⟩ := and2 h
  obtain ⟨h, h7⟩ := and2 h
  obtain ⟨h, h6⟩ := and2 h
  obtain ⟨h, h5⟩ := and2 h
  obtain ⟨h, h4⟩ := and2 h
  obtain ⟨h, h3⟩ := and2 h
  obtain ⟨h1, h2⟩ := and2 h
  obtain rfl := of_decide_eq_true h1
  have hs : (decide (c.sc.kind = .function) && lclB c y && (py.line == p.line) && !(scope.names.any fun (n, k) => n == y && (k == .local || k == .cell))) = true := hs
  obtain ⟨hs, s4⟩ := and2 hs
  obtain ⟨hs, s3⟩ := and2 hs
  obtain ⟨s1, s2⟩ := and2 hs
  have hsl : ∀ i ∈ tg.slots, i ∈ own.map (·.2) := fun i hi => by
    have := List.all_eq_true.mp h3 i hi
    simpa using this
  have hyl : X.env.scope.names.lookup y = some .local := by rw [ok.sc]; exact lclB_of s2
  rw [ev_comp]
  refine psMono (ps_setLc ok.calm (by rw [ok.hN]; exact ok.nd) t1 hyl (sw_true (by rw [ok.sc]; exact of_decide_eq_true s1) hyl s3 (by simpa using s4)) (sI it ok h4) (by rw [ok.hN, ok.sc]; exact blkOk_by h2) (fun s H C cl' fp => sTg (ok.blk scope s H C cl' fp) h6) (fun s H C cl' fp => sCd (ok.blk scope s H C cl' fp) h7)
    (fun s H C cl' fp => (sE elt (ok.blk scope s H C cl' fp) h8).d rfl) (fold_of h5)) fun D σ H h => comp_read hsl σ H _ h
theorem asgD (ok : Ok tb N G cs cl X P c) {i : Nat} {y : Str} {py pos : Pos} {k : E} {v : Expr} (ht : tgtB N c i y = true) (hs : (swF c y py v || (isComp k && swT c y py v)) = true) (hv : mE tb N c false k v = true) :
    PS X (.Assign [.Name y py] v pos) (tAsg (tD P (ev G cs k)) (gName i)) ∧ (freshB k = true → PS X (.Assign [.Name y py] v pos) (tAsg (tN P (ev G cs k)) (gName i))) := by
  rcases Bool.or_eq_true_iff.mp hs with hs | hs
  · exact ⟨asgN (k := k) ok ht hs ((sE k ok hv).d rfl), fun hf => asgN (k := k) ok ht hs (sN ok hf hv)⟩
  · obtain ⟨h1, h2⟩ := and2 hs
    have h := asgC (pos := pos) ok ht h1 h2 hv
    exact ⟨psMono h fun D σ H q => tNtD_mono σ H _ q, fun _ => h⟩
/-- no stores exchanged -/
theorem none_of (hsc : X.env.scope = c.sc) {ts : List Expr} {v : Expr} {k : Nat} {p : Pos} (h : noneB c ts v = true) : swappedStores [.Tuple ts k p] v X.env = pure none := by
  cases v <;> try rfl
  rename_i vs kv pv
  have h : (!(ts.length == 2 || ts.length == 3) || ts.any (nonLoc c) || vs.all (foldedForSure 8)) = true := h
  unfold swappedStores
  simp only
  by_cases h1 : (!(ts.length == 2 || ts.length == 3) || vs.length != ts.length || X.env.blockKind != .function) = true
  · simp only [h1, if_true]
  · rw [if_neg h1]
    split
    · rfl
    · split
      · rfl
      · rename_i h3
        split
        · rfl
        · rename_i h4
          exfalso
          rcases Bool.or_eq_true_iff.mp h with h | h
          · rcases Bool.or_eq_true_iff.mp h with h | h
            · exact h1 (by rw [h]; rfl)
            · refine h3 (Bool.or_eq_true_iff.mpr (.inl ?_))
              refine bne_iff_ne.mpr fun z => ?_
              have z := List.filterMap_length_eq_length.mp z
              obtain ⟨e, m, q⟩ := List.any_eq_true.mp h
              have z := z e m
              cases e with
              | Name x px =>
                have q : (!lclB c x) = true := q
                simp only at z
                split at z
                · rename_i w
                  have w1 := (and2 w).1
                  have : X.env.kindOf x = some .local := eq_of_beq w1
                  have : X.env.scope.names.lookup x = some .local := this
                  rw [hsc] at this
                  unfold lclB at q
                  rw [this] at q
                  cases q
                · cases z
              | _ => cases z
          · exact h4 h
theorem blk_fn {env : Env} (h : env.scope.kind = .function) : env.blockKind = .function := by
  unfold Env.blockKind
  rw [h]
  rfl
theorem nstar_any {vs : List Expr} (h : (!vs.any fun e => !nStar e) = true) : (vs.any fun | .Starred .. => true | _ => false) = false := by
  induction vs with
  | nil => rfl
  | cons e r ih =>
    simp only [List.any_cons, Bool.not_or, Bool.not_not] at h ⊢
    obtain ⟨h1, h2⟩ := and2 h
    rw [ih h2]
    cases e <;> first | rfl | (cases h1; done)
theorem par2_of (hsc : X.env.scope = c.sc) {x y : Str} {px py : Pos} {a b : Expr} {k k2 : Nat} {p p2 : Pos} (hk : c.sc.kind = .function) (h1 : (!([a, b] : List Expr).any fun e => !nStar e) = true) (h2 : (([a, b] : List Expr).all (foldedForSure 8)) = false) (h3 : (([a, b] : List Expr).all (constantsAlone 8)) = false)
    (hx : c.sc.names.lookup x = some .local) (hy : c.sc.names.lookup y = some .local) (hxy : x ≠ y) (hl : (py.line == px.line) = true) : swappedStores [.Tuple [.Name x px, .Name y py] k p] (.Tuple [a, b] k2 p2) X.env = pure (some [x, y]) := by
  have kx : X.env.kindOf x = some .local := by show X.env.scope.names.lookup x = _; rw [hsc]; exact hx
  have ky : X.env.kindOf y = some .local := by show X.env.scope.names.lookup y = _; rw [hsc]; exact hy
  have hb := blk_fn (env := X.env) (by rw [hsc]; exact hk)
  have s := nstar_any h1
  unfold swappedStores
  simp only [hb, h2, h3, List.head?_cons, Option.map_some, Option.getD_some, Expr.pos, List.filterMap_cons, kx, ky, hl, beq_self_eq_true, Bool.and_self, if_true, List.filterMap_nil]
  have e : ([x, y] : List Str).eraseDups = [x, y] := by
    simp [List.eraseDups_cons, Ne.symm hxy]
  rw [if_neg (by simp)]
  split
  · rename_i z
    exact Bool.noConfusion (s.symm.trans z)
  · simp [e]
theorem par3_of (hsc : X.env.scope = c.sc) {x y z : Str} {px py pz : Pos} {a b d : Expr} {k k2 : Nat} {p p2 : Pos} (hk : c.sc.kind = .function) (h1 : (!([a, b, d] : List Expr).any fun e => !nStar e) = true) (h2 : (([a, b, d] : List Expr).all (foldedForSure 8)) = false) (h3 : (([a, b, d] : List Expr).all (constantsAlone 8)) = false)
    (hx : c.sc.names.lookup x = some .local) (hy : c.sc.names.lookup y = some .local) (hz : c.sc.names.lookup z = some .local) (hxy : x ≠ y) (hxz : x ≠ z) (hyz : y ≠ z) (hl : (py.line == px.line) = true) (hl2 : (pz.line == px.line) = true) : swappedStores [.Tuple [.Name x px, .Name y py, .Name z pz] k p] (.Tuple [a, b, d] k2 p2) X.env = pure (some [x, y, z]) := by
  have kx : X.env.kindOf x = some .local := by show X.env.scope.names.lookup x = _; rw [hsc]; exact hx
  have ky : X.env.kindOf y = some .local := by show X.env.scope.names.lookup y = _; rw [hsc]; exact hy
  have kz : X.env.kindOf z = some .local := by show X.env.scope.names.lookup z = _; rw [hsc]; exact hz
  have hb := blk_fn (env := X.env) (by rw [hsc]; exact hk)
  have s := nstar_any h1
  unfold swappedStores
  simp only [hb, h2, h3, List.head?_cons, Option.map_some, Option.getD_some, Expr.pos, List.filterMap_cons, kx, ky, kz, hl, hl2, beq_self_eq_true, Bool.and_self, if_true, List.filterMap_nil]
  have e : ([x, y, z] : List Str).eraseDups = [x, y, z] := by
    simp [List.eraseDups_cons, Ne.symm hxy, Ne.symm hxz, Ne.symm hyz]
  rw [if_neg (by simp)]
  split
  · rename_i z
    exact Bool.noConfusion (s.symm.trans z)
  · simp [e]
theorem locAt_of (ok : Ok tb N G cs cl X P c) {i : Nat} {x : Str} (h : locAt N c i x = true) : X.N[i]? = some x ∧ X.env.scope.names.lookup x = some .local ∧ c.sc.names.lookup x = some .local := by
  obtain ⟨h1, h2⟩ := and2 h
  exact ⟨by rw [ok.hN]; exact of_decide_eq_true h1, by rw [ok.sc]; exact lclB_of h2, lclB_of h2⟩
theorem sPar (ok : Ok tb N G cs cl X P c) {is : List Nat} {es : Es} {ts vs : List Expr} {kt kv : Nat} {pt pv pos : Pos} (h : mPar tb N c is es ts vs = true) : PS X (.Assign [.Tuple ts kt pt] (.Tuple vs kv pv) pos) (tS P (parE is (evs G cs es))) := by
  unfold mPar at h
  obtain ⟨h, h6⟩ := and2 h
  obtain ⟨h, h5⟩ := and2 h
  obtain ⟨h, h4⟩ := and2 h
  obtain ⟨h, h3⟩ := and2 h
  obtain ⟨h1, h2⟩ := and2 h
  have hk := of_decide_eq_true h1
  have h3 : vs.all (foldedForSure 8) = false := by simpa using h3
  have h4 : vs.all (constantsAlone 8) = false := by simpa using h4
  have nd : X.N.Nodup := by rw [ok.hN]; exact ok.nd
  split at h6
  · obtain ⟨q, q5⟩ := and2 h6
    obtain ⟨q, q4⟩ := and2 q
    obtain ⟨q, q3⟩ := and2 q
    obtain ⟨q1, q2⟩ := and2 q
    obtain ⟨a1, a2, a3⟩ := locAt_of ok q2
    obtain ⟨b1, b2, b3⟩ := locAt_of ok q3
    exact st_par2 ok.calm nd a1 b1 (of_decide_eq_true q1) a2 b2 (sEs es ok h5) (par2_of ok.sc hk h2 h3 h4 a3 b3 (of_decide_eq_true q4) q5)
  · obtain ⟨q, q11⟩ := and2 h6
    obtain ⟨q, q10⟩ := and2 q
    obtain ⟨q, q9⟩ := and2 q
    obtain ⟨q, q8⟩ := and2 q
    obtain ⟨q, q7⟩ := and2 q
    obtain ⟨q, q6⟩ := and2 q
    obtain ⟨q, q5⟩ := and2 q
    obtain ⟨q, q4⟩ := and2 q
    obtain ⟨q, q3⟩ := and2 q
    obtain ⟨q1, q2⟩ := and2 q
    obtain ⟨a1, a2, a3⟩ := locAt_of ok q4
    obtain ⟨b1, b2, b3⟩ := locAt_of ok q5
    obtain ⟨c1, c2, c3⟩ := locAt_of ok q6
    exact st_par3 ok.calm nd a1 b1 c1 (of_decide_eq_true q1) (of_decide_eq_true q2) (of_decide_eq_true q3) a2 b2 c2 (sEs es ok h5) (par3_of ok.sc hk h2 h3 h4 a3 b3 c3 (of_decide_eq_true q7) (of_decide_eq_true q8) (of_decide_eq_true q9) q10 q11)
  · cases h6
theorem sAsg (ok : Ok tb N G cs cl X P c) {tg : Tg} {k : E} {t v : Expr} {pos : Pos} (h : mAsg tb N c tg k t v = true) : PS X (.Assign [t] v pos) (tS P fun r t => (ev G cs k r t).bind fun x t1 => Fm.lift ((setT tg x r).map fun r1 => (.nx, r1)) t1) := by
  unfold mAsg at h
  split at h
  · obtain ⟨h, h3⟩ := and2 h
    obtain ⟨h1, h2⟩ := and2 h
    cases tg with
    | name i => exact st_set (asgD (i := i) ok h1 h2 h3).1
    | tup _ => cases h1
  · obtain ⟨h, h4⟩ := and2 h
    obtain ⟨h, h3⟩ := and2 h
    obtain ⟨h1, h2⟩ := and2 h
    exact st_asg ((sE k ok h4).d rfl) (sTg ok h1) (sw_sole h2) (none_of ok.sc h3) rfl
  · cases h
theorem sStar (ok : Ok tb N G cs cl X P c) {i j : Nat} {k : E} {t v : Expr} {pos : Pos} (h : mStar tb N c i j k t v = true) : PS X (.Assign [t] v pos) (tS P (starE i j (ev G cs k))) := by
  unfold mStar at h
  split at h
  · obtain ⟨h, h5⟩ := and2 h
    obtain ⟨h, h4⟩ := and2 h
    obtain ⟨h, h3⟩ := and2 h
    obtain ⟨h1, h2⟩ := and2 h
    obtain ⟨a1, a2, a3⟩ := tgtB_of ok h1
    obtain ⟨b1, b2, b3⟩ := tgtB_of ok h2
    exact st_star ok.hK ok.calm (by rw [ok.hN]; exact ok.nd) a1 b1 a2 b2 a3 b3 ((sE k ok h5).d rfl) (sw_sole h3) (none_of ok.sc (by cases v <;> first | rfl | (cases h4; done)))
  · cases h
theorem sNew (ok : Ok tb N G cs cl X P c) {i : Nat} {k : E} {t v : Expr} {pos : Pos} (h : mNew tb N c i k t v = true) : PS X (.Assign [t] v pos) (tS P fun r t => (ev G cs k r t).bind fun x t1 => okSet r i (.own x) t1) := by
  unfold mNew at h
  split at h
  · obtain ⟨h, h4⟩ := and2 h
    obtain ⟨h, h3⟩ := and2 h
    obtain ⟨h1, h2⟩ := and2 h
    exact st_new ((asgD ok h2 h3 h4).2 h1)
  · cases h
theorem sApp (ok : Ok tb N G cs cl X P c) {i : Nat} {k : E} {v : Expr} {pos : Pos} (h : mApp tb N c i k v = true) : PS X (.Expr v pos) (tS P (appE i (ev G cs k))) := by
  unfold mApp at h
  split at h
  · obtain ⟨h, h5⟩ := and2 h
    obtain ⟨h, h4⟩ := and2 h
    obtain ⟨h, h3⟩ := and2 h
    obtain ⟨h1, h2⟩ := and2 h
    obtain rfl := of_decide_eq_true h1
    obtain ⟨a1, a2, a3, a4⟩ := varB_of ok h2
    exact st_app ok.hK a1 a2 a3 a4 ((sE k ok h5).d rfl) h3 (star_of h4)
  · cases h
theorem sPut (ok : Ok tb N G cs cl X P c) {i : Nat} {k a : E} {t v : Expr} {pos : Pos} (h : mPut tb N c i k a t v = true) : PS X (.Assign [t] v pos) (tS P (putE i (ev G cs k) (ev G cs a))) ∧ PS X (.Assign [t] v pos) (tS P (putLE i (ev G cs k) (ev G cs a))) := by
  unfold mPut at h
  split at h
  · rename_i y q b p
    obtain ⟨h, h5⟩ := and2 h
    obtain ⟨h, h4⟩ := and2 h
    obtain ⟨h, h3⟩ := and2 h
    obtain ⟨h1, h2⟩ := and2 h
    obtain ⟨a1, a2, a3, a4⟩ := varB_of ok h1
    refine ⟨st_put ok.hu a1 a2 a3 a4 (sE k ok h4).b ((sE a ok h5).d rfl) (sw_plain h3), st_putL a1 a2 a3 a4 (sE k ok h4).b ((sE a ok h5).d rfl) ?_ (sw_sole h3) (by cases v <;> rfl)⟩
    intro v
    cases b <;> first | rfl | (cases h2; done)
  · cases h
theorem sTcnt (ok : Ok tb N G cs cl X P c) {i : Nat} {k : E} {t v : Expr} {pos : Pos} (h : mTcnt tb N c i k t v = true) : PS X (.Assign [t] v pos) (tS P (tcntE i (ev G cs k))) := by
  unfold mTcnt at h
  split at h
  · obtain ⟨h, h4⟩ := and2 h
    obtain ⟨h, h3⟩ := and2 h
    obtain ⟨h1, h2⟩ := and2 h
    obtain ⟨a1, a2, a3, a4⟩ := varB_of ok h1
    obtain ⟨j, q2, rfl⟩ := isStr_of h2
    exact st_tcnt ok.hu a1 a2 a3 a4 ((sE k ok h4).d rfl) (sw_plain h3)
  · cases h
theorem sTrst (ok : Ok tb N G cs cl X P c) {i : Nat} {k a : E} {t v : Expr} {pos : Pos} (h : mTrst tb N c i k a t v = true) : PS X (.Assign [t] v pos) (tS P (trstE i (ev G cs k) (ev G cs a))) := by
  unfold mTrst at h
  split at h
  · obtain ⟨h, h5⟩ := and2 h
    obtain ⟨h, h4⟩ := and2 h
    obtain ⟨h, h3⟩ := and2 h
    obtain ⟨h1, h2⟩ := and2 h
    obtain ⟨a1, a2, a3, a4⟩ := varB_of ok h1
    obtain ⟨j, q2, rfl⟩ := isStr_of h2
    exact st_trst ok.hu a1 a2 a3 a4 (sE k ok h4).b ((sE a ok h5).d rfl) (sw_plain h3)
  · cases h
theorem sAug (ok : Ok tb N G cs cl X P c) {i : Nat} {op op' : Operator} {k : E} {t v : Expr} {pos : Pos} (h : mAug tb N c i op k t op' v = true) : PS X (.AugAssign t op' v pos) (tS P (augE i op (ev G cs k))) := by
  unfold mAug at h
  split at h
  · obtain ⟨h, h4⟩ := and2 h
    obtain ⟨h, h3⟩ := and2 h
    obtain ⟨h1, h2⟩ := and2 h
    obtain rfl := of_decide_eq_true h1
    obtain ⟨a1, a2, a3⟩ := tgtB_of ok h3
    refine st_aug (ip_of ?_) (by rw [ok.hN]; exact ok.nd) a1 a2 a3 (sE k ok h4).b
    cases op <;> first | (cases h2; done) | simp
  · cases h
theorem sRaise (ok : Ok tb N G cs cl X P c) {n : Nat} {m : Str} {a b : Option Expr} {pos : Pos} (h : mRaise tb c n m a b = true) : PS X (.Raise a b pos) (tS P fun _ t => .exc n t) := by
  unfold mRaise at h
  split at h
  · obtain ⟨h, h3⟩ := and2 h
    obtain ⟨h1, h2⟩ := and2 h
    obtain ⟨e1, e2, e3, e4⟩ := ok.exc n _ (of_decide_eq_true h2)
    obtain ⟨g1, g2, g3⟩ := glB_of ok h3
    exact st_raise (C := cl n) ok.calm ok.tk PySem.F.excBase_ValueError e1 e2 e3 e4 g1 g2
  · cases h
end
section
variable {G : Gam} {cs : Nat → D}
theorem evS_asg (tg : Tg) (e : E) : evS G cs (.asg tg e) = fun r t => (ev G cs e r t).bind fun x t1 => Fm.lift ((setT tg x r).map fun r1 => (.nx, r1)) t1 := by funext r t; rw [evS]
theorem evS_par (is : List Nat) (es : Es) : evS G cs (.par is es) = parE is (evs G cs es) := by funext r t; first | (rw [evS]; done) | (rw [evS]; rfl)
theorem evS_star (i j : Nat) (e : E) : evS G cs (.star i j e) = starE i j (ev G cs e) := by funext r t; first | (rw [evS]; done) | (rw [evS]; rfl)
theorem evS_aug (i : Nat) (op : Operator) (e : E) : evS G cs (.aug i op e) = augE i op (ev G cs e) := by funext r t; first | (rw [evS]; done) | (rw [evS]; rfl)
theorem evS_ret (e : E) : evS G cs (.ret e) = fun r t => (ev G cs e r t).bind fun x t1 => .ok (.ret x, r) t1 := by funext r t; rw [evS]
theorem evS_ite (k : E) (a b : Ss) : evS G cs (.ite k a b) = iteS (ev G cs k) (evSs G cs a) (evSs G cs b) := by funext r t; first | (rw [evS]; done) | (rw [evS]; rfl)
theorem evS_for (tg : Tg) (it : I) (b : Ss) : evS G cs (.for tg it b) = forE tg (evI G cs it) (evSs G cs b) := by funext r t; first | (rw [evS]; done) | (rw [evS]; rfl)
theorem evS_while (k : E) (b : Ss) : evS G cs (.while k b) = loopW (ev G cs k) (evSs G cs b) := by funext r t; rw [evS]
theorem evS_exp (e : E) : evS G cs (.exp e) = fun r t => (ev G cs e r t).bind fun _ t1 => .ok (.nx, r) t1 := by funext r t; rw [evS]
theorem evS_new (i : Nat) (e : E) : evS G cs (.new i e) = fun r t => (ev G cs e r t).bind fun x t1 => okSet r i (.own x) t1 := by funext r t; rw [evS]
theorem evS_app (i : Nat) (e : E) : evS G cs (.app i e) = appE i (ev G cs e) := by funext r t; first | (rw [evS]; done) | (rw [evS]; rfl)
theorem evS_put (i : Nat) (k e : E) : evS G cs (.put i k e) = putE i (ev G cs k) (ev G cs e) := by funext r t; first | (rw [evS]; done) | (rw [evS]; rfl)
theorem evS_putL (i : Nat) (k e : E) : evS G cs (.putL i k e) = putLE i (ev G cs k) (ev G cs e) := by funext r t; first | (rw [evS]; done) | (rw [evS]; rfl)
theorem evS_frz (i : Nat) : evS G cs (.frz i) = frzE i := by funext r t; first | (rw [evS]; done) | (rw [evS]; rfl)
theorem evS_tcnt (i : Nat) (e : E) : evS G cs (.tcnt i e) = tcntE i (ev G cs e) := by funext r t; first | (rw [evS]; done) | (rw [evS]; rfl)
theorem evS_trst (i : Nat) (k e : E) : evS G cs (.trst i k e) = trstE i (ev G cs k) (ev G cs e) := by funext r t; first | (rw [evS]; done) | (rw [evS]; rfl)
theorem evS_brk : evS G cs .brk = fun r t => .ok (.brk, r) t := by funext r t; rw [evS]
theorem evS_cont : evS G cs .cont = fun r t => .ok (.cont, r) t := by funext r t; rw [evS]
theorem evS_raise (n : Nat) (x : Str) : evS G cs (.raise n x) = fun _ t => .exc n t := by funext r t; rw [evS]
theorem evSs_nil : evSs G cs .nil = nilE := by funext r t; first | (rw [evSs]; done) | (rw [evSs]; rfl)
theorem evSs_cons (s : S) (r : Ss) : evSs G cs (.cons s r) = consE (evS G cs s) (evSs G cs r) := by funext r t; first | (rw [evSs]; done) | (rw [evSs]; rfl)
end
section
variable {tb : Tb} {N : List Str} {G : Gam} {cs : Nat → D} {cl : Nat → Addr} {X : Cx} {P : Pm} {c : Cs}
mutual
theorem sS (ok : Ok tb N G cs cl X P c) : ∀ (s : S) {st : Stmt}, mS tb N c s st = true → PS X st (tS P (evS G cs s))
  | .asg tg k, st, h => by
    obtain ⟨t, v, p, rfl, h⟩ := mS_asg h
    rw [evS_asg]
    exact sAsg ok h
  | .par is es, st, h => by
    obtain ⟨ts, kt, pt, vs, kv, pv, p, rfl, h⟩ := mS_par h
    rw [evS_par]
    exact sPar ok h
  | .star i j k, st, h => by
    obtain ⟨t, v, p, rfl, h⟩ := mS_star h
    rw [evS_star]
    exact sStar ok h
  | .aug i op k, st, h => by
    obtain ⟨t, op', v, p, rfl, h⟩ := mS_aug h
    rw [evS_aug]
    exact sAug ok h
  | .ret k, st, h => by
    obtain ⟨v, p, rfl, h⟩ := mS_ret h
    rw [evS_ret]
    exact st_ret ((sE k ok h).d rfl)
  | .ite k a b, st, h => by
    obtain ⟨ek, sa, sb, p, rfl, h⟩ := mS_ite h
    obtain ⟨h, h3⟩ := and2 h
    obtain ⟨h1, h2⟩ := and2 h
    rw [evS_ite]
    exact st_ite (sE k ok h1).t (sSs ok a h2) (sSs ok b h3)
  | .for tg it b, st, h => by
    obtain ⟨et, ei, sb, p, rfl, h⟩ := mS_for h
    obtain ⟨h, h4⟩ := and2 h
    obtain ⟨h, h3⟩ := and2 h
    obtain ⟨h1, h2⟩ := and2 h
    rw [evS_for]
    exact st_for ok.own ok.calm (sI it ok h3) (sTg ok h2) (sSs ok b h4) (fold_of h1)
  | .while k b, st, h => by
    obtain ⟨ek, sb, p, rfl, h⟩ := mS_while h
    obtain ⟨h1, h2⟩ := and2 h
    rw [evS_while]
    exact st_while ok.own (sE k ok h1).t (sSs ok b h2)
  | .exp k, st, h => by
    obtain ⟨v, p, rfl, h⟩ := mS_exp h
    obtain ⟨h1, h2⟩ := and2 h
    rw [evS_exp]
    exact st_exp ((sE k ok h2).d rfl) (sw_plain h1)
  | .new i k, st, h => by
    obtain ⟨t, v, p, rfl, h⟩ := mS_new h
    rw [evS_new]
    exact sNew ok h
  | .app i k, st, h => by
    obtain ⟨v, p, rfl, h⟩ := mS_app h
    rw [evS_app]
    exact sApp ok h
  | .put i k a, st, h => by
    obtain ⟨t, v, p, rfl, h⟩ := mS_put h
    rw [evS_put]
    exact (sPut ok h).1
  | .putL i k a, st, h => by
    obtain ⟨t, v, p, rfl, h⟩ := mS_putL h
    rw [evS_putL]
    exact (sPut ok h).2
  | .tcnt i k, st, h => by
    obtain ⟨t, v, p, rfl, h⟩ := mS_tcnt h
    rw [evS_tcnt]
    exact sTcnt ok h
  | .trst i k a, st, h => by
    obtain ⟨t, v, p, rfl, h⟩ := mS_trst h
    rw [evS_trst]
    exact sTrst ok h
  | .brk, st, h => by
    obtain ⟨p, rfl, _⟩ := mS_brk h
    rw [evS_brk]
    exact st_brk
  | .cont, st, h => by
    obtain ⟨p, rfl, _⟩ := mS_cont h
    rw [evS_cont]
    exact st_cont
  | .raise n m, st, h => by
    obtain ⟨a, b, p, rfl, h⟩ := mS_raise h
    rw [evS_raise]
    exact sRaise ok h
  | .frz i, st, h => by cases st <;> cases h
theorem sSs (ok : Ok tb N G cs cl X P c) : ∀ (s : Ss) {ss : List Stmt}, mSs tb N c s ss = true → PSs X ss (tS P (evSs G cs s))
  | .nil, ss, h => by
    cases ss with
    | nil =>
      rw [evSs_nil]
      exact ss_nil
    | cons _ _ => cases h
  | .cons s r, ss, h => by
    rw [evSs_cons]
    cases e : isFrz s with
    | some i =>
      cases s <;> first | (cases e; done) | skip
      rw [evS_frz]
      exact ss_frz (sSs ok r (mSs_frz h))
    | none =>
      obtain ⟨st, rest, rfl, h1, h2⟩ := mSs_cons e h
      exact ss_cons (sS ok s h1) (sSs ok r h2)
end
end
end Fm

/-! ### defs: what a call tells, by levels -/
namespace Fm
open PySem PySem.Spec PyProof.Rows L2
structure Fd where
  ps : List Str
  N : List Str
  body : Ss
inductive Fn where
  | df (f : Fd)
  | nat (ps : List Str) (g : List Int → List D → Tw → Res D)
def Fn.ps : Fn → List Str
  | .df f => f.ps
  | .nat ps _ => ps
structure Pg where
  tb : Tb
  fs : List Fn
  cs : Nat → D
def startR (N : List Str) (ds : List D) : Rho := ds.map .val ++ List.replicate (N.length - ds.length) .un
def retD : Res (Fl × Rho) → Res D
  | .ok (.ret d, _) t => .ok d t
  | .ok (.nx, _) t => .ok .non t
  | .ok (.brk, _) _ => .bad
  | .ok (.cont, _) _ => .bad
  | .exc n t => .exc n t
  | .bad => .bad
noncomputable def callF (p : Pg) (ns : List Int) : Nat → Nat → List D → Tw → Res D
  | 0, _, _, _ => .bad
  | k + 1, i, ds, t => match p.fs[i]? with
    | some (.df f) => retD (evSs (fun j xs ys t => match p.tb.sh[j]? with
      | some sh => callF p ns k sh.fn (xs ++ ys ++ sh.dfl.map Cst.d) t
      | none => .bad) p.cs f.body (startR f.N ds) t)
    | some (.nat _ g) => g ns ds t
    | none => .bad
/-- what calls tell, of level k -/
noncomputable def gam (p : Pg) (ns : List Int) (k : Nat) : Gam := fun j xs ys t => match p.tb.sh[j]? with
  | some sh => callF p ns k sh.fn (xs ++ ys ++ sh.dfl.map Cst.d) t
  | none => .bad
theorem callF_df {p : Pg} {ns : List Int} {k i : Nat} {f : Fd} (h : p.fs[i]? = some (.df f)) (ds : List D) (t : Tw) : callF p ns (k + 1) i ds t = retD (evSs (gam p ns k) p.cs f.body (startR f.N ds) t) := by
  show (match p.fs[i]? with
    | some (.df f) => _
    | some (.nat _ g) => _
    | none => _) = _
  rw [h]
  rfl
theorem callF_nat {p : Pg} {ns : List Int} {k i : Nat} {ps : List Str} {g : List Int → List D → Tw → Res D} (h : p.fs[i]? = some (.nat ps g)) (ds : List D) (t : Tw) : callF p ns (k + 1) i ds t = g ns ds t := by
  show (match p.fs[i]? with
    | some (.df f) => _
    | some (.nat _ g) => _
    | none => _) = _
  rw [h]
structure Bnd (K : PySem.W.Frag) (mg : Str → Option Value) (sh : Sh) (fa : Addr) (fd : FuncData) (ps : List Str) : Prop where
  mg : mg sh.name = some (.ref fa)
  kp : PySem.W.keepIn K (.ref fa) = true
  len : sh.np + sh.ks.length + sh.dfl.length = ps.length
  b0 : sh.ks = [] → ∃ ds, Vals (sh.dfl.map Cst.v) ds ∧ Binds K fd ps ds
  b1 : sh.ks ≠ [] → ∃ gg, KBn K fd ps sh.np sh.ks gg (fun vs zs => vs ++ zs ++ sh.dfl.map Cst.v)
structure ExcK (K : PySem.W.Frag) (mg : Str → Option Value) (C : Addr) (x : Str) : Prop where
  q : PySem.W.excIn K C He.veBase "ValueError.__new__" = true
  g : mg x = some (.ref C)
  k : PySem.W.keepIn K (.ref C) = true
  s : PySem.W.subIn K (.ref C) (.type "BaseException") = some true
  t : PySem.W.typeIn K (.ref C) = some (.type "type")
/-- what the head tells -/
structure Hd (p : Pg) (P : Program) (w : World) (K : PySem.W.Frag) (mg : Str → Option Value) (base : Heap) (cl : Nat → Addr) (fad : Nat → Addr) (ffd : Nat → FuncData) : Prop where
  free : ∀ x ∈ freeNames, mg x = none
  con : ∀ (g : Nat) (x : Str), p.tb.cs[g]? = some x → ∃ u v, mg x = some u ∧ RelV v u ∧ ∀ T, Rp K T (fun _ => none) v (p.cs g)
  exc : ∀ (n : Nat) (x : Str), p.tb.ex[n]? = some x → ExcK K mg (cl n) x
  sh : ∀ (j : Nat) (sh : Sh), p.tb.sh[j]? = some sh → ∃ fn : Fn, p.fs[sh.fn]? = some fn ∧ Bnd K mg sh (fad sh.fn) (ffd sh.fn) fn.ps
  df : ∀ (i : Nat) (f : Fd), p.fs[i]? = some (.df f) → ∃ x params body scope dvs kws, FunD K x x params body scope dvs kws (fad i) (ffd i) ∧ FnScope f.N f.ps scope ∧ mSs p.tb f.N ⟨scope, fun _ => true⟩ f.body body = true
  nat : ∀ (i : Nat) (ps : List Str) (g : List Int → List D → Tw → Res D), p.fs[i]? = some (.nat ps g) → ∀ T, FnOk P w K mg base (CX P w) 1 (fad i) (ffd i) ps (spD K T cl ps.length (g T.ns))
theorem map_get {ds : List D} {n i : Nat} {s : Sl} (h : (ds.map Sl.val ++ List.replicate n Sl.un)[i]? = some s) : (∃ d, s = .val d ∧ ds[i]? = some d) ∨ s = .un := by
  by_cases hi : i < ds.length
  · rw [List.getElem?_append_left (by rw [List.length_map]; exact hi), List.getElem?_map] at h
    obtain ⟨d, e, z⟩ := Option.map_eq_some_iff.mp h
    exact .inl ⟨d, z.symm, e⟩
  · rw [List.getElem?_append_right (by rw [List.length_map]; omega), List.getElem?_replicate] at h
    split at h
    · exact .inr (Option.some.inj h).symm
    · cases h
/-- at a def's entry -/
theorem Rel.start {K : PySem.W.Frag} {T : Tn} {F H : Hp} {t : Tw} {N : List Str} {vs : List V} {ds : List D} (R : RelH K T F H F t H) (rv : RpL K T F vs ds) : Rel K T F H F (startR N ds) t (L2.start N vs) H := by
  refine ⟨R, ?_, fun i d h => ?_, fun i d h => ?_, fun i j d e q h => ?_⟩
  · unfold startR L2.start
    simp [rv.length]
  · rcases map_get h with ⟨d', z, e⟩ | z
    · cases z
      obtain ⟨v, ev, q⟩ := rv.get e
      refine ⟨v, ?_, q⟩
      unfold L2.start
      have hi : i < vs.length := (List.getElem?_eq_some_iff.mp ev).1
      rw [List.getElem?_append_left (by rw [List.length_map]; exact hi), List.getElem?_map, ev]
      rfl
    · cases z
  · rcases map_get h with ⟨d', z, e⟩ | z <;> cases z
  · rcases map_get h with ⟨d', z, e⟩ | z <;> cases z
theorem fnOk {p : Pg} {P : Program} {w : World} {K : PySem.W.Frag} {mg : Str → Option Value} {base : Heap} {cl : Nat → Addr} {fad : Nat → Addr} {ffd : Nat → FuncData} (hd : Hd p P w K mg base cl fad ffd) (T : Tn) :
    ∀ (k i : Nat) (fn : Fn), p.fs[i]? = some fn → FnOk P w K mg base (CX P w) k (fad i) (ffd i) fn.ps (spD K T cl fn.ps.length (callF p T.ns k i)) := by
  intro k
  induction k with
  | zero =>
    intro i fn hf
    refine ⟨fun vs H Q E h => ?_, fun A outer s H args us vs Q E _ _ _ _ h => ?_⟩
    · obtain ⟨_, _, _, _, _, _, z⟩ := h
      exact z.elim
    · obtain ⟨_, _, _, _, _, _, z⟩ := h
      exact z.elim
  | succ k ih =>
    intro i fn hf
    cases fn with
    | nat ps g =>
      have e : callF p T.ns (k + 1) i = g T.ns := by
        funext ds t
        exact callF_nat hf ds t
      rw [e]
      exact (hd.nat i ps g hf T).mono (by omega)
    | df f =>
      obtain ⟨x, params, body, scope, dvs, kws, F, S, hm⟩ := hd.df i f hf
      refine F.ok S (fun vs H Q E h => ?_) fun cdv A outer s H vs Q E hr h => ?_
      · obtain ⟨_, _, _, _, rv, hl, _⟩ := h
        rw [rv.length, hl]
      · obtain ⟨F0, t, ds, R, rv, hl, q⟩ := h
        rw [callF_df hf] at q
        refine ⟨tS ⟨K, T, F0, H, fun n H' => E (.ref (cl n)) none H'⟩ (evSs (gam p T.ns k) p.cs f.body), ?_, F0, startR f.N ds, t, Rel.start R rv, ?_⟩
        · refine sSs (tb := p.tb) (N := f.N) (cl := cl) (c := ⟨scope, fun _ => true⟩) ⟨rfl, rfl, S.nd, rfl, rfl, rfl, ?_, hd.free, fun g x e => ?_, fun j sh e => ?_, ?_, passes_of rfl, fun n x e => ?_⟩ f.body hm
          · have := hr.un
            show (A.deeper (envOfC x scope s.heap.objs.size (fad i) cdv)).units + 200 < cLine
            omega
          · obtain ⟨u, v, a, b, c⟩ := hd.con g x e
            exact ⟨u, v, a, b, c T⟩
          · obtain ⟨fn, e2, b⟩ := hd.sh j sh e
            refine ⟨k, fad sh.fn, ffd sh.fn, fn.ps, callF p T.ns k sh.fn, ?_, hr, b.mg, b.kp, b.b0, b.b1, fun xs ys t => ?_⟩
            · have := ih sh.fn fn e2
              rw [← b.len] at this
              exact this
            · show (match p.tb.sh[j]? with
                | some sh => _
                | none => _) = _
              rw [e]
          · have tk := takes_of (X := cxOf (CX P w) P w K mg base f.N x scope (fad i) cdv A outer s H E) (E := E) rfl rfl rfl rfl
            exact fun u s' z => tk u s' (by
              obtain ⟨a, B, sI, pins, σ, H, cls, d, e, I, nb, up, sky, na, os, ag, wn⟩ := z
              obtain ⟨n, e1, e2, z⟩ := wn
              exact ⟨a, B, sI, pins, σ, H, cls, d, e, I, nb, up, sky, na, os, ag, by rw [e1, e2]; exact z⟩)
          · obtain ⟨a, b, c, d, e⟩ := hd.exc n x e
            exact ⟨a, b, c, raises_own d e⟩
        · cases er : evSs (gam p T.ns k) p.cs f.body (startR f.N ds) t with
          | ok r t' =>
            rw [er] at q
            obtain ⟨fl, r⟩ := r
            cases fl with
            | nx => exact fun F' σ' H' _ R' => q .non F' H' R'.toRelH .non
            | ret d => exact fun v F' H' _ R' rv => q v F' H' R' rv
            | brk => exact q.elim
            | cont => exact q.elim
          | exc n t' =>
            rw [er] at q
            exact fun F' H' _ R' => q F' H' R'
          | bad =>
            rw [er] at q
            exact q.elim
end Fm

/-! ### the law's def: the town is made, then data alone -/
namespace Fm
open PySem PySem.Spec PyProof.Rows L2
def isBegun : List Stmt → Bool
  | [.Return (some (.Dict [some k1, some k2] [.Constant (.int z) _ _, .Dict [] [] _] _)) _] => isStr "count" k1 && isStr "rests" k2 && decide (z = 0)
  | _ => false
def spB : Sp := fun vs H Q _ => vs = [] ∧ ∀ a b H', H a = none → H b = none → a ≠ b → H' a = some (.dK [(.inr "count", .int 0), (.inr "rests", .ref b)]) → H' b = some (.dK []) → (∀ c, c ≠ a → c ≠ b → H' c = H c) → Q (.ref a) H'
theorem begun_ok {CX : CXT} {P : Program} {w : World} {K : PySem.W.Frag} {mg : Str → Option Value} {base : Heap} {x : Str} {params : Arguments} {body : List Stmt} {scope : Scope} {f : Addr} {fd : FuncData} (F : FunD K x x params body scope [] [] f fd) (S : FnScope [] [] scope) (hb : isBegun body = true) :
    FnOk P w K mg base CX 1 f fd [] spB := by
  refine F.ok S (fun vs H Q E h => by rw [h.1]; rfl) fun cdv A outer s H vs Q E hr h => ?_
  unfold isBegun at hb
  split at hb
  · rename_i k1 k2 z j1 q1 q2 q3 q4
    obtain ⟨hb, h3⟩ := and2 hb
    obtain ⟨h1, h2⟩ := and2 hb
    obtain ⟨a1, a2, rfl⟩ := isStr_of h1
    obtain ⟨b1, b2, rfl⟩ := isStr_of h2
    obtain rfl := of_decide_eq_true h3
    refine ⟨_, pss_one (ps_ret (pe_disp (pps_cons pe_str pe_int (pps_cons pe_str pe_dnewK pps_nil)) rfl rfl (by simp) (by simp))), ?_⟩
    obtain ⟨rfl, h⟩ := h
    intro p hp b hb
    obtain ⟨hb, hpb⟩ := upd_none hb
    refine ⟨?_, [(.inr "count", .int 0), (.inr "rests", .ref b)], rfl, by simp, ?_⟩
    · rw [upd_ne (Ne.symm hpb), upd_same]
    · refine h p b _ hp hb (Ne.symm hpb) ?_ ?_ fun c n1 n2 => ?_
      · rw [upd_same]
        rfl
      · rw [upd_ne hpb, upd_same]
      · rw [upd_ne n1, upd_ne n2, upd_ne n1]
  · cases hb
def mLaw (tb : Tb) (N : List Str) (c : Cs) (L : Ss) : List Stmt → Bool
  | .Assign [.Name y _] (.Call (.Name b _) [] [] _) _ :: rest => decide (b = "_law_begun") && glB c b && tgtB N c 1 y && mSs tb N c L rest
  | _ => false
def startL (N : List Str) (ns : List Int) : Rho := (startR N [.scr ns]).set 1 (.val .tok)
def spLaw (K : PySem.W.Frag) : Sp := fun vs H Q _ => ∃ (a : Addr) (ns : List Int), vs = [.ref a] ∧ ns.length ≤ 63 ∧ SqL K H a (ns.map V.int) ∧ ∀ H', Q (.bl true) H'
theorem lawOk {p : Pg} {P : Program} {w : World} {K : PySem.W.Frag} {mg : Str → Option Value} {base : Heap} {cl : Nat → Addr} {fad : Nat → Addr} {ffd : Nat → FuncData} (hd : Hd p P w K mg base cl fad ffd) {k : Nat} {f fB : Addr} {fd fdB : FuncData} {params paramsB : Arguments} {body bodyB : List Stmt} {scope scopeB : Scope}
    {x xB : Str} {N : List Str} {L : Ss} (F : FunD K x x params body scope [] [] f fd) (S : FnScope N ["script"] scope) (hm : mLaw p.tb N ⟨scope, fun _ => true⟩ L body = true) (FB : FunD K xB xB paramsB bodyB scopeB [] [] fB fdB) (SB : FnScope [] [] scopeB) (hB : isBegun bodyB = true)
    (bB : Binds K fdB [] []) (gB : mg "_law_begun" = some (.ref fB)) (hk : 1 ≤ k)
    (hev : ∀ ns : List Int, ns.length ≤ 63 → ∃ r t, evSs (gam p ns k) p.cs L (startL N ns) ⟨0, []⟩ = .ok (.ret (.bl true), r) t) : FnOk P w K mg base (CX P w) (k + 1) f fd ["script"] (spLaw K) := by
  refine F.ok S (fun vs H Q E h => ?_) fun cdv A outer s H vs Q E hr h => ?_
  · obtain ⟨a, ns, rfl, _⟩ := h
    rfl
  · obtain ⟨a, ns, rfl, hns, hS, hQ⟩ := h
    unfold mLaw at hm
    split at hm
    · rename_i y py b pb q1 q2 rest
      obtain ⟨hm, h4⟩ := and2 hm
      obtain ⟨hm, h3⟩ := and2 hm
      obtain ⟨h1, h2⟩ := and2 hm
      obtain rfl := of_decide_eq_true h1
      have tk := takes_of (X := cxOf (CX P w) P w K mg base N x scope f cdv A outer s H E) (E := E) rfl rfl rfl rfl
      have ok : ∀ T F0 H0, T.ns = ns → Ok p.tb N (gam p ns k) p.cs cl (cxOf (CX P w) P w K mg base N x scope f cdv A outer s H E) ⟨K, T, F0, H0, fun n H' => E (.ref (cl n)) none H'⟩ ⟨scope, fun _ => true⟩ := by
        intro T F0 H0 eT
        subst eT
        refine ⟨rfl, rfl, S.nd, rfl, rfl, rfl, ?_, hd.free, fun g x e => ?_, fun j sh e => ?_, ?_, passes_of rfl, fun n x e => ?_⟩
        · have := hr.un
          show (A.deeper (envOfC x scope s.heap.objs.size f cdv)).units + 200 < cLine
          omega
        · obtain ⟨u, v, a, b, c⟩ := hd.con g x e
          exact ⟨u, v, a, b, c T⟩
        · obtain ⟨fn, e2, b⟩ := hd.sh j sh e
          refine ⟨k, fad sh.fn, ffd sh.fn, fn.ps, callF p T.ns k sh.fn, ?_, hr, b.mg, b.kp, b.b0, b.b1, fun xs ys t => ?_⟩
          · have := fnOk hd T k sh.fn fn e2
            rw [← b.len] at this
            exact this
          · show (match p.tb.sh[j]? with
              | some sh => _
              | none => _) = _
            rw [e]
        · exact fun u s' z => tk u s' (by
            obtain ⟨a, B, sI, pins, σ, H, cls, d, e, I, nb, up, sky, na, os, ag, wn⟩ := z
            obtain ⟨n, e1, e2, z⟩ := wn
            exact ⟨a, B, sI, pins, σ, H, cls, d, e, I, nb, up, sky, na, os, ag, by rw [e1, e2]; exact z⟩)
        · obtain ⟨a, b, c, d, e⟩ := hd.exc n x e
          exact ⟨a, b, c, raises_own d e⟩
      have ok0 := ok ⟨0, 0, 0, ns⟩ H H rfl
      obtain ⟨t1, t2, t3⟩ := tgtB_of ok0 h3
      obtain ⟨g1, g2, g3⟩ := glB_of ok0 h2
      have st0 := asg_plain (pos := q2) (py := py) (by rw [ok0.hN]; exact ok0.nd) t1 t2 (pe_call0 (p := pb) (pos := q1) (begun_ok FB SB hB) (hr.mono hk) g1 gB FB.kp bB .nil (passes_call (E := E) tk fun _ _ _ _ h => h) g2) (sw_plain rfl) t3
      refine ⟨_, pss_cons st0 (u := fun D σ H' => ∃ T H0, T.ns = ns ∧ tS ⟨K, T, H, H0, fun n H' => E (.ref (cl n)) none H'⟩ (evSs (gam p ns k) p.cs L) D σ H') ⟨fun pins s1 σ H1 D I h => ?_⟩, ?_⟩
      · obtain ⟨T, H0, eT, h⟩ := h
        exact (sSs (ok T H H0 eT) L h4).run pins s1 σ H1 D I h
      · refine ⟨rfl, fun ta tb H' ha hb hne e1 e2 e3 => ?_⟩
        refine ⟨⟨ta, tb, a, ns⟩, H', rfl, H, startL N ns, ⟨0, []⟩, ?_, ?_⟩
        · have R0 : RelH K ⟨ta, tb, a, ns⟩ H H' H ⟨0, []⟩ H' := by
            refine ⟨fun c o h => ?_, fun _ _ h => .inl h, Same.refl H, fun _ _ h _ _ => h, fun _ h => h, ⟨e1, e2, hne, Nat.zero_le _⟩, ha, hb, hS⟩
            have n1 : c ≠ ta := fun z => by
              rw [z, ha] at h
              cases h
            have n2 : c ≠ tb := fun z => by
              rw [z, hb] at h
              cases h
            rw [e3 c n1 n2]
            exact h
          have hN2 : 1 < N.length := (List.getElem?_eq_some_iff.mp t1).1
          refine ⟨R0, ?_, fun i d h => ?_, fun i d h => ?_, fun i j d e q h => ?_⟩
          · unfold startL startR L2.start
            simp
          · by_cases hi : 1 = i
            · subst hi
              unfold startL at h
              rw [List.getElem?_set_self (by unfold startR; simp; omega)] at h
              cases h
              refine ⟨.ref ta, ?_, .tok⟩
              rw [List.getElem?_set_self (by unfold L2.start; simp; omega)]
            · unfold startL at h
              rw [List.getElem?_set_ne hi] at h
              rw [List.getElem?_set_ne hi]
              rcases map_get h with ⟨d', z, e⟩ | z
              · cases z
                cases i with
                | zero =>
                  cases e
                  exact ⟨.ref a, rfl, .scr⟩
                | succ i => simp at e
              · cases z
          · unfold startL at h
            by_cases hi : 1 = i
            · subst hi
              rw [List.getElem?_set_self (by unfold startR; simp; omega)] at h
              cases h
            · rw [List.getElem?_set_ne hi] at h
              rcases map_get h with ⟨d', z, e⟩ | z <;> cases z
          · unfold startL at h
            by_cases hi : 1 = i
            · subst hi
              rw [List.getElem?_set_self (by unfold startR; simp; omega)] at h
              cases h
            · rw [List.getElem?_set_ne hi] at h
              rcases map_get h with ⟨d', z, e⟩ | z <;> cases z
        · obtain ⟨r, t, er⟩ := hev ns hns
          rw [er]
          intro v F' H2 _ _ rv
          cases rv
          exact hQ H2
    · cases hm
end Fm

/-! ### the head: constants too -/
namespace Fm
open PySem PySem.Spec PyProof.Rows L2
mutual
/-- the value, in the written part, bears the datum -/
def dvB (K : PySem.W.Frag) : D → Value → Bool
  | .non, u => He.relB .non u
  | .bl b, u => He.relB (.bl b) u
  | .int i, u => He.relB (.int i) u
  | .str x, u => He.relB (.str x) u
  | .tup ds, .ref a => (match K.lookup a with
    | some ⟨.type c, _, .seq its _, _⟩ => decide (c = "tuple") && (decide (its.size ≤ sizeLine) && dvsB K ds its.toList)
    | _ => false)
  | _, _ => false
def dvsB (K : PySem.W.Frag) : List D → List Value → Bool
  | [], [] => true
  | d :: ds, u :: us => dvB K d u && dvsB K ds us
  | _, _ => false
end
mutual
theorem dvB_ok {K : PySem.W.Frag} : ∀ (d : D) {u : Value}, dvB K d u = true → ∃ v, RelV v u ∧ ∀ T, Rp K T (fun _ => none) v d
  | .non, u, h => ⟨.non, He.relB_ok (by rw [dvB] at h; exact h), fun _ => .non⟩
  | .bl b, u, h => ⟨.bl b, He.relB_ok (by rw [dvB] at h; exact h), fun _ => .bl b⟩
  | .int i, u, h => ⟨.int i, He.relB_ok (by rw [dvB] at h; exact h), fun _ => .int i⟩
  | .str x, u, h => ⟨.str x, He.relB_ok (by rw [dvB] at h; exact h), fun _ => .str x⟩
  | .tup ds, u, h => by
    cases u with
    | ref a =>
      rw [dvB] at h
      cases q : K.lookup a with
      | none =>
        rw [q] at h
        cases h
      | some o =>
        obtain ⟨oc, od, dt, osl⟩ := o
        rw [q] at h
        cases oc with
        | type c =>
          cases dt with
          | seq its n =>
            obtain ⟨h1, h2⟩ := and2 (show (decide (c = "tuple") && (decide (its.size ≤ sizeLine) && dvsB K ds its.toList)) = true from h)
            obtain ⟨h3, h4⟩ := and2 h2
            obtain ⟨vs, r, t⟩ := dvsB_ok ds h4
            refine ⟨.ref a, rfl, fun T => .tup (xs := vs) (.inr ⟨_, its, n, q, congrArg Value.type (of_decide_eq_true h1), rfl, of_decide_eq_true h3, r⟩) ?_ (t T)⟩
            have := r.length
            have h3 := of_decide_eq_true h3
            rw [this]
            simpa using h3
          | _ => cases h
        | _ => cases dt <;> cases h
    | _ => rw [dvB] at h <;> first | cases h | (intros; intro z; cases z)
  | .lst ds, u, h => by cases u <;> (rw [dvB] at h <;> first | cases h | (intros; intro z; cases z))
  | .dct ds, u, h => by cases u <;> (rw [dvB] at h <;> first | cases h | (intros; intro z; cases z))
  | .tok, u, h => by cases u <;> (rw [dvB] at h <;> first | cases h | (intros; intro z; cases z))
  | .scr _, u, h => by cases u <;> (rw [dvB] at h <;> first | cases h | (intros; intro z; cases z))
theorem dvsB_ok {K : PySem.W.Frag} : ∀ (ds : List D) {us : List Value}, dvsB K ds us = true → ∃ vs, Vals vs us ∧ ∀ T, RpL K T (fun _ => none) vs ds
  | [], [], _ => ⟨[], .nil, fun _ => .nil⟩
  | [], _ :: _, h => by simp [dvsB] at h
  | _ :: _, [], h => by simp [dvsB] at h
  | d :: ds, u :: us, h => by
    rw [dvsB] at h
    obtain ⟨h1, h2⟩ := and2 h
    obtain ⟨v, r, t⟩ := dvB_ok d h1
    obtain ⟨vs, r2, t2⟩ := dvsB_ok ds h2
    exact ⟨v :: vs, .cons r r2, fun T => .cons (t T) (t2 T)⟩
end
def mgB (K : PySem.W.Frag) (x : Str) (d : D) : Bool := match PySem.W.nsIn K mainGlobals x with
  | some (some u) => dvB K d u
  | _ => false
theorem mgB_ok {K : PySem.W.Frag} {h : Heap} {mg : Str → Option Value} (X : K.In h) (G : h.Ns mainGlobals mg) {x : Str} {d : D} (c : mgB K x d = true) : ∃ u v, mg x = some u ∧ RelV v u ∧ ∀ T, Rp K T (fun _ => none) v d := by
  unfold mgB at c
  cases e : PySem.W.nsIn K mainGlobals x with
  | none =>
    rw [e] at c
    cases c
  | some o =>
    rw [e] at c
    cases o with
    | none => cases c
    | some u =>
      obtain ⟨v, r, t⟩ := dvB_ok d c
      exact ⟨u, v, PySem.W.mg_of X G e, r, t⟩
/-! ### the Hook -/
abbrev AlC : Type := Bool × He.AlD
def obsC (fa : List He.Fa) (fn : List He.DefD) (cst : List (Str × D)) (K : PySem.W.Frag) : AlC := (cst.all fun p => mgB K p.1 p.2, He.obsD fa fn K)
def valC (fn : List He.DefD) : AlC := (true, He.valD fn)
def SaysC (fa : List He.Fa) (fn : List He.DefD) (cst : List (Str × D)) (K : PySem.W.Frag) : Prop := obsC fa fn cst K = valC fn
def obsCG (n : Nat) (fa : List He.Fa) (fn : List He.DefD) (cst : List (Str × D)) (g : Addr → Option Obj) : AlC := obsC fa fn cst (He.frG g (He.asD g n))
def hookC (n : Nat) (fa : List He.Fa) (fn : List He.DefD) (cst : List (Str × D)) : PySem.W.Hook where
  α := AlC
  obs := fun s => obsCG n fa fn cst s.heap.get?
  val := fun _ => valC fn
  says := fun _ h => ∃ K : PySem.W.Frag, K.In h ∧ SaysC fa fn cst K
  of := fun _ _ e => ⟨_, He.frG_in, e⟩
  keeps := fun _ _ _ ⟨K, hK, c⟩ k => ⟨K, PySem.W.Frag.In.keeps hK k, c⟩
theorem obsCG_eq {n : Nat} {fa : List He.Fa} {fn : List He.DefD} {cst : List (Str × D)} {g : Addr → Option Obj} {s : Shared} (h : ∀ a, g a = s.heap.get? a) : obsCG n fa fn cst g = (hookC n fa fn cst).obs s := by
  have e : g = s.heap.get? := funext h
  rw [e] <;> rfl
theorem SaysC.d {fa : List He.Fa} {fn : List He.DefD} {cst : List (Str × D)} {K : PySem.W.Frag} (c : SaysC fa fn cst K) : He.SaysD fa fn K := congrArg (fun z : AlC => z.2) c
theorem SaysC.con {fa : List He.Fa} {fn : List He.DefD} {cst : List (Str × D)} {K : PySem.W.Frag} (c : SaysC fa fn cst K) (i : Nat) {x : Str} {d : D} (h : cst[i]? = some (x, d)) : mgB K x d = true := by
  have c1 : (cst.all fun p => mgB K p.1 p.2) = true := congrArg (fun z : AlC => z.1) c
  exact List.all_eq_true.mp c1 _ (List.mem_of_getElem? h)
/-- the scope's check -/
def scB (N ps : List Str) (sc : Scope) : Bool := decide (sc.kind = .function) && !sc.isCoroutine && !sc.isGenerator && decide N.Nodup && decide (N.take ps.length = ps) && (ps.all fun x => decide (sc.names.lookup x = some .local) || decide (sc.names.lookup x = some .cell)) && sc.names.all fun y => decide (y.2 ≠ .free)
theorem scB_ok {N ps : List Str} {sc : Scope} (h : scB N ps sc = true) : FnScope N ps sc := by
  unfold scB at h
  obtain ⟨h, h7⟩ := and2 h
  obtain ⟨h, h6⟩ := and2 h
  obtain ⟨h, h5⟩ := and2 h
  obtain ⟨h, h4⟩ := and2 h
  obtain ⟨h, h3⟩ := and2 h
  obtain ⟨h1, h2⟩ := and2 h
  refine ⟨of_decide_eq_true h1, by simpa using h2, by simpa using h3, of_decide_eq_true h4, of_decide_eq_true h5, fun x hx => ?_, fun y hy => of_decide_eq_true (List.all_eq_true.mp h7 y hy)⟩
  have := List.all_eq_true.mp h6 x hx
  rcases Bool.or_eq_true_iff.mp this with h | h
  · exact .inl (of_decide_eq_true h)
  · exact .inr (of_decide_eq_true h)
/-- a def's check -/
def fdB (tb : Tb) (f : Fd) (d : He.DefD) : Bool := scB f.N f.ps d.scope && mSs tb f.N ⟨d.scope, fun _ => true⟩ f.body d.body && decide (d.name = d.qual)
end Fm

/-! ### the head's facts, all together -/
namespace Fm
open PySem PySem.Spec PyProof.Rows L2
def faOf (fn : List He.DefD) (ex : List Str) : List He.Fa := fn.map (fun d => .glo d.name) ++ (ex.map .glo ++ (ex.map .exc ++ freeNames.map .free))
def fadOf (fn : List He.DefD) (K : PySem.W.Frag) (i : Nat) : Addr := match fn[i]? with
  | some d => He.fAd K d.at_
  | none => 0
def clOf (ex : List Str) (K : PySem.W.Frag) (n : Nat) : Addr := match ex[n]? with
  | some x => He.ga K x
  | none => 0
abbrev FunAt (K : PySem.W.Frag) (d : He.DefD) (fd : FuncData) : Prop := FunD K d.name d.qual d.params d.body d.scope (d.dvs K) (d.kws K) (He.fAd K d.at_) fd
section
variable {fn : List He.DefD} {ex : List Str} {cst : List (Str × D)} {K : PySem.W.Frag} {h : Heap} {mg : Str → Option Value}
theorem fun_all {fa : List He.Fa} (c : SaysC fa fn cst K) {d0 : He.DefD} (h0 : fn[0]? = some d0) : ∃ ffd : Nat → FuncData, ∀ (i : Nat) (d : He.DefD), fn[i]? = some d → FunAt K d (ffd i) := by
  refine Classical.axiomOfChoice (r := fun i fd => ∀ d, fn[i]? = some d → FunAt K d fd) fun i => ?_
  cases e : fn[i]? with
  | none => exact ⟨(c.d.def_ 0 h0).choose, fun d z => by cases z⟩
  | some d =>
    obtain ⟨fd, hf⟩ := c.d.def_ i e
    exact ⟨fd, fun d' z => by cases z; exact hf⟩
theorem fact_of {fa : List He.Fa} (c : SaysC fa fn cst K) {f : He.Fa} (m : f ∈ fa) : f.ok K = true := by
  obtain ⟨i, e⟩ := List.mem_iff_getElem?.mp m
  exact c.d.fact i e
theorem free_all (X : K.In h) (G : h.Ns mainGlobals mg) (c : SaysC (faOf fn ex) fn cst K) : ∀ x ∈ freeNames, mg x = none := fun x hx =>
  He.free_ok X G (fact_of c (List.mem_append_right _ (List.mem_append_right _ (List.mem_append_right _ (List.mem_map_of_mem hx)))))
theorem glo_all (X : K.In h) (G : h.Ns mainGlobals mg) (c : SaysC (faOf fn ex) fn cst K) {i : Nat} {d : He.DefD} (e : fn[i]? = some d) (ha : d.at_ = (d.name, none)) : mg d.name = some (.ref (He.fAd K d.at_)) := by
  have := He.glo_ok X G (fact_of c (List.mem_append_left _ (List.mem_map_of_mem (f := fun d : He.DefD => He.Fa.glo d.name) (List.mem_of_getElem? e))))
  rw [ha]
  exact this
theorem exc_all (X : K.In h) (G : h.Ns mainGlobals mg) (c : SaysC (faOf fn ex) fn cst K) (n : Nat) (x : Str) (e : ex[n]? = some x) : ExcK K mg (clOf ex K n) x := by
  have m := List.mem_of_getElem? e
  have h1 := He.glo_ok X G (fact_of c (List.mem_append_right _ (List.mem_append_left _ (List.mem_map_of_mem (f := He.Fa.glo) m))))
  obtain ⟨a1, a2, a3, a4⟩ := He.exc_ok (fact_of c (List.mem_append_right _ (List.mem_append_right _ (List.mem_append_left _ (List.mem_map_of_mem (f := He.Fa.exc) m)))))
  have e2 : clOf ex K n = He.ga K x := by
    unfold clOf
    rw [e]
  rw [e2]
  exact ⟨a1, h1, a2, a3, a4⟩
def csOf (cst : List (Str × D)) (g : Nat) : D := match cst[g]? with
  | some q => q.2
  | none => .non
theorem con_all {fa : List He.Fa} (X : K.In h) (G : h.Ns mainGlobals mg) (c : SaysC fa fn cst K) (g : Nat) (x : Str) (e : (cst.map (·.1))[g]? = some x) : ∃ u v, mg x = some u ∧ RelV v u ∧ ∀ T, Rp K T (fun _ => none) v (csOf cst g) := by
  rw [List.getElem?_map] at e
  obtain ⟨q, e1, e2⟩ := Option.map_eq_some_iff.mp e
  subst e2
  have e3 : csOf cst g = q.2 := by
    unfold csOf
    rw [e1]
  rw [e3]
  exact mgB_ok X G (c.con g e1)
/-- the defs' check -/
def okDefs (tb : Tb) (fs : List Fd) (fn : List He.DefD) : Bool := decide (fs.length ≤ fn.length) && (fs.zip fn).all (fun q => fdB tb q.1 q.2) && fn.all fun d => decide (d.at_ = (d.name, none)) && decide (d.name = d.qual)
structure ShOk (p : Pg) (fn : List He.DefD) : Prop where
  sh : ∀ (K : PySem.W.Frag) (mg : Str → Option Value) (ffd : Nat → FuncData), (∀ (i : Nat) (d : He.DefD), fn[i]? = some d → FunAt K d (ffd i)) → (∀ (i : Nat) (d : He.DefD), fn[i]? = some d → mg d.name = some (.ref (He.fAd K d.at_))) →
    ∀ (j : Nat) (sh : Sh), p.tb.sh[j]? = some sh → ∃ f : Fn, p.fs[sh.fn]? = some f ∧ Bnd K mg sh (fadOf fn K sh.fn) (ffd sh.fn) f.ps
theorem mkHd {fs : List Fd} {shs : List Sh} (P : Program) (w : World) (base : Heap) (X : K.In h) (G : h.Ns mainGlobals mg) (c : SaysC (faOf fn ex) fn cst K) (ok : okDefs ⟨shs, cst.map (·.1), ex⟩ fs fn = true) (so : ShOk ⟨⟨shs, cst.map (·.1), ex⟩, fs.map .df, csOf cst⟩ fn)
    {ffd : Nat → FuncData} (hf : ∀ (i : Nat) (d : He.DefD), fn[i]? = some d → FunAt K d (ffd i)) : Hd ⟨⟨shs, cst.map (·.1), ex⟩, fs.map .df, csOf cst⟩ P w K mg base (clOf ex K) (fadOf fn K) ffd := by
  obtain ⟨ok, o3⟩ := and2 ok
  obtain ⟨o1, o2⟩ := and2 ok
  have at_ : ∀ (i : Nat) (d : He.DefD), fn[i]? = some d → d.at_ = (d.name, none) ∧ d.name = d.qual := fun i d e => by
    have := List.all_eq_true.mp o3 d (List.mem_of_getElem? e)
    obtain ⟨a, b⟩ := and2 this
    exact ⟨of_decide_eq_true a, of_decide_eq_true b⟩
  refine ⟨free_all X G c, con_all X G c, exc_all X G c, so.sh K mg ffd hf fun i d e => glo_all X G c e (at_ i d e).1, fun i f e => ?_, fun i ps g e => ?_⟩
  · have e : (fs.map Fn.df)[i]? = some (.df f) := e
    rw [List.getElem?_map] at e
    obtain ⟨f', e1, e2⟩ := Option.map_eq_some_iff.mp e
    cases e2
    have hi : i < fs.length := (List.getElem?_eq_some_iff.mp e1).1
    have hl := of_decide_eq_true o1
    have e3 : fn[i]? = some fn[i] := List.getElem?_eq_getElem (by omega)
    have hz : (fs.zip fn)[i]? = some (f, fn[i]) := by
      rw [List.getElem?_zip_eq_some]
      exact ⟨e1, e3⟩
    have := List.all_eq_true.mp o2 _ (List.mem_of_getElem? hz)
    obtain ⟨h1, h3⟩ := and2 (show (scB f.N f.ps fn[i].scope && mSs _ f.N ⟨fn[i].scope, fun _ => true⟩ f.body fn[i].body && decide (fn[i].name = fn[i].qual)) = true from this)
    obtain ⟨h1, h2⟩ := and2 h1
    have F := hf i _ e3
    have h3 : fn[i].name = fn[i].qual := of_decide_eq_true h3
    have ea : fadOf fn K i = He.fAd K fn[i].at_ := by
      unfold fadOf
      rw [e3]
    have F : FunD K fn[i].name fn[i].qual fn[i].params fn[i].body fn[i].scope (fn[i].dvs K) (fn[i].kws K) (fadOf fn K i) (ffd i) := by
      rw [ea]
      exact F
    refine ⟨fn[i].name, fn[i].params, fn[i].body, fn[i].scope, fn[i].dvs K, fn[i].kws K, ?_, scB_ok h1, h2⟩
    rw [← h3] at F
    exact F
  · have e : (fs.map Fn.df)[i]? = some (.nat ps g) := e
    rw [List.getElem?_map] at e
    obtain ⟨f', e1, e2⟩ := Option.map_eq_some_iff.mp e
    cases e2
end
/-- the law's own check -/
def okLaw (tb : Tb) (N : List Str) (L : Ss) (dL dB : He.DefD) : Bool := scB N ["script"] dL.scope && mLaw tb N ⟨dL.scope, fun _ => true⟩ L dL.body && (scB [] [] dB.scope && isBegun dB.body) && (decide (dL.dfl.length = 0) && decide (dL.kwd.length = 0) && decide (dB.dfl.length = 0) && decide (dB.kwd.length = 0)) && (decide (dL.name = dL.qual) && decide (dB.name = dB.qual) && decide (dL.at_ = (dL.name, none)) && decide (dB.at_ = (dB.name, none)) && decide (dL.name = "law") && decide (dB.name = "_law_begun"))
theorem lawFacts {fn : List He.DefD} {ex : List Str} {cst : List (Str × D)} {K : PySem.W.Frag} {h : Heap} {mg : Str → Option Value} {fs : List Fd} {shs : List Sh} {P : Program} {w : World} {f : Addr} (X : K.In h) (G : h.Ns mainGlobals mg) (c : SaysC (faOf fn ex) fn cst K)
    (ok : okDefs ⟨shs, cst.map (·.1), ex⟩ fs fn = true) (so : ShOk ⟨⟨shs, cst.map (·.1), ex⟩, fs.map .df, csOf cst⟩ fn) {N : List Str} {L : Ss} {dL dB : He.DefD} {iL iB k : Nat} (eL : fn[iL]? = some dL) (eB : fn[iB]? = some dB) {d0 : He.DefD} (e0 : fn[0]? = some d0)
    (okL : okLaw ⟨shs, cst.map (·.1), ex⟩ N L dL dB = true) (hfa : mg ("law" : Str) = some (.ref f))
    (bL : ∀ (kV doc pm : Value) (an : Option Addr) (cdv ct : Value) (us : List Value), us.length = 1 → bindArgs (PySem.W.fnOf dL.name dL.qual dL.params dL.body dL.scope .none kV doc pm an cdv ct) ⟨us, []⟩ = pure ((["script"] : List Str).zip us))
    (bB : ∀ (kV doc pm : Value) (an : Option Addr) (cdv ct : Value) (us : List Value), us.length = 0 → bindArgs (PySem.W.fnOf dB.name dB.qual dB.params dB.body dB.scope .none kV doc pm an cdv ct) ⟨us, []⟩ = pure (([] : List Str).zip us)) (hk : 1 ≤ k)
    (hev : ∀ ns : List Int, ns.length ≤ 63 → ∃ r t, evSs (gam ⟨⟨shs, cst.map (·.1), ex⟩, fs.map .df, csOf cst⟩ ns k) (csOf cst) L (startL N ns) ⟨0, []⟩ = .ok (.ret (.bl true), r) t) :
    ∃ fd : FuncData, (∀ (s : Shared) (v : Value), BindsTo s fd ⟨[v], []⟩ [("script", v)]) ∧ ∀ base : Heap, K.In base → base.Ns mainGlobals mg → FnOk P w K mg base (CX P w) (k + 1) f fd ["script"] (spLaw K) := by
  obtain ⟨ffd, hf⟩ := fun_all c e0
  have FL := hf iL dL eL
  have FB := hf iB dB eB
  unfold okLaw at okL
  obtain ⟨okL, o4⟩ := and2 okL
  obtain ⟨okL, o3⟩ := and2 okL
  obtain ⟨okL, o2⟩ := and2 okL
  obtain ⟨o1a, o1b⟩ := and2 okL
  obtain ⟨o2a, o2b⟩ := and2 o2
  obtain ⟨o3, o3d⟩ := and2 o3
  obtain ⟨o3, o3c⟩ := and2 o3
  obtain ⟨o3a, o3b⟩ := and2 o3
  obtain ⟨o4, n6⟩ := and2 o4
  obtain ⟨o4, n5⟩ := and2 o4
  obtain ⟨o4, n4⟩ := and2 o4
  obtain ⟨o4, n3⟩ := and2 o4
  obtain ⟨n1, n2⟩ := and2 o4
  have z1 : dL.dvs K = [] := by
    have := List.length_eq_zero_iff.mp (of_decide_eq_true o3a)
    unfold He.DefD.dvs
    rw [this]
    rfl
  have z2 : dL.kws K = [] := by
    have := List.length_eq_zero_iff.mp (of_decide_eq_true o3b)
    unfold He.DefD.kws
    rw [this]
    rfl
  have z3 : dB.dvs K = [] := by
    have := List.length_eq_zero_iff.mp (of_decide_eq_true o3c)
    unfold He.DefD.dvs
    rw [this]
    rfl
  have z4 : dB.kws K = [] := by
    have := List.length_eq_zero_iff.mp (of_decide_eq_true o3d)
    unfold He.DefD.kws
    rw [this]
    rfl
  have FL : FunD K dL.name dL.qual dL.params dL.body dL.scope [] [] (He.fAd K dL.at_) (ffd iL) := by
    have FL := FL
    unfold FunAt at FL
    rw [z1, z2] at FL
    exact FL
  have FB : FunD K dB.name dB.qual dB.params dB.body dB.scope [] [] (He.fAd K dB.at_) (ffd iB) := by
    have FB := FB
    unfold FunAt at FB
    rw [z3, z4] at FB
    exact FB
  have gL := glo_all X G c eL (of_decide_eq_true n3)
  have gB := glo_all X G c eB (of_decide_eq_true n4)
  rw [of_decide_eq_true n5, hfa] at gL
  rw [of_decide_eq_true n6] at gB
  have ef : f = He.fAd K dL.at_ := by
    injection gL with q
    injection q
  have b := FunD.bindsA (ps := ["script"]) FL bL
  refine ⟨ffd iL, fun s v => b s [v] rfl, fun base _ _ => ?_⟩
  have hd := mkHd P w base X G c ok so hf
  have n1 : dL.name = dL.qual := of_decide_eq_true n1
  have n2 : dB.name = dB.qual := of_decide_eq_true n2
  rw [ef]
  rw [← n1] at FL
  have bb := FunD.bindsN (ps := []) FB bB
  rw [← n2] at FB
  exact lawOk hd FL (scB_ok o1a) o1b FB (scB_ok o2a) o2b bb gB hk hev
/-- from the law's promise to the row: an exception's shape goes by the world -/
theorem walkC {l : PySem.W.OpenLaw} {n k : Nat} {q : Program} {loose : List Str} {XP : (Str → Option Value) → Heap → Prop} {YP : World → Heap → Prop} {d : DefRec} {x : Str} (hn : l.most = some n) (hn2 : n ≤ sizeLine) (hdf : d.params.defaults = []) (hr : Room k callerA)
    (F : ∀ (w : World) (mg : Str → Option Value) (fa : Addr) (h : Heap), YP w h → h.Ns mainGlobals mg → mg d.name = some (.ref fa) → ∃ (K : PySem.W.Frag) (fd : FuncData) (sp : Sp), K.In h ∧ (∀ (s : Shared) (u : Value), BindsTo s fd ⟨[u], []⟩ [(x, u)]) ∧
        (∀ (H : Hp) (a : Addr) (ns : List Int), ns.length ≤ n → Only H → SqL K H a (ns.map V.int) → sp [.ref a] H (fun v _ => v = .bl true) fun _ _ _ => False) ∧ ∀ base : Heap, K.In base → base.Ns mainGlobals mg → FnOk l.prog w K mg base (CX l.prog w) k fa fd [x] sp) :
    PySem.W.WalkO q loose XP YP l.row.toRowW d [] (fun f vs => PySem.call f vs) := by
  refine Att.attach_call hn hdf fun w s₀ s₁ mg mb fa o pm cd doc a vs ns G Y ho hd hcd hmg hobj hints hlen hg => ?_
  obtain ⟨K, fd, sp, kx, hb, hs, hF⟩ := F w mg fa _ Y G.T.g hmg
  refine law_call kx G.T.g G.T.b G.T.builtins G.T.nolimit hg hobj hints (Nat.le_trans hlen hn2) hr hF hb (fun H hO hS => hs H a ns hlen hO hS) fun H e s' z => ?_
  obtain ⟨_, _, _, _, _, _, _, _, _, _, _, _, z⟩ := z
  exact z
end Fm

/-! ### plain reckoning with the evaluator -/
namespace Fm
open PySem
section
variable {G : Gam} {cs : Nat → D} {r : Rho} {t : Tw}
@[simp] theorem x_ev_cst (k : Cst) : ev G cs (.cst k) r t = (fun _ t => .ok k.d t) r t := by first | (rw [ev_cst]; done) | (rw [ev_cst]; rfl)
@[simp] theorem x_ev_var (i : Nat) : ev G cs (.var i) r t = (fun r t => match r[i]? with
    | some (.val d) => .ok d t
    | _ => .bad) r t := by first | (rw [ev_var]; done) | (rw [ev_var]; rfl)
@[simp] theorem x_ev_bor (i : Nat) : ev G cs (.bor i) r t = (fun r t => match r[i]? with
    | some (.val d) => .ok d t
    | some (.own d) => .ok d t
    | _ => .bad) r t := by first | (rw [ev_bor]; done) | (rw [ev_bor]; rfl)
@[simp] theorem x_ev_glob (g : Nat) : ev G cs (.glob g) r t = (fun _ t => .ok (cs g) t) r t := by first | (rw [ev_glob]; done) | (rw [ev_glob]; rfl)
@[simp] theorem x_ev_bin (op : Operator) (a b : E) : ev G cs (.bin op a b) r t = (fun r t => (ev G cs a r t).bind fun x t1 => (ev G cs b r t1).bind fun y t2 => lift (binD op x y) t2) r t := by first | (rw [ev_bin]; done) | (rw [ev_bin]; rfl)
@[simp] theorem x_ev_cat (a b : E) : ev G cs (.cat a b) r t = (fun r t => (ev G cs a r t).bind fun x t1 => (ev G cs b r t1).bind fun y t2 => lift (catD x y) t2) r t := by first | (rw [ev_cat]; done) | (rw [ev_cat]; rfl)
@[simp] theorem x_ev_neg (a : E) : ev G cs (.neg a) r t = (fun r t => (ev G cs a r t).bind fun x t1 => lift (negD x) t1) r t := by first | (rw [ev_neg]; done) | (rw [ev_neg]; rfl)
@[simp] theorem x_ev_not (a : E) : ev G cs (.not a) r t = (fun r t => (ev G cs a r t).bind fun x t1 => lift (notD x) t1) r t := by first | (rw [ev_not]; done) | (rw [ev_not]; rfl)
@[simp] theorem x_ev_and (a b : E) : ev G cs (.and a b) r t = (andE (ev G cs a) (ev G cs b)) r t := by first | (rw [ev_and]; done) | (rw [ev_and]; rfl)
@[simp] theorem x_ev_or (a b : E) : ev G cs (.or a b) r t = (orE (ev G cs a) (ev G cs b)) r t := by first | (rw [ev_or]; done) | (rw [ev_or]; rfl)
@[simp] theorem x_ev_ite (k a b : E) : ev G cs (.ite k a b) r t = (iteE (ev G cs k) (ev G cs a) (ev G cs b)) r t := by first | (rw [ev_ite]; done) | (rw [ev_ite]; rfl)
@[simp] theorem x_ev_cmp (op : CmpOp) (a b : E) : ev G cs (.cmp op a b) r t = (fun r t => (ev G cs a r t).bind fun x t1 => (ev G cs b r t1).bind fun y t2 => lift (cmpD op x y) t2) r t := by first | (rw [ev_cmp]; done) | (rw [ev_cmp]; rfl)
@[simp] theorem x_ev_chain (o1 o2 : CmpOp) (a b k : E) : ev G cs (.chain o1 o2 a b k) r t = (chainE o1 o2 (ev G cs a) (ev G cs b) (ev G cs k)) r t := by first | (rw [ev_chain]; done) | (rw [ev_chain]; rfl)
@[simp] theorem x_ev_ix (a b : E) : ev G cs (.ix a b) r t = (fun r t => (ev G cs a r t).bind fun x t1 => (ev G cs b r t1).bind fun y t2 => lift (ixD x y) t2) r t := by first | (rw [ev_ix]; done) | (rw [ev_ix]; rfl)
@[simp] theorem x_ev_dix (a b : E) : ev G cs (.dix a b) r t = (fun r t => (ev G cs a r t).bind fun x t1 => (ev G cs b r t1).bind fun y t2 => lift (dixD x y) t2) r t := by first | (rw [ev_dix]; done) | (rw [ev_dix]; rfl)
@[simp] theorem x_ev_cut (a : E) (lo hi : O) : ev G cs (.cut a lo hi) r t = (cutE (ev G cs a) (evO G cs lo) (evO G cs hi)) r t := by first | (rw [ev_cut]; done) | (rw [ev_cut]; rfl)
@[simp] theorem x_ev_tup (es : Es) : ev G cs (.tup es) r t = (fun r t => (evs G cs es r t).bind fun xs t1 => if okLen xs.length then .ok (.tup xs) t1 else .bad) r t := by first | (rw [ev_tup]; done) | (rw [ev_tup]; rfl)
@[simp] theorem x_ev_lst (es : Es) : ev G cs (.lst es) r t = (fun r t => (evs G cs es r t).bind fun xs t1 => if okLen xs.length then .ok (.lst xs) t1 else .bad) r t := by first | (rw [ev_lst]; done) | (rw [ev_lst]; rfl)
@[simp] theorem x_ev_call (i : Nat) (es ks : Es) : ev G cs (.call i es ks) r t = (fun r t => (evs G cs es r t).bind fun xs t1 => (evs G cs ks r t1).bind fun ys t2 => G i xs ys t2) r t := by first | (rw [ev_call]; done) | (rw [ev_call]; rfl)
@[simp] theorem x_ev_blt (b : Blt) (a : E) : ev G cs (.blt b a) r t = (fun r t => (ev G cs a r t).bind fun x t1 => lift (blt1 b x) t1) r t := by first | (rw [ev_blt]; done) | (rw [ev_blt]; rfl)
@[simp] theorem x_ev_isa (a : E) (T : Ty) : ev G cs (.isa a T) r t = (fun r t => (ev G cs a r t).bind fun x t1 => lift ((isaD x T).map D.bl) t1) r t := by first | (rw [ev_isa]; done) | (rw [ev_isa]; rfl)
@[simp] theorem x_ev_get (a k d : E) : ev G cs (.get a k d) r t = (getE (ev G cs a) (ev G cs k) (ev G cs d)) r t := by first | (rw [ev_get]; done) | (rw [ev_get]; rfl)
@[simp] theorem x_ev_tcount (i : Nat) : ev G cs (.tcount i) r t = (tcountE i) r t := by first | (rw [ev_tcount]; done) | (rw [ev_tcount]; rfl)
@[simp] theorem x_ev_tget (i : Nat) (k d : E) : ev G cs (.tget i k d) r t = (tgetE i (ev G cs k) (ev G cs d)) r t := by first | (rw [ev_tget]; done) | (rw [ev_tget]; rfl)
@[simp] theorem x_evO_none : evO G cs .none r t = (fun _ t => .ok none t) r t := by first | (rw [evO_none]; done) | (rw [evO_none]; rfl)
@[simp] theorem x_evO_some (e : E) : evO G cs (.some e) r t = (fun r t => (ev G cs e r t).bind fun x t1 => .ok (some x) t1) r t := by first | (rw [evO_some]; done) | (rw [evO_some]; rfl)
@[simp] theorem x_evs_nil : evs G cs .nil r t = (fun _ t => .ok [] t) r t := by first | (rw [evs_nil]; done) | (rw [evs_nil]; rfl)
@[simp] theorem x_evs_cons (e : E) (es : Es) : evs G cs (.cons e es) r t = (fun r t => (ev G cs e r t).bind fun x t1 => (evs G cs es r t1).bind fun xs t2 => .ok (x :: xs) t2) r t := by first | (rw [evs_cons]; done) | (rw [evs_cons]; rfl)
@[simp] theorem x_evI_val (e : E) : evI G cs (.val e) r t = (evV (ev G cs e)) r t := by first | (rw [evI_val]; done) | (rw [evI_val]; rfl)
@[simp] theorem x_evI_rng1 (a : E) : evI G cs (.rng1 a) r t = (fun r t => (ev G cs a r t).bind fun x t1 => match x with
    | .int j => if okRng j then .ok (rngD 0 j.toNat) t1 else .bad
    | _ => .bad) r t := by first | (rw [evI_rng1]; done) | (rw [evI_rng1]; rfl)
@[simp] theorem x_evI_rng2 (a b : E) : evI G cs (.rng2 a b) r t = (fun r t => (ev G cs a r t).bind fun x t1 => (ev G cs b r t1).bind fun y t2 => match x, y with
    | .int i, .int j => if okRng i && okRng j then .ok (rngD i (j - i).toNat) t2 else .bad
    | _, _ => .bad) r t := by first | (rw [evI_rng2]; done) | (rw [evI_rng2]; rfl)
@[simp] theorem x_evI_zip (a b : E) : evI G cs (.zip a b) r t = (zipE (ev G cs a) (ev G cs b)) r t := by first | (rw [evI_zip]; done) | (rw [evI_zip]; rfl)
@[simp] theorem x_evI_enum (a : E) : evI G cs (.enum a) r t = (enumE (ev G cs a)) r t := by first | (rw [evI_enum]; done) | (rw [evI_enum]; rfl)
@[simp] theorem x_evS_asg (tg : Tg) (e : E) : evS G cs (.asg tg e) r t = (fun r t => (ev G cs e r t).bind fun x t1 => Fm.lift ((setT tg x r).map fun r1 => (.nx, r1)) t1) r t := by first | (rw [evS_asg]; done) | (rw [evS_asg]; rfl)
@[simp] theorem x_evS_par (is : List Nat) (es : Es) : evS G cs (.par is es) r t = (parE is (evs G cs es)) r t := by first | (rw [evS_par]; done) | (rw [evS_par]; rfl)
@[simp] theorem x_evS_star (i j : Nat) (e : E) : evS G cs (.star i j e) r t = (starE i j (ev G cs e)) r t := by first | (rw [evS_star]; done) | (rw [evS_star]; rfl)
@[simp] theorem x_evS_aug (i : Nat) (op : Operator) (e : E) : evS G cs (.aug i op e) r t = (augE i op (ev G cs e)) r t := by first | (rw [evS_aug]; done) | (rw [evS_aug]; rfl)
@[simp] theorem x_evS_ret (e : E) : evS G cs (.ret e) r t = (fun r t => (ev G cs e r t).bind fun x t1 => .ok (.ret x, r) t1) r t := by first | (rw [evS_ret]; done) | (rw [evS_ret]; rfl)
@[simp] theorem x_evS_ite (k : E) (a b : Ss) : evS G cs (.ite k a b) r t = (iteS (ev G cs k) (evSs G cs a) (evSs G cs b)) r t := by first | (rw [evS_ite]; done) | (rw [evS_ite]; rfl)
@[simp] theorem x_evS_for (tg : Tg) (it : I) (b : Ss) : evS G cs (.for tg it b) r t = (forE tg (evI G cs it) (evSs G cs b)) r t := by first | (rw [evS_for]; done) | (rw [evS_for]; rfl)
@[simp] theorem x_evS_while (k : E) (b : Ss) : evS G cs (.while k b) r t = (loopW (ev G cs k) (evSs G cs b)) r t := by first | (rw [evS_while]; done) | (rw [evS_while]; rfl)
@[simp] theorem x_evS_exp (e : E) : evS G cs (.exp e) r t = (fun r t => (ev G cs e r t).bind fun _ t1 => .ok (.nx, r) t1) r t := by first | (rw [evS_exp]; done) | (rw [evS_exp]; rfl)
@[simp] theorem x_evS_new (i : Nat) (e : E) : evS G cs (.new i e) r t = (fun r t => (ev G cs e r t).bind fun x t1 => okSet r i (.own x) t1) r t := by first | (rw [evS_new]; done) | (rw [evS_new]; rfl)
@[simp] theorem x_evS_app (i : Nat) (e : E) : evS G cs (.app i e) r t = (appE i (ev G cs e)) r t := by first | (rw [evS_app]; done) | (rw [evS_app]; rfl)
@[simp] theorem x_evS_put (i : Nat) (k e : E) : evS G cs (.put i k e) r t = (putE i (ev G cs k) (ev G cs e)) r t := by first | (rw [evS_put]; done) | (rw [evS_put]; rfl)
@[simp] theorem x_evS_putL (i : Nat) (k e : E) : evS G cs (.putL i k e) r t = (putLE i (ev G cs k) (ev G cs e)) r t := by first | (rw [evS_putL]; done) | (rw [evS_putL]; rfl)
@[simp] theorem x_evS_frz (i : Nat) : evS G cs (.frz i) r t = (frzE i) r t := by first | (rw [evS_frz]; done) | (rw [evS_frz]; rfl)
@[simp] theorem x_evS_tcnt (i : Nat) (e : E) : evS G cs (.tcnt i e) r t = (tcntE i (ev G cs e)) r t := by first | (rw [evS_tcnt]; done) | (rw [evS_tcnt]; rfl)
@[simp] theorem x_evS_trst (i : Nat) (k e : E) : evS G cs (.trst i k e) r t = (trstE i (ev G cs k) (ev G cs e)) r t := by first | (rw [evS_trst]; done) | (rw [evS_trst]; rfl)
@[simp] theorem x_evS_brk : evS G cs .brk r t = (fun r t => .ok (.brk, r) t) r t := by first | (rw [evS_brk]; done) | (rw [evS_brk]; rfl)
@[simp] theorem x_evS_cont : evS G cs .cont r t = (fun r t => .ok (.cont, r) t) r t := by first | (rw [evS_cont]; done) | (rw [evS_cont]; rfl)
@[simp] theorem x_evS_raise (n : Nat) (x : Str) : evS G cs (.raise n x) r t = (fun _ t => .exc n t) r t := by first | (rw [evS_raise]; done) | (rw [evS_raise]; rfl)
@[simp] theorem x_evSs_nil : evSs G cs .nil r t = (nilE) r t := by first | (rw [evSs_nil]; done) | (rw [evSs_nil]; rfl)
@[simp] theorem x_evSs_cons (s : S) (q : Ss) : evSs G cs (.cons s q) r t = consE (evS G cs s) (evSs G cs q) r t := by rw [evSs_cons]
end
section
variable {f g : Rho → Tw → Res (Fl × Rho)} {fa fb fc : Rho → Tw → Res D} {fs : Rho → Tw → Res (List D)} {fo fp : Rho → Tw → Res (Option D)} {r : Rho} {t : Tw}
@[simp] theorem x_chainE (o1 o2 : CmpOp) (fa fb fc : Rho → Tw → Res D) (r : Rho) (t : Tw) : chainE o1 o2 fa fb fc r t = ( (fa r t).bind fun x t1 => (fb r t1).bind fun y t2 => match cmpD o1 x y with
    | some (.bl true) => (fc r t2).bind fun z t3 => Fm.lift (cmpD o2 y z) t3
    | some (.bl false) => .ok (.bl false) t2
    | _ => .bad) := rfl
@[simp] theorem x_andE (fa fb : Rho → Tw → Res D) (r : Rho) (t : Tw) : andE fa fb r t = ( (fa r t).bind fun x t1 => match truD x with
    | some true => fb r t1
    | some false => .ok x t1
    | none => .bad) := rfl
@[simp] theorem x_orE (fa fb : Rho → Tw → Res D) (r : Rho) (t : Tw) : orE fa fb r t = ( (fa r t).bind fun x t1 => match truD x with
    | some true => .ok x t1
    | some false => fb r t1
    | none => .bad) := rfl
@[simp] theorem x_iteE (fc fa fb : Rho → Tw → Res D) (r : Rho) (t : Tw) : iteE fc fa fb r t = ( (fc r t).bind fun x t1 => match truD x with
    | some true => fa r t1
    | some false => fb r t1
    | none => .bad) := rfl
@[simp] theorem x_cutE (fa : Rho → Tw → Res D) (fl fh : Rho → Tw → Res (Option D)) (r : Rho) (t : Tw) : cutE fa fl fh r t = ( (fa r t).bind fun x t1 => (fl r t1).bind fun l t2 => (Fm.lift (optI l) t2).bind fun l t2 => (fh r t2).bind fun h t3 => (Fm.lift (optI h) t3).bind fun h t3 => Fm.lift (cutD x l h) t3) := rfl
@[simp] theorem x_getE (fa fb fc : Rho → Tw → Res D) (r : Rho) (t : Tw) : getE fa fb fc r t = ( (fa r t).bind fun x t1 => match x with
    | .dct kvs => (fb r t1).bind fun y t2 => (fc r t2).bind fun z t3 => (match keyD y with
      | some k => .ok ((lookD kvs k).getD z) t3
      | none => .bad)
    | _ => .bad) := rfl
@[simp] theorem x_evV (f : Rho → Tw → Res D) (r : Rho) (t : Tw) : evV f r t = ( (f r t).bind fun x t1 => match x with
    | .tup xs => .ok xs t1
    | .lst xs => .ok xs t1
    | .str x => .ok (strD x) t1
    | _ => .bad) := rfl
@[simp] theorem x_zipE (fa fb : Rho → Tw → Res D) (r : Rho) (t : Tw) : zipE fa fb r t = ( (fa r t).bind fun x t1 => (fb r t1).bind fun y t2 => match x, y with
    | .tup xs, .tup ys => .ok (zipD xs ys) t2
    | .lst xs, .lst ys => .ok (zipD xs ys) t2
    | _, _ => .bad) := rfl
@[simp] theorem x_enumE (fa : Rho → Tw → Res D) (r : Rho) (t : Tw) : enumE fa r t = ( (fa r t).bind fun x t1 => match x with
    | .lst xs => .ok (enumD 0 xs) t1
    | _ => .bad) := rfl
@[simp] theorem x_turnE (tg : Tg) (vs : List Nat) (fc : Rho → Tw → Res (Option D)) (fe : Rho → Tw → Res D) (r : Rho) (d : D) (t : Tw) : turnE tg vs fc fe r d t = ( match setT tg d (wipeR r vs) with
        | some r2 => (fc r2 t).bind fun o t => match o with
          | none => (fe r2 t).bind fun x t => .ok (some x) t
          | some y => match truD y with
            | some true => (fe r2 t).bind fun x t => .ok (some x) t
            | some false => .ok none t
            | none => .bad
        | none => .bad) := rfl
@[simp] theorem x_compE (tg : Tg) (vs : List Nat) (fi : Rho → Tw → Res (List D)) (fc : Rho → Tw → Res (Option D)) (fe : Rho → Tw → Res D) (r : Rho) (t : Tw) : compE tg vs fi fc fe r t = (
  (fi r t).bind fun xs t1 => if okLen xs.length then (compL (turnE tg vs fc fe r) xs t1).bind fun ys t2 => .ok (.lst ys) t2 else .bad) := rfl
@[simp] theorem x_nilE (r : Rho) (t : Tw) : nilE r t = ( .ok (.nx, r) t) := rfl
@[simp] theorem x_consE (f g : Rho → Tw → Res (Fl × Rho)) (r : Rho) (t : Tw) : consE f g r t = ( (f r t).bind fun p t1 => match p with
    | (.nx, r1) => g r1 t1
    | q => .ok q t1) := rfl
@[simp] theorem x_iteS (fc : Rho → Tw → Res D) (f g : Rho → Tw → Res (Fl × Rho)) (r : Rho) (t : Tw) : iteS fc f g r t = ( (fc r t).bind fun x t1 => match truD x with
    | some true => f r t1
    | some false => g r t1
    | none => .bad) := rfl
@[simp] theorem x_parE (is : List Nat) (fs : Rho → Tw → Res (List D)) (r : Rho) (t : Tw) : parE is fs r t = ( (fs r t).bind fun xs t1 => Fm.lift ((setAll is xs r).map fun r1 => (.nx, r1)) t1) := rfl
@[simp] theorem x_frzE (i : Nat) (r : Rho) (t : Tw) : frzE i r t = ( match r[i]? with
    | some (.own d) => .ok (.nx, r.set i (.val d)) t
    | some (.val _) => .ok (.nx, r) t
    | _ => .bad) := rfl
@[simp] theorem x_appE (i : Nat) (fa : Rho → Tw → Res D) (r : Rho) (t : Tw) : appE i fa r t = ( match r[i]? with
    | some (.own (.lst xs)) => (fa r t).bind fun x t1 => if decide (xs.length < 16777216) then .ok (.nx, r.set i (.own (.lst (xs ++ [x])))) t1 else .bad
    | _ => .bad) := rfl
@[simp] theorem x_putE (i : Nat) (fk fa : Rho → Tw → Res D) (r : Rho) (t : Tw) : putE i fk fa r t = ( match r[i]? with
    | some (.own (.dct kvs)) => (fa r t).bind fun x t1 => (fk r t1).bind fun y t2 => (match keyD y with
      | some k => if decide (kvs.length < 16777216) then .ok (.nx, r.set i (.own (.dct (putD kvs k x)))) t2 else .bad
      | none => .bad)
    | _ => .bad) := rfl
@[simp] theorem x_putLE (i : Nat) (fk fa : Rho → Tw → Res D) (r : Rho) (t : Tw) : putLE i fk fa r t = ( match r[i]? with
    | some (.own (.lst xs)) => (fa r t).bind fun x t1 => (fk r t1).bind fun y t2 => (match y with
      | .int j => (match L2.ixN xs.length j with
        | some n => .ok (.nx, r.set i (.own (.lst (xs.set n x)))) t2
        | none => .bad)
      | _ => .bad)
    | _ => .bad) := rfl
@[simp] theorem x_augE (i : Nat) (op : Operator) (fa : Rho → Tw → Res D) (r : Rho) (t : Tw) : augE i op fa r t = ( match r[i]? with
    | some (.val x) => (fa r t).bind fun y t1 => match x, y with
      | .int _, .int _ => Fm.lift ((binD op x y).map fun z => (.nx, r.set i (.val z))) t1
      | _, _ => .bad
    | _ => .bad) := rfl
@[simp] theorem x_forE (tg : Tg) (fi : Rho → Tw → Res (List D)) (f : Rho → Tw → Res (Fl × Rho)) (r : Rho) (t : Tw) : forE tg fi f r t = ( (fi r t).bind fun xs t1 => loopF (fun d r t => match setT tg d r with
    | some r1 => f r1 t
    | none => .bad) xs r t1) := rfl
@[simp] theorem x_starE (i j : Nat) (fa : Rho → Tw → Res D) (r : Rho) (t : Tw) : starE i j fa r t = ( (fa r t).bind fun x t1 => match x with
    | .tup (y :: ys) => if decide (i < r.length) && decide (j < r.length) && decide (ys.length < 16384) then .ok (.nx, (r.set i (.val y)).set j (.val (.lst ys))) t1 else .bad
    | _ => .bad) := rfl
@[simp] theorem x_tcountE (i : Nat) (r : Rho) (t : Tw) : tcountE i r t = ( match r[i]? with
    | some (.val .tok) => .ok (.int t.count) t
    | _ => .bad) := rfl
@[simp] theorem x_tgetE (i : Nat) (fk fd : Rho → Tw → Res D) (r : Rho) (t : Tw) : tgetE i fk fd r t = ( match r[i]? with
    | some (.val .tok) => (fk r t).bind fun y t1 => (fd r t1).bind fun z t2 => (match y, z with
      | .int a, .int b => .ok (.int ((lkT t2.rests a).getD b)) t2
      | _, _ => .bad)
    | _ => .bad) := rfl
@[simp] theorem x_tcntE (i : Nat) (fa : Rho → Tw → Res D) (r : Rho) (t : Tw) : tcntE i fa r t = ( match r[i]? with
    | some (.val .tok) => (fa r t).bind fun x t1 => (match x with
      | .int c => .ok (.nx, r) { t1 with count := c }
      | _ => .bad)
    | _ => .bad) := rfl
@[simp] theorem x_trstE (i : Nat) (fk fa : Rho → Tw → Res D) (r : Rho) (t : Tw) : trstE i fk fa r t = ( match r[i]? with
    | some (.val .tok) => (fa r t).bind fun x t1 => (fk r t1).bind fun y t2 => (match x, y with
      | .int v, .int a => if decide (t2.rests.length < 1000000) then .ok (.nx, r) { t2 with rests := putT t2.rests a v } else .bad
      | _, _ => .bad)
    | _ => .bad) := rfl
end
section
variable {i j : Int} {x y : Str} {xs ys : List D} {b : Bool} {d e : D} {kvs : List (Key × D)}
@[simp] theorem x_cst0 : Cst.d .non = .non := rfl
@[simp] theorem x_cst1 : Cst.d (.bl b) = .bl b := rfl
@[simp] theorem x_cst2 : Cst.d (.int i) = .int i := rfl
@[simp] theorem x_cst3 : Cst.d (.str x) = .str x := rfl
@[simp] theorem x_bAdd : binD .Add d e = addD d e := rfl
@[simp] theorem x_bSub : binD .Sub d e = subD d e := rfl
@[simp] theorem x_bMul : binD .Mult d e = mulD d e := rfl
@[simp] theorem x_bDiv : binD .FloorDiv d e = fdivD d e := rfl
@[simp] theorem x_bMod : binD .Mod d e = modD d e := rfl
@[simp] theorem x_bPow : binD .Pow d e = powD d e := rfl
@[simp] theorem x_bShl : binD .LShift d e = shlD d e := rfl
@[simp] theorem x_addi : addD (.int i) (.int j) = some (.int (i + j)) := rfl
@[simp] theorem x_addt : addD (.tup xs) (.tup ys) = if okLen (xs.length + ys.length) then some (.tup (xs ++ ys)) else none := rfl
@[simp] theorem x_adds : addD (.str x) (.str y) = if okLen (x.length + y.length) then some (.str (x ++ y)) else none := rfl
@[simp] theorem x_cat : catD (.lst xs) (.lst ys) = if okLen (xs.length + ys.length) then some (.lst (xs ++ ys)) else none := rfl
@[simp] theorem x_sub : subD (.int i) (.int j) = some (.int (i - j)) := rfl
@[simp] theorem x_mul : mulD (.int i) (.int j) = if okMul i j then some (.int (i * j)) else none := rfl
@[simp] theorem x_fdiv : fdivD (.int i) (.int j) = if okDiv j then some (.int (i.fdiv j)) else none := rfl
@[simp] theorem x_mod : modD (.int i) (.int j) = if j = 0 then none else some (.int (i.fmod j)) := rfl
@[simp] theorem x_pow : powD (.int i) (.int j) = if okPow i j then some (.int (i ^ j.toNat)) else none := rfl
@[simp] theorem x_shl : shlD (.int i) (.int j) = if okPow i j then some (.int (i * 2 ^ j.toNat)) else none := rfl
@[simp] theorem x_neg : negD (.int i) = some (.int (-i)) := rfl
@[simp] theorem x_tru0 : truD .non = some false := rfl
@[simp] theorem x_tru1 : truD (.bl b) = some b := rfl
@[simp] theorem x_tru2 : truD (.int i) = some (i != 0) := rfl
@[simp] theorem x_tru3 : truD (.tup xs) = some (!xs.isEmpty) := rfl
@[simp] theorem x_tru4 : truD (.lst xs) = some (!xs.isEmpty) := rfl
@[simp] theorem x_tru6 : truD (.str x) = if okLen x.length then some ((x.length : Int) != 0) else none := rfl
@[simp] theorem x_not : notD d = (truD d).map fun b => .bl (!b) := rfl
@[simp] theorem x_ceq : cmpD .Eq d e = eqOp d e := rfl
@[simp] theorem x_cne : cmpD .NotEq d e = neOp d e := rfl
@[simp] theorem x_clt : cmpD .Lt d e = ltOp d e := rfl
@[simp] theorem x_cle : cmpD .LtE d e = leOp d e := rfl
@[simp] theorem x_cgt : cmpD .Gt d e = gtOp d e := rfl
@[simp] theorem x_cge : cmpD .GtE d e = geOp d e := rfl
@[simp] theorem x_cis : cmpD .Is d .non = some (.bl (isN d)) := rfl
@[simp] theorem x_cisn : cmpD .IsNot d .non = some (.bl (!isN d)) := rfl
@[simp] theorem x_cin : cmpD .In d e = (inB d e).map .bl := rfl
@[simp] theorem x_cnin : cmpD .NotIn d e = (inB d e).map fun r => .bl (!r) := rfl
@[simp] theorem x_lt : ltOp (.int i) (.int j) = some (.bl (decide (i < j))) := rfl
@[simp] theorem x_le : leOp (.int i) (.int j) = some (.bl (decide (i ≤ j))) := rfl
@[simp] theorem x_gt : gtOp (.int i) (.int j) = some (.bl (decide (j < i))) := rfl
@[simp] theorem x_ge : geOp (.int i) (.int j) = some (.bl (decide (j ≤ i))) := rfl
@[simp] theorem x_isn0 : isN .non = true := rfl
@[simp] theorem x_isn1 : isN (.bl b) = false := rfl
@[simp] theorem x_isn2 : isN (.int i) = false := rfl
@[simp] theorem x_isn3 : isN (.str x) = false := rfl
@[simp] theorem x_isn4 : isN (.tup xs) = false := rfl
@[simp] theorem x_isn5 : isN (.lst xs) = false := rfl
@[simp] theorem x_len1 : blt1 .len (.tup xs) = some (.int xs.length) := rfl
@[simp] theorem x_len2 : blt1 .len (.lst xs) = some (.int xs.length) := rfl
@[simp] theorem x_len3 : blt1 .len (.str x) = if okLen x.length then some (.int x.length) else none := rfl
@[simp] theorem x_tup1 : blt1 .tuple (.lst xs) = some (.tup xs) := rfl
@[simp] theorem x_tup2 : blt1 .tuple (.tup xs) = some (.tup xs) := rfl
@[simp] theorem x_lst1 : blt1 .list (.lst xs) = some (.lst xs) := rfl
@[simp] theorem x_lst2 : blt1 .list (.tup xs) = some (.lst xs) := rfl
@[simp] theorem x_abs1 : blt1 .abs (.int i) = some (.int (if i < 0 then -i else i)) := rfl
@[simp] theorem x_ixt : ixD (.tup xs) (.int i) = L2.atI xs i := rfl
@[simp] theorem x_ixl : ixD (.lst xs) (.int i) = L2.atI xs i := rfl
@[simp] theorem x_ixs : ixD (.str x) (.int i) = if okLen x.length then (L2.atI x.cps.toList i).map fun c => .str ⟨#[c]⟩ else none := rfl
@[simp] theorem x_opt0 : optI none = some none := rfl
@[simp] theorem x_opt1 : optI (some (.int i)) = some (some i) := rfl
@[simp] theorem x_cutt {l h : Option Int} : cutD (.tup xs) l h = some (.tup (cutL xs l h)) := rfl
@[simp] theorem x_cutl {l h : Option Int} : cutD (.lst xs) l h = some (.lst (cutL xs l h)) := rfl
@[simp] theorem x_isa_int_non : isaD .non .int = some false := rfl
@[simp] theorem x_isa_int_bl : isaD (.bl b) .int = some true := rfl
@[simp] theorem x_isa_int_int : isaD (.int i) .int = some true := rfl
@[simp] theorem x_isa_int_str : isaD (.str x) .int = some false := rfl
@[simp] theorem x_isa_int_tup : isaD (.tup xs) .int = some false := rfl
@[simp] theorem x_isa_int_lst : isaD (.lst xs) .int = some false := rfl
@[simp] theorem x_isa_int_dct : isaD (.dct kvs) .int = some false := rfl
@[simp] theorem x_isa_bool_non : isaD .non .bool = some false := rfl
@[simp] theorem x_isa_bool_bl : isaD (.bl b) .bool = some true := rfl
@[simp] theorem x_isa_bool_int : isaD (.int i) .bool = some false := rfl
@[simp] theorem x_isa_bool_str : isaD (.str x) .bool = some false := rfl
@[simp] theorem x_isa_bool_tup : isaD (.tup xs) .bool = some false := rfl
@[simp] theorem x_isa_bool_lst : isaD (.lst xs) .bool = some false := rfl
@[simp] theorem x_isa_bool_dct : isaD (.dct kvs) .bool = some false := rfl
@[simp] theorem x_isa_str_non : isaD .non .str = some false := rfl
@[simp] theorem x_isa_str_bl : isaD (.bl b) .str = some false := rfl
@[simp] theorem x_isa_str_int : isaD (.int i) .str = some false := rfl
@[simp] theorem x_isa_str_str : isaD (.str x) .str = some true := rfl
@[simp] theorem x_isa_str_tup : isaD (.tup xs) .str = some false := rfl
@[simp] theorem x_isa_str_lst : isaD (.lst xs) .str = some false := rfl
@[simp] theorem x_isa_str_dct : isaD (.dct kvs) .str = some false := rfl
@[simp] theorem x_isa_tuple_non : isaD .non .tuple = some false := rfl
@[simp] theorem x_isa_tuple_bl : isaD (.bl b) .tuple = some false := rfl
@[simp] theorem x_isa_tuple_int : isaD (.int i) .tuple = some false := rfl
@[simp] theorem x_isa_tuple_str : isaD (.str x) .tuple = some false := rfl
@[simp] theorem x_isa_tuple_tup : isaD (.tup xs) .tuple = some true := rfl
@[simp] theorem x_isa_tuple_lst : isaD (.lst xs) .tuple = some false := rfl
@[simp] theorem x_isa_tuple_dct : isaD (.dct kvs) .tuple = some false := rfl
@[simp] theorem x_isa_list_non : isaD .non .list = some false := rfl
@[simp] theorem x_isa_list_bl : isaD (.bl b) .list = some false := rfl
@[simp] theorem x_isa_list_int : isaD (.int i) .list = some false := rfl
@[simp] theorem x_isa_list_str : isaD (.str x) .list = some false := rfl
@[simp] theorem x_isa_list_tup : isaD (.tup xs) .list = some false := rfl
@[simp] theorem x_isa_list_lst : isaD (.lst xs) .list = some true := rfl
@[simp] theorem x_isa_list_dct : isaD (.dct kvs) .list = some false := rfl
end
@[simp] theorem x_setN {i : Nat} {d : D} {r : Rho} : setT (.name i) d r = if decide (i < r.length) then some (r.set i (.val d)) else none := rfl
@[simp] theorem x_setT {ts : Tgs} {xs : List D} {r : Rho} : setT (.tup ts) (.tup xs) r = setTs ts xs r := rfl
@[simp] theorem x_set0 {r : Rho} : setTs .nil [] r = some r := rfl
@[simp] theorem x_set1 {t : Tg} {ts : Tgs} {x : D} {xs : List D} {r : Rho} : setTs (.cons t ts) (x :: xs) r = (setT t x r).bind fun r1 => setTs ts xs r1 := rfl
@[simp] theorem x_all0 {r : Rho} : setAll [] [] r = some r := rfl
@[simp] theorem x_all1 {i : Nat} {is : List Nat} {d : D} {ds : List D} {r : Rho} : setAll (i :: is) (d :: ds) r = if decide (i < r.length) then setAll is ds (r.set i (.val d)) else none := rfl
@[simp] theorem x_okSet {r : Rho} {i : Nat} {s : Sl} {t : Tw} : okSet r i s t = if decide (i < r.length) then .ok (.nx, r.set i s) t else .bad := rfl
@[simp] theorem x_startR {N : List Str} {ds : List D} : startR N ds = ds.map .val ++ List.replicate (N.length - ds.length) .un := rfl
@[simp] theorem x_startL {N : List Str} {ns : List Int} : startL N ns = (startR N [.scr ns]).set 1 (.val .tok) := rfl
@[simp] theorem x_ret0 {d : D} {r : Rho} {t : Tw} : retD (.ok (.ret d, r) t) = .ok d t := rfl
@[simp] theorem x_ret1 {r : Rho} {t : Tw} : retD (.ok (.nx, r) t) = .ok .non t := rfl
@[simp] theorem x_ret2 {n : Nat} {t : Tw} : retD (.exc n t) = .exc n t := rfl
@[simp] theorem x_loop0 {f : D → Rho → Tw → Res (Fl × Rho)} {r : Rho} {t : Tw} : loopF f [] r t = .ok (.nx, r) t := rfl
@[simp] theorem x_comp0 {f : D → Tw → Res (Option D)} {t : Tw} : compL f [] t = .ok [] t := rfl
@[simp] theorem x_wipe0 {r : Rho} : wipeR r [] = r := rfl
@[simp] theorem x_wipe1 {r : Rho} {v : Nat} {vs : List Nat} : wipeR r (v :: vs) = (wipeR r vs).set v .un := rfl
@[simp] theorem x_cons0 {xs : List D} : consO none xs = xs := rfl
@[simp] theorem x_cons1 {x : D} {xs : List D} : consO (some x) xs = x :: xs := rfl
@[simp] theorem x_ok0 : okLen 0 = true := rfl
@[simp] theorem x_ok1 : okLen 1 = true := rfl
@[simp] theorem x_ok2 : okLen 2 = true := rfl
@[simp] theorem x_ok3 : okLen 3 = true := rfl
@[simp] theorem x_ok4 : okLen 4 = true := rfl
@[simp] theorem x_ok5 : okLen 5 = true := rfl
@[simp] theorem x_ok6 : okLen 6 = true := rfl
@[simp] theorem x_ok7 : okLen 7 = true := rfl
@[simp] theorem x_ok8 : okLen 8 = true := rfl
@[simp] theorem x_ok9 : okLen 9 = true := rfl
@[simp] theorem x_ok10 : okLen 10 = true := rfl
@[simp] theorem x_ok11 : okLen 11 = true := rfl
@[simp] theorem x_ok12 : okLen 12 = true := rfl
@[simp] theorem x_ok13 : okLen 13 = true := rfl
@[simp] theorem x_ok14 : okLen 14 = true := rfl
@[simp] theorem x_ok15 : okLen 15 = true := rfl
@[simp] theorem x_ok16 : okLen 16 = true := rfl
@[simp] theorem x_ok17 : okLen 17 = true := rfl
@[simp] theorem x_ok18 : okLen 18 = true := rfl
@[simp] theorem x_ok19 : okLen 19 = true := rfl
@[simp] theorem x_ok20 : okLen 20 = true := rfl
@[simp] theorem x_ok21 : okLen 21 = true := rfl
@[simp] theorem x_ok22 : okLen 22 = true := rfl
@[simp] theorem x_ok23 : okLen 23 = true := rfl
@[simp] theorem x_ok24 : okLen 24 = true := rfl
@[simp] theorem x_ok25 : okLen 25 = true := rfl
@[simp] theorem x_ok26 : okLen 26 = true := rfl
@[simp] theorem x_ok27 : okLen 27 = true := rfl
@[simp] theorem x_ok28 : okLen 28 = true := rfl
@[simp] theorem x_ok29 : okLen 29 = true := rfl
@[simp] theorem x_ok30 : okLen 30 = true := rfl
@[simp] theorem x_ok31 : okLen 31 = true := rfl
@[simp] theorem x_ok32 : okLen 32 = true := rfl
@[simp] theorem x_ok33 : okLen 33 = true := rfl
@[simp] theorem x_ok34 : okLen 34 = true := rfl
@[simp] theorem x_ok35 : okLen 35 = true := rfl
@[simp] theorem x_ok36 : okLen 36 = true := rfl
@[simp] theorem x_ok37 : okLen 37 = true := rfl
@[simp] theorem x_ok38 : okLen 38 = true := rfl
@[simp] theorem x_ok39 : okLen 39 = true := rfl
@[simp] theorem x_ok40 : okLen 40 = true := rfl
@[simp] theorem x_ok41 : okLen 41 = true := rfl
@[simp] theorem x_ok42 : okLen 42 = true := rfl
@[simp] theorem x_ok43 : okLen 43 = true := rfl
@[simp] theorem x_ok44 : okLen 44 = true := rfl
@[simp] theorem x_ok45 : okLen 45 = true := rfl
@[simp] theorem x_ok46 : okLen 46 = true := rfl
@[simp] theorem x_ok47 : okLen 47 = true := rfl
@[simp] theorem x_ok48 : okLen 48 = true := rfl
@[simp] theorem x_ok49 : okLen 49 = true := rfl
@[simp] theorem x_ok50 : okLen 50 = true := rfl
@[simp] theorem x_ok51 : okLen 51 = true := rfl
@[simp] theorem x_ok52 : okLen 52 = true := rfl
@[simp] theorem x_ok53 : okLen 53 = true := rfl
@[simp] theorem x_ok54 : okLen 54 = true := rfl
@[simp] theorem x_ok55 : okLen 55 = true := rfl
@[simp] theorem x_ok56 : okLen 56 = true := rfl
@[simp] theorem x_ok57 : okLen 57 = true := rfl
@[simp] theorem x_ok58 : okLen 58 = true := rfl
@[simp] theorem x_ok59 : okLen 59 = true := rfl
@[simp] theorem x_ok60 : okLen 60 = true := rfl
@[simp] theorem x_ok61 : okLen 61 = true := rfl
@[simp] theorem x_ok62 : okLen 62 = true := rfl
@[simp] theorem x_ok63 : okLen 63 = true := rfl
/-- the first part first -/
@[simp ↓] theorem x_bind {α β : Type} (m : Res α) (f : α → Tw → Res β) : m.bind f = match m with
  | .ok a t => f a t
  | .exc n t => .exc n t
  | .bad => .bad := by cases m <;> rfl
/-- calls of a level -/
theorem gam_at {p : Pg} {ns : List Int} {k j : Nat} {sh : Sh} (h : p.tb.sh[j]? = some sh) (xs ys : List D) (t : Tw) : gam p ns k j xs ys t = callF p ns k sh.fn (xs ++ ys ++ sh.dfl.map Cst.d) t := by
  unfold gam
  rw [h]
end Fm

/-! ### plain lemmas: equality, loops, comprehensions, draws -/
namespace Fm
open PySem
section
variable {i j : Int} {a b : Bool} {x y : Str}
@[simp] theorem x_eqi : eqOp (.int i) (.int j) = some (.bl (i == j)) := by
  simp [eqOp, okEq, lay, dep, D.py, PyData.canLay0, PyData.depth, eqD, PyData.eqv]
@[simp] theorem x_nei : neOp (.int i) (.int j) = some (.bl (!(i == j))) := by
  simp [neOp, okEq, lay, dep, D.py, PyData.canLay0, PyData.depth, eqD, PyData.eqv]
@[simp] theorem x_eqb : eqOp (.bl a) (.bl b) = some (.bl (a == b)) := by
  simp [eqOp, okEq, lay, dep, D.py, PyData.canLay0, PyData.depth, eqD, PyData.eqv]
@[simp] theorem x_eqD_s : eqD (.str x) (.str y) = (x == y) := by
  simp [eqD, D.py, PyData.eqv]
@[simp] theorem x_lay_s : lay (.str x) = PyData.strOk x := by
  simp [lay, D.py, PyData.canLay0]
@[simp] theorem x_lay_i : lay (.int i) = true := by
  simp [lay, D.py, PyData.canLay0]
@[simp] theorem x_dep_s : dep (.str x) = 0 := by
  simp [dep, D.py, PyData.depth]
theorem x_eqs (h1 : PyData.strOk x = true) (h2 : PyData.strOk y = true) : eqOp (.str x) (.str y) = some (.bl (x == y)) := by
  simp [eqOp, okEq, h1, h2]
theorem x_ins (h : PyData.strOk x = true) {ys : List Str} (h2 : ys.all PyData.strOk = true) : inB (.str x) (.tup (ys.map .str)) = some (ys.any fun z => z == x) := by
  have e : ((ys.map D.str).all lay) = true := by
    rw [List.all_map]
    simpa [Function.comp] using h2
  simp only [inB, x_lay_s, h, e, x_dep_s, List.any_map, Function.comp_def, x_eqD_s]
  simp
end
theorem x_eq0 {xs : List D} (h : lay (.tup xs) = true) : eqOp (.tup xs) (.tup []) = some (.bl xs.isEmpty) := by
  have e : dep (.tup []) = 1 := by simp [dep, D.py, pys, PyData.depth, PyData.depthAll]
  have l : lay (.tup []) = true := by simp [lay, D.py, pys, PyData.canLay0, PyData.canLayAll0]
  have m : min (dep (.tup xs)) 1 ≤ 190 := Nat.le_trans (Nat.min_le_right ..) (by omega)
  simp only [eqOp, okEq, h, l, e, m, decide_true, Bool.and_self, if_true]
  cases xs <;> simp [eqD, D.py, pys, PyData.eqv, PyData.eqvAll]
@[simp] theorem x_ev_dsp {G : Gam} {cs : Nat → D} {r : Rho} {t : Tw} (kvs : List (Str × Cst)) : ev G cs (.dsp kvs) r t = if decide (kvs.length ≤ 15) then .ok (.dct (mergeD [] (kvs.map fun p => (p.1, p.2.d)))) t else .bad := by rw [ev_dsp]
/-! ### loops, comprehensions -/
theorem loopF_inv {f : D → Rho → Tw → Res (Fl × Rho)} (I : Rho → Tw → Prop) : ∀ (xs : List D) (r : Rho) (t : Tw), I r t → (∀ d ∈ xs, ∀ r t, I r t → ∃ r' t', f d r t = .ok (.nx, r') t' ∧ I r' t') → ∃ r' t', loopF f xs r t = .ok (.nx, r') t' ∧ I r' t'
  | [], r, t, h, _ => ⟨r, t, rfl, h⟩
  | d :: ds, r, t, h, hf => by
    obtain ⟨r1, t1, e, h1⟩ := hf d (List.mem_cons_self ..) r t h
    obtain ⟨r2, t2, e2, h2⟩ := loopF_inv I ds r1 t1 h1 fun d' m => hf d' (List.mem_cons_of_mem _ m)
    exact ⟨r2, t2, by rw [loopF, e]; exact e2, h2⟩
theorem compL_map {f : D → Tw → Res (Option D)} (g : D → D) {t : Tw} : ∀ (xs : List D), (∀ d ∈ xs, f d t = .ok (some (g d)) t) → compL f xs t = .ok (xs.map g) t
  | [], _ => rfl
  | d :: ds, h => by
    rw [compL, h d (List.mem_cons_self ..)]
    simp only
    rw [compL_map g ds fun d' m => h d' (List.mem_cons_of_mem _ m)]
    rfl
/-- turns that draw: each gives what Z tells -/
theorem compL_inv {f : D → Tw → Res (Option D)} (I : Nat → Tw → Prop) (Z : D → Prop) : ∀ (xs : List D) (t : Tw) (n : Nat), I (n + xs.length) t → (∀ d ∈ xs, ∀ n t, I (n + 1) t → ∃ x t', f d t = .ok (some x) t' ∧ Z x ∧ I n t') → ∃ ys t', compL f xs t = .ok ys t' ∧ ys.length = xs.length ∧ (∀ y ∈ ys, Z y) ∧ I n t'
  | [], t, n, h, _ => ⟨[], t, rfl, rfl, fun _ m => (List.not_mem_nil m).elim, h⟩
  | d :: ds, t, n, h, hf => by
    obtain ⟨x, t1, e, z, h1⟩ := hf d (List.mem_cons_self ..) (n + ds.length) t (by rw [List.length_cons] at h; exact h)
    obtain ⟨ys, t2, e2, l, z2, h2⟩ := compL_inv I Z ds t1 n h1 fun d' m => hf d' (List.mem_cons_of_mem _ m)
    refine ⟨x :: ys, t2, ?_, by rw [List.length_cons, l, List.length_cons], fun y m => ?_, h2⟩
    · rw [compL, e]
      simp only
      rw [e2]
      rfl
    · rcases List.mem_cons.mp m with rfl | m
      · exact z
      · exact z2 y m
theorem comp_map {G : Gam} {cs : Nat → D} {own : List (Str × Nat)} {elt : E} {tg : Tg} {it : I} {cd : O} {r : Rho} {t : Tw} {xs : List D} (g : D → D) (hi : evI G cs it r t = .ok xs t) (hl : okLen xs.length = true) (h : ∀ d ∈ xs, turnE tg (own.map (·.2)) (evO G cs cd) (ev G cs elt) r d t = .ok (some (g d)) t) : ev G cs (.comp own elt tg it cd) r t = .ok (.lst (xs.map g)) t := by
  rw [ev_comp]
  unfold compE
  rw [hi, Res.bind_ok, hl, if_pos rfl, compL_map g xs h]
  rfl
theorem comp_inv {G : Gam} {cs : Nat → D} {own : List (Str × Nat)} {elt : E} {tg : Tg} {it : I} {cd : O} {r : Rho} {t t1 : Tw} {xs : List D} {n : Nat} (I : Nat → Tw → Prop) (Z : D → Prop) (hi : evI G cs it r t = .ok xs t1) (hl : okLen xs.length = true) (h0 : I (n + xs.length) t1)
    (h : ∀ d ∈ xs, ∀ n t, I (n + 1) t → ∃ x t', turnE tg (own.map (·.2)) (evO G cs cd) (ev G cs elt) r d t = .ok (some x) t' ∧ Z x ∧ I n t') : ∃ ys t', ev G cs (.comp own elt tg it cd) r t = .ok (.lst ys) t' ∧ ys.length = xs.length ∧ (∀ y ∈ ys, Z y) ∧ I n t' := by
  obtain ⟨ys, t', e, q⟩ := compL_inv I Z xs t1 n h0 h
  refine ⟨ys, t', ?_, q⟩
  rw [ev_comp]
  unfold compE
  rw [hi, Res.bind_ok, hl, if_pos rfl, e]
  rfl
theorem bls_map : ∀ (xs : List D) (g : D → Bool), bls (xs.map fun d => .bl (g d)) = some (xs.map g)
  | [], _ => rfl
  | x :: xs, g => by simp [bls, bls_map xs g]
theorem x_all {xs : List D} {g : D → Bool} : blt1 .all (.lst (xs.map fun d => .bl (g d))) = some (.bl (xs.all g)) := by
  simp [blt1, bls_map]
/-! ### sizes -/
theorem log2_lt' {n k : Nat} (h : n < 2 ^ k) (hk : 0 < k) : n.log2 < k := by
  by_cases z : n = 0
  · subst z
    simpa using hk
  · exact (Nat.log2_lt z).mpr h
theorem okMul_of {i j : Int} {k l : Nat} (h1 : i.natAbs < 2 ^ k) (h2 : j.natAbs < 2 ^ l) (hk : 0 < k) (hl : 0 < l) (h : k + l ≤ 1000000) : okMul i j = true := by
  have := log2_lt' h1 hk
  have := log2_lt' h2 hl
  simp only [okMul, decide_eq_true_eq]
  omega
theorem okDiv_of {j : Int} {k : Nat} (h0 : j ≠ 0) (h1 : j.natAbs < 2 ^ k) (hk : 0 < k) (h : k ≤ 9000) : okDiv j = true := by
  have := log2_lt' h1 hk
  simp only [okDiv, Bool.and_eq_true, decide_eq_true_eq]
  omega
theorem fmod_rng {i m : Int} (h : 0 < m) : 0 ≤ i.fmod m ∧ i.fmod m < m := ⟨Int.fmod_nonneg_of_pos _ h, Int.fmod_lt_of_pos _ h⟩
/-! ### draws -/
def goodT (t : Tw) : Prop := 0 ≤ t.count ∧ t.rests.length ≤ t.count.toNat
/-- n draws may be made -/
def rm (n : Nat) (t : Tw) : Prop := goodT t ∧ t.count + n ≤ 900000
theorem rm.le {n m : Nat} {t : Tw} (h : rm n t) (l : m ≤ n) : rm m t := ⟨h.1, by have := h.2; omega⟩
def drawB : Ss := .cons (.tcnt 1 (.bin .Add (.tcount 1) (.cst (.int 1)))) (.cons (.asg (.name 3) (.ite (.var 0) (.bin .Mod (.tcount 1) (.blt .len (.var 0))) (.cst (.int 0)))) (.cons (.asg (.name 4) (.tget 1 (.var 3) (.ite (.var 0) (.ix (.var 0) (.var 3)) (.cst (.int 0))))) (.cons (.ite (.cmp .GtE (.var 4) (.bin .Pow (.cst (.int 10)) (.cst (.int 18)))) (.cons (.trst 1 (.var 3) (.bin .FloorDiv (.var 4) (.var 2))) (.cons (.ret (.bin .Mod (.var 4) (.var 2))) .nil)) .nil) (.cons (.asg (.name 5) (.bin .Mod (.bin .Add (.var 4) (.bin .Mult (.cst (.int 104729)) (.tcount 1))) (.cst (.int 4294967291)))) (.cons (.asg (.name 5) (.bin .Mod (.bin .Pow (.var 5) (.cst (.int 5))) (.cst (.int 4294967279)))) (.cons (.ret (.bin .Mod (.bin .FloorDiv (.bin .Mod (.bin .Add (.bin .Mult (.bin .FloorDiv (.var 5) (.cst (.int 64))) (.cst (.int 69621))) (.var 5)) (.cst (.int 4294967231))) (.cst (.int 8))) (.var 2))) .nil))))))
theorem draw_tail {G : Gam} {cs : Nat → D} {sc : D} {m at_ rest : Int} {t : Tw} {n : Nat} (hm : 0 < m) (hm2 : m < 1048576) (h : goodT t) (hc : t.count + n ≤ 900000) (hr : t.rests.length < t.count.toNat) :
    ∃ v t', retD (evSs G cs (.cons (.ite (.cmp .GtE (.var 4) (.bin .Pow (.cst (.int 10)) (.cst (.int 18)))) (.cons (.trst 1 (.var 3) (.bin .FloorDiv (.var 4) (.var 2))) (.cons (.ret (.bin .Mod (.var 4) (.var 2))) .nil)) .nil) (.cons (.asg (.name 5) (.bin .Mod (.bin .Add (.var 4) (.bin .Mult (.cst (.int 104729)) (.tcount 1))) (.cst (.int 4294967291)))) (.cons (.asg (.name 5) (.bin .Mod (.bin .Pow (.var 5) (.cst (.int 5))) (.cst (.int 4294967279)))) (.cons (.ret (.bin .Mod (.bin .FloorDiv (.bin .Mod (.bin .Add (.bin .Mult (.bin .FloorDiv (.var 5) (.cst (.int 64))) (.cst (.int 69621))) (.var 5)) (.cst (.int 4294967231))) (.cst (.int 8))) (.var 2))) .nil)))) [.val sc, .val .tok, .val (.int m), .val (.int at_), .val (.int rest), .un] t) = .ok (.int v) t' ∧ 0 ≤ v ∧ v < m ∧ rm n t' := by
  obtain ⟨g1, g2⟩ := h
  have p1 : okPow 10 18 = true := by decide
  have e18 : (10 : Int) ^ (18 : Int).toNat = 1000000000000000000 := by decide
  have d1 : okDiv m = true := okDiv_of (k := 20) (by omega) (by omega) (by omega) (by omega)
  have m0 : m ≠ 0 := by omega
  have l1 : t.rests.length < 1000000 := by omega
  have c1 : t.count.natAbs < 2 ^ 20 := by omega
  have k1 : okMul 104729 t.count = true := okMul_of (k := 17) (l := 20) (by decide) c1 (by omega) (by omega) (by omega)
  by_cases hb : 1000000000000000000 ≤ rest
  · refine ⟨rest.fmod m, { t with rests := putT t.rests at_ (rest.fdiv m) }, ?_, (fmod_rng hm).1, (fmod_rng hm).2, ⟨g1, ?_⟩, hc⟩
    · simp [p1, e18, hb, d1, m0, l1]
    · have := putT_len t.rests at_ (rest.fdiv m)
      show (putT t.rests at_ (rest.fdiv m)).length ≤ t.count.toNat
      omega
  · have q1 := fmod_rng (i := rest + 104729 * t.count) (m := 4294967291) (by omega)
    generalize hn1 : (rest + 104729 * t.count).fmod 4294967291 = n1 at q1
    have p2 : okPow n1 5 = true := by
      simp only [okPow, Bool.and_eq_true, decide_eq_true_eq]
      refine ⟨⟨by omega, by omega⟩, ?_⟩
      have : (2 : Nat) ^ 64 = 18446744073709551616 := by decide
      omega
    have q2 := fmod_rng (i := n1 ^ (5 : Int).toNat) (m := 4294967279) (by omega)
    generalize hn2 : (n1 ^ (5 : Int).toNat).fmod 4294967279 = n2 at q2
    have q3 : 0 ≤ n2.fdiv 64 ∧ n2.fdiv 64 < 2 ^ 32 := by
      rw [Int.fdiv_eq_ediv_of_nonneg _ (by omega)]
      omega
    have k2 : okMul (n2.fdiv 64) 69621 = true := okMul_of (k := 32) (l := 17) (by omega) (by decide) (by omega) (by omega) (by omega)
    have d2 : okDiv 64 = true := okDiv_of (k := 20) (by omega) (by omega) (by omega) (by omega)
    have d3 : okDiv 8 = true := okDiv_of (k := 20) (by omega) (by omega) (by omega) (by omega)
    refine ⟨(((n2.fdiv 64 * 69621 + n2).fmod 4294967231).fdiv 8).fmod m, t, ?_, (fmod_rng hm).1, (fmod_rng hm).2, ⟨g1, g2⟩, hc⟩
    · simp [p1, e18, hb, d1, m0, l1, k1, hn1, p2, hn2, k2, d2, d3]
      simp at hn2
      simp [hn2, k2, d3, m0]
theorem draw_ev {G : Gam} {cs : Nat → D} {ns : List Int} {m : Int} {t : Tw} {n : Nat} (hm : 0 < m) (hm2 : m < 1048576) (h : rm (n + 1) t) :
    ∃ v t', retD (evSs G cs drawB [.val (.scr ns), .val .tok, .val (.int m), .un, .un, .un] t) = .ok (.int v) t' ∧ 0 ≤ v ∧ v < m ∧ rm n t' := by
  obtain ⟨⟨g1, g2⟩, g3⟩ := h
  have G' : goodT { t with count := t.count + 1 } := ⟨by show 0 ≤ t.count + 1; omega, by show t.rests.length ≤ (t.count + 1).toNat; omega⟩
  have c' : t.count + 1 + n ≤ 900000 := by omega
  have r' : t.rests.length < (t.count + 1).toNat := by omega
  cases ns with
  | nil =>
    obtain ⟨v, t', e, q⟩ := draw_tail (G := G) (cs := cs) (sc := .scr []) (at_ := 0) (rest := (lkT t.rests 0).getD 0) (t := { t with count := t.count + 1 }) hm hm2 G' c' r'
    refine ⟨v, t', ?_, q⟩
    rw [← e]
    unfold drawB
    rw [x_evSs_cons]
    simp [truD]
  | cons a as =>
    have q := fmod_rng (i := t.count + 1) (m := ((a :: as).length : Int)) (by simp)
    generalize hk : (t.count + 1).fmod ((a :: as).length : Int) = k at q
    obtain ⟨w, ew⟩ : ∃ w, L2.atI (a :: as) k = some w := by
      unfold L2.atI L2.ixN
      rw [if_pos q.1, if_pos q.2]
      exact ⟨_, List.getElem?_eq_getElem (by omega)⟩
    obtain ⟨v, t', e, q2⟩ := draw_tail (G := G) (cs := cs) (sc := .scr (a :: as)) (at_ := k) (rest := (lkT t.rests k).getD w) (t := { t with count := t.count + 1 }) hm hm2 G' c' r'
    refine ⟨v, t', ?_, q2⟩
    rw [← e]
    unfold drawB
    have nz : ((a :: as).length : Int) ≠ 0 := by simp; omega
    rw [x_evSs_cons]
    simp only [List.length_cons, Int.natCast_add, Int.natCast_one] at hk nz
    simp [truD, blt1, lenD, hk, ixD, ew, nz]
end Fm

namespace k21
open PySem PySem.Spec PyProof.Rows L2 Fm
def top (i : Nat) : Stmt := PySem.Challenge.pw_formclear_k21_no_formulas.main.body.getD i (.Pass ⟨0, 0, 0, 0⟩)
def b_is_whole : Ss := (.cons (.ite (.or (.not (.isa (.var 0) .int)) (.isa (.var 0) .bool)) (.cons (.ret (.cst (.bl false))) .nil) .nil) (.cons (.ret (.or (.cmp .Is (.var 1) (.cst .non)) (.cmp .GtE (.var 0) (.var 1)))) .nil))
def f_is_whole : Fd := ⟨["thing", "least"], ["thing", "least"], b_is_whole⟩
def b_greatest : Ss := (.cons (.par [0, 1] (.cons (.blt .abs (.var 0)) (.cons (.blt .abs (.var 1)) .nil))) (.cons (.while (.cmp .Gt (.var 1) (.cst (.int 0))) (.cons (.par [0, 1] (.cons (.var 1) (.cons (.bin .Mod (.var 0) (.var 1)) .nil))) .nil)) (.cons (.ret (.var 0)) .nil)))
def f_greatest : Fd := ⟨["one", "other"], ["one", "other"], b_greatest⟩
def b_is_fraction : Ss := (.cons (.ite (.or (.not (.isa (.var 0) .tuple)) (.or (.cmp .NotEq (.blt .len (.var 0)) (.cst (.int 2))) (.or (.not (.call 0 (.cons (.ix (.var 0) (.cst (.int 0))) .nil) .nil)) (.not (.call 1 (.cons (.ix (.var 0) (.cst (.int 1))) .nil) (.cons (.cst (.int 1)) .nil)))))) (.cons (.ret (.cst (.bl false))) .nil) .nil) (.cons (.ret (.cmp .Eq (.call 2 (.cons (.ix (.var 0) (.cst (.int 0))) (.cons (.ix (.var 0) (.cst (.int 1))) .nil)) .nil) (.cst (.int 1)))) .nil))
def f_is_fraction : Fd := ⟨["thing"], ["thing"], b_is_fraction⟩
def b_is_name : Ss := (.cons (.ret (.and (.isa (.var 0) .str) (.and (.chain .LtE .LtE (.cst (.int 1)) (.blt .len (.var 0)) (.cst (.int 8))) (.blt .all (.comp [("mark", 1)] (.cmp .In (.var 1) (.glob 0)) (.name 1) (.val (.var 0)) .none))))) .nil)
def f_is_name : Fd := ⟨["thing"], ["thing", "mark"], b_is_name⟩
def b_is_formula : Ss := (.cons (.ite (.or (.not (.isa (.var 0) .tuple)) (.or (.cmp .Eq (.var 0) (.tup .nil)) (.not (.isa (.ix (.var 0) (.cst (.int 0))) .str)))) (.cons (.ret (.cst (.bl false))) .nil) .nil) (.cons (.star 1 2 (.var 0)) (.cons (.ite (.cmp .In (.var 1) (.tup (.cons (.cst (.str "num")) (.cons (.cst (.str "name")) .nil)))) (.cons (.ret (.and (.cmp .Eq (.blt .len (.var 2)) (.cst (.int 1))) (.ite (.cmp .Eq (.var 1) (.cst (.str "num"))) (.call 3 (.cons (.ix (.var 2) (.cst (.int 0))) .nil) .nil) (.call 4 (.cons (.ix (.var 2) (.cst (.int 0))) .nil) .nil)))) .nil) .nil) (.cons (.ite (.cmp .In (.var 1) (.glob 1)) (.cons (.ite (.or (.cmp .NotEq (.blt .len (.var 2)) (.cst (.int 1))) (.or (.not (.isa (.ix (.var 2) (.cst (.int 0))) .tuple)) (.cmp .Lt (.blt .len (.ix (.var 2) (.cst (.int 0)))) (.cst (.int 2))))) (.cons (.ret (.cst (.bl false))) .nil) .nil) (.cons (.ret (.blt .all (.comp [("part", 3)] (.call 5 (.cons (.var 3) .nil) .nil) (.name 3) (.val (.ix (.var 2) (.cst (.int 0)))) .none))) .nil)) .nil) (.cons (.ite (.cmp .Eq (.var 1) (.cst (.str "pow"))) (.cons (.ret (.and (.cmp .Eq (.blt .len (.var 2)) (.cst (.int 2))) (.and (.call 5 (.cons (.ix (.var 2) (.cst (.int 0))) .nil) .nil) (.call 1 (.cons (.ix (.var 2) (.cst (.int 1))) .nil) (.cons (.cst (.int 0)) .nil))))) .nil) .nil) (.cons (.asg (.name 4) (.get (.dsp [("div", (.int 2)), ("abs", (.int 1)), ("root", (.int 1))]) (.var 1) (.neg (.cst (.int 1))))) (.cons (.ret (.and (.cmp .Eq (.blt .len (.var 2)) (.var 4)) (.blt .all (.comp [("part", 3)] (.call 5 (.cons (.var 3) .nil) .nil) (.name 3) (.val (.var 2)) .none)))) .nil)))))))
def f_is_formula : Fd := ⟨["thing"], ["thing", "word", "rest", "part", "size"], b_is_formula⟩
def b_parts_of : Ss := (.cons (.star 1 2 (.var 0)) (.cons (.ite (.cmp .In (.var 1) (.tup (.cons (.cst (.str "num")) (.cons (.cst (.str "name")) .nil)))) (.cons (.ret (.tup .nil)) .nil) .nil) (.cons (.ite (.cmp .In (.var 1) (.glob 1)) (.cons (.ret (.ix (.var 2) (.cst (.int 0)))) .nil) .nil) (.cons (.ret (.ite (.cmp .Eq (.var 1) (.cst (.str "pow"))) (.tup (.cons (.ix (.var 2) (.cst (.int 0))) .nil)) (.blt .tuple (.var 2)))) .nil))))
def f_parts_of : Fd := ⟨["formula"], ["formula", "word", "rest"], b_parts_of⟩
def b_with_parts : Ss := (.cons (.star 2 3 (.var 0)) (.cons (.ite (.cmp .In (.var 2) (.tup (.cons (.cst (.str "num")) (.cons (.cst (.str "name")) .nil)))) (.cons (.ret (.var 0)) .nil) .nil) (.cons (.ite (.cmp .In (.var 2) (.glob 1)) (.cons (.ret (.tup (.cons (.var 2) (.cons (.var 1) .nil)))) .nil) .nil) (.cons (.ret (.ite (.cmp .Eq (.var 2) (.cst (.str "pow"))) (.tup (.cons (.var 2) (.cons (.ix (.var 1) (.cst (.int 0))) (.cons (.ix (.var 3) (.cst (.int 1))) .nil)))) (.bin .Add (.tup (.cons (.var 2) .nil)) (.var 1)))) .nil))))
def f_with_parts : Fd := ⟨["formula", "parts"], ["formula", "parts", "word", "rest"], b_with_parts⟩
def b_part_at : Ss := (.cons (.for (.name 2) (.val (.var 1)) (.cons (.asg (.name 3) (.call 6 (.cons (.var 0) .nil) .nil)) (.cons (.ite (.or (.not (.call 1 (.cons (.var 2) .nil) (.cons (.cst (.int 0)) .nil))) (.cmp .GtE (.var 2) (.blt .len (.var 3)))) (.cons (.raise 0 "no such path") .nil) .nil) (.cons (.asg (.name 0) (.ix (.var 3) (.var 2))) .nil)))) (.cons (.ret (.var 0)) .nil))
def f_part_at : Fd := ⟨["formula", "path"], ["formula", "path", "step", "some"], b_part_at⟩
def b_with_part : Ss := (.cons (.exp (.call 7 (.cons (.var 0) (.cons (.var 1) .nil)) .nil)) (.cons (.ite (.cmp .Eq (.var 1) (.tup .nil)) (.cons (.ret (.var 2)) .nil) .nil) (.cons (.new 3 (.blt .list (.call 6 (.cons (.var 0) .nil) .nil))) (.cons (.putL 3 (.ix (.var 1) (.cst (.int 0))) (.call 8 (.cons (.ix (.bor 3) (.ix (.var 1) (.cst (.int 0)))) (.cons (.cut (.var 1) (.some (.cst (.int 1))) .none) (.cons (.var 2) .nil))) .nil)) (.cons (.ret (.call 9 (.cons (.var 0) (.cons (.blt .tuple (.bor 3)) .nil)) .nil)) .nil)))))
def f_with_part : Fd := ⟨["formula", "path", "other"], ["formula", "path", "other", "some"], b_with_part⟩
def b__law_is : Ss := (.cons (.ret (.and (.isa (.var 0) .bool) (.cmp .Eq (.var 0) (.var 1)))) .nil)
def f__law_is : Fd := ⟨["told", "due"], ["told", "due"], b__law_is⟩
def b__law_draw : Ss := (.cons (.tcnt 1 (.bin .Add (.tcount 1) (.cst (.int 1)))) (.cons (.asg (.name 3) (.ite (.var 0) (.bin .Mod (.tcount 1) (.blt .len (.var 0))) (.cst (.int 0)))) (.cons (.asg (.name 4) (.tget 1 (.var 3) (.ite (.var 0) (.ix (.var 0) (.var 3)) (.cst (.int 0))))) (.cons (.ite (.cmp .GtE (.var 4) (.bin .Pow (.cst (.int 10)) (.cst (.int 18)))) (.cons (.trst 1 (.var 3) (.bin .FloorDiv (.var 4) (.var 2))) (.cons (.ret (.bin .Mod (.var 4) (.var 2))) .nil)) .nil) (.cons (.asg (.name 5) (.bin .Mod (.bin .Add (.var 4) (.bin .Mult (.cst (.int 104729)) (.tcount 1))) (.cst (.int 4294967291)))) (.cons (.asg (.name 5) (.bin .Mod (.bin .Pow (.var 5) (.cst (.int 5))) (.cst (.int 4294967279)))) (.cons (.ret (.bin .Mod (.bin .FloorDiv (.bin .Mod (.bin .Add (.bin .Mult (.bin .FloorDiv (.var 5) (.cst (.int 64))) (.cst (.int 69621))) (.var 5)) (.cst (.int 4294967231))) (.cst (.int 8))) (.var 2))) .nil)))))))
def f__law_draw : Fd := ⟨["script", "town", "many"], ["script", "town", "many", "at", "rest", "number"], b__law_draw⟩
def b__law_frac : Ss := (.cons (.par [2, 3] (.cons (.blt .abs (.var 0)) (.cons (.blt .abs (.var 1)) .nil))) (.cons (.while (.cmp .Gt (.var 3) (.cst (.int 0))) (.cons (.par [2, 3] (.cons (.var 3) (.cons (.bin .Mod (.var 2) (.var 3)) .nil))) .nil)) (.cons (.asg (.name 2) (.ite (.cmp .Gt (.var 1) (.cst (.int 0))) (.var 2) (.bin .Sub (.cst (.int 0)) (.var 2)))) (.cons (.ret (.tup (.cons (.bin .FloorDiv (.var 0) (.var 2)) (.cons (.bin .FloorDiv (.var 1) (.var 2)) .nil)))) .nil))))
def f__law_frac : Fd := ⟨["top", "bottom"], ["top", "bottom", "one", "other"], b__law_frac⟩
def b__law_a_frac : Ss := (.cons (.ret (.call 10 (.cons (.bin .Sub (.call 11 (.cons (.var 0) (.cons (.var 1) (.cons (.bin .Add (.bin .Mult (.cst (.int 2)) (.var 2)) (.cst (.int 1))) .nil))) .nil) (.var 2)) (.cons (.bin .Add (.cst (.int 1)) (.call 11 (.cons (.var 0) (.cons (.var 1) (.cons (.cst (.int 3)) .nil))) .nil)) .nil)) .nil)) .nil)
def f__law_a_frac : Fd := ⟨["script", "town", "size"], ["script", "town", "size"], b__law_a_frac⟩
def b__law_a_formula : Ss := (.cons (.ite (.or (.cmp .Eq (.var 2) (.cst (.int 0))) (.cmp .Eq (.call 11 (.cons (.var 0) (.cons (.var 1) (.cons (.cst (.int 5)) .nil))) .nil) (.cst (.int 0)))) (.cons (.asg (.name 4) (.call 11 (.cons (.var 0) (.cons (.var 1) (.cons (.cst (.int 3)) .nil))) .nil)) (.cons (.ite (.cmp .Eq (.var 4) (.cst (.int 0))) (.cons (.ret (.tup (.cons (.cst (.str "num")) (.cons (.call 12 (.cons (.var 0) (.cons (.var 1) (.cons (.cst (.int 4)) .nil))) .nil) .nil)))) .nil) .nil) (.cons (.ret (.tup (.cons (.cst (.str "name")) (.cons (.ix (.cst (.str "xy")) (.bin .Sub (.var 4) (.cst (.int 1)))) .nil)))) .nil))) .nil) (.cons (.asg (.name 5) (.ix (.var 3) (.call 11 (.cons (.var 0) (.cons (.var 1) (.cons (.blt .len (.var 3)) .nil))) .nil))) (.cons (.ite (.cmp .In (.var 5) (.tup (.cons (.cst (.str "add")) (.cons (.cst (.str "mul")) .nil)))) (.cons (.asg (.name 6) (.bin .Add (.cst (.int 2)) (.call 11 (.cons (.var 0) (.cons (.var 1) (.cons (.cst (.int 2)) .nil))) .nil))) (.cons (.ret (.tup (.cons (.var 5) (.cons (.blt .tuple (.comp [("k", 7)] (.call 13 (.cons (.var 0) (.cons (.var 1) (.cons (.bin .Sub (.var 2) (.cst (.int 1))) (.cons (.var 3) .nil)))) .nil) (.name 7) (.rng1 (.var 6)) .none)) .nil)))) .nil)) .nil) (.cons (.asg (.name 8) (.call 13 (.cons (.var 0) (.cons (.var 1) (.cons (.bin .Sub (.var 2) (.cst (.int 1))) (.cons (.var 3) .nil)))) .nil)) (.cons (.ite (.cmp .Eq (.var 5) (.cst (.str "pow"))) (.cons (.ret (.tup (.cons (.cst (.str "pow")) (.cons (.var 8) (.cons (.call 11 (.cons (.var 0) (.cons (.var 1) (.cons (.cst (.int 4)) .nil))) .nil) .nil))))) .nil) .nil) (.cons (.ite (.cmp .Eq (.var 5) (.cst (.str "div"))) (.cons (.ret (.tup (.cons (.cst (.str "div")) (.cons (.var 8) (.cons (.call 13 (.cons (.var 0) (.cons (.var 1) (.cons (.bin .Sub (.var 2) (.cst (.int 1))) (.cons (.var 3) .nil)))) .nil) .nil))))) .nil) .nil) (.cons (.ret (.tup (.cons (.var 5) (.cons (.var 8) .nil)))) .nil)))))))
def f__law_a_formula : Fd := ⟨["script", "town", "deep", "words"], ["script", "town", "deep", "words", "turn", "word", "size", "k", "one"], b__law_a_formula⟩
def b_law : Ss := (.cons (.asg (.tup (.cons (.name 2) (.cons (.name 3) .nil))) (.tup (.cons (.tup (.cons (.cst (.str "num")) (.cons (.tup (.cons (.cst (.int 1)) (.cons (.cst (.int 1)) .nil))) .nil))) (.cons (.tup (.cons (.cst (.str "name")) (.cons (.cst (.str "x")) .nil))) .nil)))) (.cons (.asg (.name 4) (.lst (.cons (.cst .non) (.cons (.cst (.int 3)) (.cons (.cst (.str "x")) (.cons (.tup .nil) (.cons (.tup (.cons (.cst (.str "num")) .nil)) (.cons (.tup (.cons (.cst (.str "num")) (.cons (.cst (.int 3)) .nil))) (.cons (.tup (.cons (.cst (.str "num")) (.cons (.tup (.cons (.cst (.int 2)) (.cons (.cst (.int 4)) .nil))) .nil))) (.cons (.tup (.cons (.cst (.str "num")) (.cons (.tup (.cons (.cst (.int 1)) (.cons (.cst (.int 0)) .nil))) .nil))) (.cons (.tup (.cons (.cst (.str "num")) (.cons (.tup (.cons (.cst (.int 1)) (.cons (.cst (.int 1)) .nil))) (.cons (.cst (.int 2)) .nil)))) (.cons (.tup (.cons (.var 3) .nil)) .nil)))))))))))) (.cons (.asg (.name 4) (.cat (.var 4) (.lst (.cons (.tup (.cons (.cst (.str "name")) (.cons (.cst (.str "X")) .nil))) (.cons (.tup (.cons (.cst (.str "name")) (.cons (.cst (.int 3)) .nil))) (.cons (.tup (.cons (.cst (.str "name")) (.cons (.cst (.str "")) .nil))) (.cons (.tup (.cons (.cst (.str "name")) (.cons (.cst (.str "abcdefghi")) .nil))) (.cons (.tup (.cons (.cst (.str "add")) (.cons (.tup (.cons (.var 3) .nil)) .nil))) (.cons (.tup (.cons (.cst (.str "add")) (.cons (.tup .nil) .nil))) .nil))))))))) (.cons (.asg (.name 4) (.cat (.var 4) (.lst (.cons (.tup (.cons (.cst (.str "add")) (.cons (.var 3) (.cons (.var 3) .nil)))) (.cons (.tup (.cons (.cst (.str "mul")) (.cons (.lst (.cons (.var 3) (.cons (.var 3) .nil))) .nil))) (.cons (.tup (.cons (.cst (.str "mul")) (.cons (.tup (.cons (.var 3) (.cons (.cst (.int 3)) .nil))) .nil))) (.cons (.tup (.cons (.cst (.str "pow")) (.cons (.var 3) .nil))) (.cons (.tup (.cons (.cst (.str "pow")) (.cons (.var 3) (.cons (.neg (.cst (.int 1))) .nil)))) (.cons (.tup (.cons (.cst (.str "pow")) (.cons (.var 3) (.cons (.cst (.bl true)) .nil)))) .nil))))))))) (.cons (.asg (.name 4) (.cat (.var 4) (.lst (.cons (.tup (.cons (.cst (.str "pow")) (.cons (.var 3) (.cons (.var 3) .nil)))) (.cons (.tup (.cons (.cst (.str "div")) (.cons (.var 3) .nil))) (.cons (.tup (.cons (.cst (.str "div")) (.cons (.var 3) (.cons (.var 3) (.cons (.var 3) .nil))))) (.cons (.tup (.cons (.cst (.str "div")) (.cons (.var 3) (.cons (.cst (.int 2)) .nil)))) (.cons (.tup (.cons (.cst (.str "abs")) .nil)) (.cons (.tup (.cons (.cst (.str "abs")) (.cons (.var 3) (.cons (.var 3) .nil)))) (.cons (.tup (.cons (.cst (.str "abs")) (.cons (.cst .non) .nil))) .nil)))))))))) (.cons (.asg (.name 4) (.cat (.var 4) (.lst (.cons (.tup (.cons (.cst (.str "root")) (.cons (.cst (.int 4)) .nil))) (.cons (.tup (.cons (.cst (.str "sum")) (.cons (.tup (.cons (.var 3) (.cons (.var 3) .nil))) .nil))) (.cons (.lst (.cons (.tup (.cons (.cst (.str "name")) (.cons (.cst (.str "x")) .nil))) .nil)) (.cons (.tup (.cons (.cst (.str "num")) (.cons (.tup (.cons (.cst (.bl true)) (.cons (.cst (.int 1)) .nil))) .nil))) .nil))))))) (.cons (.for (.name 5) (.val (.var 4)) (.cons (.ite (.not (.call 14 (.cons (.call 5 (.cons (.var 5) .nil) .nil) (.cons (.cst (.bl false)) .nil)) .nil)) (.cons (.ret (.cst (.bl false))) .nil) .nil) (.cons (.ite (.call 5 (.cons (.tup (.cons (.cst (.str "abs")) (.cons (.var 5) .nil))) .nil) .nil) (.cons (.ret (.cst (.bl false))) .nil) .nil) (.cons (.ite (.call 5 (.cons (.tup (.cons (.cst (.str "add")) (.cons (.tup (.cons (.var 3) (.cons (.var 5) (.cons (.var 2) .nil)))) .nil))) .nil) .nil) (.cons (.ret (.cst (.bl false))) .nil) .nil) (.cons (.ite (.or (.call 5 (.cons (.tup (.cons (.cst (.str "pow")) (.cons (.var 5) (.cons (.cst (.int 2)) .nil)))) .nil) .nil) (.call 5 (.cons (.tup (.cons (.cst (.str "div")) (.cons (.var 2) (.cons (.var 5) .nil)))) .nil) .nil)) (.cons (.ret (.cst (.bl false))) .nil) .nil) .nil))))) (.cons (.for (.name 6) (.rng1 (.cst (.int 4))) (.cons (.asg (.name 7) (.call 13 (.cons (.var 0) (.cons (.var 1) (.cons (.cst (.int 3)) (.cons (.lst (.cons (.cst (.str "add")) (.cons (.cst (.str "mul")) (.cons (.cst (.str "pow")) (.cons (.cst (.str "div")) (.cons (.cst (.str "abs")) (.cons (.cst (.str "root")) .nil))))))) .nil)))) .nil)) (.cons (.ite (.or (.not (.call 14 (.cons (.call 5 (.cons (.var 7) .nil) .nil) (.cons (.cst (.bl true)) .nil)) .nil)) (.or (.call 5 (.cons (.blt .list (.var 7)) .nil) .nil) (.call 5 (.cons (.tup (.cons (.var 7) .nil)) .nil) .nil))) (.cons (.ret (.cst (.bl false))) .nil) .nil) (.cons (.ite (.or (.not (.call 5 (.cons (.call 8 (.cons (.var 7) (.cons (.tup .nil) (.cons (.var 3) .nil))) .nil) .nil) .nil)) (.call 5 (.cons (.ix (.var 4) (.call 11 (.cons (.var 0) (.cons (.var 1) (.cons (.blt .len (.var 4)) .nil))) .nil)) .nil) .nil)) (.cons (.ret (.cst (.bl false))) .nil) .nil) .nil)))) (.cons (.ret (.and (.call 5 (.cons (.tup (.cons (.cst (.str "pow")) (.cons (.tup (.cons (.cst (.str "root")) (.cons (.var 3) .nil))) (.cons (.cst (.int 0)) .nil)))) .nil) .nil) (.call 5 (.cons (.tup (.cons (.cst (.str "div")) (.cons (.var 2) (.cons (.tup (.cons (.cst (.str "abs")) (.cons (.tup (.cons (.cst (.str "mul")) (.cons (.tup (.cons (.var 3) (.cons (.var 3) (.cons (.var 2) .nil)))) .nil))) .nil))) .nil)))) .nil) .nil))) .nil)))))))))
def n_law : List Str := ["script", "town", "one", "x", "odd", "thing", "k", "some"]
def s0 : Sh := ⟨"is_whole", 1, [], [.non], 0⟩
def s1 : Sh := ⟨"is_whole", 1, ["least"], [], 0⟩
def s2 : Sh := ⟨"greatest", 2, [], [], 1⟩
def s3 : Sh := ⟨"is_fraction", 1, [], [], 2⟩
def s4 : Sh := ⟨"is_name", 1, [], [], 3⟩
def s5 : Sh := ⟨"is_formula", 1, [], [], 4⟩
def s6 : Sh := ⟨"parts_of", 1, [], [], 5⟩
def s7 : Sh := ⟨"part_at", 2, [], [], 7⟩
def s8 : Sh := ⟨"with_part", 3, [], [], 8⟩
def s9 : Sh := ⟨"with_parts", 2, [], [], 6⟩
def s10 : Sh := ⟨"_law_frac", 2, [], [], 11⟩
def s11 : Sh := ⟨"_law_draw", 3, [], [], 10⟩
def s12 : Sh := ⟨"_law_a_frac", 3, [], [], 12⟩
def s13 : Sh := ⟨"_law_a_formula", 4, [], [], 13⟩
def s14 : Sh := ⟨"_law_is", 2, [], [], 9⟩
def shs : List Sh := [s0, s1, s2, s3, s4, s5, s6, s7, s8, s9, s10, s11, s12, s13, s14]
def exs : List Str := ["NoPath"]
def cst : List (Str × D) := [("LETTERS", (D.str "abcdefghijklmnopqrstuvwxyz")), ("MANY", (D.tup [(D.str "add"), (D.str "mul")]))]
def fs : List Fd := [f_is_whole, f_greatest, f_is_fraction, f_is_name, f_is_formula, f_parts_of, f_with_parts, f_part_at, f_with_part, f__law_is, f__law_draw, f__law_frac, f__law_a_frac, f__law_a_formula]
abbrev tb : Tb := ⟨shs, cst.map (·.1), exs⟩
abbrev p : Pg := ⟨tb, fs.map .df, csOf cst⟩
def d_is_whole : He.DefD := ⟨("is_whole", none), "is_whole", "is_whole", defArgs (top 4), defBody (top 4), defScope (top 4), [], [("least", .non)]⟩
def d_greatest : He.DefD := ⟨("greatest", none), "greatest", "greatest", defArgs (top 5), defBody (top 5), defScope (top 5), [], []⟩
def d_is_fraction : He.DefD := ⟨("is_fraction", none), "is_fraction", "is_fraction", defArgs (top 6), defBody (top 6), defScope (top 6), [], []⟩
def d_is_name : He.DefD := ⟨("is_name", none), "is_name", "is_name", defArgs (top 9), defBody (top 9), defScope (top 9), [], []⟩
def d_is_formula : He.DefD := ⟨("is_formula", none), "is_formula", "is_formula", defArgs (top 12), defBody (top 12), defScope (top 12), [], []⟩
def d_parts_of : He.DefD := ⟨("parts_of", none), "parts_of", "parts_of", defArgs (top 13), defBody (top 13), defScope (top 13), [], []⟩
def d_with_parts : He.DefD := ⟨("with_parts", none), "with_parts", "with_parts", defArgs (top 14), defBody (top 14), defScope (top 14), [], []⟩
def d_part_at : He.DefD := ⟨("part_at", none), "part_at", "part_at", defArgs (top 15), defBody (top 15), defScope (top 15), [], []⟩
def d_with_part : He.DefD := ⟨("with_part", none), "with_part", "with_part", defArgs (top 16), defBody (top 16), defScope (top 16), [], []⟩
def d__law_is : He.DefD := ⟨("_law_is", none), "_law_is", "_law_is", defArgs (top 18), defBody (top 18), defScope (top 18), [], []⟩
def d__law_draw : He.DefD := ⟨("_law_draw", none), "_law_draw", "_law_draw", defArgs (top 19), defBody (top 19), defScope (top 19), [], []⟩
def d__law_frac : He.DefD := ⟨("_law_frac", none), "_law_frac", "_law_frac", defArgs (top 21), defBody (top 21), defScope (top 21), [], []⟩
def d__law_a_frac : He.DefD := ⟨("_law_a_frac", none), "_law_a_frac", "_law_a_frac", defArgs (top 22), defBody (top 22), defScope (top 22), [], []⟩
def d__law_a_formula : He.DefD := ⟨("_law_a_formula", none), "_law_a_formula", "_law_a_formula", defArgs (top 23), defBody (top 23), defScope (top 23), [], []⟩
def d__law_begun : He.DefD := ⟨("_law_begun", none), "_law_begun", "_law_begun", defArgs (top 20), defBody (top 20), defScope (top 20), [], []⟩
def d_law : He.DefD := ⟨("law", none), "law", "law", defArgs (top 24), defBody (top 24), defScope (top 24), [], []⟩
def fn : List He.DefD := [d_is_whole, d_greatest, d_is_fraction, d_is_name, d_is_formula, d_parts_of, d_with_parts, d_part_at, d_with_part, d__law_is, d__law_draw, d__law_frac, d__law_a_frac, d__law_a_formula, d__law_begun, d_law]
abbrev fa : List He.Fa := faOf fn exs
theorem chk : okDefs tb fs fn = true := by decide +kernel
theorem chkL : okLaw tb n_law b_law d_law d__law_begun = true := by decide +kernel
theorem bn0 {K : PySem.W.Frag} {mg : Str → Option Value} {fd : FuncData} (F : FunD K d_is_whole.name d_is_whole.qual d_is_whole.params d_is_whole.body d_is_whole.scope (d_is_whole.dvs K) (d_is_whole.kws K) (He.fAd K d_is_whole.at_) fd) (g : mg "is_whole" = some (.ref (He.fAd K d_is_whole.at_))) : Bnd K mg s0 (He.fAd K d_is_whole.at_) fd ["thing", "least"] := by
  refine ⟨g, F.kp, rfl, fun _ => ?_, fun z => absurd rfl z⟩
  exact FunD.binds0 (ps := ["thing", "least"]) F 1 (by simp [He.DefD.kws, d_is_whole]) rfl fun D doc pm an cdv ct us ks h1 h2 => match us, ks, h1, h2 with | [_], [_], _, _ => ⟨_, _, _, _, _, _, rfl, rfl, rfl⟩
theorem bn1 {K : PySem.W.Frag} {mg : Str → Option Value} {fd : FuncData} (F : FunD K d_is_whole.name d_is_whole.qual d_is_whole.params d_is_whole.body d_is_whole.scope (d_is_whole.dvs K) (d_is_whole.kws K) (He.fAd K d_is_whole.at_) fd) (g : mg "is_whole" = some (.ref (He.fAd K d_is_whole.at_))) : Bnd K mg s1 (He.fAd K d_is_whole.at_) fd ["thing", "least"] := by
  refine ⟨g, F.kp, rfl, fun z => absurd z (by decide), fun _ => ?_⟩
  obtain ⟨mv, h⟩ := FunD.kbinds0 (ps := ["thing", "least"]) F 1 ["least"] [] (fun vs _ zs => vs ++ zs ++ []) (by simp [He.DefD.kws, d_is_whole]) (fun q hq => by cases hq) (fun r1 _ r3 => (r1.append r3).append .nil) fun D doc pm an cdv ct us mv ws h1 h2 h3 => match us, mv, ws, h1, h2, h3 with | [_], [], [_], _, _, _ => (by show bindArgs _ _ = pure _; rfl)
  exact ⟨_, h⟩
theorem bn2 {K : PySem.W.Frag} {mg : Str → Option Value} {fd : FuncData} (F : FunD K d_greatest.name d_greatest.qual d_greatest.params d_greatest.body d_greatest.scope (d_greatest.dvs K) (d_greatest.kws K) (He.fAd K d_greatest.at_) fd) (g : mg "greatest" = some (.ref (He.fAd K d_greatest.at_))) : Bnd K mg s2 (He.fAd K d_greatest.at_) fd ["one", "other"] := by
  exact ⟨g, F.kp, rfl, fun _ => ⟨[], .nil, FunD.bindsN (ps := ["one", "other"]) F fun _ _ _ _ _ _ us hl => match us, hl with | [_, _], _ => rfl⟩, fun z => absurd rfl z⟩
theorem bn3 {K : PySem.W.Frag} {mg : Str → Option Value} {fd : FuncData} (F : FunD K d_is_fraction.name d_is_fraction.qual d_is_fraction.params d_is_fraction.body d_is_fraction.scope (d_is_fraction.dvs K) (d_is_fraction.kws K) (He.fAd K d_is_fraction.at_) fd) (g : mg "is_fraction" = some (.ref (He.fAd K d_is_fraction.at_))) : Bnd K mg s3 (He.fAd K d_is_fraction.at_) fd ["thing"] := by
  exact ⟨g, F.kp, rfl, fun _ => ⟨[], .nil, FunD.bindsN (ps := ["thing"]) F fun _ _ _ _ _ _ us hl => match us, hl with | [_], _ => rfl⟩, fun z => absurd rfl z⟩
theorem bn4 {K : PySem.W.Frag} {mg : Str → Option Value} {fd : FuncData} (F : FunD K d_is_name.name d_is_name.qual d_is_name.params d_is_name.body d_is_name.scope (d_is_name.dvs K) (d_is_name.kws K) (He.fAd K d_is_name.at_) fd) (g : mg "is_name" = some (.ref (He.fAd K d_is_name.at_))) : Bnd K mg s4 (He.fAd K d_is_name.at_) fd ["thing"] := by
  exact ⟨g, F.kp, rfl, fun _ => ⟨[], .nil, FunD.bindsN (ps := ["thing"]) F fun _ _ _ _ _ _ us hl => match us, hl with | [_], _ => rfl⟩, fun z => absurd rfl z⟩
theorem bn5 {K : PySem.W.Frag} {mg : Str → Option Value} {fd : FuncData} (F : FunD K d_is_formula.name d_is_formula.qual d_is_formula.params d_is_formula.body d_is_formula.scope (d_is_formula.dvs K) (d_is_formula.kws K) (He.fAd K d_is_formula.at_) fd) (g : mg "is_formula" = some (.ref (He.fAd K d_is_formula.at_))) : Bnd K mg s5 (He.fAd K d_is_formula.at_) fd ["thing"] := by
  exact ⟨g, F.kp, rfl, fun _ => ⟨[], .nil, FunD.bindsN (ps := ["thing"]) F fun _ _ _ _ _ _ us hl => match us, hl with | [_], _ => rfl⟩, fun z => absurd rfl z⟩
theorem bn6 {K : PySem.W.Frag} {mg : Str → Option Value} {fd : FuncData} (F : FunD K d_parts_of.name d_parts_of.qual d_parts_of.params d_parts_of.body d_parts_of.scope (d_parts_of.dvs K) (d_parts_of.kws K) (He.fAd K d_parts_of.at_) fd) (g : mg "parts_of" = some (.ref (He.fAd K d_parts_of.at_))) : Bnd K mg s6 (He.fAd K d_parts_of.at_) fd ["formula"] := by
  exact ⟨g, F.kp, rfl, fun _ => ⟨[], .nil, FunD.bindsN (ps := ["formula"]) F fun _ _ _ _ _ _ us hl => match us, hl with | [_], _ => rfl⟩, fun z => absurd rfl z⟩
theorem bn7 {K : PySem.W.Frag} {mg : Str → Option Value} {fd : FuncData} (F : FunD K d_part_at.name d_part_at.qual d_part_at.params d_part_at.body d_part_at.scope (d_part_at.dvs K) (d_part_at.kws K) (He.fAd K d_part_at.at_) fd) (g : mg "part_at" = some (.ref (He.fAd K d_part_at.at_))) : Bnd K mg s7 (He.fAd K d_part_at.at_) fd ["formula", "path"] := by
  exact ⟨g, F.kp, rfl, fun _ => ⟨[], .nil, FunD.bindsN (ps := ["formula", "path"]) F fun _ _ _ _ _ _ us hl => match us, hl with | [_, _], _ => rfl⟩, fun z => absurd rfl z⟩
theorem bn8 {K : PySem.W.Frag} {mg : Str → Option Value} {fd : FuncData} (F : FunD K d_with_part.name d_with_part.qual d_with_part.params d_with_part.body d_with_part.scope (d_with_part.dvs K) (d_with_part.kws K) (He.fAd K d_with_part.at_) fd) (g : mg "with_part" = some (.ref (He.fAd K d_with_part.at_))) : Bnd K mg s8 (He.fAd K d_with_part.at_) fd ["formula", "path", "other"] := by
  exact ⟨g, F.kp, rfl, fun _ => ⟨[], .nil, FunD.bindsN (ps := ["formula", "path", "other"]) F fun _ _ _ _ _ _ us hl => match us, hl with | [_, _, _], _ => rfl⟩, fun z => absurd rfl z⟩
theorem bn9 {K : PySem.W.Frag} {mg : Str → Option Value} {fd : FuncData} (F : FunD K d_with_parts.name d_with_parts.qual d_with_parts.params d_with_parts.body d_with_parts.scope (d_with_parts.dvs K) (d_with_parts.kws K) (He.fAd K d_with_parts.at_) fd) (g : mg "with_parts" = some (.ref (He.fAd K d_with_parts.at_))) : Bnd K mg s9 (He.fAd K d_with_parts.at_) fd ["formula", "parts"] := by
  exact ⟨g, F.kp, rfl, fun _ => ⟨[], .nil, FunD.bindsN (ps := ["formula", "parts"]) F fun _ _ _ _ _ _ us hl => match us, hl with | [_, _], _ => rfl⟩, fun z => absurd rfl z⟩
theorem bn10 {K : PySem.W.Frag} {mg : Str → Option Value} {fd : FuncData} (F : FunD K d__law_frac.name d__law_frac.qual d__law_frac.params d__law_frac.body d__law_frac.scope (d__law_frac.dvs K) (d__law_frac.kws K) (He.fAd K d__law_frac.at_) fd) (g : mg "_law_frac" = some (.ref (He.fAd K d__law_frac.at_))) : Bnd K mg s10 (He.fAd K d__law_frac.at_) fd ["top", "bottom"] := by
  exact ⟨g, F.kp, rfl, fun _ => ⟨[], .nil, FunD.bindsN (ps := ["top", "bottom"]) F fun _ _ _ _ _ _ us hl => match us, hl with | [_, _], _ => rfl⟩, fun z => absurd rfl z⟩
theorem bn11 {K : PySem.W.Frag} {mg : Str → Option Value} {fd : FuncData} (F : FunD K d__law_draw.name d__law_draw.qual d__law_draw.params d__law_draw.body d__law_draw.scope (d__law_draw.dvs K) (d__law_draw.kws K) (He.fAd K d__law_draw.at_) fd) (g : mg "_law_draw" = some (.ref (He.fAd K d__law_draw.at_))) : Bnd K mg s11 (He.fAd K d__law_draw.at_) fd ["script", "town", "many"] := by
  exact ⟨g, F.kp, rfl, fun _ => ⟨[], .nil, FunD.bindsN (ps := ["script", "town", "many"]) F fun _ _ _ _ _ _ us hl => match us, hl with | [_, _, _], _ => rfl⟩, fun z => absurd rfl z⟩
theorem bn12 {K : PySem.W.Frag} {mg : Str → Option Value} {fd : FuncData} (F : FunD K d__law_a_frac.name d__law_a_frac.qual d__law_a_frac.params d__law_a_frac.body d__law_a_frac.scope (d__law_a_frac.dvs K) (d__law_a_frac.kws K) (He.fAd K d__law_a_frac.at_) fd) (g : mg "_law_a_frac" = some (.ref (He.fAd K d__law_a_frac.at_))) : Bnd K mg s12 (He.fAd K d__law_a_frac.at_) fd ["script", "town", "size"] := by
  exact ⟨g, F.kp, rfl, fun _ => ⟨[], .nil, FunD.bindsN (ps := ["script", "town", "size"]) F fun _ _ _ _ _ _ us hl => match us, hl with | [_, _, _], _ => rfl⟩, fun z => absurd rfl z⟩
theorem bn13 {K : PySem.W.Frag} {mg : Str → Option Value} {fd : FuncData} (F : FunD K d__law_a_formula.name d__law_a_formula.qual d__law_a_formula.params d__law_a_formula.body d__law_a_formula.scope (d__law_a_formula.dvs K) (d__law_a_formula.kws K) (He.fAd K d__law_a_formula.at_) fd) (g : mg "_law_a_formula" = some (.ref (He.fAd K d__law_a_formula.at_))) : Bnd K mg s13 (He.fAd K d__law_a_formula.at_) fd ["script", "town", "deep", "words"] := by
  exact ⟨g, F.kp, rfl, fun _ => ⟨[], .nil, FunD.bindsN (ps := ["script", "town", "deep", "words"]) F fun _ _ _ _ _ _ us hl => match us, hl with | [_, _, _, _], _ => rfl⟩, fun z => absurd rfl z⟩
theorem bn14 {K : PySem.W.Frag} {mg : Str → Option Value} {fd : FuncData} (F : FunD K d__law_is.name d__law_is.qual d__law_is.params d__law_is.body d__law_is.scope (d__law_is.dvs K) (d__law_is.kws K) (He.fAd K d__law_is.at_) fd) (g : mg "_law_is" = some (.ref (He.fAd K d__law_is.at_))) : Bnd K mg s14 (He.fAd K d__law_is.at_) fd ["told", "due"] := by
  exact ⟨g, F.kp, rfl, fun _ => ⟨[], .nil, FunD.bindsN (ps := ["told", "due"]) F fun _ _ _ _ _ _ us hl => match us, hl with | [_, _], _ => rfl⟩, fun z => absurd rfl z⟩
@[simp] theorem g0 {ns : List Int} {k : Nat} (xs ys : List D) (t : Tw) : gam p ns k 0 xs ys t = callF p ns k 0 (xs ++ ys ++ [D.non]) t := gam_at (sh := s0) rfl xs ys t
@[simp] theorem g1 {ns : List Int} {k : Nat} (xs ys : List D) (t : Tw) : gam p ns k 1 xs ys t = callF p ns k 0 (xs ++ ys ++ []) t := gam_at (sh := s1) rfl xs ys t
@[simp] theorem g2 {ns : List Int} {k : Nat} (xs ys : List D) (t : Tw) : gam p ns k 2 xs ys t = callF p ns k 1 (xs ++ ys ++ []) t := gam_at (sh := s2) rfl xs ys t
@[simp] theorem g3 {ns : List Int} {k : Nat} (xs ys : List D) (t : Tw) : gam p ns k 3 xs ys t = callF p ns k 2 (xs ++ ys ++ []) t := gam_at (sh := s3) rfl xs ys t
@[simp] theorem g4 {ns : List Int} {k : Nat} (xs ys : List D) (t : Tw) : gam p ns k 4 xs ys t = callF p ns k 3 (xs ++ ys ++ []) t := gam_at (sh := s4) rfl xs ys t
@[simp] theorem g5 {ns : List Int} {k : Nat} (xs ys : List D) (t : Tw) : gam p ns k 5 xs ys t = callF p ns k 4 (xs ++ ys ++ []) t := gam_at (sh := s5) rfl xs ys t
@[simp] theorem g6 {ns : List Int} {k : Nat} (xs ys : List D) (t : Tw) : gam p ns k 6 xs ys t = callF p ns k 5 (xs ++ ys ++ []) t := gam_at (sh := s6) rfl xs ys t
@[simp] theorem g7 {ns : List Int} {k : Nat} (xs ys : List D) (t : Tw) : gam p ns k 7 xs ys t = callF p ns k 7 (xs ++ ys ++ []) t := gam_at (sh := s7) rfl xs ys t
@[simp] theorem g8 {ns : List Int} {k : Nat} (xs ys : List D) (t : Tw) : gam p ns k 8 xs ys t = callF p ns k 8 (xs ++ ys ++ []) t := gam_at (sh := s8) rfl xs ys t
@[simp] theorem g9 {ns : List Int} {k : Nat} (xs ys : List D) (t : Tw) : gam p ns k 9 xs ys t = callF p ns k 6 (xs ++ ys ++ []) t := gam_at (sh := s9) rfl xs ys t
@[simp] theorem g10 {ns : List Int} {k : Nat} (xs ys : List D) (t : Tw) : gam p ns k 10 xs ys t = callF p ns k 11 (xs ++ ys ++ []) t := gam_at (sh := s10) rfl xs ys t
@[simp] theorem g11 {ns : List Int} {k : Nat} (xs ys : List D) (t : Tw) : gam p ns k 11 xs ys t = callF p ns k 10 (xs ++ ys ++ []) t := gam_at (sh := s11) rfl xs ys t
@[simp] theorem g12 {ns : List Int} {k : Nat} (xs ys : List D) (t : Tw) : gam p ns k 12 xs ys t = callF p ns k 12 (xs ++ ys ++ []) t := gam_at (sh := s12) rfl xs ys t
@[simp] theorem g13 {ns : List Int} {k : Nat} (xs ys : List D) (t : Tw) : gam p ns k 13 xs ys t = callF p ns k 13 (xs ++ ys ++ []) t := gam_at (sh := s13) rfl xs ys t
@[simp] theorem g14 {ns : List Int} {k : Nat} (xs ys : List D) (t : Tw) : gam p ns k 14 xs ys t = callF p ns k 9 (xs ++ ys ++ []) t := gam_at (sh := s14) rfl xs ys t
theorem so : ShOk p fn := by
  refine ⟨fun K mg ffd hf hg j sh e => ?_⟩
  match j, e with
  | 0, e =>
    cases e
    exact ⟨.df f_is_whole, rfl, bn0 (hf 0 d_is_whole rfl) (hg 0 d_is_whole rfl)⟩
  | 1, e =>
    cases e
    exact ⟨.df f_is_whole, rfl, bn1 (hf 0 d_is_whole rfl) (hg 0 d_is_whole rfl)⟩
  | 2, e =>
    cases e
    exact ⟨.df f_greatest, rfl, bn2 (hf 1 d_greatest rfl) (hg 1 d_greatest rfl)⟩
  | 3, e =>
    cases e
    exact ⟨.df f_is_fraction, rfl, bn3 (hf 2 d_is_fraction rfl) (hg 2 d_is_fraction rfl)⟩
  | 4, e =>
    cases e
    exact ⟨.df f_is_name, rfl, bn4 (hf 3 d_is_name rfl) (hg 3 d_is_name rfl)⟩
  | 5, e =>
    cases e
    exact ⟨.df f_is_formula, rfl, bn5 (hf 4 d_is_formula rfl) (hg 4 d_is_formula rfl)⟩
  | 6, e =>
    cases e
    exact ⟨.df f_parts_of, rfl, bn6 (hf 5 d_parts_of rfl) (hg 5 d_parts_of rfl)⟩
  | 7, e =>
    cases e
    exact ⟨.df f_part_at, rfl, bn7 (hf 7 d_part_at rfl) (hg 7 d_part_at rfl)⟩
  | 8, e =>
    cases e
    exact ⟨.df f_with_part, rfl, bn8 (hf 8 d_with_part rfl) (hg 8 d_with_part rfl)⟩
  | 9, e =>
    cases e
    exact ⟨.df f_with_parts, rfl, bn9 (hf 6 d_with_parts rfl) (hg 6 d_with_parts rfl)⟩
  | 10, e =>
    cases e
    exact ⟨.df f__law_frac, rfl, bn10 (hf 11 d__law_frac rfl) (hg 11 d__law_frac rfl)⟩
  | 11, e =>
    cases e
    exact ⟨.df f__law_draw, rfl, bn11 (hf 10 d__law_draw rfl) (hg 10 d__law_draw rfl)⟩
  | 12, e =>
    cases e
    exact ⟨.df f__law_a_frac, rfl, bn12 (hf 12 d__law_a_frac rfl) (hg 12 d__law_a_frac rfl)⟩
  | 13, e =>
    cases e
    exact ⟨.df f__law_a_formula, rfl, bn13 (hf 13 d__law_a_formula rfl) (hg 13 d__law_a_formula rfl)⟩
  | 14, e =>
    cases e
    exact ⟨.df f__law_is, rfl, bn14 (hf 9 d__law_is rfl) (hg 9 d__law_is rfl)⟩
  | n + 15, e => simp [shs] at e
abbrev R : PySem.W.OpenRow := PySem.W.OpenLaw.row PySem.Challenge.rw_formclear_k21_no_formulas
abbrev hk : PySem.W.Hook := hookC 6 fa fn cst
def ob (s : PySem.W.SharedT) : AlC := obsCG 6 fa fn cst (HandSHeadRun.getT s)
def loose : List Str := ["FormError", "NoPath", "is_whole", "greatest", "is_fraction", "LETTERS", "is_name", "MANY", "is_formula", "parts_of", "with_parts", "part_at", "with_part", "_law_is", "_law_draw", "_law_begun", "_law_frac", "_law_a_frac", "_law_a_formula"]
theorem ob_eq (s : PySem.W.SharedT) : ob s = hk.obs s.abs := obsCG_eq (HandSHeadRun.getT_eq s)
theorem run (w : World) : HandSHeadRun.RunEq R (PySem.W.view R.prog [24]) hk ob 4000 loose w := by
  intro os
  kernel_rfl
theorem fin (k : Nat) (hk1 : 1 ≤ k) (hk2 : k + 1 ≤ 230) (hev : ∀ ns : List Int, ns.length ≤ 63 → ∃ r t, evSs (gam p ns k) (csOf cst) b_law (startL n_law ns) ⟨0, []⟩ = .ok (.ret (.bl true), r) t) : PySem.Challenge.rw_formclear_k21_no_formulas.Holds := by
  open PySem PySem.W PySem.Calls in
  w_on; o_law
  refine HandSHeadRun.head_any (r := R) (q := view R.prog [24]) (H := hk) (ob := ob) (M := 4000) (loose := loose) (d := HandSHeadRun.topDef R.prog 24) (kwd := []) ob_eq
    (by kernel_rfl) (fun s => by kernel_rfl) run (by kernel_rfl) (by kernel_rfl) (by kernel_rfl) (by rfl) (by first | assumption | decide +kernel) (by decide +kernel) ⟨rfl, rfl, rfl, rfl, rfl, by decide +kernel⟩ ?hw ?hc
  case hw => w_witness2
  case hc =>
    refine walkC (l := PySem.Challenge.rw_formclear_k21_no_formulas) (n := 63) (k := k + 1) (x := "script") rfl (by decide) (by kernel_rfl) ((show Room 230 callerA from ⟨rfl, by decide, by decide⟩).mono hk2) ?F
    intro w mg f h Y G hmg0
    obtain ⟨K, KX, c⟩ := Y
    have hmg : mg ("law" : PySem.Str) = some (.ref f) := by
      have e : (HandSHeadRun.topDef R.prog 24).name = ("law" : PySem.Str) := by kernel_rfl
      rw [← e]
      exact hmg0
    obtain ⟨fd, hb, hF⟩ := lawFacts (P := (PySem.Challenge.rw_formclear_k21_no_formulas).prog) (w := w) KX G c chk so (iL := 15) (iB := 14) (dL := d_law) (dB := d__law_begun) rfl rfl (d0 := fn.headD d_law) rfl chkL hmg (fun _ _ _ _ _ _ us hl => match us, hl with | [_], _ => rfl) (fun _ _ _ _ _ _ us hl => match us, hl with | [], _ => rfl) hk1 hev
    exact ⟨K, fd, spLaw K, KX, hb, fun H a ns hl _ hS => ⟨a, ns, rfl, hl, hS, fun _ => rfl⟩, hF⟩
end k21

namespace k21
open PySem Fm
section
variable {ns : List Int} {t : Tw} {k : Nat}
theorem up1 (h : 1 ≤ k) : ∃ j, k = j + 1 := ⟨k - 1, by omega⟩
def isW : D → Bool
  | .int _ => true
  | _ => false
/-- data with no town, no script at the top -/
def pla : D → Bool
  | .tok => false
  | .scr _ => false
  | _ => true
theorem e_is_whole (hk : 1 ≤ k) (x : D) (h : pla x = true) : callF p ns k 0 [x, .non] t = .ok (.bl (isW x)) t := by
  obtain ⟨k, rfl⟩ := up1 hk
  rw [callF_df (f := f_is_whole) rfl]
  cases x <;> first | (cases h; done) | simp [f_is_whole, b_is_whole, isW]
def isWL (l : Int) : D → Bool
  | .int i => decide (l ≤ i)
  | _ => false
theorem e_is_wholeL (hk : 1 ≤ k) (x : D) (l : Int) (h : pla x = true) : callF p ns k 0 [x, .int l] t = .ok (.bl (isWL l x)) t := by
  obtain ⟨k, rfl⟩ := up1 hk
  rw [callF_df (f := f_is_whole) rfl]
  cases x <;> first | (cases h; done) | simp [f_is_whole, b_is_whole, isWL]
theorem e_law_is (hk : 1 ≤ k) (a b : Bool) : callF p ns k 9 [.bl a, .bl b] t = .ok (.bl (a == b)) t := by
  obtain ⟨k, rfl⟩ := up1 hk
  rw [callF_df (f := f__law_is) rfl]
  simp [f__law_is, b__law_is]
theorem gcd_mod (a b : Int) : Int.gcd b (a % b) = Int.gcd a b := by
  have h := Int.gcd_add_mul_left_right b (a % b) (a / b)
  rw [Int.emod_add_mul_ediv] at h
  rw [← h, Int.gcd_comm]
/-- one, other = other, one % other, while there is an other -/
theorem gr_loop {c : Rho → Tw → Res D} {f : Rho → Tw → Res (Fl × Rho)} (mk : Int → Int → Rho) (hc : ∀ a b : Int, c (mk a b) t = .ok (.bl (decide (0 < b))) t)
    (hf : ∀ a b : Int, 0 < b → f (mk a b) t = .ok (.nx, mk b (a.fmod b)) t) :
    ∀ (n : Nat) (a b : Int), 0 ≤ a → 0 ≤ b → b.toNat ≤ n → loopW c f (mk a b) t = .ok (.nx, mk (Int.gcd a b) 0) t := by
  intro n
  induction n with
  | zero =>
    intro a b ha hb hn
    obtain rfl : b = 0 := by omega
    rw [loopW_eq, hc]
    have : (a.natAbs : Int) = a := by omega
    simp [this]
  | succ n ih =>
    intro a b ha hb hn
    rw [loopW_eq, hc]
    by_cases h : 0 < b
    · simp [h, hf a b h]
      have h1 := fmod_rng (i := a) h
      rw [ih b (a.fmod b) hb h1.1 (by omega)]
      have : Int.gcd b (a.fmod b) = Int.gcd a b := by
        rw [Int.fmod_eq_emod_of_nonneg a hb]
        exact gcd_mod a b
      rw [this]
    · obtain rfl : b = 0 := by omega
      have : (a.natAbs : Int) = a := by omega
      simp [this]
theorem abs_ite (a : Int) : (if a < 0 then -a else a) = (a.natAbs : Int) := by
  split <;> omega
theorem e_greatest (hk : 1 ≤ k) (a b : Int) : callF p ns k 1 [.int a, .int b] t = .ok (.int (Int.gcd a b)) t := by
  obtain ⟨k, rfl⟩ := up1 hk
  rw [callF_df (f := f_greatest) rfl]
  simp [f_greatest, b_greatest, abs_ite]
  have hl := gr_loop (t := t) (c := ev (gam p ns k) (csOf cst) (.cmp .Gt (.var 1) (.cst (.int 0)))) (f := evSs (gam p ns k) (csOf cst) (.cons (.par [0, 1] (.cons (.var 1) (.cons (.bin .Mod (.var 0) (.var 1)) .nil))) .nil)) (fun a b => [.val (.int a), .val (.int b)]) (fun a b => by simp) (fun a b h => by
    have : b ≠ 0 := by omega
    simp [this]) b.natAbs a.natAbs b.natAbs (by omega) (by omega) (by omega)
  rw [hl]
  simp [Int.gcd]
mutual
/-- good data -/
def gd : D → Bool
  | .non => true
  | .bl _ => true
  | .int _ => true
  | .str x => PyData.strOk x && decide (x.length ≤ 1000)
  | .tup xs => decide (xs.length ≤ 1000) && gds xs
  | .lst xs => decide (xs.length ≤ 1000) && gds xs
  | _ => false
def gds : List D → Bool
  | [] => true
  | x :: xs => gd x && gds xs
end
theorem gd_pla {x : D} (h : gd x = true) : pla x = true := by
  cases x <;> first | rfl | (simp [gd] at h)
mutual
theorem gd_lay : ∀ {x : D}, gd x = true → lay x = true
  | .non, _ => by simp [lay, D.py, PyData.canLay0]
  | .bl _, _ => by simp [lay, D.py, PyData.canLay0]
  | .int _, _ => by simp [lay, D.py, PyData.canLay0]
  | .str x, h => by
    simp [gd] at h
    simp [h.1]
  | .tup xs, h => by
    simp only [gd, Bool.and_eq_true] at h
    have := gds_lay h.2
    simp [lay, D.py, PyData.canLay0, this]
  | .lst xs, h => by
    simp only [gd, Bool.and_eq_true] at h
    have := gds_lay h.2
    simp [lay, D.py, PyData.canLay0, this]
  | .dct _, h => by simp [gd] at h
  | .tok, h => by simp [gd] at h
  | .scr _, h => by simp [gd] at h
theorem gds_lay : ∀ {xs : List D}, gds xs = true → PyData.canLayAll0 (pys xs) = true
  | [], _ => by simp [pys, PyData.canLayAll0]
  | x :: xs, h => by
    simp only [gds, Bool.and_eq_true] at h
    have h1 := gd_lay h.1
    have h2 := gds_lay h.2
    unfold lay at h1
    simp [pys, PyData.canLayAll0, h1, h2]
end
theorem gds_mem : ∀ {xs : List D}, gds xs = true → ∀ x ∈ xs, gd x = true
  | [], _, _, m => (List.not_mem_nil m).elim
  | x :: xs, h, y, m => by
    simp only [gds, Bool.and_eq_true] at h
    rcases List.mem_cons.mp m with rfl | m
    · exact h.1
    · exact gds_mem h.2 y m
theorem dep_mem : ∀ {xs : List D} {x : D}, x ∈ xs → dep x ≤ PyData.depthAll (pys xs)
  | [], _, m => (List.not_mem_nil m).elim
  | y :: ys, x, m => by
    simp only [pys, PyData.depthAll]
    rcases List.mem_cons.mp m with rfl | m
    · exact Nat.le_max_left ..
    · exact Nat.le_trans (dep_mem m) (Nat.le_max_right ..)
theorem dep_tup {xs : List D} : dep (.tup xs) = PyData.depthAll (pys xs) + 1 := by
  simp [dep, D.py, PyData.depth]
def isFr : D → Bool
  | .tup [.int a, .int b] => decide (1 ≤ b) && (Int.gcd a b == 1)
  | _ => false
@[simp] theorem at0 {α : Type} (x : α) (xs : List α) : L2.atI (x :: xs) 0 = some x := by
  simp [L2.atI, L2.ixN]
@[simp] theorem at1 {α : Type} (x y : α) (xs : List α) : L2.atI (x :: y :: xs) 1 = some y := by
  unfold L2.atI L2.ixN
  rw [if_pos (by omega), if_pos (by simp only [List.length_cons]; omega)]
  rfl
theorem e_is_fraction (hk : 2 ≤ k) (x : D) (h : gd x = true) : callF p ns k 2 [x] t = .ok (.bl (isFr x)) t := by
  obtain ⟨k, rfl⟩ := up1 (show 1 ≤ k by omega)
  have hk : 1 ≤ k := by omega
  rw [callF_df (f := f_is_fraction) rfl]
  cases x with
  | tup xs =>
    match xs, h with
    | [], _ => simp [f_is_fraction, b_is_fraction, isFr]
    | [a], _ => simp [f_is_fraction, b_is_fraction, isFr]
    | [a, b], h =>
      simp only [gd, gds, Bool.and_eq_true] at h
      have ha := e_is_whole (ns := ns) (t := t) hk a (gd_pla h.2.1)
      have hb := e_is_wholeL (ns := ns) (t := t) hk b 1 (gd_pla h.2.2.1)
      simp [f_is_fraction, b_is_fraction, ha, hb]
      cases a <;> simp [isW, isFr]
      cases b <;> simp [isWL, isFr]
      rename_i a b
      by_cases hb : 1 ≤ b
      · have : ¬ b < 1 := by omega
        simp [hb, this, e_greatest hk]
        rw [Bool.eq_iff_iff]
        simp
        try omega
      · simp [hb]
    | a :: b :: c :: r, _ =>
      have : ((r.length : Int) + 1 + 1 + 1 == 2) = false := by
        simp
        omega
      simp [f_is_fraction, b_is_fraction, isFr, this]
  | _ => first | (simp [gd] at h; done) | simp [f_is_fraction, b_is_fraction, isFr]
def letters : List Nat := (("abcdefghijklmnopqrstuvwxyz" : Str).cps).toList
def isNm : D → Bool
  | .str x => decide (1 ≤ x.length) && (decide (x.length ≤ 8) && x.cps.toList.all fun c => decide (c ∈ letters))
  | _ => false
theorem okLen_of {n : Nat} (h : n ≤ 1000) : okLen n = true := by
  simp only [okLen, decide_eq_true_eq]
  omega
theorem in_one (c : Nat) : inB (.str ⟨#[c]⟩) (csOf cst 0) = some (decide (c ∈ letters)) := rfl
theorem strD_len (x : Str) : (strD x).length = x.length := by
  simp [strD, Str.length]
theorem e_is_name (hk : 1 ≤ k) (x : D) (h : gd x = true) : callF p ns k 3 [x] t = .ok (.bl (isNm x)) t := by
  obtain ⟨k, rfl⟩ := up1 hk
  rw [callF_df (f := f_is_name) rfl]
  cases x with
  | str x =>
    simp only [gd, Bool.and_eq_true, decide_eq_true_eq] at h
    have ol := okLen_of h.2
    have oc := okLen_of (show (strD x).length ≤ 1000 by rw [strD_len]; exact h.2)
    simp [f_is_name, b_is_name, ol]
    by_cases h1 : 1 ≤ x.length
    · have h1' : (1 : Int) ≤ x.length := by omega
      by_cases h2 : x.length ≤ 8
      · have h2' : (x.length : Int) ≤ 8 := by omega
        have hc := comp_map (G := gam p ns k) (cs := csOf cst) (own := [("mark", 1)]) (elt := .cmp .In (.var 1) (.glob 0)) (tg := .name 1) (it := .val (.var 0)) (cd := .none) (r := [.val (.str x), .un]) (t := t) (xs := strD x) (fun d => .bl (match d with
          | .str z => decide (z.cps.getD 0 0 ∈ letters)
          | _ => false)) (by simp) oc (fun d m => by
            obtain ⟨c, _, rfl⟩ := List.mem_map.mp m
            simp [in_one])
        simp [h1', h2', oc, hc, x_all]
        simp [isNm, h1, h2, strD, List.all_map, Function.comp_def]
      · have h2' : ¬ (x.length : Int) ≤ 8 := by omega
        simp [h1', h2', isNm, h2]
    · have h1' : ¬ (1 : Int) ≤ x.length := by omega
      simp [h1', isNm, h1]
  | _ => first | (simp [gd] at h; done) | simp [f_is_name, b_is_name, isNm]
end
end k21

namespace k21
open PySem Fm
section
variable {ns : List Int} {t : Tw} {k : Nat}
def fR (F : D → Bool) (b1 b2 b3 b4 : Bool) (z : Int) (ys : List D) : Bool :=
  if b1 then (match ys with
    | [a] => if b3 then isFr a else isNm a
    | _ => false)
  else if b2 then (match ys with
    | [.tup ps] => decide (2 ≤ ps.length) && ps.all F
    | _ => false)
  else if b4 then (match ys with
    | [a, e] => F a && isWL 0 e
    | _ => false)
  else decide ((ys.length : Int) = z) && ys.all F
def fG (F : D → Bool) (d : D) : Bool := match d with
  | .tup (.str w :: ys) => fR F (decide (w = "num") || decide (w = "name")) (decide (w = "add") || decide (w = "mul")) (decide (w = "num")) (decide (w = "pow")) (if w = "div" then 2 else if w = "abs" ∨ w = "root" then 1 else -1) ys
  | _ => false
def fm : Nat → D → Bool
  | 0, _ => false
  | k + 1, d => fG (fm k) d
theorem in_nn (w : Str) (h : PyData.strOk w = true) : inB (.str w) (.tup [.str "num", .str "name"]) = some (decide (w = "num") || decide (w = "name")) := by
  have := x_ins (x := w) h (ys := ["num", "name"]) (by decide +kernel)
  rw [List.map_cons, List.map_cons, List.map_nil] at this
  rw [this]
  simp [Bool.beq_eq_decide_eq, eq_comm]
theorem in_am (w : Str) (h : PyData.strOk w = true) : inB (.str w) (csOf cst 1) = some (decide (w = "add") || decide (w = "mul")) := by
  have := x_ins (x := w) h (ys := ["add", "mul"]) (by decide +kernel)
  rw [List.map_cons, List.map_cons, List.map_nil] at this
  show inB (.str w) (.tup [.str "add", .str "mul"]) = _
  rw [this]
  simp [Bool.beq_eq_decide_eq, eq_comm]
theorem eq_w (w v : Str) (h : PyData.strOk w = true) (h2 : PyData.strOk v = true) : eqOp (.str w) (.str v) = some (.bl (decide (w = v))) := by
  rw [x_eqs h h2]
  simp [Bool.beq_eq_decide_eq]
theorem look_w (w : Str) : (lookD (mergeD [] [("div", .int 2), ("abs", .int 1), ("root", .int 1)]) (.inr w)).getD (.int (-1)) = .int (if w = "div" then 2 else if w = "abs" ∨ w = "root" then 1 else -1) := by
  have e : mergeD [] [(("div" : Str), D.int 2), ("abs", .int 1), ("root", .int 1)] = [(.inr "div", .int 2), (.inr "abs", .int 1), (.inr "root", .int 1)] := by rfl
  rw [e]
  unfold lookD
  by_cases h1 : w = "div"
  · subst h1
    rfl
  · by_cases h2 : w = "abs"
    · subst h2
      rfl
    · by_cases h3 : w = "root"
      · subst h3
        rfl
      · simp [List.find?_cons, h1, h2, h3, Ne.symm h1, Ne.symm h2, Ne.symm h3]
/-- the parts, one by one -/
theorem parts_all (own : List (Str × Nat)) {r : Rho} {it : I} {xs : List D} (ho : own.map (·.2) = [3]) (hr : 3 < r.length) (hi : evI (gam p ns k) (csOf cst) it r t = .ok xs t) (hl : xs.length ≤ 1000) (ih : ∀ x ∈ xs, callF p ns k 4 [x] t = .ok (.bl (fm k x)) t) :
    ev (gam p ns k) (csOf cst) (.comp own (.call 5 (.cons (.var 3) .nil) .nil) (.name 3) it .none) r t = .ok (.lst (xs.map fun x => .bl (fm k x))) t := by
  refine comp_map (fun x => .bl (fm k x)) hi (okLen_of hl) fun d m => ?_
  rw [ho]
  simp [hr, ih d m]
theorem body_ev {w : Str} {ys : List D} (hk2 : 2 ≤ k) (hl : ys.length ≤ 999) (gm : ∀ y ∈ ys, gd y = true) (ihp : ∀ y ∈ ys, callF p ns k 4 [y] t = .ok (.bl (fm k y)) t) (ihq : ∀ ps, ys = [.tup ps] → ∀ y ∈ ps, callF p ns k 4 [y] t = .ok (.bl (fm k y)) t) {b1 b2 b3 b4 : Bool} {z : Int}
    (e0 : eqOp (.tup (.str w :: ys)) (.tup []) = some (.bl false)) (i1 : inB (.str w) (.tup [.str "num", .str "name"]) = some b1) (i2 : inB (.str w) (csOf cst 1) = some b2) (i3 : eqOp (.str w) (.str "num") = some (.bl b3)) (i4 : eqOp (.str w) (.str "pow") = some (.bl b4))
    (i5 : (lookD (mergeD [] [("div", .int 2), ("abs", .int 1), ("root", .int 1)]) (.inr w)).getD (.int (-1)) = .int z) : retD (evSs (gam p ns k) (csOf cst) b_is_formula [.val (.tup (.str w :: ys)), .un, .un, .un, .un] t) = .ok (.bl (fR (fm k) b1 b2 b3 b4 z ys)) t := by
  have hs : ys.length < 16384 := by omega
  cases b1 with
  | true =>
    match ys, gm with
    | [], _ => simp [b_is_formula, e0, i1, fR]
    | [a], gm =>
      have ga := gm a (List.mem_cons_self ..)
      have f1 := e_is_fraction (ns := ns) (t := t) hk2 a ga
      have f2 := e_is_name (ns := ns) (t := t) (show 1 ≤ k by omega) a ga
      cases b3 <;> simp [b_is_formula, e0, i1, i3, fR, f1, f2]
    | a :: b :: r, _ =>
      have q : (((r.length : Int) + 1 + 1) == 1) = false := by simp; omega
      have hs' : r.length + 1 + 1 < 16384 := hs
      simp [b_is_formula, e0, i1, fR, q, hs']
  | false =>
    cases b2 with
    | true =>
      match ys, gm, ihq with
      | [], _, _ => simp [b_is_formula, e0, i1, i2, fR]
      | [a], gm, ihq =>
        have ga := gm a (List.mem_cons_self ..)
        cases a with
        | tup ps =>
          simp only [gd, Bool.and_eq_true, decide_eq_true_eq] at ga
          by_cases h2 : 2 ≤ ps.length
          · have h2' : ¬ (ps.length : Int) < 2 := by omega
            have hc := parts_all (ns := ns) (t := t) (k := k) [("part", 3)] (r := [.val (.tup [.str w, .tup ps]), .val (.str w), .val (.lst [.tup ps]), .un, .un]) (it := .val (.ix (.var 2) (.cst (.int 0)))) (xs := ps) rfl (by simp) (by simp) ga.1 (ihq ps rfl)
            simp [b_is_formula, e0, i1, i2, fR, h2, h2', hc, x_all]
          · have h2' : (ps.length : Int) < 2 := by omega
            simp [b_is_formula, e0, i1, i2, fR, h2, h2']
        | _ => first | (simp [gd] at ga; done) | simp [b_is_formula, e0, i1, i2, fR]
      | a :: b :: r, _, _ =>
        have q : (((r.length : Int) + 1 + 1) == 1) = false := by simp; omega
        have hs' : r.length + 1 + 1 < 16384 := hs
        simp [b_is_formula, e0, i1, i2, fR, q, hs']
    | false =>
      cases b4 with
      | true =>
        match ys, gm, ihp with
        | [], _, _ => simp [b_is_formula, e0, i1, i2, i4, fR]
        | [a], _, _ => simp [b_is_formula, e0, i1, i2, i4, fR]
        | [a, b], gm, ihp =>
          have f1 := ihp a (List.mem_cons_self ..)
          have f2 := e_is_wholeL (ns := ns) (t := t) (show 1 ≤ k by omega) b 0 (gd_pla (gm b (List.mem_cons_of_mem _ (List.mem_cons_self ..))))
          cases h : fm k a <;> simp [b_is_formula, e0, i1, i2, i4, fR, f1, f2, h]
        | a :: b :: c :: r, _, _ =>
          have q : (((r.length : Int) + 1 + 1 + 1) == 2) = false := by simp; omega
          have hs' : r.length + 1 + 1 + 1 < 16384 := hs
          simp [b_is_formula, e0, i1, i2, i4, fR, q, hs']
      | false =>
        have hc := parts_all (ns := ns) (t := t) (k := k) [("part", 3)] (r := [.val (.tup (.str w :: ys)), .val (.str w), .val (.lst ys), .un, .val (.int z)]) (it := .val (.var 2)) (xs := ys) rfl (by simp) (by simp) (by omega) ihp
        have i5' := i5
        by_cases hz : (ys.length : Int) = z
        · have hz' : ((ys.length : Int) == z) = true := by simpa using hz
          simp [b_is_formula, e0, i1, i2, i4, fR, hs, keyD, i5, hz, hc, x_all]
        · have hz' : ((ys.length : Int) == z) = false := by simpa using hz
          simp [b_is_formula, e0, i1, i2, i4, fR, hs, keyD, i5, hz, hz']
theorem e_is_formula : ∀ (k : Nat) (d : D), gd d = true → dep d + 3 ≤ k → callF p ns k 4 [d] t = .ok (.bl (fm k d)) t := by
  intro k
  induction k with
  | zero => intro d h1 h2; omega
  | succ k ih =>
    intro d hg hd
    have hk2 : 2 ≤ k := by omega
    rw [callF_df (f := f_is_formula) rfl]
    cases d with
    | tup xs =>
      have hlay := gd_lay hg
      simp only [gd, Bool.and_eq_true, decide_eq_true_eq] at hg
      have e0 := x_eq0 hlay
      cases xs with
      | nil => simp [f_is_formula, b_is_formula, e0, fm, fG]
      | cons x ys =>
        obtain ⟨hl, hgs⟩ := hg
        simp only [gds, Bool.and_eq_true] at hgs
        rw [dep_tup] at hd
        have dm : ∀ y ∈ x :: ys, dep y + 3 ≤ k := fun y m => by
          have := dep_mem m
          omega
        have hl' : ys.length ≤ 999 := by simpa using hl
        have hs : ys.length < 16384 := by omega
        have gm := gds_mem hgs.2
        have ihp : ∀ y ∈ ys, callF p ns k 4 [y] t = .ok (.bl (fm k y)) t := fun y m => ih y (gm y m) (dm y (List.mem_cons_of_mem _ m))
        cases x with
        | str w =>
          have sw : PyData.strOk w = true := by
            have := hgs.1
            simp only [gd, Bool.and_eq_true] at this
            exact this.1
          have ihq : ∀ ps, ys = [.tup ps] → ∀ y ∈ ps, callF p ns k 4 [y] t = .ok (.bl (fm k y)) t := fun ps e y m => by
            subst e
            have g1 := gm (.tup ps) (List.mem_cons_self ..)
            have d1 := dm (.tup ps) (List.mem_cons_of_mem _ (List.mem_cons_self ..))
            simp only [gd, Bool.and_eq_true] at g1
            rw [dep_tup] at d1
            have := dep_mem m
            exact ih y (gds_mem g1.2 y m) (by omega)
          have := body_ev (ns := ns) (t := t) hk2 hl' gm ihp ihq e0 (in_nn w sw) (in_am w sw) (eq_w w "num" sw (by decide +kernel)) (eq_w w "pow" sw (by decide +kernel)) (look_w w)
          exact this
        | _ => first | (simp [gd] at hgs; done) | simp [f_is_formula, b_is_formula, e0, fm, fG]
    | _ => first | (simp [gd] at hg; done) | simp [f_is_formula, b_is_formula, fm, fG]
end
end k21

namespace k21
open PySem Fm
section
variable {ns sc : List Int} {t : Tw} {k n : Nat}
theorem e_draw (hk : 1 ≤ k) (m : Int) (hm : 0 < m) (hm2 : m < 1048576) (h : rm (n + 1) t) : ∃ v t', callF p ns k 10 [.scr sc, .tok, .int m] t = .ok (.int v) t' ∧ 0 ≤ v ∧ v < m ∧ rm n t' := by
  obtain ⟨k, rfl⟩ := up1 hk
  obtain ⟨v, t', e, q⟩ := draw_ev (G := gam p ns k) (cs := csOf cst) (ns := sc) hm hm2 h
  refine ⟨v, t', ?_, q⟩
  rw [callF_df (f := f__law_draw) rfl]
  exact e
theorem e_frac (hk : 1 ≤ k) (a b : Int) (hb : 1 ≤ b) (hb2 : b < 1048576) : ∃ x y, callF p ns k 11 [.int a, .int b] t = .ok (.tup [.int x, .int y]) t ∧ isFr (.tup [.int x, .int y]) = true := by
  obtain ⟨k, rfl⟩ := up1 hk
  have hg : 0 < Int.gcd a b := Int.gcd_pos_of_ne_zero_right a (by omega)
  have hgb : (Int.gcd a b : Int) ≤ b := Int.le_of_dvd (by omega) (Int.gcd_dvd_right _ _)
  refine ⟨a / Int.gcd a b, b / Int.gcd a b, ?_, ?_⟩
  · rw [callF_df (f := f__law_frac) rfl]
    have hl := gr_loop (t := t) (c := ev (gam p ns k) (csOf cst) (.cmp .Gt (.var 3) (.cst (.int 0)))) (f := evSs (gam p ns k) (csOf cst) (.cons (.par [2, 3] (.cons (.var 3) (.cons (.bin .Mod (.var 2) (.var 3)) .nil))) .nil)) (fun x y => [.val (.int a), .val (.int b), .val (.int x), .val (.int y)]) (fun a b => by simp) (fun a b h => by
      have : b ≠ 0 := by omega
      simp [this]) b.natAbs a.natAbs b.natAbs (by omega) (by omega) (by omega)
    have hgg : Int.gcd (a.natAbs : Int) (b.natAbs : Int) = Int.gcd a b := by simp [Int.gcd]
    rw [hgg] at hl
    have hd : okDiv (Int.gcd a b : Int) = true := okDiv_of (k := 20) (by omega) (by omega) (by omega) (by omega)
    have h0 : 0 < b := by omega
    simp only [f__law_frac, b__law_frac, x_startR, x_evSs_cons, x_consE]
    simp [abs_ite, hl, h0, hd, Int.fdiv_eq_ediv_of_nonneg]
  · have h1 : 1 ≤ b / Int.gcd a b := Int.le_ediv_of_mul_le (by omega) (by omega)
    have h2 : Int.gcd (a / Int.gcd a b) (b / Int.gcd a b) = 1 := Int.gcd_ediv_gcd_ediv_gcd hg
    simp [isFr, h1, h2]
theorem e_a_frac (hk : 2 ≤ k) (h : rm (n + 2) t) : ∃ x y t', callF p ns k 12 [.scr sc, .tok, .int 4] t = .ok (.tup [.int x, .int y]) t' ∧ isFr (.tup [.int x, .int y]) = true ∧ rm n t' := by
  obtain ⟨k, rfl⟩ := up1 (show 1 ≤ k by omega)
  have hk : 1 ≤ k := by omega
  obtain ⟨v, t1, e1, _, _, h1⟩ := e_draw (ns := ns) (sc := sc) hk 9 (by omega) (by omega) (show rm (n + 1 + 1) t from h)
  obtain ⟨u, t2, e2, a2, b2, h2⟩ := e_draw (ns := ns) (sc := sc) hk 3 (by omega) (by omega) h1
  obtain ⟨x, y, e3, f⟩ := e_frac (ns := ns) (t := t2) hk (v - 4) (1 + u) (by omega) (by omega)
  refine ⟨x, y, t2, ?_, f, h2⟩
  have om : okMul 2 4 = true := by decide +kernel
  rw [callF_df (f := f__law_a_frac) rfl]
  simp [f__law_a_frac, b__law_a_frac, om, e1, e2, e3]
/-- what a drawn formula is -/
structure Zf (d : Nat) (x : D) : Prop where
  g : gd x = true
  dp : dep x ≤ 3 * d + 2
  f : ∀ j, d < j → fm j x = true
  t : ∃ xs : List D, x = .tup xs ∧ xs.length ≤ 10
theorem dep2 {x : Str} {a : D} : dep (.tup [.str x, a]) = dep a + 1 := by
  simp [dep, D.py, pys, PyData.depth, PyData.depthAll]
theorem dep3 {x : Str} {a b : D} : dep (.tup [.str x, a, b]) = max (dep a) (dep b) + 1 := by
  simp [dep, D.py, pys, PyData.depth, PyData.depthAll]
theorem dep_int (i : Int) : dep (.int i) = 0 := by simp [dep, D.py, PyData.depth]
theorem dep_all : ∀ {ps : List D} {n : Nat}, (∀ x ∈ ps, dep x ≤ n) → PyData.depthAll (pys ps) ≤ n
  | [], n, _ => Nat.zero_le _
  | x :: xs, n, h => by
    simp only [pys, PyData.depthAll]
    have h1 := h x (List.mem_cons_self ..)
    have h2 := dep_all fun y m => h y (List.mem_cons_of_mem _ m)
    unfold dep at h1
    omega
theorem gds_of : ∀ {ps : List D}, (∀ x ∈ ps, gd x = true) → gds ps = true
  | [], _ => rfl
  | x :: xs, h => by
    simp only [gds, h x (List.mem_cons_self ..), gds_of fun y m => h y (List.mem_cons_of_mem _ m), Bool.and_self]
theorem fm_num (j : Nat) (a : D) : fm (j + 1) (.tup [.str "num", a]) = isFr a := by kernel_rfl
theorem fm_name (j : Nat) (a : D) : fm (j + 1) (.tup [.str "name", a]) = isNm a := by kernel_rfl
theorem fm_add (j : Nat) (ps : List D) : fm (j + 1) (.tup [.str "add", .tup ps]) = (decide (2 ≤ ps.length) && ps.all (fm j)) := by kernel_rfl
theorem fm_mul (j : Nat) (ps : List D) : fm (j + 1) (.tup [.str "mul", .tup ps]) = (decide (2 ≤ ps.length) && ps.all (fm j)) := by kernel_rfl
theorem fm_pow (j : Nat) (a b : D) : fm (j + 1) (.tup [.str "pow", a, b]) = (fm j a && isWL 0 b) := by kernel_rfl
theorem fm_div (j : Nat) (a b : D) : fm (j + 1) (.tup [.str "div", a, b]) = (fm j a && (fm j b && true)) := by kernel_rfl
theorem fm_abs (j : Nat) (a : D) : fm (j + 1) (.tup [.str "abs", a]) = (fm j a && true) := by kernel_rfl
theorem fm_root (j : Nat) (a : D) : fm (j + 1) (.tup [.str "root", a]) = (fm j a && true) := by kernel_rfl
theorem gd_s2 {x : Str} {a : D} (h : PyData.strOk x = true) (hx : x.length ≤ 1000) (ha : gd a = true) : gd (.tup [.str x, a]) = true := by
  simp [gd, gds, h, hx, ha]
theorem gd_s3 {x : Str} {a b : D} (h : PyData.strOk x = true) (hx : x.length ≤ 1000) (ha : gd a = true) (hb : gd b = true) : gd (.tup [.str x, a, b]) = true := by
  simp [gd, gds, h, hx, ha, hb]
theorem z_num {d : Nat} {x y : Int} (h : isFr (.tup [.int x, .int y]) = true) : Zf d (.tup [.str "num", .tup [.int x, .int y]]) := by
  refine ⟨gd_s2 (by decide +kernel) (by decide +kernel) (by simp [gd, gds]), ?_, fun j hj => ?_, _, rfl, by simp⟩
  · rw [dep2, dep_tup]
    simp [pys, PyData.depthAll, D.py, PyData.depth]
  · obtain ⟨j, rfl⟩ := up1 (show 1 ≤ j by omega)
    rw [fm_num, h]
theorem z_name {d : Nat} {x : Str} (h : x = "x" ∨ x = "y") : Zf d (.tup [.str "name", .str x]) := by
  have e : PyData.strOk x = true ∧ x.length ≤ 1000 ∧ isNm (.str x) = true := by
    rcases h with rfl | rfl
    · decide +kernel
    · decide +kernel
  refine ⟨gd_s2 (by decide +kernel) (by decide +kernel) (by simp [gd, e]), ?_, fun j hj => ?_, _, rfl, by simp⟩
  · rw [dep2]
    simp
  · obtain ⟨j, rfl⟩ := up1 (show 1 ≤ j by omega)
    rw [fm_name, e.2.2]
theorem z_many {d : Nat} {w : Str} {ps : List D} (hw : w = "add" ∨ w = "mul") (h : ∀ x ∈ ps, Zf d x) (h2 : 2 ≤ ps.length) (h3 : ps.length ≤ 3) : Zf (d + 1) (.tup [.str w, .tup ps]) := by
  have e : PyData.strOk w = true ∧ w.length ≤ 1000 := by
    rcases hw with rfl | rfl
    · decide +kernel
    · decide +kernel
  refine ⟨gd_s2 e.1 e.2 ?_, ?_, fun j hj => ?_, _, rfl, by simp⟩
  · simp only [gd, Bool.and_eq_true, decide_eq_true_eq]
    exact ⟨by omega, gds_of fun x m => (h x m).g⟩
  · rw [dep2, dep_tup]
    have := dep_all (n := 3 * d + 2) fun x m => (h x m).dp
    omega
  · obtain ⟨j, rfl⟩ := up1 (show 1 ≤ j by omega)
    have a : ps.all (fm j) = true := List.all_eq_true.mpr fun x m => (h x m).f j (by omega)
    rcases hw with rfl | rfl
    · rw [fm_add, a]
      simp [h2]
    · rw [fm_mul, a]
      simp [h2]
theorem z_pow {d : Nat} {a : D} {v : Int} (h : Zf d a) (hv : 0 ≤ v) : Zf (d + 1) (.tup [.str "pow", a, .int v]) := by
  refine ⟨gd_s3 (by decide +kernel) (by decide +kernel) h.g (by simp [gd]), ?_, fun j hj => ?_, _, rfl, by simp⟩
  · rw [dep3, dep_int]
    have := h.dp
    omega
  · obtain ⟨j, rfl⟩ := up1 (show 1 ≤ j by omega)
    rw [fm_pow, h.f j (by omega)]
    simp [isWL, hv]
theorem z_div {d : Nat} {a b : D} (h : Zf d a) (h' : Zf d b) : Zf (d + 1) (.tup [.str "div", a, b]) := by
  refine ⟨gd_s3 (by decide +kernel) (by decide +kernel) h.g h'.g, ?_, fun j hj => ?_, _, rfl, by simp⟩
  · rw [dep3]
    have := h.dp
    have := h'.dp
    omega
  · obtain ⟨j, rfl⟩ := up1 (show 1 ≤ j by omega)
    rw [fm_div, h.f j (by omega), h'.f j (by omega)]
    rfl
theorem z_one {d : Nat} {w : Str} {a : D} (hw : w = "abs" ∨ w = "root") (h : Zf d a) : Zf (d + 1) (.tup [.str w, a]) := by
  have e : PyData.strOk w = true ∧ w.length ≤ 1000 := by
    rcases hw with rfl | rfl
    · decide +kernel
    · decide +kernel
  refine ⟨gd_s2 e.1 e.2 h.g, ?_, fun j hj => ?_, _, rfl, by simp⟩
  · rw [dep2]
    have := h.dp
    omega
  · obtain ⟨j, rfl⟩ := up1 (show 1 ≤ j by omega)
    rcases hw with rfl | rfl
    · rw [fm_abs, h.f j (by omega)]
      rfl
    · rw [fm_root, h.f j (by omega)]
      rfl
end
end k21

namespace k21
open PySem Fm
section
variable {ns sc : List Int} {t : Tw} {k n : Nat}
def wordsL : List D := [.str "add", .str "mul", .str "pow", .str "div", .str "abs", .str "root"]
def B : Nat → Nat
  | 0 => 4
  | d + 1 => 3 + 3 * B d
theorem B_pos : ∀ d, 4 ≤ B d
  | 0 => Nat.le_refl _
  | d + 1 => by
    have := B_pos d
    simp only [B]
    omega
def leafB : Ss := .cons (.asg (.name 4) (.call 11 (.cons (.var 0) (.cons (.var 1) (.cons (.cst (.int 3)) .nil))) .nil)) (.cons (.ite (.cmp .Eq (.var 4) (.cst (.int 0))) (.cons (.ret (.tup (.cons (.cst (.str "num")) (.cons (.call 12 (.cons (.var 0) (.cons (.var 1) (.cons (.cst (.int 4)) .nil))) .nil) .nil)))) .nil) .nil) (.cons (.ret (.tup (.cons (.cst (.str "name")) (.cons (.ix (.cst (.str "xy")) (.bin .Sub (.var 4) (.cst (.int 1)))) .nil)))) .nil))
theorem leaf_ev {d : D} (hk : 2 ≤ k) (h : rm (n + 3) t) : ∃ f r' t', evSs (gam p ns k) (csOf cst) leafB [.val (.scr sc), .val .tok, .val d, .val (.lst wordsL), .un, .un, .un, .un, .un] t = .ok (.ret f, r') t' ∧ (∀ d, Zf d f) ∧ rm n t' := by
  obtain ⟨v, t1, e1, a1, b1, h1⟩ := e_draw (ns := ns) (sc := sc) (show 1 ≤ k by omega) 3 (by omega) (by omega) (show rm (n + 2 + 1) t from h)
  have hv : v = 0 ∨ v = 1 ∨ v = 2 := by omega
  rcases hv with rfl | rfl | rfl
  · obtain ⟨x, y, t2, e2, f2, h2⟩ := e_a_frac (ns := ns) (sc := sc) hk h1
    exact ⟨_, _, t2, by simp [leafB, e1, e2]; rfl, fun d => z_num f2, h2⟩
  · have ex : ixD (.str "xy") (.int 0) = some (.str "x") := by kernel_rfl
    exact ⟨_, _, t1, by simp only [leafB, x_evSs_cons, x_consE, x_evS_asg]; simp [e1, ex, -x_ixs]; rfl, fun d => z_name (.inl rfl), h1.le (by omega)⟩
  · have ex : ixD (.str "xy") (.int 1) = some (.str "y") := by kernel_rfl
    exact ⟨_, _, t1, by simp only [leafB, x_evSs_cons, x_consE, x_evS_asg]; simp [e1, ex, -x_ixs]; rfl, fun d => z_name (.inr rfl), h1.le (by omega)⟩
def restB : Ss := .cons (.asg (.name 5) (.ix (.var 3) (.call 11 (.cons (.var 0) (.cons (.var 1) (.cons (.blt .len (.var 3)) .nil))) .nil))) (.cons (.ite (.cmp .In (.var 5) (.tup (.cons (.cst (.str "add")) (.cons (.cst (.str "mul")) .nil)))) (.cons (.asg (.name 6) (.bin .Add (.cst (.int 2)) (.call 11 (.cons (.var 0) (.cons (.var 1) (.cons (.cst (.int 2)) .nil))) .nil))) (.cons (.ret (.tup (.cons (.var 5) (.cons (.blt .tuple (.comp [("k", 7)] (.call 13 (.cons (.var 0) (.cons (.var 1) (.cons (.bin .Sub (.var 2) (.cst (.int 1))) (.cons (.var 3) .nil)))) .nil) (.name 7) (.rng1 (.var 6)) .none)) .nil)))) .nil)) .nil) (.cons (.asg (.name 8) (.call 13 (.cons (.var 0) (.cons (.var 1) (.cons (.bin .Sub (.var 2) (.cst (.int 1))) (.cons (.var 3) .nil)))) .nil)) (.cons (.ite (.cmp .Eq (.var 5) (.cst (.str "pow"))) (.cons (.ret (.tup (.cons (.cst (.str "pow")) (.cons (.var 8) (.cons (.call 11 (.cons (.var 0) (.cons (.var 1) (.cons (.cst (.int 4)) .nil))) .nil) .nil))))) .nil) .nil) (.cons (.ite (.cmp .Eq (.var 5) (.cst (.str "div"))) (.cons (.ret (.tup (.cons (.cst (.str "div")) (.cons (.var 8) (.cons (.call 13 (.cons (.var 0) (.cons (.var 1) (.cons (.bin .Sub (.var 2) (.cst (.int 1))) (.cons (.var 3) .nil)))) .nil) .nil))))) .nil) .nil) (.cons (.ret (.tup (.cons (.var 5) (.cons (.var 8) .nil)))) .nil)))))
theorem okr2 (z : Nat) (hz : z ≤ 1) : okRng (2 + (z : Int)) = true := by
  have h1 : z = 0 ∨ z = 1 := by omega
  rcases h1 with rfl | rfl <;> decide +kernel
theorem rng_n (z : Nat) : (rngD 0 z).length = z := by simp [rngD]
theorem seq_nx {G : Gam} {cs : Nat → D} {s : S} {q : Ss} {r r1 : Rho} {t t1 : Tw} (h : evS G cs s r t = .ok (.nx, r1) t1) : evSs G cs (.cons s q) r t = evSs G cs q r1 t1 := by
  rw [evSs_cons, consE, h]
  rfl
theorem seq_ret {G : Gam} {cs : Nat → D} {s : S} {q : Ss} {r r1 : Rho} {t t1 : Tw} {d : D} (h : evS G cs s r t = .ok (.ret d, r1) t1) : evSs G cs (.cons s q) r t = .ok (.ret d, r1) t1 := by
  rw [evSs_cons, consE, h]
  rfl
theorem len6 : (wordsL.length : Int) = 6 := rfl
theorem rest_many {d : Nat} {v : Int} {t1 : Tw} (hk : 1 ≤ k) (ih : ∀ (n : Nat) (t : Tw), rm (n + B d) t → ∃ f t', callF p ns k 13 [.scr sc, .tok, .int d, .lst wordsL] t = .ok f t' ∧ Zf d f ∧ rm n t') (e1 : callF p ns k 10 [.scr sc, .tok, .int 6] t = .ok (.int v) t1) (h1 : rm (n + (1 + 3 * B d)) t1) (w : Str) (hw2 : w = "add" ∨ w = "mul") (ea : L2.atI wordsL v = some (.str w)) (ei : inB (.str w) (.tup [.str "add", .str "mul"]) = some true) : ∃ f r' t', evSs (gam p ns k) (csOf cst) restB [.val (.scr sc), .val .tok, .val (.int (d + 1)), .val (.lst wordsL), .un, .un, .un, .un, .un] t = .ok (.ret f, r') t' ∧ Zf (d + 1) f ∧ rm n t' := by
  have hB := B_pos d
  have hw := len6
  obtain ⟨u, t2, e2, a2, b2, h2⟩ := e_draw (ns := ns) (sc := sc) (t := t1) hk 2 (by omega) (by omega) (show rm (n + 3 * B d + 1) t1 from h1.le (by omega))
  obtain ⟨c, hc⟩ : ∃ c, c = 2 + u := ⟨_, rfl⟩
  have okr : okRng c = true := by
    have := okr2 u.toNat (by omega)
    rw [hc]
    have e : ((u.toNat : Nat) : Int) = u := by omega
    rw [e] at this
    exact this
  have hc2 : 2 ≤ c.toNat ∧ c.toNat ≤ 3 := by omega
  have hi : evI (gam p ns k) (csOf cst) (.rng1 (.var 6)) [.val (.scr sc), .val .tok, .val (.int (d + 1)), .val (.lst wordsL), .un, .val (.str w), .val (.int c), .un, .un] t2 = .ok (rngD 0 c.toNat) t2 := by simp [okr]
  have tn : ∀ x : D, ∀ (q : Nat) (t : Tw), rm (n + (q + 1) * B d) t → ∃ y t', turnE (.name 7) (([("k", 7)] : List (Str × Nat)).map (·.2)) (evO (gam p ns k) (csOf cst) .none) (ev (gam p ns k) (csOf cst) (.call 13 (.cons (.var 0) (.cons (.var 1) (.cons (.bin .Sub (.var 2) (.cst (.int 1))) (.cons (.var 3) .nil)))) .nil)) [.val (.scr sc), .val .tok, .val (.int (d + 1)), .val (.lst wordsL), .un, .val (.str w), .val (.int c), .un, .un] x t = .ok (some y) t' ∧ Zf d y ∧ rm (n + q * B d) t' := by
    intro x q t hq
    obtain ⟨f, t', e, zf, h'⟩ := ih (n + q * B d) t (by
      have : (q + 1) * B d = q * B d + B d := Nat.succ_mul ..
      rw [this] at hq
      exact hq.le (by omega))
    exact ⟨f, t', by simp [e], zf, h'⟩
  have h0 : rm (n + (0 + (rngD 0 c.toNat).length) * B d) t2 := by
    rw [rng_n, Nat.zero_add]
    refine h2.le ?_
    have : c.toNat * B d ≤ 3 * B d := Nat.mul_le_mul_right _ hc2.2
    omega
  obtain ⟨ys, t3, e3, l3, z3, h3⟩ := comp_inv (n := 0) (own := [("k", 7)]) (fun m t => rm (n + m * B d) t) (Zf d) hi (by rw [rng_n]; exact okLen_of (by omega)) h0 (fun x m q t hq => tn x q t hq)
  have h3' : rm n t3 := by
    have : n + 0 * B d = n := by omega
    rw [this] at h3
    exact h3
  refine ⟨.tup [.str w, .tup ys], [.val (.scr sc), .val .tok, .val (.int (d + 1)), .val (.lst wordsL), .un, .val (.str w), .val (.int c), .un, .un], t3, ?_, z_many hw2 z3 (by rw [l3, rng_n]; omega) (by rw [l3, rng_n]; omega), h3'⟩
  generalize hr : ([.val (.scr sc), .val .tok, .val (.int (d + 1)), .val (.lst wordsL), .un, .val (.str w), .val (.int c), .un, .un] : Rho) = r at e3 ⊢
  have s3 : evS (gam p ns k) (csOf cst) (.ret (.tup (.cons (.var 5) (.cons (.blt .tuple (.comp [("k", 7)] (.call 13 (.cons (.var 0) (.cons (.var 1) (.cons (.bin .Sub (.var 2) (.cst (.int 1))) (.cons (.var 3) .nil)))) .nil) (.name 7) (.rng1 (.var 6)) .none)) .nil)))) r t2 = .ok (.ret (.tup [.str w, .tup ys]), r) t3 := by
    have v5 : ev (gam p ns k) (csOf cst) (.var 5) r t2 = .ok (.str w) t2 := by rw [← hr]; simp
    have v6 := e3
    rw [evS_ret]
    simp only [x_ev_tup, x_evs_cons, x_evs_nil, v5, x_ev_blt, v6, Res.bind_ok, x_tup1, lift_some]
    rfl
  unfold restB
  rw [seq_nx (r1 := [.val (.scr sc), .val .tok, .val (.int (d + 1)), .val (.lst wordsL), .un, .val (.str w), .un, .un, .un]) (t1 := t1) (by simp [hw, e1, ea])]
  refine seq_ret ?_
  have s1 : evS (gam p ns k) (csOf cst) (.asg (.name 6) (.bin .Add (.cst (.int 2)) (.call 11 (.cons (.var 0) (.cons (.var 1) (.cons (.cst (.int 2)) .nil))) .nil))) [.val (.scr sc), .val .tok, .val (.int (d + 1)), .val (.lst wordsL), .un, .val (.str w), .un, .un, .un] t1 = .ok (.nx, r) t2 := by
    rw [← hr, hc]
    simp [e2]
  rw [evS_ite, iteS]
  simp only [x_ev_cmp, x_ev_var, x_ev_tup, x_evs_cons, x_evs_nil, x_ev_cst]
  simp [ei, -x_evSs_cons]
  rw [seq_nx s1]
  exact seq_ret s3
theorem rest_pow {d : Nat} {v : Int} {t1 : Tw} (hk : 1 ≤ k) (ih : ∀ (n : Nat) (t : Tw), rm (n + B d) t → ∃ f t', callF p ns k 13 [.scr sc, .tok, .int d, .lst wordsL] t = .ok f t' ∧ Zf d f ∧ rm n t') (e1 : callF p ns k 10 [.scr sc, .tok, .int 6] t = .ok (.int v) t1) (h1 : rm (n + (1 + 3 * B d)) t1) (ea : L2.atI wordsL v = some (.str "pow")) : ∃ f r' t', evSs (gam p ns k) (csOf cst) restB [.val (.scr sc), .val .tok, .val (.int (d + 1)), .val (.lst wordsL), .un, .un, .un, .un, .un] t = .ok (.ret f, r') t' ∧ Zf (d + 1) f ∧ rm n t' := by
  have hB := B_pos d
  have hw := len6
  have ei : inB (.str "pow") (.tup [.str "add", .str "mul"]) = some false := by kernel_rfl
  have ep : eqOp (.str "pow") (.str "pow") = some (.bl true) := by kernel_rfl
  obtain ⟨f, t2, e2, z2, h2⟩ := ih (n + 2 * B d) t1 (h1.le (by omega))
  obtain ⟨u, t3, e3, a3, b3, h3⟩ := e_draw (ns := ns) (sc := sc) (t := t2) hk 4 (by omega) (by omega) (show rm (n + 2 * B d - 1 + 1) t2 from h2.le (by omega))
  refine ⟨.tup [.str "pow", f, .int u], [.val (.scr sc), .val .tok, .val (.int (d + 1)), .val (.lst wordsL), .un, .val (.str "pow"), .un, .un, .val f], t3, ?_, z_pow z2 a3, h3.le (by omega)⟩
  simp [restB, hw, e1, ea, ei, e2, ep, e3]
theorem rest_div {d : Nat} {v : Int} {t1 : Tw} (hk : 1 ≤ k) (ih : ∀ (n : Nat) (t : Tw), rm (n + B d) t → ∃ f t', callF p ns k 13 [.scr sc, .tok, .int d, .lst wordsL] t = .ok f t' ∧ Zf d f ∧ rm n t') (e1 : callF p ns k 10 [.scr sc, .tok, .int 6] t = .ok (.int v) t1) (h1 : rm (n + (1 + 3 * B d)) t1) (ea : L2.atI wordsL v = some (.str "div")) : ∃ f r' t', evSs (gam p ns k) (csOf cst) restB [.val (.scr sc), .val .tok, .val (.int (d + 1)), .val (.lst wordsL), .un, .un, .un, .un, .un] t = .ok (.ret f, r') t' ∧ Zf (d + 1) f ∧ rm n t' := by
  have hB := B_pos d
  have hw := len6
  have ei : inB (.str "div") (.tup [.str "add", .str "mul"]) = some false := by kernel_rfl
  have ep : eqOp (.str "div") (.str "pow") = some (.bl false) := by kernel_rfl
  have eq : eqOp (.str "div") (.str "div") = some (.bl true) := by kernel_rfl
  obtain ⟨f, t2, e2, z2, h2⟩ := ih (n + 2 * B d) t1 (h1.le (by omega))
  obtain ⟨g, t3, e3, z3, h3⟩ := ih (n + B d) t2 (h2.le (by omega))
  refine ⟨.tup [.str "div", f, g], [.val (.scr sc), .val .tok, .val (.int (d + 1)), .val (.lst wordsL), .un, .val (.str "div"), .un, .un, .val f], t3, ?_, z_div z2 z3, h3.le (by omega)⟩
  simp [restB, hw, e1, ea, ei, e2, ep, eq, e3]
theorem rest_one {d : Nat} {v : Int} {t1 : Tw} (hk : 1 ≤ k) (ih : ∀ (n : Nat) (t : Tw), rm (n + B d) t → ∃ f t', callF p ns k 13 [.scr sc, .tok, .int d, .lst wordsL] t = .ok f t' ∧ Zf d f ∧ rm n t') (e1 : callF p ns k 10 [.scr sc, .tok, .int 6] t = .ok (.int v) t1) (h1 : rm (n + (1 + 3 * B d)) t1) (w : Str) (hw2 : w = "abs" ∨ w = "root") (ea : L2.atI wordsL v = some (.str w)) (ei : inB (.str w) (.tup [.str "add", .str "mul"]) = some false) (ep : eqOp (.str w) (.str "pow") = some (.bl false)) (eq : eqOp (.str w) (.str "div") = some (.bl false)) : ∃ f r' t', evSs (gam p ns k) (csOf cst) restB [.val (.scr sc), .val .tok, .val (.int (d + 1)), .val (.lst wordsL), .un, .un, .un, .un, .un] t = .ok (.ret f, r') t' ∧ Zf (d + 1) f ∧ rm n t' := by
  have hB := B_pos d
  have hw := len6
  obtain ⟨f, t2, e2, z2, h2⟩ := ih (n + 2 * B d) t1 (h1.le (by omega))
  refine ⟨.tup [.str w, f], [.val (.scr sc), .val .tok, .val (.int (d + 1)), .val (.lst wordsL), .un, .val (.str w), .un, .un, .val f], t2, ?_, z_one hw2 z2, h2.le (by omega)⟩
  simp [restB, hw, e1, ea, ei, e2, ep, eq]
theorem rest_ev {d : Nat} (hk : 1 ≤ k) (ih : ∀ (n : Nat) (t : Tw), rm (n + B d) t → ∃ f t', callF p ns k 13 [.scr sc, .tok, .int d, .lst wordsL] t = .ok f t' ∧ Zf d f ∧ rm n t') (h : rm (n + (2 + 3 * B d)) t) : ∃ f r' t', evSs (gam p ns k) (csOf cst) restB [.val (.scr sc), .val .tok, .val (.int (d + 1)), .val (.lst wordsL), .un, .un, .un, .un, .un] t = .ok (.ret f, r') t' ∧ Zf (d + 1) f ∧ rm n t' := by
  obtain ⟨v, t1, e1, a1, b1, h1⟩ := e_draw (ns := ns) (sc := sc) hk 6 (by omega) (by omega) (show rm (n + (1 + 3 * B d) + 1) t from h.le (by omega))
  have hv : v = 0 ∨ v = 1 ∨ v = 2 ∨ v = 3 ∨ v = 4 ∨ v = 5 := by omega
  rcases hv with rfl | rfl | rfl | rfl | rfl | rfl
  · exact rest_many hk ih e1 h1 "add" (.inl rfl) rfl (by kernel_rfl)
  · exact rest_many hk ih e1 h1 "mul" (.inr rfl) rfl (by kernel_rfl)
  · exact rest_pow hk ih e1 h1 rfl
  · exact rest_div hk ih e1 h1 rfl
  · exact rest_one hk ih e1 h1 "abs" (.inl rfl) rfl (by kernel_rfl) (by kernel_rfl) (by kernel_rfl)
  · exact rest_one hk ih e1 h1 "root" (.inr rfl) rfl (by kernel_rfl) (by kernel_rfl) (by kernel_rfl)
theorem e_formula : ∀ (d k n : Nat) (t : Tw), d + 4 ≤ k → rm (n + B d) t → ∃ f t', callF p ns k 13 [.scr sc, .tok, .int d, .lst wordsL] t = .ok f t' ∧ Zf d f ∧ rm n t' := by
  intro d
  induction d with
  | zero =>
    intro k n t hk h
    obtain ⟨k, rfl⟩ := up1 (show 1 ≤ k by omega)
    obtain ⟨f, r', t', e, z, h'⟩ := leaf_ev (ns := ns) (sc := sc) (d := .int 0) (show 2 ≤ k by omega) (h.le (show n + 3 ≤ n + B 0 by simp [B]))
    refine ⟨f, t', ?_, z 0, h'⟩
    rw [callF_df (f := f__law_a_formula) rfl]
    have hb : b__law_a_formula = .cons (.ite (.or (.cmp .Eq (.var 2) (.cst (.int 0))) (.cmp .Eq (.call 11 (.cons (.var 0) (.cons (.var 1) (.cons (.cst (.int 5)) .nil))) .nil) (.cst (.int 0)))) leafB .nil) restB := rfl
    simp only [f__law_a_formula, hb, x_startR, x_evSs_cons, x_consE, x_evS_ite, x_iteS]
    simp [e]
  | succ d ih =>
    intro k n t hk h
    obtain ⟨k, rfl⟩ := up1 (show 1 ≤ k by omega)
    have hB := B_pos d
    obtain ⟨v, t1, e1, a1, b1, h1⟩ := e_draw (ns := ns) (sc := sc) (show 1 ≤ k by omega) 5 (by omega) (by omega) (show rm (n + (2 + 3 * B d) + 1) t from h.le (by simp only [B]; omega))
    have hd : (((d : Int) + 1) == 0) = false := by simp; omega
    by_cases hv : v = 0
    · subst hv
      obtain ⟨f, r', t', e, z, h'⟩ := leaf_ev (ns := ns) (sc := sc) (t := t1) (d := .int (d + 1)) (show 2 ≤ k by omega) (h1.le (show n + 3 ≤ _ by omega))
      refine ⟨f, t', ?_, z _, h'⟩
      rw [callF_df (f := f__law_a_formula) rfl]
      have hb : b__law_a_formula = .cons (.ite (.or (.cmp .Eq (.var 2) (.cst (.int 0))) (.cmp .Eq (.call 11 (.cons (.var 0) (.cons (.var 1) (.cons (.cst (.int 5)) .nil))) .nil) (.cst (.int 0)))) leafB .nil) restB := rfl
      simp only [f__law_a_formula, hb, x_startR, x_evSs_cons, x_consE, x_evS_ite, x_iteS]
      simp [hd, e1, e]
    · have hv' : (v == 0) = false := by simpa using hv
      obtain ⟨f, r', t', e, z, h'⟩ := rest_ev (ns := ns) (sc := sc) (t := t1) (k := k) (show 1 ≤ k by omega) (fun n t => ih k n t (by omega)) h1
      refine ⟨f, t', ?_, z, h'⟩
      rw [callF_df (f := f__law_a_formula) rfl]
      have hb : b__law_a_formula = .cons (.ite (.or (.cmp .Eq (.var 2) (.cst (.int 0))) (.cmp .Eq (.call 11 (.cons (.var 0) (.cons (.var 1) (.cons (.cst (.int 5)) .nil))) .nil) (.cst (.int 0)))) leafB .nil) restB := rfl
      simp only [f__law_a_formula, hb, x_startR, x_evSs_cons, x_consE, x_evS_ite, x_iteS]
      simp [hd, e1, hv', hv, e]
end
end k21

namespace k21
open PySem Fm
section
variable {ns sc : List Int} {t : Tw} {k n : Nat}
def xD : D := .tup [.str "name", .str "x"]
def oneD : D := .tup [.str "num", .tup [.int 1, .int 1]]
def oddL : List D := [.non, .int 3, .str "x", .tup [], .tup [.str "num"], .tup [.str "num", .int 3], .tup [.str "num", .tup [.int 2, .int 4]], .tup [.str "num", .tup [.int 1, .int 0]], .tup [.str "num", .tup [.int 1, .int 1], .int 2], .tup [.tup [.str "name", .str "x"]], .tup [.str "name", .str "X"], .tup [.str "name", .int 3], .tup [.str "name", .str ""], .tup [.str "name", .str "abcdefghi"], .tup [.str "add", .tup [.tup [.str "name", .str "x"]]], .tup [.str "add", .tup []], .tup [.str "add", .tup [.str "name", .str "x"], .tup [.str "name", .str "x"]], .tup [.str "mul", .lst [.tup [.str "name", .str "x"], .tup [.str "name", .str "x"]]], .tup [.str "mul", .tup [.tup [.str "name", .str "x"], .int 3]], .tup [.str "pow", .tup [.str "name", .str "x"]], .tup [.str "pow", .tup [.str "name", .str "x"], .int (-1)], .tup [.str "pow", .tup [.str "name", .str "x"], .bl true], .tup [.str "pow", .tup [.str "name", .str "x"], .tup [.str "name", .str "x"]], .tup [.str "div", .tup [.str "name", .str "x"]], .tup [.str "div", .tup [.str "name", .str "x"], .tup [.str "name", .str "x"], .tup [.str "name", .str "x"]], .tup [.str "div", .tup [.str "name", .str "x"], .int 2], .tup [.str "abs"], .tup [.str "abs", .tup [.str "name", .str "x"], .tup [.str "name", .str "x"]], .tup [.str "abs", .non], .tup [.str "root", .int 4], .tup [.str "sum", .tup [.tup [.str "name", .str "x"], .tup [.str "name", .str "x"]]], .lst [.tup [.str "name", .str "x"]], .tup [.str "num", .tup [.bl true, .int 1]]]
def okD (d : D) : Bool := gd d && decide (dep d + 3 ≤ 60)
theorem e_yn (d : D) (h : okD d = true) (b : Bool) (hb : fm 60 d = b) : callF p ns 60 4 [d] t = .ok (.bl b) t := by
  obtain ⟨h1, h2⟩ := and2 h
  rw [e_is_formula 60 d h1 (of_decide_eq_true h2), hb]
def no (d : D) : Bool := okD d && !fm 60 d
theorem e_no (d : D) (h : no d = true) : callF p ns 60 4 [d] t = .ok (.bl false) t := by
  obtain ⟨h1, h2⟩ := and2 h
  exact e_yn d h1 false (by simpa using h2)
def chkOne (d : D) : Bool := no d && no (.tup [.str "abs", d]) && no (.tup [.str "add", .tup [xD, d, oneD]]) && no (.tup [.str "pow", d, .int 2]) && no (.tup [.str "div", oneD, d])
theorem chkOdd : oddL.all chkOne = true := by decide +kernel
theorem e_part_at (hk : 1 ≤ k) (f : D) : callF p ns k 7 [f, .tup []] t = .ok f t := by
  obtain ⟨k, rfl⟩ := up1 hk
  rw [callF_df (f := f_part_at) rfl]
  simp [f_part_at, b_part_at]
theorem e_with_part (hk : 2 ≤ k) (f x : D) : callF p ns k 8 [f, .tup [], x] t = .ok x t := by
  obtain ⟨k, rfl⟩ := up1 (show 1 ≤ k by omega)
  have e0 := x_eq0 (xs := []) (by decide +kernel)
  rw [callF_df (f := f_with_part) rfl]
  simp [f_with_part, b_with_part, e_part_at (show 1 ≤ k by omega), e0]
def for1 : S := (.for (.name 5) (.val (.var 4)) (.cons (.ite (.not (.call 14 (.cons (.call 5 (.cons (.var 5) .nil) .nil) (.cons (.cst (.bl false)) .nil)) .nil)) (.cons (.ret (.cst (.bl false))) .nil) .nil) (.cons (.ite (.call 5 (.cons (.tup (.cons (.cst (.str "abs")) (.cons (.var 5) .nil))) .nil) .nil) (.cons (.ret (.cst (.bl false))) .nil) .nil) (.cons (.ite (.call 5 (.cons (.tup (.cons (.cst (.str "add")) (.cons (.tup (.cons (.var 3) (.cons (.var 5) (.cons (.var 2) .nil)))) .nil))) .nil) .nil) (.cons (.ret (.cst (.bl false))) .nil) .nil) (.cons (.ite (.or (.call 5 (.cons (.tup (.cons (.cst (.str "pow")) (.cons (.var 5) (.cons (.cst (.int 2)) .nil)))) .nil) .nil) (.call 5 (.cons (.tup (.cons (.cst (.str "div")) (.cons (.var 2) (.cons (.var 5) .nil)))) .nil) .nil)) (.cons (.ret (.cst (.bl false))) .nil) .nil) .nil)))))
def for2 : S := (.for (.name 6) (.rng1 (.cst (.int 4))) (.cons (.asg (.name 7) (.call 13 (.cons (.var 0) (.cons (.var 1) (.cons (.cst (.int 3)) (.cons (.lst (.cons (.cst (.str "add")) (.cons (.cst (.str "mul")) (.cons (.cst (.str "pow")) (.cons (.cst (.str "div")) (.cons (.cst (.str "abs")) (.cons (.cst (.str "root")) .nil))))))) .nil)))) .nil)) (.cons (.ite (.or (.not (.call 14 (.cons (.call 5 (.cons (.var 7) .nil) .nil) (.cons (.cst (.bl true)) .nil)) .nil)) (.or (.call 5 (.cons (.blt .list (.var 7)) .nil) .nil) (.call 5 (.cons (.tup (.cons (.var 7) .nil)) .nil) .nil))) (.cons (.ret (.cst (.bl false))) .nil) .nil) (.cons (.ite (.or (.not (.call 5 (.cons (.call 8 (.cons (.var 7) (.cons (.tup .nil) (.cons (.var 3) .nil))) .nil) .nil) .nil)) (.call 5 (.cons (.ix (.var 4) (.call 11 (.cons (.var 0) (.cons (.var 1) (.cons (.blt .len (.var 4)) .nil))) .nil)) .nil) .nil)) (.cons (.ret (.cst (.bl false))) .nil) .nil) .nil))))
def ret3 : S := (.ret (.and (.call 5 (.cons (.tup (.cons (.cst (.str "pow")) (.cons (.tup (.cons (.cst (.str "root")) (.cons (.var 3) .nil))) (.cons (.cst (.int 0)) .nil)))) .nil) .nil) (.call 5 (.cons (.tup (.cons (.cst (.str "div")) (.cons (.var 2) (.cons (.tup (.cons (.cst (.str "abs")) (.cons (.tup (.cons (.cst (.str "mul")) (.cons (.tup (.cons (.var 3) (.cons (.var 3) (.cons (.var 2) .nil)))) .nil))) .nil))) .nil)))) .nil) .nil)))
def pre (q : Ss) : Ss := .cons (.asg (.tup (.cons (.name 2) (.cons (.name 3) .nil))) (.tup (.cons (.tup (.cons (.cst (.str "num")) (.cons (.tup (.cons (.cst (.int 1)) (.cons (.cst (.int 1)) .nil))) .nil))) (.cons (.tup (.cons (.cst (.str "name")) (.cons (.cst (.str "x")) .nil))) .nil)))) (.cons (.asg (.name 4) (.lst (.cons (.cst .non) (.cons (.cst (.int 3)) (.cons (.cst (.str "x")) (.cons (.tup .nil) (.cons (.tup (.cons (.cst (.str "num")) .nil)) (.cons (.tup (.cons (.cst (.str "num")) (.cons (.cst (.int 3)) .nil))) (.cons (.tup (.cons (.cst (.str "num")) (.cons (.tup (.cons (.cst (.int 2)) (.cons (.cst (.int 4)) .nil))) .nil))) (.cons (.tup (.cons (.cst (.str "num")) (.cons (.tup (.cons (.cst (.int 1)) (.cons (.cst (.int 0)) .nil))) .nil))) (.cons (.tup (.cons (.cst (.str "num")) (.cons (.tup (.cons (.cst (.int 1)) (.cons (.cst (.int 1)) .nil))) (.cons (.cst (.int 2)) .nil)))) (.cons (.tup (.cons (.var 3) .nil)) .nil)))))))))))) (.cons (.asg (.name 4) (.cat (.var 4) (.lst (.cons (.tup (.cons (.cst (.str "name")) (.cons (.cst (.str "X")) .nil))) (.cons (.tup (.cons (.cst (.str "name")) (.cons (.cst (.int 3)) .nil))) (.cons (.tup (.cons (.cst (.str "name")) (.cons (.cst (.str "")) .nil))) (.cons (.tup (.cons (.cst (.str "name")) (.cons (.cst (.str "abcdefghi")) .nil))) (.cons (.tup (.cons (.cst (.str "add")) (.cons (.tup (.cons (.var 3) .nil)) .nil))) (.cons (.tup (.cons (.cst (.str "add")) (.cons (.tup .nil) .nil))) .nil))))))))) (.cons (.asg (.name 4) (.cat (.var 4) (.lst (.cons (.tup (.cons (.cst (.str "add")) (.cons (.var 3) (.cons (.var 3) .nil)))) (.cons (.tup (.cons (.cst (.str "mul")) (.cons (.lst (.cons (.var 3) (.cons (.var 3) .nil))) .nil))) (.cons (.tup (.cons (.cst (.str "mul")) (.cons (.tup (.cons (.var 3) (.cons (.cst (.int 3)) .nil))) .nil))) (.cons (.tup (.cons (.cst (.str "pow")) (.cons (.var 3) .nil))) (.cons (.tup (.cons (.cst (.str "pow")) (.cons (.var 3) (.cons (.neg (.cst (.int 1))) .nil)))) (.cons (.tup (.cons (.cst (.str "pow")) (.cons (.var 3) (.cons (.cst (.bl true)) .nil)))) .nil))))))))) (.cons (.asg (.name 4) (.cat (.var 4) (.lst (.cons (.tup (.cons (.cst (.str "pow")) (.cons (.var 3) (.cons (.var 3) .nil)))) (.cons (.tup (.cons (.cst (.str "div")) (.cons (.var 3) .nil))) (.cons (.tup (.cons (.cst (.str "div")) (.cons (.var 3) (.cons (.var 3) (.cons (.var 3) .nil))))) (.cons (.tup (.cons (.cst (.str "div")) (.cons (.var 3) (.cons (.cst (.int 2)) .nil)))) (.cons (.tup (.cons (.cst (.str "abs")) .nil)) (.cons (.tup (.cons (.cst (.str "abs")) (.cons (.var 3) (.cons (.var 3) .nil)))) (.cons (.tup (.cons (.cst (.str "abs")) (.cons (.cst .non) .nil))) .nil)))))))))) (.cons (.asg (.name 4) (.cat (.var 4) (.lst (.cons (.tup (.cons (.cst (.str "root")) (.cons (.cst (.int 4)) .nil))) (.cons (.tup (.cons (.cst (.str "sum")) (.cons (.tup (.cons (.var 3) (.cons (.var 3) .nil))) .nil))) (.cons (.lst (.cons (.tup (.cons (.cst (.str "name")) (.cons (.cst (.str "x")) .nil))) .nil)) (.cons (.tup (.cons (.cst (.str "num")) (.cons (.tup (.cons (.cst (.bl true)) (.cons (.cst (.int 1)) .nil))) .nil))) .nil))))))) q)))))
theorem law_eq : b_law = pre (.cons for1 (.cons for2 (.cons ret3 .nil))) := rfl
def r0 (ns : List Int) (a b c : Sl) : Rho := [.val (.scr ns), .val .tok, .val oneD, .val xD, .val (.lst oddL), a, b, c]
theorem pre_ev (q : Ss) : evSs (gam p ns 60) (csOf cst) (pre q) (startL n_law ns) t = evSs (gam p ns 60) (csOf cst) q (r0 ns .un .un .un) t := by
  unfold pre
  simp only [x_startL, x_startR, n_law, List.map, List.length_cons, List.length_nil]
  rw [seq_nx (r1 := [.val (.scr ns), .val .tok, .val oneD, .val xD, .un, .un, .un, .un]) (t1 := t) (by kernel_rfl)]
  rw [seq_nx (r1 := [.val (.scr ns), .val .tok, .val oneD, .val xD, .val (.lst (oddL.take 10)), .un, .un, .un]) (t1 := t) (by kernel_rfl)]
  rw [seq_nx (r1 := [.val (.scr ns), .val .tok, .val oneD, .val xD, .val (.lst (oddL.take 16)), .un, .un, .un]) (t1 := t) (by kernel_rfl)]
  rw [seq_nx (r1 := [.val (.scr ns), .val .tok, .val oneD, .val xD, .val (.lst (oddL.take 22)), .un, .un, .un]) (t1 := t) (by kernel_rfl)]
  rw [seq_nx (r1 := [.val (.scr ns), .val .tok, .val oneD, .val xD, .val (.lst (oddL.take 29)), .un, .un, .un]) (t1 := t) (by kernel_rfl)]
  rw [seq_nx (r1 := r0 ns .un .un .un) (t1 := t) (by kernel_rfl)]
theorem for1_ev : ∃ a, evS (gam p ns 60) (csOf cst) for1 (r0 ns .un .un .un) t = .ok (.nx, r0 ns a .un .un) t := by
  unfold for1
  rw [evS_for]
  have hi : evI (gam p ns 60) (csOf cst) (.val (.var 4)) (r0 ns .un .un .un) t = .ok oddL t := by simp [r0]
  unfold forE
  rw [hi, Res.bind_ok]
  obtain ⟨r', t', e, ⟨a, rfl⟩, rfl⟩ := loopF_inv (I := fun r t' => (∃ a, r = r0 ns a .un .un) ∧ t' = t) oddL (r0 ns .un .un .un) t ⟨⟨_, rfl⟩, rfl⟩ (f := fun d r t => match setT (.name 5) d r with
    | some r1 => evSs (gam p ns 60) (csOf cst) (.cons (.ite (.not (.call 14 (.cons (.call 5 (.cons (.var 5) .nil) .nil) (.cons (.cst (.bl false)) .nil)) .nil)) (.cons (.ret (.cst (.bl false))) .nil) .nil) (.cons (.ite (.call 5 (.cons (.tup (.cons (.cst (.str "abs")) (.cons (.var 5) .nil))) .nil) .nil) (.cons (.ret (.cst (.bl false))) .nil) .nil) (.cons (.ite (.call 5 (.cons (.tup (.cons (.cst (.str "add")) (.cons (.tup (.cons (.var 3) (.cons (.var 5) (.cons (.var 2) .nil)))) .nil))) .nil) .nil) (.cons (.ret (.cst (.bl false))) .nil) .nil) (.cons (.ite (.or (.call 5 (.cons (.tup (.cons (.cst (.str "pow")) (.cons (.var 5) (.cons (.cst (.int 2)) .nil)))) .nil) .nil) (.call 5 (.cons (.tup (.cons (.cst (.str "div")) (.cons (.var 2) (.cons (.var 5) .nil)))) .nil) .nil)) (.cons (.ret (.cst (.bl false))) .nil) .nil) .nil)))) r1 t
    | none => .bad) (by
      intro d m r t' ⟨⟨a, e⟩, et⟩
      subst e et
      have c := List.all_eq_true.mp chkOdd d m
      unfold chkOne at c
      obtain ⟨c, c5⟩ := and2 c
      obtain ⟨c, c4⟩ := and2 c
      obtain ⟨c, c3⟩ := and2 c
      obtain ⟨c1, c2⟩ := and2 c
      refine ⟨r0 ns (.val d) .un .un, t', ?_, ⟨_, rfl⟩, rfl⟩
      simp [r0, e_no _ c1, e_no _ c2, e_no _ c3, e_no _ c4, e_no _ c5, e_law_is])
  exact ⟨a, e⟩
end
end k21

namespace k21
open PySem Fm
section
variable {ns sc : List Int} {t : Tw} {k n : Nat}
theorem loopF_ix {f : D → Rho → Tw → Res (Fl × Rho)} (I : Nat → Rho → Tw → Prop) : ∀ (xs : List D) (r : Rho) (t : Tw) (n : Nat), I (n + xs.length) r t → (∀ d ∈ xs, ∀ n r t, I (n + 1) r t → ∃ r' t', f d r t = .ok (.nx, r') t' ∧ I n r' t') → ∃ r' t', loopF f xs r t = .ok (.nx, r') t' ∧ I n r' t'
  | [], r, t, n, h, _ => ⟨r, t, rfl, h⟩
  | d :: ds, r, t, n, h, hf => by
    obtain ⟨r1, t1, e, h1⟩ := hf d (List.mem_cons_self ..) (n + ds.length) r t h
    obtain ⟨r2, t2, e2, h2⟩ := loopF_ix I ds r1 t1 n h1 fun d' m => hf d' (List.mem_cons_of_mem _ m)
    exact ⟨r2, t2, by rw [loopF, e]; exact e2, h2⟩
theorem gd_lst {xs : List D} (h : gd (.tup xs) = true) : gd (.lst xs) = true := h
theorem fm_lst (xs : List D) : fm 60 (.lst xs) = false := rfl
theorem fm_tt (xs ys : List D) : fm 60 (.tup (.tup xs :: ys)) = false := rfl
theorem dep_lst {xs : List D} : dep (.lst xs) = dep (.tup xs) := rfl
theorem turn2 {a b c : Sl} {d : D} (h : rm (n + 200) t) : ∃ r' t', (match setT (.name 6) d (r0 ns a b c) with
    | some r1 => evSs (gam p ns 60) (csOf cst) (.cons (.asg (.name 7) (.call 13 (.cons (.var 0) (.cons (.var 1) (.cons (.cst (.int 3)) (.cons (.lst (.cons (.cst (.str "add")) (.cons (.cst (.str "mul")) (.cons (.cst (.str "pow")) (.cons (.cst (.str "div")) (.cons (.cst (.str "abs")) (.cons (.cst (.str "root")) .nil))))))) .nil)))) .nil)) (.cons (.ite (.or (.not (.call 14 (.cons (.call 5 (.cons (.var 7) .nil) .nil) (.cons (.cst (.bl true)) .nil)) .nil)) (.or (.call 5 (.cons (.blt .list (.var 7)) .nil) .nil) (.call 5 (.cons (.tup (.cons (.var 7) .nil)) .nil) .nil))) (.cons (.ret (.cst (.bl false))) .nil) .nil) (.cons (.ite (.or (.not (.call 5 (.cons (.call 8 (.cons (.var 7) (.cons (.tup .nil) (.cons (.var 3) .nil))) .nil) .nil) .nil)) (.call 5 (.cons (.ix (.var 4) (.call 11 (.cons (.var 0) (.cons (.var 1) (.cons (.blt .len (.var 4)) .nil))) .nil)) .nil) .nil)) (.cons (.ret (.cst (.bl false))) .nil) .nil) .nil))) r1 t
    | none => .bad) = .ok (.nx, r') t' ∧ (∃ a b c, r' = r0 ns a b c) ∧ rm n t' := by
  obtain ⟨f, t1, e1, z, h1⟩ := e_formula (ns := ns) (sc := ns) 3 60 (n + 1) t (by omega) (h.le (by show n + 1 + 147 ≤ n + 200; omega))
  have e1 : callF p ns 60 13 [.scr ns, .tok, .int 3, .lst [.str "add", .str "mul", .str "pow", .str "div", .str "abs", .str "root"]] t = .ok f t1 := e1
  obtain ⟨xs, rfl, hx⟩ := z.t
  have zd := z.dp
  have y1 := e_yn (ns := ns) (t := t1) (.tup xs) (by unfold okD; rw [z.g]; simp; omega) true (z.f 60 (by omega))
  have y2 := e_yn (ns := ns) (t := t1) (.lst xs) (by unfold okD; rw [gd_lst z.g, dep_lst]; simp; omega) false (fm_lst xs)
  have y3 := e_yn (ns := ns) (t := t1) (.tup [.tup xs]) (by
    unfold okD
    have g := z.g
    have e : dep (.tup [.tup xs]) = dep (.tup xs) + 1 := by simp [dep, D.py, pys, PyData.depth, PyData.depthAll]
    rw [e]
    simp only [gd, gds, Bool.and_eq_true, decide_eq_true_eq] at g ⊢
    refine ⟨⟨by simp, ⟨g.1, g.2⟩, trivial⟩, by omega⟩) false (fm_tt xs [])
  have y4 := e_yn (ns := ns) (t := t1) xD (by decide +kernel) true (by decide +kernel)
  obtain ⟨v, t2, e2, a2, b2, h2⟩ := e_draw (ns := ns) (sc := ns) (show 1 ≤ 60 by omega) 33 (by omega) (by omega) h1
  obtain ⟨q, eq, m⟩ : ∃ q, L2.atI oddL v = some q ∧ q ∈ oddL := by
    have hl : (oddL.length : Int) = 33 := rfl
    unfold L2.atI L2.ixN
    rw [if_pos a2, if_pos (by omega)]
    refine ⟨oddL[v.toNat]'(by omega), List.getElem?_eq_getElem (by omega), List.getElem_mem _⟩
  have c := List.all_eq_true.mp chkOdd q m
  unfold chkOne at c
  have c1 := (and2 (and2 (and2 (and2 c).1).1).1).1
  have y5 := e_no (ns := ns) (t := t2) q c1
  have hl : (oddL.length : Int) = 33 := rfl
  have wp := e_with_part (ns := ns) (t := t1) (show 2 ≤ 60 by omega) (.tup xs) xD
  have li := e_law_is (ns := ns) (t := t1) (show 1 ≤ 60 by omega) true true
  refine ⟨r0 ns a (.val d) (.val (.tup xs)), t2, ?_, ⟨_, _, _, rfl⟩, h2⟩
  simp [r0, e1, y1, y2, y3, li, wp, y4, hl, e2, eq, y5]
theorem for2_ev {a : Sl} (h : rm 800 t) : ∃ b c d t', evS (gam p ns 60) (csOf cst) for2 (r0 ns a .un .un) t = .ok (.nx, r0 ns b c d) t' := by
  unfold for2
  rw [evS_for]
  have hi : evI (gam p ns 60) (csOf cst) (.rng1 (.cst (.int 4))) (r0 ns a .un .un) t = .ok (rngD 0 4) t := by
    have : okRng 4 = true := by decide +kernel
    simp [this]
  unfold forE
  rw [hi, Res.bind_ok]
  obtain ⟨r', t', e, ⟨b, c, d, rfl⟩, _⟩ := loopF_ix (I := fun m r t => (∃ a b c, r = r0 ns a b c) ∧ rm (m * 200) t) (rngD 0 4) (r0 ns a .un .un) t 0 ⟨⟨_, _, _, rfl⟩, h⟩ (f := fun d r t => match setT (.name 6) d r with
    | some r1 => evSs (gam p ns 60) (csOf cst) (.cons (.asg (.name 7) (.call 13 (.cons (.var 0) (.cons (.var 1) (.cons (.cst (.int 3)) (.cons (.lst (.cons (.cst (.str "add")) (.cons (.cst (.str "mul")) (.cons (.cst (.str "pow")) (.cons (.cst (.str "div")) (.cons (.cst (.str "abs")) (.cons (.cst (.str "root")) .nil))))))) .nil)))) .nil)) (.cons (.ite (.or (.not (.call 14 (.cons (.call 5 (.cons (.var 7) .nil) .nil) (.cons (.cst (.bl true)) .nil)) .nil)) (.or (.call 5 (.cons (.blt .list (.var 7)) .nil) .nil) (.call 5 (.cons (.tup (.cons (.var 7) .nil)) .nil) .nil))) (.cons (.ret (.cst (.bl false))) .nil) .nil) (.cons (.ite (.or (.not (.call 5 (.cons (.call 8 (.cons (.var 7) (.cons (.tup .nil) (.cons (.var 3) .nil))) .nil) .nil) .nil)) (.call 5 (.cons (.ix (.var 4) (.call 11 (.cons (.var 0) (.cons (.var 1) (.cons (.blt .len (.var 4)) .nil))) .nil)) .nil) .nil)) (.cons (.ret (.cst (.bl false))) .nil) .nil) .nil))) r1 t
    | none => .bad) (by
      intro d m n r t ⟨⟨a, b, c, e⟩, h⟩
      subst e
      obtain ⟨r', t', e, q, h'⟩ := turn2 (ns := ns) (a := a) (b := b) (c := c) (d := d) (n := n * 200) (t := t) (by
        have : (n + 1) * 200 = n * 200 + 200 := by omega
        rw [this] at h
        exact h)
      exact ⟨r', t', e, q, h'⟩)
  exact ⟨b, c, d, t', e⟩
theorem ret_ev {a b c : Sl} : evSs (gam p ns 60) (csOf cst) (.cons ret3 .nil) (r0 ns a b c) t = .ok (.ret (.bl true), r0 ns a b c) t := by
  have y1 := e_yn (ns := ns) (t := t) (.tup [.str "pow", .tup [.str "root", xD], .int 0]) (by decide +kernel) true (by decide +kernel)
  have y2 := e_yn (ns := ns) (t := t) (.tup [.str "div", oneD, .tup [.str "abs", .tup [.str "mul", .tup [xD, xD, oneD]]]]) (by decide +kernel) true (by decide +kernel)
  simp [ret3, r0, y1, y2]
theorem hev (ns : List Int) : ∃ r t, evSs (gam p ns 60) (csOf cst) b_law (startL n_law ns) ⟨0, []⟩ = .ok (.ret (.bl true), r) t := by
  rw [law_eq, pre_ev]
  obtain ⟨a, e1⟩ := for1_ev (ns := ns) (t := ⟨0, []⟩)
  rw [seq_nx e1]
  obtain ⟨b, c, d, t', e2⟩ := for2_ev (ns := ns) (a := a) (t := ⟨0, []⟩) ⟨⟨Int.le_refl _, Nat.le_refl _⟩, by decide⟩
  rw [seq_nx e2]
  exact ⟨_, _, ret_ev⟩
end
end k21
theorem PySem.Challenge.cw_formclear_k21_no_formulas_holds : PySem.Challenge.rw_formclear_k21_no_formulas.Holds := by
  exact k21.fin 60 (by omega) (by omega) (fun ns _ => k21.hev ns)

