import PyProof.Rows.All
import Wide.All
import OpenK.AllK
import Wide.FinOn
import KE.KStateDown
import HandS.ForMost
import HandS.ForExc
import HandS.Walk
import HandS.Defaults
import HandS.IsInst
import HandS.HeadEnd
import HandS.HeadHook2
import HandS.Head2
import HandS.Zip
import HandS.Flow
import HandS.TupAny
import HandS.Style
import HandS.Wide
import HandS.Deep
import HandS.SortInts
import HandS.More
import HandS.MakeKwOnly
import HandS.Lambda
import HandS.EndTab
import HandS.HeadHook4
import HandS.HeadWalk
import HandS.ExcIs
import HandS.Iter
import KE.KDictKeyed
import KE.KDictMeth
import KE.KDictZip
import KE.KUnpackStar
import PySem.Challenge.RW_formclear_k22_parts
set_option Elab.async false
set_option linter.all false
set_option maxRecDepth 100000
set_option maxHeartbeats 16000000
/-! ### plain data, the syntax Core, its evaluator -/
namespace Fm
open PySem
abbrev Key := L2.Key
/-- plain data; tok: the town of the law's draws; scr: the law's script -/
inductive D where
  | non
  | bl (b : Bool)
  | int (i : Int)
  | str (x : Str)
  | tup (xs : List D)
  | lst (xs : List D)
  | dct (kvs : List (Key × D))
  | tok
  | scr (ns : List Int)
  | exc (n : Nat)
  | dcn (kvs : List (NestedKey × D))
instance : Inhabited D := ⟨.non⟩
mutual
def D.py : D → PyData
  | .non => .none
  | .bl b => .bool b
  | .int i => .int i
  | .str x => .str x
  | .tup xs => .tuple (pys xs)
  | .lst xs => .list (pys xs)
  | .dct _ => .dict []
  | .tok => .dict []
  | .scr _ => .dict []
  | .exc _ => .dict []
  | .dcn _ => .dict []
def pys : List D → List PyData
  | [] => []
  | x :: xs => x.py :: pys xs
end
def eqD (a b : D) : Bool := PyData.eqv a.py b.py
def lay (a : D) : Bool := PyData.canLay0 a.py
def dep (a : D) : Nat := PyData.depth a.py
/-- the town: how many draws, the rests of great cells -/
structure Tw where
  count : Int
  rests : List (Int × Int)
/-- the rest at a place -/
def lkT (r : List (Int × Int)) (k : Int) : Option Int := (r.find? fun p => decide (p.1 = k)).map (·.2)
def putT (r : List (Int × Int)) (k v : Int) : List (Int × Int) :=
  if r.any (fun p => decide (p.1 = k)) then r.map (fun p => if p.1 = k then (p.1, v) else p) else r ++ [(k, v)]
inductive Res (α : Type) where
  | ok (a : α) (t : Tw)
  | exc (n : Nat) (t : Tw)
  | bad
def Res.bind {α β : Type} : Res α → (α → Tw → Res β) → Res β
  | .ok a t, f => f a t
  | .exc n t, _ => .exc n t
  | .bad, _ => .bad
@[simp] theorem Res.bind_ok {α β : Type} (a : α) (t : Tw) (f : α → Tw → Res β) : (Res.ok a t).bind f = f a t := rfl
@[simp] theorem Res.bind_exc {α β : Type} (n : Nat) (t : Tw) (f : α → Tw → Res β) : (Res.exc n t : Res α).bind f = .exc n t := rfl
@[simp] theorem Res.bind_bad {α β : Type} (f : α → Tw → Res β) : (Res.bad : Res α).bind f = .bad := rfl
def lift {α : Type} (o : Option α) (t : Tw) : Res α := match o with
  | some a => .ok a t
  | none => .bad
@[simp] theorem lift_some {α : Type} (a : α) (t : Tw) : lift (some a) t = .ok a t := rfl
@[simp] theorem lift_none {α : Type} (t : Tw) : lift (none : Option α) t = .bad := rfl
/-! ### the operations upon data -/
def okMul (i j : Int) : Bool := decide (i.natAbs.log2 + j.natAbs.log2 < 1000000)
def okDiv (j : Int) : Bool := decide (j ≠ 0) && decide (j.natAbs.log2 < 9000)
def okPow (i j : Int) : Bool := decide (0 ≤ j) && decide (j ≤ 1000000) && decide (i.natAbs < 2 ^ 64)
def okLen (n : Nat) : Bool := decide (n ≤ 16777216)
def addD : D → D → Option D
  | .int i, .int j => some (.int (i + j))
  | .str x, .str y => if okLen (x.length + y.length) then some (.str (x ++ y)) else none
  | .tup xs, .tup ys => if okLen (xs.length + ys.length) then some (.tup (xs ++ ys)) else none
  | _, _ => none
def catD : D → D → Option D
  | .lst xs, .lst ys => if okLen (xs.length + ys.length) then some (.lst (xs ++ ys)) else none
  | _, _ => none
def subD : D → D → Option D
  | .int i, .int j => some (.int (i - j))
  | _, _ => none
def mulD : D → D → Option D
  | .int i, .int j => if okMul i j then some (.int (i * j)) else none
  | _, _ => none
def fdivD : D → D → Option D
  | .int i, .int j => if okDiv j then some (.int (i.fdiv j)) else none
  | _, _ => none
def modD : D → D → Option D
  | .int i, .int j => if j = 0 then none else some (.int (i.fmod j))
  | _, _ => none
def powD : D → D → Option D
  | .int i, .int j => if okPow i j then some (.int (i ^ j.toNat)) else none
  | _, _ => none
def shlD : D → D → Option D
  | .int i, .int j => if okPow i j then some (.int (i * 2 ^ j.toNat)) else none
  | _, _ => none
def negD : D → Option D
  | .int i => some (.int (-i))
  | _ => none
def truD : D → Option Bool
  | .non => some false
  | .bl b => some b
  | .int i => some (i != 0)
  | .str x => if okLen x.length then some ((x.length : Int) != 0) else none
  | .tup xs => some (!xs.isEmpty)
  | .lst xs => some (!xs.isEmpty)
  | .scr ns => some (!ns.isEmpty)
  | _ => none
def notD (a : D) : Option D := (truD a).map fun b => .bl (!b)
def okEq (a b : D) : Bool := lay a && lay b && decide (min (dep a) (dep b) ≤ 190)
def eqOp (a b : D) : Option D := if okEq a b then some (.bl (eqD a b)) else none
def neOp (a b : D) : Option D := if okEq a b then some (.bl (!eqD a b)) else none
def ltOp : D → D → Option D
  | .int i, .int j => some (.bl (decide (i < j)))
  | .str x, .str y => some (.bl (decide (x.cps.toList < y.cps.toList)))
  | _, _ => none
def leOp : D → D → Option D
  | .int i, .int j => some (.bl (decide (i ≤ j)))
  | _, _ => none
def gtOp : D → D → Option D
  | .int i, .int j => some (.bl (decide (j < i)))
  | _, _ => none
def geOp : D → D → Option D
  | .int i, .int j => some (.bl (decide (j ≤ i)))
  | _, _ => none
/-- x in y: a sequence of data, or one sign in a text -/
def inB : D → D → Option Bool
  | a, .tup xs => if lay a && (xs.all lay) && decide (dep a ≤ 190) then some (xs.any fun z => eqD z a) else none
  | a, .lst xs => if lay a && (xs.all lay) && decide (dep a ≤ 190) then some (xs.any fun z => eqD z a) else none
  | .str x, .str y => if decide (x.cps.size = 1) then some (decide (x.cps.getD 0 0 ∈ y.cps.toList)) else none
  | _, _ => none
def isN (a : D) : Bool := match a with
  | .non => true
  | _ => false
def cmpD : CmpOp → D → D → Option D
  | .Eq, a, b => eqOp a b
  | .NotEq, a, b => neOp a b
  | .Lt, a, b => ltOp a b
  | .LtE, a, b => leOp a b
  | .Gt, a, b => gtOp a b
  | .GtE, a, b => geOp a b
  | .Is, a, .non => some (.bl (isN a))
  | .IsNot, a, .non => some (.bl (!isN a))
  | .In, a, b => (inB a b).map .bl
  | .NotIn, a, b => (inB a b).map fun r => .bl (!r)
  | _, _, _ => none
def keyD : D → Option Key
  | .int i => some (.inl i)
  | .str x => some (.inr x)
  | _ => none
def lookD (kvs : List (Key × D)) (k : Key) : Option D := (kvs.find? fun kv => decide (kv.1 = k)).map (·.2)
def putD (kvs : List (Key × D)) (k : Key) (d : D) : List (Key × D) :=
  if kvs.any (fun kv => decide (kv.1 = k)) then kvs.map (fun kv => if kv.1 = k then (kv.1, d) else kv) else kvs ++ [(k, d)]
def mergeD (kvs : List (Key × D)) : List (Str × D) → List (Key × D)
  | [] => kvs
  | p :: r => mergeD (putD kvs (.inr p.1) p.2) r
def ixD : D → D → Option D
  | .scr ns, .int i => (L2.atI ns i).map D.int
  | .tup xs, .int i => L2.atI xs i
  | .lst xs, .int i => L2.atI xs i
  | .str x, .int i => if okLen x.length then (L2.atI x.cps.toList i).map fun c => .str ⟨#[c]⟩ else none
  | _, _ => none
def dixD : D → D → Option D
  | .dct kvs, k => (keyD k).bind fun k => lookD kvs k
  | _, _ => none
def cutL {α : Type} (xs : List α) (lo hi : Option Int) : List α := (xs.drop (HT.sIx xs.length 0 lo)).take (HT.sIx xs.length xs.length hi - HT.sIx xs.length 0 lo)
def optI : Option D → Option (Option Int)
  | none => some none
  | some (.int i) => some (some i)
  | _ => none
def cutD (a : D) (l h : Option Int) : Option D := match a with
  | .tup xs => some (.tup (cutL xs l h))
  | .lst xs => some (.lst (cutL xs l h))
  | _ => none
def revD : D → Option D
  | .tup xs => some (.tup xs.reverse)
  | .lst xs => some (.lst xs.reverse)
  | _ => none
def lenD : D → Option D
  | .tup xs => some (.int xs.length)
  | .lst xs => some (.int xs.length)
  | .str x => if okLen x.length then some (.int x.length) else none
  | .scr ns => some (.int ns.length)
  | _ => none
def tyD : D → Option String
  | .non => some "NoneType"
  | .bl _ => some "bool"
  | .int _ => some "int"
  | .str _ => some "str"
  | .tup _ => some "tuple"
  | .lst _ => some "list"
  | _ => none
/-- the classes that are asked -/
inductive Ty where
  | int | bool | str | tuple | list
def Ty.name : Ty → String
  | .int => "int"
  | .bool => "bool"
  | .str => "str"
  | .tuple => "tuple"
  | .list => "list"
def isaD (a : D) (T : Ty) : Option Bool := match a, T with
  | .tok, _ => none
  | .scr _, _ => none
  | .exc _, _ => none
  | .dct _, _ => none
  | .dcn _, _ => none
  | .bl _, .bool => some true
  | .bl _, .int => some true
  | .int _, .int => some true
  | .str _, .str => some true
  | .tup _, .tuple => some true
  | .lst _, .list => some true
  | _, _ => some false
/-- built-in functions of one or two values -/
inductive Blt where
  | len | abs | all | any | sum | tuple | list | sorted | int
def bls : List D → Option (List Bool)
  | [] => some []
  | .bl b :: r => (bls r).map (b :: ·)
  | _ :: _ => none
def intsD : List D → Option (List Int)
  | [] => some []
  | .int i :: r => (intsD r).map (i :: ·)
  | _ :: _ => none
/-- intsD in order -/
def insI (x : Int) : List Int → List Int
  | [] => [x]
  | y :: r => if x ≤ y then x :: y :: r else y :: insI x r
def srtI : List Int → List Int
  | [] => []
  | x :: r => insI x (srtI r)
def keysI : List (Key × D) → Option (List Int)
  | [] => some []
  | (.inl i, _) :: r => (keysI r).map (i :: ·)
  | _ :: _ => none
def blt1 : Blt → D → Option D
  | .len, a => lenD a
  | .abs, .int i => some (.int (if i < 0 then -i else i))
  | .all, .lst xs => (bls xs).map fun bs => .bl (bs.all id)
  | .any, .lst xs => (bls xs).map fun bs => .bl (bs.any id)
  | .sum, .lst xs => (intsD xs).map fun ns => .int ns.sum
  | .tuple, .lst xs => some (.tup xs)
  | .tuple, .tup xs => some (.tup xs)
  | .list, .lst xs => some (.lst xs)
  | .list, .tup xs => some (.lst xs)
  | .sorted, .lst xs => (intsD xs).map fun ns => .lst ((srtI ns).map D.int)
  | .sorted, .dct kvs => (keysI kvs).bind fun ns => if decide (ns.length < 64) then some (.lst ((srtI ns).map D.int)) else none
  | _, _ => none
/-! ### the syntax -/
inductive Cst where
  | non | bl (b : Bool) | int (i : Int) | str (x : Str)
def Cst.d : Cst → D
  | .non => .non
  | .bl b => .bl b
  | .int i => .int i
  | .str x => .str x
mutual
inductive E where
  | cst (c : Cst)
  | var (i : Nat)
  | bor (i : Nat)
  | glob (g : Nat)
  | bin (op : Operator) (a b : E)
  | neg (a : E)
  | not (a : E)
  | and (a b : E)
  | or (a b : E)
  | ite (c a b : E)
  | cmp (op : CmpOp) (a b : E)
  | chain (o1 o2 : CmpOp) (a b c : E)
  | ix (a b : E)
  | dix (a b : E)
  | cat (a b : E)
  | cut (a : E) (lo hi : O)
  | tup (es : Es)
  | lst (es : Es)
  | call (c : Nat) (es ks : Es)
  | blt (b : Blt) (a : E)
  | isa (a : E) (T : Ty)
  | comp (own : List (Str × Nat)) (elt : E) (tg : Tg) (it : I) (cd : O)
  | get (a k d : E)
  | tcount (i : Nat)
  | tget (i : Nat) (k d : E)
  | dsp (kvs : List (Str × Cst))
  | rev (a : E)
  | heard (e : E)
  | isx (a : E) (n : Nat)
  | isv (a : E)
  | dspE (ks : List Str) (es : Es)
inductive O where
  | none
  | some (e : E)
inductive Es where
  | nil
  | cons (e : E) (es : Es)
inductive I where
  | val (e : E)
  | rng1 (a : E)
  | rng2 (a b : E)
  | zip (a b : E)
  | enum (a : E)
  | zipN (a b : E)
  | keys (a : E)
inductive Tg where
  | name (i : Nat)
  | tup (ts : Tgs)
inductive Tgs where
  | nil
  | cons (t : Tg) (ts : Tgs)
end
mutual
inductive S where
  | asg (tg : Tg) (e : E)
  | par (is : List Nat) (es : Es)
  | star (i j : Nat) (e : E)
  | aug (i : Nat) (op : Operator) (e : E)
  | ret (e : E)
  | ite (c : E) (a b : Ss)
  | for (tg : Tg) (it : I) (b : Ss)
  | while (c : E) (b : Ss)
  | exp (e : E)
  | new (i : Nat) (e : E)
  | app (i : Nat) (e : E)
  | put (i : Nat) (k e : E)
  | upd (i : Nat) (e : E)
  | putL (i : Nat) (k e : E)
  | frz (i : Nat)
  | tcnt (i : Nat) (e : E)
  | trst (i : Nat) (k e : E)
  | brk
  | cont
  | raise (n : Nat) (x : Str)
inductive Ss where
  | nil
  | cons (s : S) (r : Ss)
end

/-! ### the evaluator -/
/-- a slot: nothing, a datum, an object of the def's own (a list, a dict) that it may change -/
inductive Sl where
  | un
  | val (d : D)
  | own (d : D)
abbrev Rho := List Sl
/-- the values alone -/
def valsR (r : Rho) : Rho := r.map fun s => match s with
  | .own _ => .un
  | s => s
def wipeR (r : Rho) : List Nat → Rho
  | [] => r
  | v :: vs => (wipeR r vs).set v .un
mutual
def setT : Tg → D → Rho → Option Rho
  | .name i, d, r => if decide (i < r.length) then some (r.set i (.val d)) else none
  | .tup ts, .tup xs, r => setTs ts xs r
  | .tup _, _, _ => none
def setTs : Tgs → List D → Rho → Option Rho
  | .nil, [], r => some r
  | .cons t ts, x :: xs, r => (setT t x r).bind fun r1 => setTs ts xs r1
  | _, _, _ => none
end
def consO (o : Option D) (xs : List D) : List D := match o with
  | some x => x :: xs
  | none => xs
/-- a comprehension's turns; what is raised within is not carried -/
def compL (f : D → Tw → Res (Option D)) : List D → Tw → Res (List D)
  | [], t => .ok [] t
  | d :: r, t => match f d t with
    | .ok o t1 => (compL f r t1).bind fun xs t2 => .ok (consO o xs) t2
    | _ => .bad
def strD (x : Str) : List D := x.cps.toList.map fun c => .str ⟨#[c]⟩
def rngD (lo : Int) (n : Nat) : List D := (List.range n).map fun k => .int (lo + (k : Nat))
def okRng (i : Int) : Bool := decide (-(2 ^ 62) ≤ i) && decide (i < 2 ^ 62)
def zipD : List D → List D → List D
  | x :: xs, y :: ys => .tup [x, y] :: zipD xs ys
  | _, _ => []
def enumD (k : Nat) : List D → List D
  | [] => []
  | x :: xs => .tup [.int (k : Nat), x] :: enumD (k + 1) xs
/-- what calls tell: the level; so many levels deeper, the call's form, values, keywords' values -/
structure Gam where
  lv : Nat
  f : Nat → Nat → List D → List D → Tw → Res D
def Gam.low (G : Gam) : Gam := ⟨G.lv - 2, fun d => G.f (d + 2)⟩
/-- the words of what is refused -/
def hWord : Nat → Str
  | 0 => "no root"
  | 1 => "no form"
  | 2 => "by nought"
  | 3 => "no quotient"
  | 4 => "no name"
  | 5 => "no path"
  | 6 => "spent"
  | 7 => "bad word"
  | 8 => "no text"
  | _ => "is wrong"
/-- what the law hears of a deed -/
def heardR : Res D → Res D
  | .ok v t => .ok (.tup [.str "told", v]) t
  | .exc n t => if decide (n < 9) then .ok (.tup [.str (hWord n)]) t else .bad
  | .bad => .bad
def isxD (a : D) (n : Nat) : Option D := match a with
  | .exc m => if decide (m < 9) && decide (n < 9) then some (.bl (decide (m = n))) else none
  | _ => none
def isvD : D → Option D
  | .exc m => if decide (m < 9) then some (.bl true) else none
  | _ => none
def kD : Key → D
  | .inl i => .int i
  | .inr x => .str x
def joinD (kvs : List (Key × D)) : List (Key × D) → List (Key × D)
  | [] => kvs
  | p :: r => joinD (putD kvs p.1 p.2) r
def binD : Operator → D → D → Option D
  | .Add, a, b => addD a b
  | .Sub, a, b => subD a b
  | .Mult, a, b => mulD a b
  | .FloorDiv, a, b => fdivD a b
  | .Mod, a, b => modD a b
  | .Pow, a, b => powD a b
  | .LShift, a, b => shlD a b
  | _, _, _ => none
mutual
def ev (G : Gam) (cs : Nat → D) : E → Rho → Tw → Res D
  | .cst c, _, t => .ok c.d t
  | .var i, r, t => match r[i]? with
    | some (.val d) => .ok d t
    | _ => .bad
  | .bor i, r, t => match r[i]? with
    | some (.val d) => .ok d t
    | some (.own d) => .ok d t
    | _ => .bad
  | .glob g, _, t => .ok (cs g) t
  | .bin op a b, r, t => (ev G cs a r t).bind fun x t1 => (ev G cs b r t1).bind fun y t2 => lift (binD op x y) t2
  | .neg a, r, t => (ev G cs a r t).bind fun x t1 => lift (negD x) t1
  | .not a, r, t => (ev G cs a r t).bind fun x t1 => lift (notD x) t1
  | .and a b, r, t => (ev G cs a r t).bind fun x t1 => match truD x with
    | some true => ev G cs b r t1
    | some false => .ok x t1
    | none => .bad
  | .or a b, r, t => (ev G cs a r t).bind fun x t1 => match truD x with
    | some true => .ok x t1
    | some false => ev G cs b r t1
    | none => .bad
  | .ite c a b, r, t => (ev G cs c r t).bind fun x t1 => match truD x with
    | some true => ev G cs a r t1
    | some false => ev G cs b r t1
    | none => .bad
  | .cmp op a b, r, t => (ev G cs a r t).bind fun x t1 => (ev G cs b r t1).bind fun y t2 => lift (cmpD op x y) t2
  | .chain o1 o2 a b c, r, t => (ev G cs a r t).bind fun x t1 => (ev G cs b r t1).bind fun y t2 => match cmpD o1 x y with
    | some (.bl true) => (ev G cs c r t2).bind fun z t3 => lift (cmpD o2 y z) t3
    | some (.bl false) => .ok (.bl false) t2
    | _ => .bad
  | .ix a b, r, t => (ev G cs a r t).bind fun x t1 => (ev G cs b r t1).bind fun y t2 => lift (ixD x y) t2
  | .dix a b, r, t => (ev G cs a r t).bind fun x t1 => (ev G cs b r t1).bind fun y t2 => lift (dixD x y) t2
  | .cat a b, r, t => (ev G cs a r t).bind fun x t1 => (ev G cs b r t1).bind fun y t2 => lift (catD x y) t2
  | .cut a lo hi, r, t => (ev G cs a r t).bind fun x t1 => (evO G cs lo r t1).bind fun l t2 => (lift (optI l) t2).bind fun l t2 => (evO G cs hi r t2).bind fun h t3 => (lift (optI h) t3).bind fun h t3 => lift (cutD x l h) t3
  | .tup es, r, t => (evs G cs es r t).bind fun xs t1 => if okLen xs.length then .ok (.tup xs) t1 else .bad
  | .lst es, r, t => (evs G cs es r t).bind fun xs t1 => if okLen xs.length then .ok (.lst xs) t1 else .bad
  | .call c es ks, r, t => (evs G cs es r t).bind fun xs t1 => (evs G cs ks r t1).bind fun ys t2 => G.f 0 c xs ys t2
  | .blt b a, r, t => (ev G cs a r t).bind fun x t1 => lift (blt1 b x) t1
  | .isa a T, r, t => (ev G cs a r t).bind fun x t1 => lift ((isaD x T).map D.bl) t1
  | .comp own elt tg it cd, r, t => (evI G cs it r t).bind fun xs t1 => if okLen xs.length then
      (compL (fun d t => match setT tg d (wipeR r (own.map (·.2))) with
        | some r2 => (evO G cs cd r2 t).bind fun o t => match o with
          | none => (ev G cs elt r2 t).bind fun x t => .ok (some x) t
          | some y => match truD y with
            | some true => (ev G cs elt r2 t).bind fun x t => .ok (some x) t
            | some false => .ok none t
            | none => .bad
        | none => .bad) xs t1).bind fun ys t2 => .ok (.lst ys) t2 else .bad
  | .get a k d, r, t => (ev G cs a r t).bind fun x t1 => match x with
    | .dct kvs => (ev G cs k r t1).bind fun y t2 => (ev G cs d r t2).bind fun z t3 => (match keyD y with
      | some k => .ok ((lookD kvs k).getD z) t3
      | none => .bad)
    | _ => .bad
  | .tcount i, r, t => match r[i]? with
    | some (.val .tok) => .ok (.int t.count) t
    | _ => .bad
  | .tget i k d, r, t => match r[i]? with
    | some (.val .tok) => (ev G cs k r t).bind fun y t1 => (ev G cs d r t1).bind fun z t2 => (match y, z with
      | .int a, .int b => .ok (.int ((lkT t2.rests a).getD b)) t2
      | _, _ => .bad)
    | _ => .bad
  | .dsp kvs, r, t => if decide (kvs.length ≤ 15) then .ok (.dct (mergeD [] (kvs.map fun p => (p.1, p.2.d)))) t else .bad
  | .rev a, r, t => (ev G cs a r t).bind fun x t1 => lift (revD x) t1
  | .heard e, r, t => if decide (2 ≤ G.lv) then heardR (ev G.low cs e (valsR r) t) else .bad
  | .isx a n, r, t => (ev G cs a r t).bind fun x t1 => lift (isxD x n) t1
  | .isv a, r, t => (ev G cs a r t).bind fun x t1 => lift (isvD x) t1
  | .dspE ks es, r, t => (evs G cs es r t).bind fun xs t1 => if decide (xs.length ≤ 15) && decide (xs.length = ks.length) && decide (0 < xs.length) then .ok (.dct (mergeD [] (ks.zip xs))) t1 else .bad
def evO (G : Gam) (cs : Nat → D) : O → Rho → Tw → Res (Option D)
  | .none, _, t => .ok none t
  | .some e, r, t => (ev G cs e r t).bind fun x t1 => .ok (some x) t1
def evs (G : Gam) (cs : Nat → D) : Es → Rho → Tw → Res (List D)
  | .nil, _, t => .ok [] t
  | .cons e es, r, t => (ev G cs e r t).bind fun x t1 => (evs G cs es r t1).bind fun xs t2 => .ok (x :: xs) t2
def evI (G : Gam) (cs : Nat → D) : I → Rho → Tw → Res (List D)
  | .val e, r, t => (ev G cs e r t).bind fun x t1 => match x with
    | .tup xs => .ok xs t1
    | .lst xs => .ok xs t1
    | .str x => .ok (strD x) t1
    | _ => .bad
  | .rng1 a, r, t => (ev G cs a r t).bind fun x t1 => match x with
    | .int j => if okRng j then .ok (rngD 0 j.toNat) t1 else .bad
    | _ => .bad
  | .rng2 a b, r, t => (ev G cs a r t).bind fun x t1 => (ev G cs b r t1).bind fun y t2 => match x, y with
    | .int i, .int j => if okRng i && okRng j then .ok (rngD i (j - i).toNat) t2 else .bad
    | _, _ => .bad
  | .zip a b, r, t => (ev G cs a r t).bind fun x t1 => (ev G cs b r t1).bind fun y t2 => match x, y with
    | .tup xs, .tup ys => .ok (zipD xs ys) t2
    | .lst xs, .lst ys => .ok (zipD xs ys) t2
    | _, _ => .bad
  | .enum a, r, t => (ev G cs a r t).bind fun x t1 => match x with
    | .lst xs => .ok (enumD 0 xs) t1
    | _ => .bad
  | .zipN a b, r, t => (ev G cs a r t).bind fun x t1 => (ev G cs b r t1).bind fun y t2 => match x, y with
    | .tup xs, .tup ys => .ok (zipD xs ys) t2
    | _, _ => .bad
  | .keys a, r, t => (ev G cs a r t).bind fun x t1 => match x with
    | .dct kvs => .ok (kvs.map fun p => kD p.1) t1
    | _ => .bad
end
/-! ### statements -/
inductive Fl where
  | nx | brk | cont
  | ret (d : D)
def loopF (f : D → Rho → Tw → Res (Fl × Rho)) : List D → Rho → Tw → Res (Fl × Rho)
  | [], r, t => .ok (.nx, r) t
  | d :: ds, r, t => (f d r t).bind fun p t1 => match p with
    | (.nx, r1) => loopF f ds r1 t1
    | (.cont, r1) => loopF f ds r1 t1
    | (.brk, r1) => .ok (.nx, r1) t1
    | (.ret d, r1) => .ok (.ret d, r1) t1
/-- n turns of a while at most; none: they do not suffice -/
def loopN (c : Rho → Tw → Res D) (f : Rho → Tw → Res (Fl × Rho)) : Nat → Rho → Tw → Option (Res (Fl × Rho))
  | 0, _, _ => none
  | n + 1, r, t => match c r t with
    | .exc k t1 => some (.exc k t1)
    | .bad => some .bad
    | .ok x t1 => match truD x with
      | none => some .bad
      | some false => some (.ok (.nx, r) t1)
      | some true => match f r t1 with
        | .exc k t2 => some (.exc k t2)
        | .bad => some .bad
        | .ok (.nx, r1) t2 => loopN c f n r1 t2
        | .ok (.cont, r1) t2 => loopN c f n r1 t2
        | .ok (.brk, r1) t2 => some (.ok (.nx, r1) t2)
        | .ok (.ret d, r1) t2 => some (.ok (.ret d, r1) t2)
open Classical in
/-- a while -/
noncomputable def loopW (c : Rho → Tw → Res D) (f : Rho → Tw → Res (Fl × Rho)) (r : Rho) (t : Tw) : Res (Fl × Rho) :=
  if h : ∃ n v, loopN c f n r t = some v then h.choose_spec.choose else .bad
theorem loopN_mono {c : Rho → Tw → Res D} {f : Rho → Tw → Res (Fl × Rho)} {n : Nat} : ∀ {m : Nat} {r : Rho} {t : Tw} {v : Res (Fl × Rho)}, loopN c f n r t = some v → n ≤ m → loopN c f m r t = some v := by
  induction n with
  | zero => intro m r t v h _; simp [loopN] at h
  | succ n ih =>
    intro m r t v h hm
    obtain ⟨m, rfl⟩ : ∃ k, m = k + 1 := ⟨m - 1, by omega⟩
    have hm' : n ≤ m := by omega
    simp only [loopN] at h ⊢
    cases hc : c r t with
    | exc k t1 => rw [hc] at h; exact h
    | bad => rw [hc] at h; exact h
    | ok x t1 =>
      rw [hc] at h
      simp only at h ⊢
      cases hx : truD x with
      | none => rw [hx] at h; exact h
      | some b =>
        rw [hx] at h
        cases b with
        | false => exact h
        | true =>
          simp only at h ⊢
          cases hf : f r t1 with
          | exc k t2 => rw [hf] at h; exact h
          | bad => rw [hf] at h; exact h
          | ok p t2 =>
            rw [hf] at h
            obtain ⟨fl, r1⟩ := p
            cases fl with
            | nx => exact ih h hm'
            | cont => exact ih h hm'
            | brk => exact h
            | ret d => exact h
theorem loopW_of {c : Rho → Tw → Res D} {f : Rho → Tw → Res (Fl × Rho)} {n : Nat} {r : Rho} {t : Tw} {v : Res (Fl × Rho)} (h : loopN c f n r t = some v) : loopW c f r t = v := by
  unfold loopW
  have hx : ∃ n v, loopN c f n r t = some v := ⟨n, v, h⟩
  rw [dif_pos hx]
  have h2 := hx.choose_spec.choose_spec
  have e1 := loopN_mono h (Nat.le_max_left n hx.choose)
  have e2 := loopN_mono h2 (Nat.le_max_right n hx.choose)
  rw [e1] at e2
  exact (Option.some.inj e2).symm
theorem loopW_not {c : Rho → Tw → Res D} {f : Rho → Tw → Res (Fl × Rho)} {r : Rho} {t : Tw} (h : loopW c f r t ≠ .bad) : ∃ n, loopN c f n r t = some (loopW c f r t) := by
  unfold loopW at h ⊢
  by_cases hx : ∃ n v, loopN c f n r t = some v
  · rw [dif_pos hx] at h ⊢
    exact ⟨_, hx.choose_spec.choose_spec⟩
  · rw [dif_neg hx] at h
    exact absurd rfl h
/-- one turn -/
theorem loopW_eq (c : Rho → Tw → Res D) (f : Rho → Tw → Res (Fl × Rho)) (r : Rho) (t : Tw) : loopW c f r t = (c r t).bind fun x t1 => match truD x with
    | none => .bad
    | some false => .ok (.nx, r) t1
    | some true => (f r t1).bind fun p t2 => match p with
      | (.nx, r1) => loopW c f r1 t2
      | (.cont, r1) => loopW c f r1 t2
      | (.brk, r1) => .ok (.nx, r1) t2
      | (.ret d, r1) => .ok (.ret d, r1) t2 := by
  have key : ∀ r1 t2, (∀ n, loopN c f (n + 1) r t = loopN c f n r1 t2) → loopW c f r t = loopW c f r1 t2 := by
    intro r1 t2 h
    by_cases hb : loopW c f r1 t2 = .bad
    · rw [hb]
      by_cases ha : loopW c f r t = .bad
      · exact ha
      · obtain ⟨n, hn⟩ := loopW_not ha
        cases n with
        | zero => simp [loopN] at hn
        | succ n =>
          rw [h n] at hn
          have := loopW_of hn
          rw [hb] at this
          exact this.symm
    · obtain ⟨n, hn⟩ := loopW_not hb
      exact loopW_of (n := n + 1) ((h n).trans hn)
  cases hc : c r t with
  | exc k t1 => exact loopW_of (n := 1) (by simp [loopN, hc])
  | bad => exact loopW_of (n := 1) (by simp [loopN, hc])
  | ok x t1 =>
    simp only [Res.bind_ok]
    cases hx : truD x with
    | none => exact loopW_of (n := 1) (by simp [loopN, hc, hx])
    | some b =>
      cases b with
      | false => exact loopW_of (n := 1) (by simp [loopN, hc, hx])
      | true =>
        cases hf : f r t1 with
        | exc k t2 => exact loopW_of (n := 1) (by simp [loopN, hc, hx, hf])
        | bad => exact loopW_of (n := 1) (by simp [loopN, hc, hx, hf])
        | ok p t2 =>
          obtain ⟨fl, r1⟩ := p
          cases fl with
          | nx => exact key r1 t2 fun n => by simp [loopN, hc, hx, hf]
          | cont => exact key r1 t2 fun n => by simp [loopN, hc, hx, hf]
          | brk => exact loopW_of (n := 1) (by simp [loopN, hc, hx, hf])
          | ret d => exact loopW_of (n := 1) (by simp [loopN, hc, hx, hf])
def setAll : List Nat → List D → Rho → Option Rho
  | [], [], r => some r
  | i :: is, d :: ds, r => if decide (i < r.length) then setAll is ds (r.set i (.val d)) else none
  | _, _, _ => none
def okSet (r : Rho) (i : Nat) (s : Sl) (t : Tw) : Res (Fl × Rho) := if decide (i < r.length) then .ok (.nx, r.set i s) t else .bad
mutual
noncomputable def evS (G : Gam) (cs : Nat → D) : S → Rho → Tw → Res (Fl × Rho)
  | .asg tg e, r, t => (ev G cs e r t).bind fun x t1 => lift ((setT tg x r).map fun r1 => (.nx, r1)) t1
  | .par is es, r, t => (evs G cs es r t).bind fun xs t1 => lift ((setAll is xs r).map fun r1 => (.nx, r1)) t1
  | .star i j e, r, t => (ev G cs e r t).bind fun x t1 => match x with
    | .tup (y :: ys) => if decide (i < r.length) && decide (j < r.length) && decide (ys.length < 16384) then .ok (.nx, (r.set i (.val y)).set j (.val (.lst ys))) t1 else .bad
    | _ => .bad
  | .aug i op e, r, t => match r[i]? with
    | some (.val x) => (ev G cs e r t).bind fun y t1 => match x, y with
      | .int _, .int _ => lift ((binD op x y).map fun z => (.nx, r.set i (.val z))) t1
      | _, _ => .bad
    | _ => .bad
  | .ret e, r, t => (ev G cs e r t).bind fun x t1 => .ok (.ret x, r) t1
  | .ite c a b, r, t => (ev G cs c r t).bind fun x t1 => match truD x with
    | some true => evSs G cs a r t1
    | some false => evSs G cs b r t1
    | none => .bad
  | .for tg it b, r, t => (evI G cs it r t).bind fun xs t1 => loopF (fun d r t => match setT tg d r with
    | some r1 => evSs G cs b r1 t
    | none => .bad) xs r t1
  | .while c b, r, t => loopW (fun r t => ev G cs c r t) (fun r t => evSs G cs b r t) r t
  | .exp e, r, t => (ev G cs e r t).bind fun _ t1 => .ok (.nx, r) t1
  | .new i e, r, t => (ev G cs e r t).bind fun x t1 => okSet r i (.own x) t1
  | .app i e, r, t => match r[i]? with
    | some (.own (.lst xs)) => (ev G cs e r t).bind fun x t1 => if decide (xs.length < 16777216) then .ok (.nx, r.set i (.own (.lst (xs ++ [x])))) t1 else .bad
    | _ => .bad
  | .put i k e, r, t => match r[i]? with
    | some (.own (.dct kvs)) => (ev G cs e r t).bind fun x t1 => (ev G cs k r t1).bind fun y t2 => (match keyD y with
      | some k => if decide (kvs.length < 16777216) then .ok (.nx, r.set i (.own (.dct (putD kvs k x)))) t2 else .bad
      | none => .bad)
    | _ => .bad
  | .upd i e, r, t => match r[i]? with
    | some (.own (.dct kvs)) => (ev G cs e r t).bind fun x t1 => (match x with
      | .dct more => if decide (kvs.length + more.length ≤ 16777216) then .ok (.nx, r.set i (.own (.dct (joinD kvs more)))) t1 else .bad
      | _ => .bad)
    | _ => .bad
  | .putL i k e, r, t => match r[i]? with
    | some (.own (.lst xs)) => (ev G cs e r t).bind fun x t1 => (ev G cs k r t1).bind fun y t2 => (match y with
      | .int j => (match L2.ixN xs.length j with
        | some n => .ok (.nx, r.set i (.own (.lst (xs.set n x)))) t2
        | none => .bad)
      | _ => .bad)
    | _ => .bad
  | .frz i, r, t => match r[i]? with
    | some (.own d) => .ok (.nx, r.set i (.val d)) t
    | some (.val _) => .ok (.nx, r) t
    | _ => .bad
  | .tcnt i e, r, t => match r[i]? with
    | some (.val .tok) => (ev G cs e r t).bind fun x t1 => (match x with
      | .int c => .ok (.nx, r) { t1 with count := c }
      | _ => .bad)
    | _ => .bad
  | .trst i k e, r, t => match r[i]? with
    | some (.val .tok) => (ev G cs e r t).bind fun x t1 => (ev G cs k r t1).bind fun y t2 => (match x, y with
      | .int v, .int a => if decide (t2.rests.length < 1000000) then .ok (.nx, r) { t2 with rests := putT t2.rests a v } else .bad
      | _, _ => .bad)
    | _ => .bad
  | .brk, r, t => .ok (.brk, r) t
  | .cont, r, t => .ok (.cont, r) t
  | .raise n _, _, t => .exc n t
noncomputable def evSs (G : Gam) (cs : Nat → D) : Ss → Rho → Tw → Res (Fl × Rho)
  | .nil, r, t => .ok (.nx, r) t
  | .cons s ss, r, t => (evS G cs s r t).bind fun p t1 => match p with
    | (.nx, r1) => evSs G cs ss r1 t1
    | q => .ok q t1
end
end Fm

/-! ### a value bears a datum; the state bears an environment -/
namespace Fm
open PySem PySem.Spec PyProof.Rows L2
/-- where the town (a, its rests b) and the script stand, the script's ints -/
structure Tn where
  a : Addr
  b : Addr
  s : Addr
  ns : List Int
  tabs : List (Addr × Str)
  cl : Nat → Addr
/-- a caught exception of the class cls, at a -/
def ExI (cls : Value) (a : Addr) : HO := .ext fun h => ∃ (oe : Obj) (vs : Array Value), h.get? a = some oe ∧ Zc cls none oe ∧ oe.data = .fields vs
mutual
inductive Rp (K : PySem.W.Frag) (T : Tn) (F : Hp) : V → D → Prop
  | non : Rp K T F .non .non
  | bl (b : Bool) : Rp K T F (.bl b) (.bl b)
  | int (i : Int) : Rp K T F (.int i) (.int i)
  | str (x : Str) : Rp K T F (.str x) (.str x)
  | tup {a : Addr} {xs : List V} {ds : List D} : SqT K F a xs → xs.length ≤ sizeLine → RpL K T F xs ds → Rp K T F (.ref a) (.tup ds)
  | lst {a : Addr} {xs : List V} {ds : List D} : F a = some (.lst xs) → xs.length ≤ sizeLine → RpL K T F xs ds → Rp K T F (.ref a) (.lst ds)
  | dct {a : Addr} {o : Obj} {kvs : List (Key × V)} {es : List (Key × D)} : F a = some (.frz o (.dK kvs)) → kvs.length ≤ sizeLine → RpK K T F kvs es → Rp K T F (.ref a) (.dct es)
  | exc {a : Addr} (n : Nat) : F a = some (ExI (.ref (T.cl n)) a) → Rp K T F (.ref a) (.exc n)
  | tok : Rp K T F (.ref T.a) .tok
  | scr : Rp K T F (.ref T.s) (.scr T.ns)
inductive RpL (K : PySem.W.Frag) (T : Tn) (F : Hp) : List V → List D → Prop
  | nil : RpL K T F [] []
  | cons {v : V} {vs : List V} {d : D} {ds : List D} : Rp K T F v d → RpL K T F vs ds → RpL K T F (v :: vs) (d :: ds)
inductive RpK (K : PySem.W.Frag) (T : Tn) (F : Hp) : List (Key × V) → List (Key × D) → Prop
  | nil : RpK K T F [] []
  | cons {k : Key} {v : V} {kvs : List (Key × V)} {d : D} {es : List (Key × D)} : Rp K T F v d → RpK K T F kvs es → RpK K T F ((k, v) :: kvs) ((k, d) :: es)
end
theorem sqT_mono {K : PySem.W.Frag} {F F' : Hp} {a : Addr} {xs : List V} (e : Same F F') (h : SqT K F a xs) : SqT K F' a xs := by
  rcases h with h | h
  · rcases h with h | ⟨o, h⟩
    · exact .inl (.inl (e _ _ h))
    · exact .inl (.inr ⟨o, e _ _ h⟩)
  · exact .inr h
theorem sqL_mono {K : PySem.W.Frag} {F F' : Hp} {a : Addr} {xs : List V} (e : Same F F') (h : SqL K F a xs) : SqL K F' a xs := by
  rcases h with h | h
  · rcases h with h | ⟨o, h⟩
    · exact .inl (.inl (e _ _ h))
    · exact .inl (.inr ⟨o, e _ _ h⟩)
  · exact .inr h
section
variable {K : PySem.W.Frag} {T : Tn} {F F' H : Hp}
mutual
theorem Rp.mono (e : Same F F') : ∀ {v : V} {d : D}, Rp K T F v d → Rp K T F' v d
  | _, _, .non => .non
  | _, _, .bl b => .bl b
  | _, _, .int i => .int i
  | _, _, .str x => .str x
  | _, _, .tup h z r => .tup (sqT_mono e h) z (r.mono e)
  | _, _, .lst h z r => .lst (e _ _ h) z (r.mono e)
  | _, _, .dct h z r => .dct (e _ _ h) z (r.mono e)
  | _, _, .exc n h => .exc n (e _ _ h)
  | _, _, .tok => .tok
  | _, _, .scr => .scr
theorem RpL.mono (e : Same F F') : ∀ {v : List V} {d : List D}, RpL K T F v d → RpL K T F' v d
  | _, _, .nil => .nil
  | _, _, .cons h r => .cons (h.mono e) (r.mono e)
theorem RpK.mono (e : Same F F') : ∀ {v : List (Key × V)} {d : List (Key × D)}, RpK K T F v d → RpK K T F' v d
  | _, _, .nil => .nil
  | _, _, .cons h r => .cons (h.mono e) (r.mono e)
end
theorem RpL.length : ∀ {vs : List V} {ds : List D}, RpL K T F vs ds → vs.length = ds.length
  | _, _, .nil => rfl
  | _, _, .cons _ r => congrArg Nat.succ r.length
theorem RpK.length : ∀ {vs : List (Key × V)} {ds : List (Key × D)}, RpK K T F vs ds → vs.length = ds.length
  | _, _, .nil => rfl
  | _, _, .cons _ r => congrArg Nat.succ r.length
theorem RpL.get : ∀ {vs : List V} {ds : List D}, RpL K T F vs ds → ∀ {i : Nat} {d : D}, ds[i]? = some d → ∃ v, vs[i]? = some v ∧ Rp K T F v d
  | _, _, .nil, i, d, h => by simp at h
  | _, _, .cons h r, 0, d, e => by
    have e2 := Option.some.inj (show some _ = some d from e)
    subst e2
    exact ⟨_, rfl, h⟩
  | _, _, .cons h r, i + 1, d, e => r.get (i := i) e
theorem RpL.get' : ∀ {vs : List V} {ds : List D}, RpL K T F vs ds → ∀ {i : Nat} {v : V}, vs[i]? = some v → ∃ d, ds[i]? = some d ∧ Rp K T F v d
  | _, _, .nil, i, d, h => by simp at h
  | _, _, .cons h r, 0, d, e => by
    have e2 := Option.some.inj (show some _ = some d from e)
    subst e2
    exact ⟨_, rfl, h⟩
  | _, _, .cons h r, i + 1, d, e => r.get' (i := i) e
theorem RpL.append : ∀ {vs ws : List V} {ds es : List D}, RpL K T F vs ds → RpL K T F ws es → RpL K T F (vs ++ ws) (ds ++ es)
  | _, _, _, _, .nil, q => q
  | _, _, _, _, .cons h r, q => .cons h (r.append q)
theorem RpL.take : ∀ {vs : List V} {ds : List D} (n : Nat), RpL K T F vs ds → RpL K T F (vs.take n) (ds.take n)
  | _, _, 0, _ => .nil
  | _, _, _ + 1, .nil => .nil
  | _, _, n + 1, .cons h r => .cons h (r.take n)
theorem RpL.drop : ∀ {vs : List V} {ds : List D} (n : Nat), RpL K T F vs ds → RpL K T F (vs.drop n) (ds.drop n)
  | _, _, 0, r => r
  | _, _, _ + 1, .nil => .nil
  | _, _, n + 1, .cons h r => r.drop n
theorem RpL.set {v : V} {d : D} (h : Rp K T F v d) : ∀ {vs : List V} {ds : List D} (n : Nat), RpL K T F vs ds → RpL K T F (vs.set n v) (ds.set n d)
  | _, _, _, .nil => .nil
  | _, _, 0, .cons _ r => .cons h r
  | _, _, n + 1, .cons q r => .cons q (RpL.set h n r)
theorem RpL.intsOf : ∀ {vs : List V} {ds : List D} {ns : List Int}, RpL K T F vs ds → intsD ds = some ns → vs = ns.map V.int
  | _, _, ns, .nil, h => by
    simp only [intsD, Option.some.injEq] at h
    subst h
    rfl
  | _, _, ns, @RpL.cons _ _ _ v vs d ds h r, e => by
    cases h with
    | int i =>
      simp only [intsD, Option.map_eq_some_iff] at e
      obtain ⟨ms, e1, e2⟩ := e
      subst e2
      rw [r.intsOf e1]
      rfl
    | _ => simp [intsD] at e
theorem RpL.blsOf : ∀ {vs : List V} {ds : List D} {ns : List Bool}, RpL K T F vs ds → bls ds = some ns → vs = ns.map V.bl
  | _, _, ns, .nil, h => by
    simp only [bls, Option.some.injEq] at h
    subst h
    rfl
  | _, _, ns, @RpL.cons _ _ _ v vs d ds h r, e => by
    cases h with
    | bl i =>
      simp only [bls, Option.map_eq_some_iff] at e
      obtain ⟨ms, e1, e2⟩ := e
      subst e2
      rw [r.blsOf e1]
      rfl
    | _ => simp [bls] at e
theorem RpL.ofInts : ∀ (ns : List Int), RpL K T F (ns.map V.int) (ns.map D.int)
  | [] => .nil
  | n :: ns => .cons (.int n) (RpL.ofInts ns)
/-- data of any depth, as the library has it -/
theorem lay_cons {x : D} {xs : List D} (h : PyData.canLayAll0 (pys (x :: xs)) = true) : lay x = true ∧ PyData.canLayAll0 (pys xs) = true := by
  have h2 : (PyData.canLay0 x.py && PyData.canLayAll0 (pys xs)) = true := by
    simpa only [pys, PyData.canLayAll0] using h
  exact Bool.and_eq_true_iff.mp h2
mutual
theorem Rp.dp (s : Same F H) : ∀ {v : V} {d : D}, Rp K T F v d → lay d = true → Dp K H v d.py
  | _, _, .non, _ => .non
  | _, _, .bl b, _ => .bl b
  | _, _, .int i, _ => .int i
  | _, _, .str x, _ => .str x
  | _, _, .tup h z r, l => .tup (sqT_mono s h) (r.dp s (by simpa only [lay, D.py, PyData.canLay0] using l))
  | _, _, .lst h z r, l => .lst (SqL.of (s _ _ h)) (r.dp s (by simpa only [lay, D.py, PyData.canLay0] using l))
  | _, _, .dct h z r, l => by simp [lay, D.py, PyData.canLay0] at l
  | _, _, .exc n h, l => by simp [lay, D.py, PyData.canLay0] at l
  | _, _, .tok, l => by simp [lay, D.py, PyData.canLay0] at l
  | _, _, .scr, l => by simp [lay, D.py, PyData.canLay0] at l
theorem RpL.dp (s : Same F H) : ∀ {v : List V} {d : List D}, RpL K T F v d → PyData.canLayAll0 (pys d) = true → DpAll K H v (pys d)
  | _, _, .nil, _ => .nil
  | _, _, .cons h r, l => .cons (h.dp s (lay_cons l).1) (r.dp s (lay_cons l).2)
end
end
/-! ### the state -/
theorem tabs_upd {T : List (Addr × Str)} {H : Hp} {p : Addr} {o : HO} (t : LamX.Tabs T H) (n1 : ∀ ps, H p ≠ some (.tbl ps)) (n2 : ∀ c q, H p ≠ some (LamX.CodeO c q)) : LamX.Tabs T (upd H p o) := fun x hx => by
  obtain ⟨ps, h1, h2, h3⟩ := t x hx
  refine ⟨ps, ?_, h2, fun pos cv hc => ?_⟩
  · rw [upd_ne (fun z => n1 ps (by rw [← z]; exact h1))]
    exact h1
  · obtain ⟨c, e1, e2⟩ := h3 pos cv hc
    refine ⟨c, e1, ?_⟩
    rw [upd_ne (fun z => n2 c x.2 (by rw [← z]; exact e2))]
    exact e2
theorem tabs_none {T : List (Addr × Str)} {H : Hp} {p : Addr} {o : HO} (t : LamX.Tabs T H) (h : H p = none) : LamX.Tabs T (upd H p o) := tabs_upd t (fun ps z => by rw [h] at z; cases z) fun c q z => by rw [h] at z; cases z
theorem tabs_lst {T : List (Addr × Str)} {H : Hp} {p : Addr} {o : HO} {xs : List V} (t : LamX.Tabs T H) (h : H p = some (.lst xs)) : LamX.Tabs T (upd H p o) := tabs_upd t (fun ps z => by rw [h] at z; cases z) fun c q z => by rw [h] at z; cases z
theorem tabs_dK {T : List (Addr × Str)} {H : Hp} {p : Addr} {o : HO} {xs : List (Key × V)} (t : LamX.Tabs T H) (h : H p = some (.dK xs)) : LamX.Tabs T (upd H p o) := tabs_upd t (fun ps z => by rw [h] at z; cases z) fun c q z => by rw [h] at z; cases z
/-- no table of a code object -/
def NT (o : HO) : Prop := ∀ ps, o ≠ .tbl ps
/-- nothing stands there, but it be a table -/
def Nn (H : Hp) (a : Addr) : Prop := ∀ o, H a = some o → ∃ ps, o = .tbl ps
theorem Nn.of {H : Hp} {a : Addr} (h : H a = none) : Nn H a := fun o e => by rw [h] at e; cases e
theorem Nn.no {H : Hp} {a : Addr} {o : HO} (h : Nn H a) (e : H a = some o) (n : NT o) : False := let ⟨ps, z⟩ := h o e; n ps z
theorem Nn.upd {H : Hp} {p b : Addr} {o : HO} (h : Nn (L2.upd H p o) b) (n : NT o) : Nn H b ∧ b ≠ p := by
  by_cases e : b = p
  · subst e
    exact (h.no upd_same n).elim
  · exact ⟨fun x z => h x (by rw [upd_ne e]; exact z), e⟩
theorem Nn.upd0 {H : Hp} {p b : Addr} {o : HO} (h : Nn (L2.upd H p o) b) (n : H p = none) : Nn H b := by
  by_cases e : b = p
  · subst e
    exact .of n
  · exact fun x z => h x (by rw [upd_ne e]; exact z)
/-- the town stands in the heap -/
structure Town (T : Tn) (t : Tw) (H : Hp) : Prop where
  a : H T.a = some (.dK [(.inr "count", .int t.count), (.inr "rests", .ref T.b)])
  b : H T.b = some (.dK (t.rests.map fun p => (.inl p.1, .int p.2)))
  ne : T.a ≠ T.b
  small : t.rests.length ≤ 1000000
/-- the heap's part: F0, H0 what was frozen, what stood at the entry; F what is frozen now -/
structure RelH (K : PySem.W.Frag) (T : Tn) (F0 H0 F : Hp) (t : Tw) (H : Hp) : Prop where
  sub : Same F H
  new : ∀ a o, F a = some o → F0 a = some o ∨ Nn H0 a
  base : Same F0 F
  old : ∀ a o, H0 a = some o → a ≠ T.a → a ≠ T.b → NT o → H a = some o
  had : ∀ a, Nn H a → Nn H0 a
  tw : Town T t H
  tF1 : F T.a = none
  tF2 : F T.b = none
  sc : SqL K F T.s (T.ns.map V.int)
  tabs : LamX.Tabs T.tabs H
  nt : ∀ a o, F a = some o → NT o
/-- an object of the def's own -/
def OwnAt (K : PySem.W.Frag) (T : Tn) (F H : Hp) (p : Addr) : D → Prop
  | .lst ds => ∃ vs, H p = some (.lst vs) ∧ vs.length ≤ sizeLine ∧ RpL K T F vs ds
  | .dct es => ∃ kvs, H p = some (.dK kvs) ∧ kvs.length ≤ sizeLine ∧ RpK K T F kvs es
  | _ => False
structure Own (K : PySem.W.Frag) (T : Tn) (H0 F H : Hp) (p : Addr) (d : D) : Prop where
  fr : F p = none
  n1 : p ≠ T.a
  n2 : p ≠ T.b
  h0 : Nn H0 p
  at_ : OwnAt K T F H p d
structure Rel (K : PySem.W.Frag) (T : Tn) (F0 H0 F : Hp) (r : Rho) (t : Tw) (σ : L2.St) (H : Hp) : Prop extends RelH K T F0 H0 F t H where
  len : r.length = σ.length
  val : ∀ (i : Nat) (d : D), r[i]? = some (.val d) → ∃ v, σ[i]? = some (some v) ∧ Rp K T F v d
  own : ∀ (i : Nat) (d : D), r[i]? = some (.own d) → ∃ p, σ[i]? = some (some (.ref p)) ∧ Own K T H0 F H p d
  inj : ∀ (i j : Nat) (d e : D) (p : Addr), r[i]? = some (.own d) → r[j]? = some (.own e) → σ[i]? = some (some (.ref p)) → σ[j]? = some (some (.ref p)) → i = j
section
variable {K : PySem.W.Frag} {T : Tn} {F0 H0 F F' F1 H H' H1 : Hp} {r : Rho} {t t' : Tw} {σ : L2.St}
theorem OwnAt.obj {p : Addr} {d : D} (h : OwnAt K T F H p d) : ∃ o, H p = some o ∧ NT o := by
  cases d with
  | lst ds =>
    obtain ⟨vs, h, _⟩ := h
    exact ⟨_, h, fun _ z => by cases z⟩
  | dct es =>
    obtain ⟨vs, h, _⟩ := h
    exact ⟨_, h, fun _ z => by cases z⟩
  | _ => exact h.elim
theorem OwnAt.keep {p : Addr} {d : D} (h : OwnAt K T F H p d) (s : Same F F') (e : ∀ o, H p = some o → H' p = some o) : OwnAt K T F' H' p d := by
  cases d with
  | lst ds =>
    obtain ⟨vs, h, z, q⟩ := h
    exact ⟨vs, e _ h, z, q.mono s⟩
  | dct es =>
    obtain ⟨vs, h, z, q⟩ := h
    exact ⟨vs, e _ h, z, q.mono s⟩
  | _ => exact h.elim
theorem RelH.refl (a : RelH K T F0 H0 F t H) : RelH K T F H F t H :=
  ⟨a.sub, fun _ _ h => .inl h, Same.refl F, fun _ _ h _ _ _ => h, fun _ h => h, a.tw, a.tF1, a.tF2, a.sc, a.tabs, a.nt⟩
theorem RelH.trans (a : RelH K T F0 H0 F t H) (b : RelH K T F H F' t' H') : RelH K T F0 H0 F' t' H' := by
  refine ⟨b.sub, fun c o h => ?_, a.base.trans b.base, fun c o h n1 n2 n3 => b.old c o (a.old c o h n1 n2 n3) n1 n2 n3, fun c h => a.had c (b.had c h), b.tw, b.tF1, b.tF2, b.sc, b.tabs, b.nt⟩
  rcases b.new c o h with q | q
  · exact a.new c o q
  · exact .inr (a.had c q)
/-- behind something that touched nothing of ours -/
theorem Rel.step (a : Rel K T F0 H0 F r t σ H) (b : RelH K T F H F' t' H') : Rel K T F0 H0 F' r t' σ H' := by
  refine ⟨a.toRelH.trans b, a.len, fun i d h => ?_, fun i d h => ?_, a.inj⟩
  · obtain ⟨v, e, q⟩ := a.val i d h
    exact ⟨v, e, q.mono b.base⟩
  · obtain ⟨p, e, q⟩ := a.own i d h
    obtain ⟨o, ho, hnt⟩ := q.at_.obj
    refine ⟨p, e, ⟨?_, q.n1, q.n2, q.h0, q.at_.keep b.base fun o' h => b.old p o' h q.n1 q.n2 (by rw [ho] at h; cases h; exact hnt)⟩⟩
    cases z : F' p with
    | none => rfl
    | some u =>
      rcases b.new p u z with z | z
      · rw [q.fr] at z
        cases z
      · exact (z.no ho hnt).elim
theorem upd_none {H : Hp} {p b : Addr} {o : HO} (h : upd H p o b = none) : H b = none ∧ b ≠ p := by
  by_cases e : b = p
  · subst e
    rw [upd_same] at h
    cases h
  · rw [upd_ne e] at h
    exact ⟨h, e⟩
theorem same_new {H : Hp} {p : Addr} {o : HO} (h : H p = none) : Same H (upd H p o) := fun b x e => by
  rw [upd_ne (ne_of_none e h)]
  exact e
/-- a new object, frozen at once -/
theorem RelH.newF {p : Addr} {o : HO} (a : RelH K T F0 H0 F t H) (hp : H p = none) (ho : NT o := by intro _ z; cases z) : RelH K T F H (upd F p o) t (upd H p o) := by
  have fp : F p = none := a.sub.free hp
  have n1 : p ≠ T.a := fun e => by
    rw [e, a.tw.a] at hp
    cases hp
  have n2 : p ≠ T.b := fun e => by
    rw [e, a.tw.b] at hp
    cases hp
  refine ⟨fun b x e => ?_, fun b x e => ?_, same_new fp, fun b x e _ _ _ => same_new hp b x e, fun b h => h.upd0 hp, ⟨?_, ?_, a.tw.ne, a.tw.small⟩, ?_, ?_, sqL_mono (same_new fp) a.sc, tabs_none a.tabs hp, fun b x e => ?_⟩
  · by_cases hb : b = p
    · subst hb
      rw [upd_same] at e ⊢
      exact e
    · rw [upd_ne hb] at e ⊢
      exact a.sub b x e
  · by_cases hb : b = p
    · subst hb
      exact .inr (.of hp)
    · rw [upd_ne hb] at e
      exact .inl e
  · rw [upd_ne (Ne.symm n1)]
    exact a.tw.a
  · rw [upd_ne (Ne.symm n2)]
    exact a.tw.b
  · rw [upd_ne (Ne.symm n1)]
    exact a.tF1
  · rw [upd_ne (Ne.symm n2)]
    exact a.tF2
  · by_cases hb : b = p
    · rw [hb, upd_same] at e
      cases e
      exact ho
    · rw [upd_ne hb] at e
      exact a.nt b x e
/-- a new object, not frozen -/
theorem RelH.newO {p : Addr} {o : HO} (a : RelH K T F0 H0 F t H) (hp : H p = none) : RelH K T F H F t (upd H p o) := by
  have n1 : p ≠ T.a := fun e => by
    rw [e, a.tw.a] at hp
    cases hp
  have n2 : p ≠ T.b := fun e => by
    rw [e, a.tw.b] at hp
    cases hp
  refine ⟨a.sub.trans (same_new hp), fun b x e => .inl e, Same.refl F, fun b x e _ _ _ => same_new hp b x e, fun b h => h.upd0 hp, ⟨?_, ?_, a.tw.ne, a.tw.small⟩, a.tF1, a.tF2, a.sc, tabs_none a.tabs hp, a.nt⟩
  · rw [upd_ne (Ne.symm n1)]
    exact a.tw.a
  · rw [upd_ne (Ne.symm n2)]
    exact a.tw.b
/-- what stands, and is nobody's, is frozen -/
theorem RelH.freeze {p : Addr} {o : HO} (a : RelH K T F0 H0 F t H) (hp : H p = some o) (ho : NT o) (f : F p = none) (h0 : Nn H0 p) (n1 : p ≠ T.a) (n2 : p ≠ T.b) : RelH K T F0 H0 (upd F p o) t H := by
  refine ⟨fun b x e => ?_, fun b x e => ?_, a.base.trans (same_new f), a.old, a.had, a.tw, ?_, ?_, sqL_mono (same_new f) a.sc, a.tabs, fun b x e => ?_⟩
  · by_cases hb : b = p
    · subst hb
      rw [upd_same] at e
      cases e
      exact hp
    · rw [upd_ne hb] at e
      exact a.sub b x e
  · by_cases hb : b = p
    · subst hb
      exact .inr h0
    · rw [upd_ne hb] at e
      exact a.new b x e
  · rw [upd_ne (Ne.symm n1)]
    exact a.tF1
  · rw [upd_ne (Ne.symm n2)]
    exact a.tF2
  · by_cases hb : b = p
    · rw [hb, upd_same] at e
      cases e
      exact ho
    · rw [upd_ne hb] at e
      exact a.nt b x e
theorem Rel.freeze {p : Addr} {o : HO} (a : Rel K T F0 H0 F r t σ H) (hp : H p = some o) (ho : NT o) (f : F p = none) (h0 : Nn H0 p) (n1 : p ≠ T.a) (n2 : p ≠ T.b) (no : ∀ (i : Nat) (d : D), r[i]? = some (.own d) → σ[i]? ≠ some (some (.ref p))) :
    Rel K T F0 H0 (upd F p o) r t σ H := by
  refine ⟨a.toRelH.freeze hp ho f h0 n1 n2, a.len, fun i d h => ?_, fun i d h => ?_, a.inj⟩
  · obtain ⟨v, e, q⟩ := a.val i d h
    exact ⟨v, e, q.mono (same_new f)⟩
  · obtain ⟨q, e, w⟩ := a.own i d h
    have nq : q ≠ p := fun z => no i d h (z ▸ e)
    exact ⟨q, e, ⟨by rw [upd_ne nq]; exact w.fr, w.n1, w.n2, w.h0, w.at_.keep (same_new f) fun o h => h⟩⟩
/-- a dict is locked, and frozen -/
theorem Rel.lockF {p : Addr} {od : Obj} {kvs : List (Key × V)} (a : Rel K T F0 H0 F r t σ H) (hp : H p = some (.dK kvs)) (f : F p = none) (h0 : Nn H0 p) (n1 : p ≠ T.a) (n2 : p ≠ T.b) (no : ∀ (i : Nat) (d : D), r[i]? = some (.own d) → σ[i]? ≠ some (some (.ref p))) :
    Rel K T F0 H0 (upd F p (.frz od (.dK kvs))) r t σ (upd H p (.frz od (.dK kvs))) := by
  have nF : ∀ b x, F b = some x → b ≠ p := fun b x e z => by
    rw [z, f] at e
    cases e
  refine ⟨⟨fun b x e => ?_, fun b x e => ?_, a.base.trans (same_new f), fun b x e m1 m2 m3 => ?_, fun b e => a.had b (e.upd (by intro _ z; cases z)).1, ⟨?_, ?_, a.tw.ne, a.tw.small⟩, ?_, ?_, sqL_mono (same_new f) a.sc, tabs_dK a.tabs hp, fun b x e => ?_⟩, a.len, fun i d h => ?_, fun i d h => ?_, a.inj⟩
  · by_cases hb : b = p
    · rw [hb, upd_same] at e ⊢
      exact e
    · rw [upd_ne hb] at e ⊢
      exact a.sub b x e
  · by_cases hb : b = p
    · rw [hb]
      exact .inr h0
    · rw [upd_ne hb] at e
      exact a.new b x e
  · rw [upd_ne (fun z => h0.no (by rw [← z]; exact e) m3)]
    exact a.old b x e m1 m2 m3
  · rw [upd_ne (Ne.symm n1)]
    exact a.tw.a
  · rw [upd_ne (Ne.symm n2)]
    exact a.tw.b
  · rw [upd_ne (Ne.symm n1)]
    exact a.tF1
  · rw [upd_ne (Ne.symm n2)]
    exact a.tF2
  · by_cases hb : b = p
    · rw [hb, upd_same] at e
      cases e
      intro _ z
      cases z
    · rw [upd_ne hb] at e
      exact a.nt b x e
  · obtain ⟨v, e, q⟩ := a.val i d h
    exact ⟨v, e, q.mono (same_new f)⟩
  · obtain ⟨q, e, w⟩ := a.own i d h
    have nq : q ≠ p := fun z => no i d h (z ▸ e)
    exact ⟨q, e, ⟨by rw [upd_ne nq]; exact w.fr, w.n1, w.n2, w.h0, w.at_.keep (same_new f) fun o h => by rw [upd_ne nq]; exact h⟩⟩
/-- a slot forgotten, a slot set -/
theorem Rel.setVal {i : Nat} {v : V} {d : D} (a : Rel K T F0 H0 F r t σ H) (h : Rp K T F v d) : Rel K T F0 H0 F (r.set i (.val d)) t (σ.set i (some v)) H := by
  refine ⟨a.toRelH, by simpa using a.len, fun j e h2 => ?_, fun j e h2 => ?_, fun j k e1 e2 p h1 h2 h3 h4 => ?_⟩
  · by_cases hj : i = j
    · subst hj
      by_cases hi : i < r.length
      · rw [List.getElem?_set_self hi] at h2
        cases h2
        exact ⟨v, List.getElem?_set_self (by rw [← a.len]; exact hi), h⟩
      · rw [List.getElem?_eq_none (by simpa using hi)] at h2
        cases h2
    · rw [List.getElem?_set_ne hj] at h2 ⊢
      exact a.val j e h2
  · by_cases hj : i = j
    · subst hj
      by_cases hi : i < r.length
      · rw [List.getElem?_set_self hi] at h2
        cases h2
      · rw [List.getElem?_eq_none (by simpa using hi)] at h2
        cases h2
    · rw [List.getElem?_set_ne hj] at h2 ⊢
      exact a.own j e h2
  · have nj : ∀ {j : Nat} {e : D}, (r.set i (.val d))[j]? = some (.own e) → i ≠ j := fun {j e} q z => by
      subst z
      by_cases hi : i < r.length
      · rw [List.getElem?_set_self hi] at q
        cases q
      · rw [List.getElem?_eq_none (by simpa using hi)] at q
        cases q
    have n1 := nj h1
    have n2 := nj h2
    rw [List.getElem?_set_ne n1] at h1 h3
    rw [List.getElem?_set_ne n2] at h2 h4
    exact a.inj j k e1 e2 p h1 h2 h3 h4
theorem Rel.setUn {i : Nat} (a : Rel K T F0 H0 F r t σ H) : Rel K T F0 H0 F (r.set i .un) t (σ.set i none) H := by
  refine ⟨a.toRelH, by simpa using a.len, fun j e h2 => ?_, fun j e h2 => ?_, fun j k e1 e2 p h1 h2 h3 h4 => ?_⟩
  · by_cases hj : i = j
    · subst hj
      by_cases hi : i < r.length
      · rw [List.getElem?_set_self hi] at h2
        cases h2
      · rw [List.getElem?_eq_none (by simpa using hi)] at h2
        cases h2
    · rw [List.getElem?_set_ne hj] at h2 ⊢
      exact a.val j e h2
  · by_cases hj : i = j
    · subst hj
      by_cases hi : i < r.length
      · rw [List.getElem?_set_self hi] at h2
        cases h2
      · rw [List.getElem?_eq_none (by simpa using hi)] at h2
        cases h2
    · rw [List.getElem?_set_ne hj] at h2 ⊢
      exact a.own j e h2
  · have nj : ∀ {j : Nat} {e : D}, (r.set i .un)[j]? = some (.own e) → i ≠ j := fun {j e} q z => by
      subst z
      by_cases hi : i < r.length
      · rw [List.getElem?_set_self hi] at q
        cases q
      · rw [List.getElem?_eq_none (by simpa using hi)] at q
        cases q
    have n1 := nj h1
    have n2 := nj h2
    rw [List.getElem?_set_ne n1] at h1 h3
    rw [List.getElem?_set_ne n2] at h2 h4
    exact a.inj j k e1 e2 p h1 h2 h3 h4
theorem Rel.wipe (a : Rel K T F0 H0 F r t σ H) : ∀ vs : List Nat, Rel K T F0 H0 F (wipeR r vs) t (wipe σ vs) H
  | [] => a
  | v :: vs => (a.wipe vs).setUn
/-- a slot takes an object that nobody has -/
theorem Rel.setOwn {i : Nat} {p : Addr} {d : D} (a : Rel K T F0 H0 F r t σ H) (h : Own K T H0 F H p d) (no : ∀ (j : Nat) (e : D), r[j]? = some (.own e) → j ≠ i → σ[j]? ≠ some (some (.ref p))) :
    Rel K T F0 H0 F (r.set i (.own d)) t (σ.set i (some (.ref p))) H := by
  have cs : ∀ {j : Nat} {s : Sl}, (r.set i (.own d))[j]? = some s → (i = j ∧ i < r.length ∧ s = .own d) ∨ (i ≠ j ∧ r[j]? = some s) := fun {j s} q => by
    by_cases hj : i = j
    · subst hj
      by_cases hi : i < r.length
      · rw [List.getElem?_set_self hi] at q
        exact .inl ⟨rfl, hi, (Option.some.inj q).symm⟩
      · rw [List.getElem?_eq_none (by simpa using hi)] at q
        cases q
    · rw [List.getElem?_set_ne hj] at q
      exact .inr ⟨hj, q⟩
  refine ⟨a.toRelH, by simpa using a.len, fun j e h2 => ?_, fun j e h2 => ?_, fun j k e1 e2 q h1 h2 h3 h4 => ?_⟩
  · rcases cs h2 with ⟨_, _, z⟩ | ⟨hj, z⟩
    · cases z
    · rw [List.getElem?_set_ne hj]
      exact a.val j e z
  · rcases cs h2 with ⟨rfl, hi, z⟩ | ⟨hj, z⟩
    · cases z
      exact ⟨p, List.getElem?_set_self (by rw [← a.len]; exact hi), h⟩
    · rw [List.getElem?_set_ne hj]
      exact a.own j e z
  · rcases cs h1 with ⟨rfl, hi, _⟩ | ⟨hj, z⟩
    · rcases cs h2 with ⟨rfl, _, _⟩ | ⟨hk, z2⟩
      · rfl
      · rw [List.getElem?_set_self (by rw [← a.len]; exact hi)] at h3
        have eq := V.ref.inj (Option.some.inj (Option.some.inj h3))
        rw [List.getElem?_set_ne hk] at h4
        exact absurd (eq ▸ h4) (no k e2 z2 (Ne.symm hk))
    · rcases cs h2 with ⟨rfl, hi, _⟩ | ⟨hk, z2⟩
      · rw [List.getElem?_set_self (by rw [← a.len]; exact hi)] at h4
        have eq := V.ref.inj (Option.some.inj (Option.some.inj h4))
        rw [List.getElem?_set_ne hj] at h3
        exact absurd (eq ▸ h3) (no j e1 z (Ne.symm hj))
      · rw [List.getElem?_set_ne hj] at h3
        rw [List.getElem?_set_ne hk] at h4
        exact a.inj j k e1 e2 q z z2 h3 h4
end
end Fm

/-! ### readings of Core expressions; operators -/
namespace Fm
open PySem PySem.Spec PyProof.Rows L2
structure Pm where
  K : PySem.W.Frag
  T : Tn
  F0 : Hp
  H0 : Hp
  XE : Nat → Hp → Prop
def Aft {α : Type} (P : Pm) (F : Hp) (res : Res α) (Z : α → Tw → Prop) : Prop := match res with
  | .ok a t => Z a t
  | .exc n t => ∀ F' H', Same F F' → RelH P.K P.T P.F0 P.H0 F' t H' → P.XE n H'
  | .bad => False
/-- what was frozen is, and what stood stands, but for the town; newly frozen is only what is new -/
structure Kp (T : Tn) (F H F' H' : Hp) : Prop where
  base : Same F F'
  new : ∀ a o, F' a = some o → F a = some o ∨ Nn H a
  old : ∀ a o, H a = some o → a ≠ T.a → a ≠ T.b → NT o → H' a = some o
  had : ∀ a, Nn H' a → Nn H a
theorem Kp.refl {T : Tn} {F H : Hp} : Kp T F H F H := ⟨Same.refl F, fun _ _ h => .inl h, fun _ _ h _ _ _ => h, fun _ h => h⟩
theorem Kp.trans {T : Tn} {F H F1 H1 F2 H2 : Hp} (a : Kp T F H F1 H1) (b : Kp T F1 H1 F2 H2) : Kp T F H F2 H2 :=
  ⟨a.1.trans b.1, fun c o h => (b.new c o h).elim (fun q => a.new c o q) fun q => .inr (a.had c q), fun c o h n1 n2 n3 => b.old c o (a.old c o h n1 n2 n3) n1 n2 n3, fun c h => a.had c (b.had c h)⟩
theorem Kp.of {K : PySem.W.Frag} {T : Tn} {F H F' H' : Hp} {t : Tw} (b : RelH K T F H F' t H') : Kp T F H F' H' := ⟨b.base, b.new, b.old, b.had⟩
abbrev RelP (P : Pm) (F : Hp) (r : Rho) (t : Tw) (σ : L2.St) (H : Hp) : Prop := Rel P.K P.T P.F0 P.H0 F r t σ H
theorem Kp.relH {P : Pm} {F H F' H' : Hp} {r : Rho} {t : Tw} {σ : L2.St} (k : Kp P.T F H F' H') (R : RelP P F' r t σ H') : RelH P.K P.T F H F' t H' := ⟨R.sub, k.new, k.base, k.old, k.had, R.tw, R.tF1, R.tF2, R.sc, R.tabs, R.nt⟩
/-- borne by a frozen value, or by an object of the def's own -/
def RpB (P : Pm) (F : Hp) (r : Rho) (σ : L2.St) (v : V) (d : D) : Prop := Rp P.K P.T F v d ∨ ∃ i : Nat, r[i]? = some (.own d) ∧ σ[i]? = some (some v)
def tD (P : Pm) (f : Rho → Tw → Res D) : TE := fun σ H Q => ∃ F r t, RelP P F r t σ H ∧ Aft P F (f r t) fun d t' => ∀ v F' H', Kp P.T F H F' H' → RelP P F' r t' σ H' → Rp P.K P.T F' v d → Q v H'
def tB (P : Pm) (f : Rho → Tw → Res D) : TE := fun σ H Q => ∃ F r t, RelP P F r t σ H ∧ Aft P F (f r t) fun d t' => ∀ v F' H', Kp P.T F H F' H' → RelP P F' r t' σ H' → RpB P F' r σ v d → Q v H'
def tDs (P : Pm) (f : Rho → Tw → Res (List D)) : TA := fun σ H Q => ∃ F r t, RelP P F r t σ H ∧ Aft P F (f r t) fun ds t' => ∀ vs F' H', Kp P.T F H F' H' → RelP P F' r t' σ H' → RpL P.K P.T F' vs ds → Q vs H'
theorem peMono {X : Cx} {e : Expr} {t u : TE} (h : PE X e t) (i : ∀ σ H Q, u σ H Q → t σ H Q) : PE X e u := ⟨fun pins s σ H Q I q => h.run pins s σ H Q I (i σ H Q q)⟩
theorem paMono {X : Cx} {e : List Expr} {t u : TA} (h : PA X e t) (i : ∀ σ H Q, u σ H Q → t σ H Q) : PA X e u := ⟨fun pos pins s σ H Q I q => h.run pos pins s σ H Q I (i σ H Q q)⟩
theorem ptMono {X : Cx} {e : Expr} {t u : TT} (h : PT X e t) (i : ∀ σ H Q, u σ H Q → t σ H Q) : PT X e u := ⟨fun pins s σ H Q I q => h.run pins s σ H Q I (i σ H Q q)⟩
theorem psMono {X : Cx} {e : Stmt} {t u : TS} (h : PS X e t) (i : ∀ D σ H, u D σ H → t D σ H) : PS X e u := ⟨fun pins s σ H D I q => h.run pins s σ H D I (i D σ H q)⟩
theorem pssMono {X : Cx} {e : List Stmt} {t u : TS} (h : PSs X e t) (i : ∀ D σ H, u D σ H → t D σ H) : PSs X e u := ⟨fun pins s σ H D I q => h.run pins s σ H D I (i D σ H q)⟩
section
variable {P : Pm} {F F' H : Hp} {r : Rho} {t t' : Tw} {σ : L2.St} {v : V}
theorem Aft.mono {α : Type} {res : Res α} {Z Z' : α → Tw → Prop} (h : Aft P F res Z) (i : ∀ a t, Z a t → Z' a t) : Aft P F res Z' := by
  cases res with
  | ok a t => exact i a t h
  | exc n t => exact h
  | bad => exact h
/-- one step, then another -/
theorem Aft.bind {α β : Type} {res : Res α} {f : α → Tw → Res β} {Z : β → Tw → Prop} (h : Aft P F (res.bind f) Z) : Aft P F res fun a t => Aft P F (f a t) Z := by
  cases res with
  | ok a t => exact h
  | exc n t => exact h
  | bad => exact h
theorem Aft.thn {α β : Type} {res : Res α} {f : α → Tw → Res β} {Z : β → Tw → Prop} (h : Aft P F res fun a t => Aft P F (f a t) Z) : Aft P F (res.bind f) Z := by
  cases res with
  | ok a t => exact h
  | exc n t => exact h
  | bad => exact h
theorem Aft.up {α : Type} {res : Res α} {Z : α → Tw → Prop} (h : Aft P F res Z) (s : Same F F') : Aft P F' res Z := by
  cases res with
  | ok a t => exact h
  | exc n t => exact fun F2 H2 q => h F2 H2 (s.trans q)
  | bad => exact h
theorem Aft.lift {α : Type} {o : Option α} {Z : α → Tw → Prop} (h : Aft P F (Fm.lift o t) Z) : ∃ a, o = some a ∧ Z a t := by
  cases o with
  | none => exact h.elim
  | some a => exact ⟨a, rfl, h⟩
theorem RpB.mono (s : Same F F') {d : D} (h : RpB P F r σ v d) : RpB P F' r σ v d := h.elim (fun q => .inl (q.mono s)) .inr
theorem RpB.of {d : D} (h : Rp P.K P.T F v d) : RpB P F r σ v d := .inl h
theorem RpB.lst (R : RelP P F r t σ H) {ds : List D} (h : RpB P F r σ v (.lst ds)) : ∃ a xs, v = .ref a ∧ H a = some (.lst xs) ∧ xs.length ≤ sizeLine ∧ RpL P.K P.T F xs ds := by
  rcases h with h | ⟨i, h1, h2⟩
  · cases h with
    | lst h z q => exact ⟨_, _, rfl, R.sub _ _ h, z, q⟩
  · obtain ⟨p, e, o⟩ := R.own i _ h1
    rw [e] at h2
    cases h2
    obtain ⟨vs, a, b, c⟩ := o.at_
    exact ⟨p, vs, rfl, a, b, c⟩
theorem RpB.dct (R : RelP P F r t σ H) {ds : List (Key × D)} (h : RpB P F r σ v (.dct ds)) : ∃ a kvs, v = .ref a ∧ Rd H a (.dK kvs) ∧ RpK P.K P.T F kvs ds := by
  rcases h with h | ⟨i, h1, h2⟩
  · cases h with
    | dct h z q => exact ⟨_, _, rfl, .inr ⟨_, R.sub _ _ h⟩, q⟩
  · obtain ⟨p, e, o⟩ := R.own i _ h1
    rw [e] at h2
    cases h2
    obtain ⟨vs, a, b, c⟩ := o.at_
    exact ⟨p, vs, rfl, .inl a, c⟩
theorem RpB.rp (R : RelP P F r t σ H) {d : D} (h : RpB P F r σ v d) (n1 : ∀ ds, d ≠ .lst ds) (n2 : ∀ ds, d ≠ .dct ds) : Rp P.K P.T F v d := by
  rcases h with h | ⟨i, h1, h2⟩
  · exact h
  · obtain ⟨p, e, o⟩ := R.own i _ h1
    have q := o.at_
    cases d with
    | lst ds => exact absurd rfl (n1 ds)
    | dct ds => exact absurd rfl (n2 ds)
    | _ => exact q.elim
theorem RpB.int (R : RelP P F r t σ H) {i : Int} (h : RpB P F r σ v (.int i)) : v = .int i := by
  cases h.rp R (fun _ z => by cases z) (fun _ z => by cases z)
  rfl
theorem RpB.bl (R : RelP P F r t σ H) {i : Bool} (h : RpB P F r σ v (.bl i)) : v = .bl i := by
  cases h.rp R (fun _ z => by cases z) (fun _ z => by cases z)
  rfl
theorem RpB.str (R : RelP P F r t σ H) {i : Str} (h : RpB P F r σ v (.str i)) : v = .str i := by
  cases h.rp R (fun _ z => by cases z) (fun _ z => by cases z)
  rfl
theorem RpB.tup (R : RelP P F r t σ H) {ds : List D} (h : RpB P F r σ v (.tup ds)) : ∃ a xs, v = .ref a ∧ SqT P.K F a xs ∧ xs.length ≤ sizeLine ∧ RpL P.K P.T F xs ds := by
  cases h.rp R (fun _ z => by cases z) (fun _ z => by cases z) with
  | tup h2 z q => exact ⟨_, _, rfl, h2, z, q⟩
/-- deep data, whoever has it -/
theorem RpB.dp (R : RelP P F r t σ H) {d : D} (h : RpB P F r σ v d) (l : lay d = true) : Dp P.K H v d.py := by
  cases d with
  | lst ds =>
    obtain ⟨a, xs, rfl, e, _, q⟩ := h.lst R
    exact .lst (SqL.of e) (q.dp R.sub (by simpa only [lay, D.py, PyData.canLay0] using l))
  | dct ds => simp [lay, D.py, PyData.canLay0] at l
  | _ => exact (h.rp R (fun _ z => by cases z) (fun _ z => by cases z)).dp R.sub l
theorem okLen_le {n : Nat} (h : okLen n = true) : n ≤ sizeLine := by
  rw [sizeLine_eq]
  exact of_decide_eq_true h
/-- a test's value -/
theorem RpB.tru (R : RelP P F r t σ H) {d : D} {b : Bool} (h : RpB P F r σ v d) (e : truD d = some b) : TruV P.K v H b := by
  cases d with
  | lst ds =>
    obtain ⟨a, xs, rfl, e2, _, q⟩ := h.lst R
    cases e
    exact .inl ⟨_, SqL.of e2, by cases q <;> rfl⟩
  | tup ds =>
    obtain ⟨a, xs, rfl, e2, _, q⟩ := h.tup R
    cases e
    exact .inr (.inl ⟨_, sqT_mono R.sub e2, by cases q <;> rfl⟩)
  | str x =>
    obtain rfl := h.str R
    have e : (if okLen x.length = true then some ((x.length : Int) != 0) else none) = some b := e
    split at e
    · rename_i hl
      cases e
      exact ⟨okLen_le hl, rfl⟩
    · cases e
  | non =>
    cases h.rp R (fun _ z => by cases z) (fun _ z => by cases z)
    cases e
    rfl
  | bl x =>
    obtain rfl := h.bl R
    cases e
    rfl
  | int x =>
    obtain rfl := h.int R
    cases e
    rfl
  | dct ds => cases e
  | exc n => cases e
  | dcn _ => cases e
  | tok => cases e
  | scr ns =>
    cases h.rp R (fun _ z => by cases z) (fun _ z => by cases z)
    cases e
    exact .inl ⟨_, sqL_mono R.sub R.sc, by cases P.T.ns <;> rfl⟩
/-! ### one operand, two operands -/
theorem tB_tD {f : Rho → Tw → Res D} {X : Cx} {e : Expr} (h : PE X e (tD P f)) : PE X e (tB P f) := peMono h fun σ H Q ⟨F, r, t, R, q⟩ =>
  ⟨F, r, t, R, q.mono fun d t' q v F' H' s R' h => q v F' H' s R' (.inl h)⟩
theorem op1 {fa : Rho → Tw → Res D} {f : D → Option D} {rr : V → Hp → VK → Prop}
    (hr : ∀ {x : V} {dx d : D} {F : Hp} {r : Rho} {t : Tw} {σ : L2.St} {H : Hp} {Q : VK}, f dx = some d → RelP P F r t σ H → RpB P F r σ x dx →
      (∀ v F' H', Kp P.T F H F' H' → RelP P F' r t σ H' → Rp P.K P.T F' v d → Q v H') → rr x H Q) (σ : L2.St) (H : Hp) (Q : VK)
    (h : tD P (fun r t => (fa r t).bind fun x t1 => Fm.lift (f x) t1) σ H Q) : tUn rr (tB P fa) σ H Q := by
  obtain ⟨F, r, t, R, h⟩ := h
  refine ⟨F, r, t, R, h.bind.mono fun dx t1 h v F1 H1 s1 R1 rx => ?_⟩
  obtain ⟨d, e, q⟩ := h.lift
  exact hr e R1 rx fun v F' H' s R' h => q v F' H' (s1.trans s) R' h
theorem op2 {fa fb : Rho → Tw → Res D} {f : D → D → Option D} {rr : R2}
    (hr : ∀ {x y : V} {dx dy d : D} {F : Hp} {r : Rho} {t : Tw} {σ : L2.St} {H : Hp} {Q : VK}, f dx dy = some d → RelP P F r t σ H → RpB P F r σ x dx → RpB P F r σ y dy →
      (∀ v F' H', Kp P.T F H F' H' → RelP P F' r t σ H' → Rp P.K P.T F' v d → Q v H') → rr x y H Q) (σ : L2.St) (H : Hp) (Q : VK)
    (h : tD P (fun r t => (fa r t).bind fun x t1 => (fb r t1).bind fun y t2 => Fm.lift (f x y) t2) σ H Q) : tOp rr (tB P fa) (tB P fb) σ H Q := by
  obtain ⟨F, r, t, R, h⟩ := h
  refine ⟨F, r, t, R, h.bind.mono fun dx t1 h v F1 H1 s1 R1 rx => ?_⟩
  refine ⟨F1, r, t1, R1, (h.up s1.1).bind.mono fun dy t2 h w F2 H2 s2 R2 ry => ?_⟩
  obtain ⟨d, e, q⟩ := h.lift
  exact hr e R2 (rx.mono s2.1) ry fun v F' H' s R' h => q v F' H' (s1.trans (s2.trans s)) R' h
/-- a new tuple -/
theorem mkTup {xs : List V} {ds : List D} {Q : VK} (R : RelP P F r t σ H) (z : xs.length ≤ sizeLine) (q : RpL P.K P.T F xs ds) (h : ∀ v F' H', Kp P.T F H F' H' → RelP P F' r t σ H' → Rp P.K P.T F' v (.tup ds) → Q v H') :
    ∀ p, H p = none → Q (.ref p) (upd H p (.tup xs)) := fun p hp => by
  have b := R.toRelH.newF (o := .tup xs) hp
  exact h _ _ _ (Kp.of b) (R.step b) (.tup (SqT.of upd_same) z (q.mono b.base))
/-- a new list, frozen -/
theorem mkLst {xs : List V} {ds : List D} {Q : VK} (R : RelP P F r t σ H) (z : xs.length ≤ sizeLine) (q : RpL P.K P.T F xs ds) (h : ∀ v F' H', Kp P.T F H F' H' → RelP P F' r t σ H' → Rp P.K P.T F' v (.lst ds) → Q v H') :
    ∀ p, H p = none → Q (.ref p) (upd H p (.lst xs)) := fun p hp => by
  have b := R.toRelH.newF (o := .lst xs) hp
  exact h _ _ _ (Kp.of b) (R.step b) (.lst upd_same z (q.mono b.base))
end
/-! ### operators -/
section
variable {P : Pm} {X : Cx} {a b : Expr} {pos : Pos} {fa fb : Rho → Tw → Res D}
abbrev rAddA (K : PySem.W.Frag) : R2 := fun x y H Q => (rI0 fun i j => .int (i + j)) x y H Q ∨ ((fun x y H Q => ∃ i j, x = .str i ∧ y = .str j ∧ i.length + j.length ≤ sizeLine ∧ Q (.str (i ++ j)) H : R2) x y H Q ∨ rCatA K x y H Q)
theorem s_add (hK : X.K = P.K) (ha : PE X a (tB P fa)) (hb : PE X b (tB P fb)) : PE X (.BinOp a .Add b pos) (tD P fun r t => (fa r t).bind fun x t1 => (fb r t1).bind fun y t2 => Fm.lift (addD x y) t2) := by
  refine peMono (pe_op (OpR.or op_add (OpR.or op_add_str op_catA)) ha hb) (op2 fun {x y dx dy d F r t σ H Q} e R rx ry q => ?_)
  cases dx with
  | int i =>
    cases dy with
    | int j =>
      cases e
      exact .inl ⟨i, j, rx.int R, ry.int R, q _ _ _ Kp.refl R (.int _)⟩
    | _ => cases e
  | str i =>
    cases dy with
    | str j =>
      simp only [addD] at e
      split at e
      · rename_i hl
        cases e
        exact .inr (.inl ⟨i, j, rx.str R, ry.str R, okLen_le hl, q _ _ _ Kp.refl R (.str _)⟩)
      · cases e
    | _ => cases e
  | tup xs =>
    cases dy with
    | tup ys =>
      simp only [addD] at e
      split at e
      · rename_i hl
        cases e
        obtain ⟨p1, v1, rfl, e1, z1, q1⟩ := rx.tup R
        obtain ⟨p2, v2, rfl, e2, z2, q2⟩ := ry.tup R
        have hl2 : v1.length + v2.length ≤ sizeLine := by
          rw [q1.length, q2.length]
          exact okLen_le hl
        rw [hK]
        refine .inr (.inr ⟨p1, p2, v1, v2, rfl, rfl, sqT_mono R.sub e1, sqT_mono R.sub e2, hl2, fun h0 => ?_, fun _ h0 => ?_, fun _ _ => ?_⟩)
        · subst h0
          cases q1
          exact q _ _ _ Kp.refl R (.tup e2 z2 q2)
        · subst h0
          cases q2
          refine q _ _ _ Kp.refl R ?_
          rw [List.append_nil]
          exact .tup e1 z1 q1
        · exact mkTup R (by rw [List.length_append]; exact hl2) (q1.append q2) q
      · cases e
    | _ => cases e
  | _ => cases e
theorem s_cat (ha : PE X a (tB P fa)) (hb : PE X b (tB P fb)) : PE X (.BinOp a .Add b pos) (tD P fun r t => (fa r t).bind fun x t1 => (fb r t1).bind fun y t2 => Fm.lift (catD x y) t2) := by
  refine peMono (pe_op op_cat ha hb) (op2 fun {x y dx dy d F r t σ H Q} e R rx ry q => ?_)
  cases dx with
  | lst xs =>
    cases dy with
    | lst ys =>
      simp only [catD] at e
      split at e
      · rename_i hl
        cases e
        obtain ⟨p1, v1, rfl, e1, z1, q1⟩ := rx.lst R
        obtain ⟨p2, v2, rfl, e2, z2, q2⟩ := ry.lst R
        have hl2 : v1.length + v2.length ≤ sizeLine := by
          rw [q1.length, q2.length]
          exact okLen_le hl
        exact ⟨p1, p2, v1, v2, rfl, rfl, e1, e2, hl2, mkLst R (by rw [List.length_append]; exact hl2) (q1.append q2) q⟩
      · cases e
    | _ => cases e
  | _ => cases e
/-- an operator upon two ints -/
theorem s_int2 {op : Operator} {f : D → D → Option D} {C : Int → Int → Prop} {g : Int → Int → Int} (ho : OpR X (binaryOp op) (rI C fun i j => .int (g i j)))
    (hf : ∀ dx dy d, f dx dy = some d → ∃ i j, dx = .int i ∧ dy = .int j ∧ C i j ∧ d = .int (g i j)) (ha : PE X a (tB P fa)) (hb : PE X b (tB P fb)) :
    PE X (.BinOp a op b pos) (tD P fun r t => (fa r t).bind fun x t1 => (fb r t1).bind fun y t2 => Fm.lift (f x y) t2) := by
  refine peMono (pe_op ho ha hb) (op2 fun {x y dx dy d F r t σ H Q} e R rx ry q => ?_)
  obtain ⟨i, j, rfl, rfl, c, rfl⟩ := hf dx dy d e
  exact ⟨i, j, rx.int R, ry.int R, c, q _ _ _ Kp.refl R (.int _)⟩
theorem s_sub (ha : PE X a (tB P fa)) (hb : PE X b (tB P fb)) : PE X (.BinOp a .Sub b pos) (tD P fun r t => (fa r t).bind fun x t1 => (fb r t1).bind fun y t2 => Fm.lift (subD x y) t2) := by
  refine peMono (pe_op op_sub ha hb) (op2 fun {x y dx dy d F r t σ H Q} e R rx ry q => ?_)
  cases dx with
  | int i =>
    cases dy with
    | int j =>
      cases e
      exact ⟨i, j, rx.int R, ry.int R, q _ _ _ Kp.refl R (.int _)⟩
    | _ => cases e
  | _ => cases e
theorem s_mul (ha : PE X a (tB P fa)) (hb : PE X b (tB P fb)) : PE X (.BinOp a .Mult b pos) (tD P fun r t => (fa r t).bind fun x t1 => (fb r t1).bind fun y t2 => Fm.lift (mulD x y) t2) :=
  s_int2 op_mulW (fun dx dy d e => by
    cases dx with
    | int i =>
      cases dy with
      | int j =>
        simp only [mulD] at e
        split at e
        · rename_i h
          cases e
          exact ⟨i, j, rfl, rfl, (of_decide_eq_true h : i.natAbs.log2 + j.natAbs.log2 < 1000000), rfl⟩
        · cases e
      | _ => cases e
    | _ => cases e) ha hb
def CDivA (_ j : Int) : Prop := j ≠ 0 ∧ j.natAbs.log2 < 9000
theorem op_fdivA : OpR X (binaryOp .FloorDiv) (rI CDivA fun i j => .int (i.fdiv j)) := opI fun i j _ _ _ _ _ hc q => floordiv_int hc.1 q (.inl (PyProof.noPylong_of_log2 hc.2))
theorem s_fdiv (ha : PE X a (tB P fa)) (hb : PE X b (tB P fb)) : PE X (.BinOp a .FloorDiv b pos) (tD P fun r t => (fa r t).bind fun x t1 => (fb r t1).bind fun y t2 => Fm.lift (fdivD x y) t2) :=
  s_int2 op_fdivA (fun dx dy d e => by
    cases dx with
    | int i =>
      cases dy with
      | int j =>
        simp only [fdivD] at e
        split at e
        · rename_i h
          cases e
          have h2 := Bool.and_eq_true_iff.mp h
          exact ⟨i, j, rfl, rfl, ⟨of_decide_eq_true h2.1, of_decide_eq_true h2.2⟩, rfl⟩
        · cases e
      | _ => cases e
    | _ => cases e) ha hb
theorem s_mod (ha : PE X a (tB P fa)) (hb : PE X b (tB P fb)) : PE X (.BinOp a .Mod b pos) (tD P fun r t => (fa r t).bind fun x t1 => (fb r t1).bind fun y t2 => Fm.lift (modD x y) t2) :=
  s_int2 op_modN (fun dx dy d e => by
    cases dx with
    | int i =>
      cases dy with
      | int j =>
        simp only [modD] at e
        split at e
        · cases e
        · rename_i h
          cases e
          exact ⟨i, j, rfl, rfl, h, rfl⟩
      | _ => cases e
    | _ => cases e) ha hb
theorem okPow_c {i j : Int} (h : okPow i j = true) : CPow i j := by
  have h1 := Bool.and_eq_true_iff.mp h
  have h2 := Bool.and_eq_true_iff.mp h1.1
  exact ⟨of_decide_eq_true h2.1, of_decide_eq_true h2.2, of_decide_eq_true h1.2⟩
theorem s_pow (ha : PE X a (tB P fa)) (hb : PE X b (tB P fb)) : PE X (.BinOp a .Pow b pos) (tD P fun r t => (fa r t).bind fun x t1 => (fb r t1).bind fun y t2 => Fm.lift (powD x y) t2) :=
  s_int2 op_pow (fun dx dy d e => by
    cases dx with
    | int i =>
      cases dy with
      | int j =>
        simp only [powD] at e
        split at e
        · rename_i h
          cases e
          exact ⟨i, j, rfl, rfl, okPow_c h, rfl⟩
        · cases e
      | _ => cases e
    | _ => cases e) ha hb
theorem s_shl (ha : PE X a (tB P fa)) (hb : PE X b (tB P fb)) : PE X (.BinOp a .LShift b pos) (tD P fun r t => (fa r t).bind fun x t1 => (fb r t1).bind fun y t2 => Fm.lift (shlD x y) t2) :=
  s_int2 op_shl (fun dx dy d e => by
    cases dx with
    | int i =>
      cases dy with
      | int j =>
        simp only [shlD] at e
        split at e
        · rename_i h
          cases e
          exact ⟨i, j, rfl, rfl, okPow_c h, rfl⟩
        · cases e
      | _ => cases e
    | _ => cases e) ha hb
theorem s_neg (ha : PE X a (tB P fa)) : PE X (.UnaryOp .USub a pos) (tD P fun r t => (fa r t).bind fun x t1 => Fm.lift (negD x) t1) := by
  refine peMono (pe_un un_neg ha) (op1 fun {x dx d F r t σ H Q} e R rx q => ?_)
  cases dx with
  | int i =>
    cases e
    exact ⟨i, rx.int R, q _ _ _ Kp.refl R (.int _)⟩
  | _ => cases e
end
end Fm

/-! ### comparisons, tests, subscripts, displays, built-in calls -/
namespace Fm
open PySem PySem.Spec PyProof.Rows L2
theorem pys_map : ∀ xs : List D, pys xs = xs.map D.py
  | [] => by simp only [pys, List.map_nil]
  | x :: xs => by simp only [pys, List.map_cons, pys_map xs]
theorem layAll : ∀ xs : List D, PyData.canLayAll0 (pys xs) = xs.all lay
  | [] => by simp only [pys, PyData.canLayAll0, List.all_nil]
  | x :: xs => by simp only [pys, PyData.canLayAll0, List.all_cons, layAll xs, lay]
section
variable {P : Pm} {X : Cx}
/-- an operator by data: its rule, and that the rule gives what f says -/
def OpS (P : Pm) (X : Cx) (g : Value → Value → Sem Value) (f : D → D → Option D) : Prop :=
  ∃ rr : R2, OpR X g rr ∧ ∀ {x y : V} {dx dy d : D} {F : Hp} {r : Rho} {t : Tw} {σ : L2.St} {H : Hp} {Q : VK}, f dx dy = some d → RelP P F r t σ H → RpB P F r σ x dx → RpB P F r σ y dy →
      (∀ v F' H', Kp P.T F H F' H' → RelP P F' r t σ H' → Rp P.K P.T F' v d → Q v H') → rr x y H Q
theorem intCmp {op : CmpOp} {g : Int → Int → Bool} {f : D → D → Option D} (ho : OpR X (compareOp op) (rI0 fun i j => .bl (g i j))) (hf : ∀ dx dy d, f dx dy = some d → ∃ i j, dx = .int i ∧ dy = .int j ∧ d = .bl (g i j)) : OpS P X (compareOp op) f := by
  refine ⟨_, ho, fun {x y dx dy d F r t σ H Q} e R rx ry q => ?_⟩
  obtain ⟨i, j, rfl, rfl, rfl⟩ := hf dx dy d e
  exact ⟨i, j, rx.int R, ry.int R, q _ _ _ Kp.refl R (.bl _)⟩
def rEqA (K : PySem.W.Frag) (u : Nat) (neg : Bool) : R2 := fun x y H Q => ∃ d e, Dp K H x d ∧ Dp K H y e ∧ d.canLay0 = true ∧ e.canLay0 = true ∧ u + min d.depth e.depth < cLine ∧ Q (.bl (if neg then !PyData.eqv d e else PyData.eqv d e)) H
theorem op_eqA : OpR X (compareOp .Eq) (rEqA X.K X.A.units false) := by
  intro pins s σ H x y v u Q I rx ry h
  obtain ⟨d, e, hd, he, sd, se, hu, q⟩ := h
  obtain ⟨as, r1⟩ := Dp.reads I d x v hd rx
  obtain ⟨bs, r2⟩ := Dp.reads I e y u he ry
  exact SeqAt.compareEq_reads r1 r2 sd se hu ⟨.bl _, H, I, rfl, q⟩
theorem op_neA : OpR X (compareOp .NotEq) (rEqA X.K X.A.units true) := by
  intro pins s σ H x y v u Q I rx ry h
  obtain ⟨d, e, hd, he, sd, se, hu, q⟩ := h
  obtain ⟨as, r1⟩ := Dp.reads I d x v hd rx
  obtain ⟨bs, r2⟩ := Dp.reads I e y u he ry
  exact SeqAt.compareNe_reads r1 r2 sd se hu ⟨.bl _, H, I, rfl, q⟩
theorem okEq_parts {a b : D} (h : okEq a b = true) : lay a = true ∧ lay b = true ∧ min (dep a) (dep b) ≤ 190 := by
  have h1 := Bool.and_eq_true_iff.mp h
  have h2 := Bool.and_eq_true_iff.mp h1.1
  exact ⟨h2.1, h2.2, of_decide_eq_true h1.2⟩
def rInA (K : PySem.W.Frag) (u : Nat) (neg : Bool) : R2 := fun x y H Q => ∃ d ds, Dp K H x d ∧ (Dp K H y (.tuple ds) ∨ Dp K H y (.list ds)) ∧ d.canLay0 = true ∧ PyData.canLayAll0 ds = true ∧ u + 1 + min (PyData.depthAll ds) d.depth < cLine ∧
  Q (.bl (if neg then !(ds.any fun z => PyData.eqv z d) else ds.any fun z => PyData.eqv z d)) H
theorem op_inA : OpR X (compareOp .In) (rInA X.K X.A.units false) := by
  intro pins s σ H x y v u Q I rx ry h
  obtain ⟨d, ds, hd, he, sd, se, hu, q⟩ := h
  obtain ⟨as, r1⟩ := Dp.reads I d x v hd rx
  rcases he with he | he
  · obtain ⟨bs, r2⟩ := Dp.reads I (.tuple ds) y u he ry
    exact SeqAt.in_tuple_reads r2 r1 se sd hu ⟨.bl _, H, I, rfl, q⟩
  · obtain ⟨bs, r2⟩ := Dp.reads I (.list ds) y u he ry
    exact SeqAt.in_list_reads r2 r1 se sd hu ⟨.bl _, H, I, rfl, q⟩
theorem op_notInA : OpR X (compareOp .NotIn) (rInA X.K X.A.units true) := by
  intro pins s σ H x y v u Q I rx ry h
  obtain ⟨d, ds, hd, he, sd, se, hu, q⟩ := h
  obtain ⟨as, r1⟩ := Dp.reads I d x v hd rx
  rcases he with he | he
  · obtain ⟨bs, r2⟩ := Dp.reads I (.tuple ds) y u he ry
    exact SeqAt.notIn_tuple_reads r2 r1 se sd hu ⟨.bl _, H, I, rfl, q⟩
  · obtain ⟨bs, r2⟩ := Dp.reads I (.list ds) y u he ry
    exact SeqAt.notIn_list_reads r2 r1 se sd hu ⟨.bl _, H, I, rfl, q⟩
theorem inB_seq {a : D} {xs : List D} {c : Bool} (h : (if lay a && (xs.all lay) && decide (dep a ≤ 190) then some (xs.any fun z => eqD z a) else none) = some c) :
    lay a = true ∧ PyData.canLayAll0 (pys xs) = true ∧ dep a ≤ 190 ∧ c = (pys xs).any fun z => PyData.eqv z a.py := by
  split at h
  · rename_i h1
    have h2 := Bool.and_eq_true_iff.mp h1
    have h3 := Bool.and_eq_true_iff.mp h2.1
    cases h
    refine ⟨h3.1, (layAll xs).trans h3.2, of_decide_eq_true h2.2, ?_⟩
    rw [pys_map, List.any_map]
    rfl
  · cases h
/-- x in y, by data -/
theorem inS {neg : Bool} {F : Hp} {r : Rho} {t : Tw} {σ : L2.St} {H : Hp} {x y : V} {dx dy : D} {c : Bool} {Q : VK} {u : Nat} (hu : u + 200 < cLine) (e : inB dx dy = some c) (R : RelP P F r t σ H) (rx : RpB P F r σ x dx) (ry : RpB P F r σ y dy)
    (q : Q (.bl (if neg then !c else c)) H) : rInA P.K u neg x y H Q ∨ ∃ (c : Nat) (z : Str), x = .str ⟨#[c]⟩ ∧ y = .str z ∧ Q (.bl (if neg then !decide (c ∈ z.cps.toList) else decide (c ∈ z.cps.toList))) H := by
  cases dy with
  | tup ys =>
    have e : (if lay dx && (ys.all lay) && decide (dep dx ≤ 190) then some (ys.any fun z => eqD z dx) else none) = some c := by
      cases dx <;> exact e
    obtain ⟨l1, l2, l3, rfl⟩ := inB_seq e
    refine .inl ⟨_, _, rx.dp R l1, .inl (ry.dp R (by simpa only [lay, D.py, PyData.canLay0] using l2)), l1, l2, ?_, q⟩
    have : min (PyData.depthAll (pys ys)) dx.py.depth ≤ 190 := Nat.le_trans (Nat.min_le_right _ _) l3
    omega
  | lst ys =>
    have e : (if lay dx && (ys.all lay) && decide (dep dx ≤ 190) then some (ys.any fun z => eqD z dx) else none) = some c := by
      cases dx <;> exact e
    obtain ⟨l1, l2, l3, rfl⟩ := inB_seq e
    refine .inl ⟨_, _, rx.dp R l1, .inr (ry.dp R (by simpa only [lay, D.py, PyData.canLay0] using l2)), l1, l2, ?_, q⟩
    have : min (PyData.depthAll (pys ys)) dx.py.depth ≤ 190 := Nat.le_trans (Nat.min_le_right _ _) l3
    omega
  | str z =>
    cases dx with
    | str w =>
      have e : (if decide (w.cps.size = 1) then some (decide (w.cps.getD 0 0 ∈ z.cps.toList)) else none) = some c := e
      split at e
      · rename_i h1
        cases e
        have h1 := of_decide_eq_true h1
        refine .inr ⟨w.cps.getD 0 0, z, ?_, ry.str R, q⟩
        rw [rx.str R]
        obtain ⟨w⟩ := w
        congr 2
        refine Array.ext (by simpa using h1) fun i h2 h3 => ?_
        have h2 : i < w.size := h2
        have h1 : w.size = 1 := h1
        have hi : i = 0 := by omega
        subst hi
        simp [h1]
      · cases e
    | _ => cases e
  | _ => cases dx <;> cases e
theorem cmpS (hK : X.K = P.K) (hu : X.A.units + 200 < cLine) (op : CmpOp) : OpS P X (compareOp op) (cmpD op) := by
  cases op with
  | Eq =>
    refine ⟨_, op_eqA, fun {x y dx dy d F r t σ H Q} e R rx ry q => ?_⟩
    simp only [cmpD, eqOp] at e
    split at e
    · rename_i h
      cases e
      obtain ⟨h1, h2, h3⟩ := okEq_parts h
      rw [hK]
      exact ⟨_, _, rx.dp R h1, ry.dp R h2, h1, h2, by show X.A.units + min (dep dx) (dep dy) < cLine; omega, q _ _ _ Kp.refl R (.bl _)⟩
    · cases e
  | NotEq =>
    refine ⟨_, op_neA, fun {x y dx dy d F r t σ H Q} e R rx ry q => ?_⟩
    simp only [cmpD, neOp] at e
    split at e
    · rename_i h
      cases e
      obtain ⟨h1, h2, h3⟩ := okEq_parts h
      rw [hK]
      exact ⟨_, _, rx.dp R h1, ry.dp R h2, h1, h2, by show X.A.units + min (dep dx) (dep dy) < cLine; omega, q _ _ _ Kp.refl R (.bl _)⟩
    · cases e
  | Lt =>
    refine ⟨_, OpR.or op_lt op_lt_str, fun {x y dx dy d F r t σ H Q} e R rx ry q => ?_⟩
    cases dx with
    | int i =>
      cases dy with
      | int j =>
        cases e
        exact .inl ⟨i, j, rx.int R, ry.int R, q _ _ _ Kp.refl R (.bl _)⟩
      | _ => cases e
    | str i =>
      cases dy with
      | str j =>
        cases e
        exact .inr ⟨i, j, rx.str R, ry.str R, q _ _ _ Kp.refl R (.bl _)⟩
      | _ => cases e
    | _ => cases dy <;> cases e
  | LtE => exact intCmp op_le fun dx dy d e => by cases dx <;> cases dy <;> first | (cases e; done) | (cases e; exact ⟨_, _, rfl, rfl, rfl⟩)
  | Gt => exact intCmp op_gt fun dx dy d e => by cases dx <;> cases dy <;> first | (cases e; done) | (cases e; exact ⟨_, _, rfl, rfl, rfl⟩)
  | GtE => exact intCmp op_ge fun dx dy d e => by cases dx <;> cases dy <;> first | (cases e; done) | (cases e; exact ⟨_, _, rfl, rfl, rfl⟩)
  | Is =>
    refine ⟨_, op_isN, fun {x y dx dy d F r t σ H Q} e R rx ry q => ?_⟩
    cases dy with
    | non =>
      have e : some (D.bl (isN dx)) = some d := e
      cases e
      cases ry.rp R (fun _ z => by cases z) (fun _ z => by cases z)
      refine ⟨rfl, ?_⟩
      have hx : decide (x = V.non) = isN dx := by
        rcases rx with rx | ⟨i, h1, h2⟩
        · cases rx <;> simp [isN]
        · obtain ⟨p, e, o⟩ := R.own i _ h1
          rw [e] at h2
          cases h2
          have := o.at_
          cases dx <;> first | exact this.elim | simp [isN]
      rw [hx]
      exact q _ _ _ Kp.refl R (.bl _)
    | _ => cases e
  | IsNot =>
    refine ⟨_, op_notN, fun {x y dx dy d F r t σ H Q} e R rx ry q => ?_⟩
    cases dy with
    | non =>
      have e : some (D.bl (!isN dx)) = some d := e
      cases e
      cases ry.rp R (fun _ z => by cases z) (fun _ z => by cases z)
      refine ⟨rfl, ?_⟩
      have hx : decide (x = V.non) = isN dx := by
        rcases rx with rx | ⟨i, h1, h2⟩
        · cases rx <;> simp [isN]
        · obtain ⟨p, e, o⟩ := R.own i _ h1
          rw [e] at h2
          cases h2
          have := o.at_
          cases dx <;> first | exact this.elim | simp [isN]
      rw [hx]
      exact q _ _ _ Kp.refl R (.bl _)
    | _ => cases e
  | In =>
    refine ⟨_, OpR.or op_inA op_in_sign, fun {x y dx dy d F r t σ H Q} e R rx ry q => ?_⟩
    obtain ⟨c, e1, rfl⟩ := Option.map_eq_some_iff.mp (show (inB dx dy).map D.bl = some d from e)
    rw [hK]
    exact inS (neg := false) hu e1 R rx ry (q _ _ _ Kp.refl R (.bl _))
  | NotIn =>
    refine ⟨_, OpR.or op_notInA op_notIn_sign, fun {x y dx dy d F r t σ H Q} e R rx ry q => ?_⟩
    obtain ⟨c, e1, rfl⟩ := Option.map_eq_some_iff.mp (show (inB dx dy).map (fun r => D.bl (!r)) = some d from e)
    rw [hK]
    exact inS (neg := true) hu e1 R rx ry (q _ _ _ Kp.refl R (.bl _))
theorem cmp_bl {op : CmpOp} {x y d : D} (h : cmpD op x y = some d) : ∃ b, d = .bl b := by
  have m : ∀ {o : Option Bool} {f : Bool → Bool}, (o.map fun r => D.bl (f r)) = some d → ∃ b, d = .bl b := fun {o f} h => by
    obtain ⟨b, _, e⟩ := Option.map_eq_some_iff.mp h
    exact ⟨_, e.symm⟩
  cases op with
  | Eq =>
    simp only [cmpD, eqOp] at h
    split at h <;> cases h
    exact ⟨_, rfl⟩
  | NotEq =>
    simp only [cmpD, neOp] at h
    split at h <;> cases h
    exact ⟨_, rfl⟩
  | In => exact m (f := id) h
  | NotIn => exact m (f := Bool.not) h
  | Lt => cases x <;> cases y <;> first | (cases h; done) | (cases h; exact ⟨_, rfl⟩)
  | LtE => cases x <;> cases y <;> first | (cases h; done) | (cases h; exact ⟨_, rfl⟩)
  | Gt => cases x <;> cases y <;> first | (cases h; done) | (cases h; exact ⟨_, rfl⟩)
  | GtE => cases x <;> cases y <;> first | (cases h; done) | (cases h; exact ⟨_, rfl⟩)
  | Is => cases y <;> first | (cases h; done) | (cases h; exact ⟨_, rfl⟩)
  | IsNot => cases y <;> first | (cases h; done) | (cases h; exact ⟨_, rfl⟩)
end
/-! ### tests -/
def tT (P : Pm) (f : Rho → Tw → Res D) : TT := fun σ H Q => ∃ F r t, RelP P F r t σ H ∧ Aft P F (f r t) fun d t' => ∃ b, truD d = some b ∧ ∀ F' H', Kp P.T F H F' H' → RelP P F' r t' σ H' → Q b H'
section
variable {P : Pm} {X : Cx} {a b c : Expr} {pos : Pos} {fa fb fc : Rho → Tw → Res D}
theorem t_plain (hK : X.K = P.K) (ha : PE X a (tB P fa)) (he : ∀ whole, isTrue a X.env whole = (do let v ← whole; standAt a.pos; holding [v] (truthy v))) : PT X a (tT P fa) :=
  ptMono (pt_truth ha he) fun σ H Q ⟨F, r, t, R, h⟩ => ⟨F, r, t, R, h.mono fun d t' ⟨b, e, q⟩ v F' H' s R' rv => ⟨b, by rw [hK]; exact rv.tru R' e, q F' H' s R'⟩⟩
theorem t_not (ha : PT X a (tT P fa)) : PT X (.UnaryOp .Not a pos) (tT P fun r t => (fa r t).bind fun x t1 => Fm.lift (notD x) t1) :=
  ptMono (pt_not ha) fun σ H Q ⟨F, r, t, R, h⟩ => ⟨F, r, t, R, h.bind.mono fun d t' h => by
    obtain ⟨e, h1, b, h2, q⟩ := h.lift
    obtain ⟨b2, h3, rfl⟩ := Option.map_eq_some_iff.mp h1
    cases h2
    exact ⟨b2, h3, q⟩⟩
theorem t_cmp (hK : X.K = P.K) (hu : X.A.units + 200 < cLine) {op : CmpOp} (ha : PE X a (tB P fa)) (hb : PE X b (tB P fb)) (hm : behindInMarks op b = false) :
    PT X (.Compare a [op] [b] pos) (tT P fun r t => (fa r t).bind fun x t1 => (fb r t1).bind fun y t2 => Fm.lift (cmpD op x y) t2) := by
  obtain ⟨rr, ho, hr⟩ := cmpS (P := P) hK hu op
  refine ptMono (pt_cmpR ho ha hb hm) fun σ H Q ⟨F, r, t, R, h⟩ => op2 (P := P) hr σ H _ ⟨F, r, t, R, ?_⟩
  refine Aft.thn (h.bind.mono fun dx t1 h => Aft.thn (h.bind.mono fun dy t2 h => ?_))
  obtain ⟨d, e, b, e2, q⟩ := h.lift
  obtain ⟨k, rfl⟩ := cmp_bl e
  cases e2
  rw [e]
  exact fun v F' H' s R' rv => by
    cases rv
    exact ⟨_, rfl, q F' H' s R'⟩
/-- a comparison as a value -/
theorem s_cmp (hK : X.K = P.K) (hu : X.A.units + 200 < cLine) {op : CmpOp} (ha : PE X a (tB P fa)) (hb : PE X b (tB P fb)) (hm : behindInMarks op b = false) :
    PE X (.Compare a [op] [b] pos) (tD P fun r t => (fa r t).bind fun x t1 => (fb r t1).bind fun y t2 => Fm.lift (cmpD op x y) t2) := by
  obtain ⟨rr, ho, hr⟩ := cmpS (P := P) hK hu op
  exact peMono (pe_cmpR ho ha hb hm) (op2 (P := P) hr)
def chainE (o1 o2 : CmpOp) (fa fb fc : Rho → Tw → Res D) (r : Rho) (t : Tw) : Res D := (fa r t).bind fun x t1 => (fb r t1).bind fun y t2 => match cmpD o1 x y with
    | some (.bl true) => (fc r t2).bind fun z t3 => Fm.lift (cmpD o2 y z) t3
    | some (.bl false) => .ok (.bl false) t2
    | _ => .bad
theorem chain_of {rr rr' : R2} {o1 o2 : CmpOp} (hr : ∀ {x y : V} {dx dy d : D} {F : Hp} {r : Rho} {t : Tw} {σ : L2.St} {H : Hp} {Q : VK}, cmpD o1 dx dy = some d → RelP P F r t σ H → RpB P F r σ x dx → RpB P F r σ y dy →
      (∀ v F' H', Kp P.T F H F' H' → RelP P F' r t σ H' → Rp P.K P.T F' v d → Q v H') → rr x y H Q)
    (hr' : ∀ {x y : V} {dx dy d : D} {F : Hp} {r : Rho} {t : Tw} {σ : L2.St} {H : Hp} {Q : VK}, cmpD o2 dx dy = some d → RelP P F r t σ H → RpB P F r σ x dx → RpB P F r σ y dy →
      (∀ v F' H', Kp P.T F H F' H' → RelP P F' r t σ H' → Rp P.K P.T F' v d → Q v H') → rr' x y H Q) (σ : L2.St) (H : Hp) (Q : VK) (h : tD P (chainE o1 o2 fa fb fc) σ H Q) : tChain rr rr' (tB P fa) (tB P fb) (tB P fc) σ H Q := by
  obtain ⟨F, r, t, R, h⟩ := h
  refine ⟨F, r, t, R, h.bind.mono fun dx t1 h v F1 H1 s1 R1 rx => ?_⟩
  refine ⟨F1, r, t1, R1, (h.up s1.1).bind.mono fun dy t2 h w F2 H2 s2 R2 ry => ?_⟩
  have h := h.up s2.1
  cases e : cmpD o1 dx dy with
  | none =>
    rw [e] at h
    exact h.elim
  | some d =>
    obtain ⟨k, rfl⟩ := cmp_bl e
    rw [e] at h
    refine hr e R2 (rx.mono s2.1) ry fun z F3 H3 s3 R3 rz => ?_
    cases rz
    refine ⟨k, rfl, ?_⟩
    cases k with
    | false => exact h _ _ _ (s1.trans (s2.trans s3)) R3 (.bl false)
    | true =>
      refine ⟨F3, r, t2, R3, ((show Aft P F2 ((fc r t2).bind fun z t3 => Fm.lift (cmpD o2 dy z) t3) _ from h).up s3.1).bind.mono fun dz t4 h u F4 H4 s4 R4 rz => ?_⟩
      obtain ⟨d4, e4, q⟩ := h.lift
      exact hr' e4 R4 (ry.mono (s3.trans s4).1) rz fun v F' H' s R' h => q v F' H' (s1.trans (s2.trans (s3.trans (s4.trans s)))) R' h
theorem s_chain (hK : X.K = P.K) (hu : X.A.units + 200 < cLine) {o1 o2 : CmpOp} (ha : PE X a (tB P fa)) (hb : PE X b (tB P fb)) (hc : PE X c (tB P fc)) (hm : lastMarks [o1, o2] [b, c] = false) :
    PE X (.Compare a [o1, o2] [b, c] pos) (tD P (chainE o1 o2 fa fb fc)) := by
  obtain ⟨rr, ho, hr⟩ := cmpS (P := P) hK hu o1
  obtain ⟨rr', ho', hr'⟩ := cmpS (P := P) hK hu o2
  exact peMono (pe_chain ho ho' ha hb hc hm) (chain_of hr hr')
theorem chain_bl {o1 o2 : CmpOp} {F : Hp} {r : Rho} {t : Tw} {Z : D → Tw → Prop} (h : Aft P F (chainE o1 o2 fa fb fc r t) Z) : Aft P F (chainE o1 o2 fa fb fc r t) fun d t => (∃ k, d = .bl k) ∧ Z d t := by
  unfold chainE at h ⊢
  refine Aft.thn (h.bind.mono fun dx t1 h => Aft.thn (h.bind.mono fun dy t2 h => ?_))
  cases e : cmpD o1 dx dy with
  | none =>
    rw [e] at h
    exact h.elim
  | some d =>
    obtain ⟨k, rfl⟩ := cmp_bl e
    rw [e] at h
    cases k with
    | false => exact ⟨⟨_, rfl⟩, h⟩
    | true =>
      refine Aft.thn ((show Aft P F ((fc r t2).bind fun z t3 => Fm.lift (cmpD o2 dy z) t3) _ from h).bind.mono fun dz t3 h => ?_)
      obtain ⟨d4, e4, q⟩ := h.lift
      rw [e4]
      exact ⟨cmp_bl e4, q⟩
theorem t_chain (hK : X.K = P.K) (hu : X.A.units + 200 < cLine) {o1 o2 : CmpOp} (ha : PE X a (tB P fa)) (hb : PE X b (tB P fb)) (hc : PE X c (tB P fc)) (hm : lastMarks [o1, o2] [b, c] = false) :
    PT X (.Compare a [o1, o2] [b, c] pos) (tT P (chainE o1 o2 fa fb fc)) := by
  obtain ⟨rr, ho, hr⟩ := cmpS (P := P) hK hu o1
  obtain ⟨rr', ho', hr'⟩ := cmpS (P := P) hK hu o2
  refine ptMono (pt_chain ho ho' ha hb hc hm) fun σ H Q ⟨F, r, t, R, h⟩ => chain_of hr hr' σ H _ ⟨F, r, t, R, (chain_bl h).mono fun d t' h => ?_⟩
  obtain ⟨⟨k, rfl⟩, b, e, q⟩ := h
  cases e
  exact fun v F' H' s R' rv => by
    cases rv
    exact ⟨_, rfl, q F' H' s R'⟩
/-! ### not, and, or, if as values -/
theorem s_not (hK : X.K = P.K) (ha : PE X a (tB P fa)) : PE X (.UnaryOp .Not a pos) (tD P fun r t => (fa r t).bind fun x t1 => Fm.lift (notD x) t1) :=
  peMono (pe_notT ha) fun σ H Q ⟨F, r, t, R, h⟩ => ⟨F, r, t, R, h.bind.mono fun d t' h v F' H' s R' rv => by
    obtain ⟨e, h1, q⟩ := h.lift
    obtain ⟨b2, h3, rfl⟩ := Option.map_eq_some_iff.mp h1
    exact ⟨b2, by rw [hK]; exact rv.tru R' h3, q _ _ _ s R' (.bl _)⟩⟩
def andE (fa fb : Rho → Tw → Res D) (r : Rho) (t : Tw) : Res D := (fa r t).bind fun x t1 => match truD x with
    | some true => fb r t1
    | some false => .ok x t1
    | none => .bad
def orE (fa fb : Rho → Tw → Res D) (r : Rho) (t : Tw) : Res D := (fa r t).bind fun x t1 => match truD x with
    | some true => .ok x t1
    | some false => fb r t1
    | none => .bad
def iteE (fc fa fb : Rho → Tw → Res D) (r : Rho) (t : Tw) : Res D := (fc r t).bind fun x t1 => match truD x with
    | some true => fa r t1
    | some false => fb r t1
    | none => .bad
variable {rest : List Expr}
theorem s_and (hK : X.K = P.K) (ha : PE X a (tD P fa)) (hb : PE X (.BoolOp .And (b :: rest) pos) (tD P fb)) : PE X (.BoolOp .And (a :: b :: rest) pos) (tD P (andE fa fb)) :=
  peMono (pe_andT ha hb) fun σ H Q ⟨F, r, t, R, h⟩ => ⟨F, r, t, R, h.bind.mono fun d t' h v F' H' s R' rv => by
    cases e : truD d with
    | none =>
      rw [e] at h
      exact h.elim
    | some k =>
      rw [e] at h
      refine ⟨k, by rw [hK]; exact (RpB.of (r := r) (σ := σ) rv).tru R' e, ?_⟩
      cases k with
      | true => exact ⟨F', r, t', R', ((show Aft P F (fb r t') _ from h).up s.1).mono fun d2 t2 q v2 F2 H2 s2 R2 rv2 => q v2 F2 H2 (s.trans s2) R2 rv2⟩
      | false => exact h v F' H' s R' rv⟩
theorem s_or (hK : X.K = P.K) (ha : PE X a (tD P fa)) (hb : PE X (.BoolOp .Or (b :: rest) pos) (tD P fb)) : PE X (.BoolOp .Or (a :: b :: rest) pos) (tD P (orE fa fb)) :=
  peMono (pe_orT ha hb) fun σ H Q ⟨F, r, t, R, h⟩ => ⟨F, r, t, R, h.bind.mono fun d t' h v F' H' s R' rv => by
    cases e : truD d with
    | none =>
      rw [e] at h
      exact h.elim
    | some k =>
      rw [e] at h
      refine ⟨k, by rw [hK]; exact (RpB.of (r := r) (σ := σ) rv).tru R' e, ?_⟩
      cases k with
      | false => exact ⟨F', r, t', R', ((show Aft P F (fb r t') _ from h).up s.1).mono fun d2 t2 q v2 F2 H2 s2 R2 rv2 => q v2 F2 H2 (s.trans s2) R2 rv2⟩
      | true => exact h v F' H' s R' rv⟩
theorem s_ite (hc : PT X c (tT P fc)) (ha : PE X a (tD P fa)) (hb : PE X b (tD P fb)) : PE X (.IfExp c a b pos) (tD P (iteE fc fa fb)) :=
  peMono (pe_ifExp hc ha hb) fun σ H Q ⟨F, r, t, R, h⟩ => ⟨F, r, t, R, h.bind.mono fun d t' h => by
    cases e : truD d with
    | none =>
      rw [e] at h
      exact h.elim
    | some k =>
      rw [e] at h
      refine ⟨k, rfl, fun F' H' s R' => ?_⟩
      cases k with
      | true => exact ⟨F', r, t', R', ((show Aft P F (fa r t') _ from h).up s.1).mono fun d2 t2 q v2 F2 H2 s2 R2 rv2 => q v2 F2 H2 (s.trans s2) R2 rv2⟩
      | false => exact ⟨F', r, t', R', ((show Aft P F (fb r t') _ from h).up s.1).mono fun d2 t2 q v2 F2 H2 s2 R2 rv2 => q v2 F2 H2 (s.trans s2) R2 rv2⟩⟩
/-- and, or as tests -/
theorem t_and (ha : PT X a (tT P fa)) (hb : PW X (.BoolOp .And (b :: rest) pos) (tT P fb)) : PW X (.BoolOp .And (a :: b :: rest) pos) (tT P (andE fa fb)) :=
  ⟨fun wh pins s0 σ H Q I ⟨F, r, t, R, h⟩ => (pw_and ha hb).run wh pins s0 σ H Q I ⟨F, r, t, R, h.bind.mono fun d t' h => by
    cases e : truD d with
    | none =>
      rw [e] at h
      exact h.elim
    | some k =>
      rw [e] at h
      refine ⟨k, rfl, fun F' H' s R' => ?_⟩
      cases k with
      | true => exact ⟨F', r, t', R', ((show Aft P F (fb r t') _ from h).up s.1).mono fun d2 t2 ⟨b2, e2, q⟩ => ⟨b2, e2, fun F2 H2 s2 R2 => q F2 H2 (s.trans s2) R2⟩⟩
      | false =>
        obtain ⟨b2, e2, q⟩ := h
        rw [e] at e2
        cases e2
        exact q F' H' s R'⟩⟩
theorem t_or (ha : PT X a (tT P fa)) (hb : PW X (.BoolOp .Or (b :: rest) pos) (tT P fb)) : PW X (.BoolOp .Or (a :: b :: rest) pos) (tT P (orE fa fb)) :=
  ⟨fun wh pins s0 σ H Q I ⟨F, r, t, R, h⟩ => (pw_or ha hb).run wh pins s0 σ H Q I ⟨F, r, t, R, h.bind.mono fun d t' h => by
    cases e : truD d with
    | none =>
      rw [e] at h
      exact h.elim
    | some k =>
      rw [e] at h
      refine ⟨k, rfl, fun F' H' s R' => ?_⟩
      cases k with
      | false => exact ⟨F', r, t', R', ((show Aft P F (fb r t') _ from h).up s.1).mono fun d2 t2 ⟨b2, e2, q⟩ => ⟨b2, e2, fun F2 H2 s2 R2 => q F2 H2 (s.trans s2) R2⟩⟩
      | true =>
        obtain ⟨b2, e2, q⟩ := h
        rw [e] at e2
        cases e2
        exact q F' H' s R'⟩⟩
end
end Fm

/-! ### subscripts, displays, built-in calls, dicts -/
namespace Fm
open PySem PySem.Spec PyProof.Rows L2
section
variable {P : Pm} {X : Cx} {a b c : Expr} {pos : Pos} {fa fb fc : Rho → Tw → Res D}
theorem atI_map {ns : List Int} {i v : Int} (e : atI ns i = some v) : atI (ns.map V.int) i = some (.int v) := by
  unfold atI at e ⊢
  rw [List.length_map]
  cases h : ixN ns.length i with
  | none =>
    rw [h] at e
    cases e
  | some j =>
    rw [h] at e
    have e : ns[j]? = some v := e
    show (ns.map V.int)[j]? = _
    rw [List.getElem?_map, e]
    rfl
theorem ix_nat {xs : List V} {ds : List D} {F : Hp} {i : Int} {d : D} (q : RpL P.K P.T F xs ds) (e : atI ds i = some d) : ∃ v, atI xs i = some v ∧ Rp P.K P.T F v d := by
  unfold atI at e ⊢
  rw [q.length]
  cases h : ixN ds.length i with
  | none =>
    rw [h] at e
    cases e
  | some j =>
    rw [h] at e
    obtain ⟨v, e2, r2⟩ := q.get (i := j) e
    exact ⟨v, e2, r2⟩
theorem s_ix (hK : X.K = P.K) (ha : PE X a (tB P fa)) (hb : PE X b (tB P fb)) (hs : PlainIx b) : PE X (.Subscript a b pos) (tD P fun r t => (fa r t).bind fun x t1 => (fb r t1).bind fun y t2 => Fm.lift (ixD x y) t2) := by
  refine peMono (pe_ix ix_seq ha hb hs) (op2 fun {x y dx dy d F r t σ H Q} e R rx ry q => ?_)
  cases dx with
  | tup xs =>
    cases dy with
    | int i =>
      obtain ⟨p1, v1, rfl, e1, z1, q1⟩ := rx.tup R
      obtain ⟨v, e2, r2⟩ := ix_nat q1 e
      rw [hK]
      exact .inr (.inl ⟨p1, v1, i, v, rfl, ry.int R, sqT_mono R.sub e1, e2, q _ _ _ Kp.refl R r2⟩)
    | _ => cases e
  | lst xs =>
    cases dy with
    | int i =>
      obtain ⟨p1, v1, rfl, e1, z1, q1⟩ := rx.lst R
      obtain ⟨v, e2, r2⟩ := ix_nat q1 e
      rw [hK]
      exact .inl ⟨p1, v1, i, v, rfl, ry.int R, SqL.of e1, e2, q _ _ _ Kp.refl R r2⟩
    | _ => cases e
  | str z =>
    cases dy with
    | int i =>
      have e : (if okLen z.length then (atI z.cps.toList i).map fun c => D.str ⟨#[c]⟩ else none) = some d := e
      split at e
      · rename_i hl
        obtain ⟨c, e1, rfl⟩ := Option.map_eq_some_iff.mp e
        exact .inr (.inr ⟨z, i, c, rx.str R, ry.int R, okLen_le hl, e1, q _ _ _ Kp.refl R (.str _)⟩)
      · cases e
    | _ => cases e
  | scr ns =>
    cases dy with
    | int i =>
      have e : (L2.atI ns i).map D.int = some d := e
      obtain ⟨v, e1, rfl⟩ := Option.map_eq_some_iff.mp e
      cases rx.rp R (fun _ z => by cases z) (fun _ z => by cases z)
      rw [hK]
      exact .inl ⟨_, _, i, .int v, rfl, ry.int R, sqL_mono R.sub R.sc, atI_map e1, q _ _ _ Kp.refl R (.int v)⟩
    | _ => cases e
  | _ => cases dy <;> cases e
/-! ### slices -/
def tO (P : Pm) (f : Rho → Tw → Res (Option D)) : TO := fun σ H Q => ∃ F r t, RelP P F r t σ H ∧ Aft P F (f r t) fun o t' => ∃ i, optI o = some i ∧ ∀ F' H', Kp P.T F H F' H' → RelP P F' r t' σ H' → Q i H'
theorem poMono {e : Option Expr} {t u : TO} (h : PO X e t) (i : ∀ σ H Q, u σ H Q → t σ H Q) : PO X e u := ⟨fun pins s σ H Q I q => h.run pins s σ H Q I (i σ H Q q)⟩
theorem s_none : PO X none (tO P fun r t => .ok none t) := poMono po_none fun σ H Q ⟨F, r, t, R, i, e, q⟩ => by
  cases e
  exact q F H Kp.refl R
theorem s_some (ha : PE X a (tB P fa)) : PO X (some a) (tO P fun r t => (fa r t).bind fun x t1 => .ok (some x) t1) := poMono (po_some ha) fun σ H Q ⟨F, r, t, R, h⟩ => ⟨F, r, t, R, h.bind.mono fun d t' ⟨i, e, q⟩ v F' H' s R' rv => by
  cases d with
  | int j =>
    cases e
    exact ⟨j, rv.int R', q F' H' s R'⟩
  | _ => cases e⟩
theorem cut_rel {xs : List V} {ds : List D} {F : Hp} (q : RpL P.K P.T F xs ds) (l h : Option Int) : RpL P.K P.T F (cutV xs l h) (cutL ds l h) := by
  unfold cutV cutL
  rw [q.length]
  exact (q.drop _).take _
def cutE (fa : Rho → Tw → Res D) (fl fh : Rho → Tw → Res (Option D)) (r : Rho) (t : Tw) : Res D := (fa r t).bind fun x t1 => (fl r t1).bind fun l t2 => (Fm.lift (optI l) t2).bind fun l t2 => (fh r t2).bind fun h t3 => (Fm.lift (optI h) t3).bind fun h t3 => Fm.lift (cutD x l h) t3
theorem s_cut (hK : X.K = P.K) {lo hi : Option Expr} {p2 : Pos} {fl fh : Rho → Tw → Res (Option D)} (ha : PE X a (tB P fa)) (hl : PO X lo (tO P fl)) (hh : PO X hi (tO P fh)) :
    PE X (.Subscript a (.Slice lo hi none p2) pos) (tD P (cutE fa fl fh)) := by
  refine peMono (pe_slice (SlR.or sl_tupA sl_list) ha hl hh) fun σ H Q ⟨F, r, t, R, h⟩ => ⟨F, r, t, R, h.bind.mono fun dx t1 h v F1 H1 s1 R1 rx => ?_⟩
  refine ⟨F1, r, t1, R1, (h.up s1.1).bind.mono fun dl t2 h => ?_⟩
  obtain ⟨l, ol, h⟩ := h.bind.lift
  refine ⟨l, ol, fun F2 H2 s2 R2 => ⟨F2, r, t2, R2, (h.up s2.1).bind.mono fun dh t3 h => ?_⟩⟩
  obtain ⟨u, ou, h⟩ := h.bind.lift
  obtain ⟨d, e, q⟩ := h.lift
  refine ⟨u, ou, fun F3 H3 s3 R3 => ?_⟩
  have rx := rx.mono (s2.trans s3).1
  have q : ∀ v F' H', Kp P.T F3 H3 F' H' → RelP P F' r t3 σ H' → Rp P.K P.T F' v d → Q v H' := fun v F' H' s R' h => q v F' H' (s1.trans (s2.trans (s3.trans s))) R' h
  cases dx with
  | tup xs =>
    cases e
    obtain ⟨p1, v1, rfl, e1, z1, q1⟩ := rx.tup R3
    rw [hK]
    refine .inl ⟨p1, v1, rfl, sqT_mono R3.sub e1, fun hw => ?_, fun _ => ?_⟩
    · refine q _ _ _ Kp.refl R3 ?_
      have ec : cutL xs l u = xs := by
        unfold cutL
        rw [← q1.length, hw.1, hw.2]
        simp [q1.length]
      rw [ec]
      exact .tup e1 z1 q1
    · exact mkTup R3 (Nat.le_trans (cutV_length _ _ _) z1) (cut_rel q1 l u) q
  | lst xs =>
    cases e
    obtain ⟨p1, v1, rfl, e1, z1, q1⟩ := rx.lst R3
    exact .inr ⟨p1, v1, rfl, SqL.of e1, mkLst R3 (Nat.le_trans (cutV_length _ _ _) z1) (cut_rel q1 l u) q⟩
  | _ => cases e
/-! ### argument lists, displays -/
theorem s_nil : PA X [] (tDs P fun r t => .ok [] t) := paMono pa_nil fun σ H Q ⟨F, r, t, R, q⟩ => q [] F H Kp.refl R .nil
theorem s_cons {es : List Expr} {fs : Rho → Tw → Res (List D)} (ha : PE X a (tD P fa)) (hr : PA X es (tDs P fs)) (hs : starEach (a :: es) X.env = (false, eval a X.env) :: starEach es X.env) :
    PA X (a :: es) (tDs P fun r t => (fa r t).bind fun x t1 => (fs r t1).bind fun xs t2 => .ok (x :: xs) t2) :=
  paMono (pa_cons ha hr hs) fun σ H Q ⟨F, r, t, R, h⟩ => ⟨F, r, t, R, h.bind.mono fun d t1 h v F1 H1 s1 R1 rv => ⟨F1, r, t1, R1, (h.up s1.1).bind.mono fun ds t2 q vs F2 H2 s2 R2 rvs =>
    q (v :: vs) F2 H2 (s1.trans s2) R2 (.cons (rv.mono s2.1) rvs)⟩⟩
theorem s_tup {es : List Expr} {x1 : Nat} {fs : Rho → Tw → Res (List D)} (h : PA X es (tDs P fs)) : PE X (.Tuple es x1 pos) (tD P fun r t => (fs r t).bind fun xs t1 => if okLen xs.length then .ok (.tup xs) t1 else .bad) :=
  peMono (pe_tup h) fun σ H Q ⟨F, r, t, R, h⟩ => ⟨F, r, t, R, h.bind.mono fun ds t1 h vs F1 H1 s1 R1 rv => by
    split at h
    · rename_i hl
      have z : vs.length ≤ sizeLine := by
        rw [rv.length]
        exact okLen_le hl
      exact ⟨z, mkTup R1 z rv fun v F' H' s R' r => h v F' H' (s1.trans s) R' r⟩
    · exact h.elim⟩
/-! ### an object that is nobody's yet -/
/-- a new object: nobody's -/
structure Fre (P : Pm) (F : Hp) (r : Rho) (σ : L2.St) (H : Hp) (v : V) (d : D) (p : Addr) : Prop where
  v : v = .ref p
  own : Fm.Own P.K P.T P.H0 F H p d
  no : ∀ (i : Nat) (e : D), r[i]? = some (.own e) → σ[i]? ≠ some (some (.ref p))
def tN (P : Pm) (f : Rho → Tw → Res D) : TE := fun σ H Q => ∃ F r t, RelP P F r t σ H ∧ Aft P F (f r t) fun d t' => ∀ v F' H' p, Kp P.T F H F' H' → RelP P F' r t' σ H' → Nn H p → Fre P F' r σ H' v d p → Q v H'
/-- .. it may be frozen, if it is a list -/
theorem Fre.lst {F H : Hp} {F1 H1 : Hp} {r : Rho} {t' : Tw} {σ : L2.St} {v : V} {p : Addr} {ds : List D} {Q : VK} (s : Kp P.T F H F1 H1) (R' : RelP P F1 r t' σ H1) (hp : Nn H p) (fr : Fre P F1 r σ H1 v (.lst ds) p)
    (q : ∀ v F' H', Kp P.T F H F' H' → RelP P F' r t' σ H' → Rp P.K P.T F' v (.lst ds) → Q v H') : Q v H1 := by
  obtain ⟨rfl, o, no⟩ := fr
  obtain ⟨vs, h1, h2, h3⟩ := o.at_
  have R2 := R'.freeze (o := .lst vs) h1 (by intro _ z; cases z) o.fr o.h0 o.n1 o.n2 no
  have s2 : Same F1 (upd F1 p (.lst vs)) := same_new o.fr
  refine q _ _ _ ⟨s.1.trans s2, fun c u h => ?_, s.old, s.had⟩ R2 (.lst upd_same h2 (h3.mono s2))
  by_cases hc : c = p
  · rw [hc]
    exact .inr hp
  · rw [upd_ne hc] at h
    exact s.new c u h
theorem tNtD_mono {f : Rho → Tw → Res D} (hl : ∀ r t d t', f r t = .ok d t' → ∃ xs, d = .lst xs) (σ : L2.St) (H : Hp) (Q : VK) (z : tD P f σ H Q) : tN P f σ H Q := by
  obtain ⟨F, r, t, R, h⟩ := z
  refine ⟨F, r, t, R, ?_⟩
  cases e : f r t with
  | ok d t' =>
    obtain ⟨xs, rfl⟩ := hl r t d t' e
    rw [e] at h
    exact fun v F' H' p s R' hp fr => fr.lst s R' hp h
  | exc n t' =>
    rw [e] at h
    exact h
  | bad =>
    rw [e] at h
    exact h
/-- .. it may be frozen; a dict is locked -/
theorem tN_tD {f : Rho → Tw → Res D} {e : Expr} (h : PE X e (tN P f)) : PE X e (tD P f) := by
  refine ⟨fun pins s σ H Q I ⟨F, r, t, R, z⟩ => ?_⟩
  refine thn (h.run pins s σ H (fun v H1 => ∃ F1 t' d p, Kp P.T F H F1 H1 ∧ RelP P F1 r t' σ H1 ∧ Nn H p ∧ Fre P F1 r σ H1 v d p ∧ ∀ v F' H', Kp P.T F H F' H' → RelP P F' r t' σ H' → Rp P.K P.T F' v d → Q v H') I ⟨F, r, t, R, z.mono fun d t' q v F' H' p s R' hp fr => ⟨F', t', d, p, s, R', hp, fr, q⟩⟩) fun u s1 ⟨v, H1, I1, rv, F1, t', d, p, k, R1, hp, fr, q⟩ => ?_
  cases d with
  | lst ds => exact ⟨v, H1, I1, rv, fr.lst k R1 hp q⟩
  | dct es =>
    obtain ⟨rfl, o, no⟩ := fr
    obtain ⟨kvs, h1, h2, h3⟩ := o.at_
    obtain ⟨od, I2⟩ := I1.lock h1 trivial
    have R2 := R1.lockF (od := od) h1 o.fr o.h0 o.n1 o.n2 no
    have s2 : Same F1 (upd F1 p (.frz od (.dK kvs))) := same_new o.fr
    refine ⟨.ref p, _, I2, rv, q _ _ _ ⟨k.1.trans s2, fun c u h => ?_, fun c u h m1 m2 m3 => ?_, fun c h => k.had c (h.upd (by intro _ z; cases z)).1⟩ R2 (.dct upd_same h2 (h3.mono s2))⟩
    · by_cases hc : c = p
      · rw [hc]
        exact .inr hp
      · rw [upd_ne hc] at h
        exact k.new c u h
    · rw [upd_ne (fun z => hp.no (by rw [← z]; exact h) m3)]
      exact k.old c u h m1 m2 m3
  | _ =>
    obtain ⟨_, o, _⟩ := fr
    exact o.at_.elim
/-- laid just now -/
theorem mkNew {F : Hp} {r : Rho} {t : Tw} {σ : L2.St} {H : Hp} {o : HO} {d : D} (R : RelP P F r t σ H) {p : Addr} (hp : H p = none) (h : OwnAt P.K P.T F (upd H p o) p d) :
    RelP P F r t σ (upd H p o) ∧ Kp P.T F H F (upd H p o) ∧ Fre P F r σ (upd H p o) (.ref p) d p := by
  have b := R.toRelH.newO (o := o) hp
  have n1 : p ≠ P.T.a := fun e => by
    rw [e, R.tw.a] at hp
    cases hp
  have n2 : p ≠ P.T.b := fun e => by
    rw [e, R.tw.b] at hp
    cases hp
  refine ⟨R.step b, Kp.of b, rfl, ⟨R.sub.free hp, n1, n2, R.had p (.of hp), h⟩, fun i e h1 h2 => ?_⟩
  obtain ⟨q, e1, w⟩ := R.own i e h1
  rw [h2] at e1
  cases e1
  obtain ⟨o2, ho, _⟩ := w.at_.obj
  rw [hp] at ho
  cases ho
theorem n_lst {es : List Expr} {fs : Rho → Tw → Res (List D)} (h : PA X es (tDs P fs)) : PE X (.List es pos) (tN P fun r t => (fs r t).bind fun xs t1 => if okLen xs.length then .ok (.lst xs) t1 else .bad) :=
  peMono (pe_lst h) fun σ H Q ⟨F, r, t, R, h⟩ => ⟨F, r, t, R, h.bind.mono fun ds t1 h vs F1 H1 s1 R1 rv => by
    split at h
    · rename_i hl
      have z : vs.length ≤ sizeLine := by
        rw [rv.length]
        exact okLen_le hl
      refine ⟨z, fun p hp => ?_⟩
      obtain ⟨R2, k2, fr⟩ := mkNew (o := .lst vs) (d := .lst ds) R1 hp ⟨vs, upd_same, z, rv⟩
      exact h _ _ _ p (s1.trans k2) R2 (s1.had p (.of hp)) fr
    · exact h.elim⟩
/-! ### built-in calls of one value -/
def CallS (P : Pm) (X : Cx) (f : Value) (g : D → Option D) : Prop :=
  ∃ rr : List V → Hp → VK → Prop, CallR X f rr ∧ ∀ {x : V} {dx d : D} {F : Hp} {r : Rho} {t : Tw} {σ : L2.St} {H : Hp} {Q : VK}, g dx = some d → RelP P F r t σ H → RpB P F r σ x dx →
      (∀ v F' H', Kp P.T F H F' H' → RelP P F' r t σ H' → Rp P.K P.T F' v d → Q v H') → rr [x] H Q
/-- .. that make a new list, nobody's -/
def CallN (P : Pm) (X : Cx) (f : Value) (g : D → Option D) : Prop :=
  ∃ rr : List V → Hp → VK → Prop, CallR X f rr ∧ ∀ {x : V} {dx d : D} {F : Hp} {r : Rho} {t : Tw} {σ : L2.St} {H : Hp} {Q : VK}, g dx = some d → RelP P F r t σ H → RpB P F r σ x dx →
      (∀ v F' H' p, Kp P.T F H F' H' → RelP P F' r t σ H' → Nn H p → Fre P F' r σ H' v d p → Q v H') → rr [x] H Q
theorem cs_abs : CallS P X (.builtin "abs") (blt1 .abs) := by
  refine ⟨_, call_abs, fun {x dx d F r t σ H Q} e R rx q => ?_⟩
  cases dx with
  | int i =>
    cases e
    exact ⟨i, by rw [rx.int R], q _ _ _ Kp.refl R (.int _)⟩
  | _ => cases e
theorem cs_len (hK : X.K = P.K) : CallS P X (.builtin "len") (blt1 .len) := by
  refine ⟨_, CallR.or call_len call_lenD, fun {x dx d F r t σ H Q} e R rx q => ?_⟩
  rw [hK]
  cases dx with
  | tup ds =>
    cases e
    obtain ⟨p1, v1, rfl, e1, z1, q1⟩ := rx.tup R
    exact .inl ⟨_, v1.length, rfl, .inr ⟨v1, sqT_mono R.sub e1, rfl⟩, by rw [q1.length]; exact q _ _ _ Kp.refl R (.int _)⟩
  | lst ds =>
    cases e
    obtain ⟨p1, v1, rfl, e1, z1, q1⟩ := rx.lst R
    exact .inl ⟨_, v1.length, rfl, .inl ⟨v1, SqL.of e1, rfl⟩, by rw [q1.length]; exact q _ _ _ Kp.refl R (.int _)⟩
  | scr ns =>
    cases rx.rp R (fun _ z => by cases z) (fun _ z => by cases z)
    cases e
    exact .inl ⟨_, (P.T.ns.map V.int).length, rfl, .inl ⟨_, sqL_mono R.sub R.sc, rfl⟩, by rw [List.length_map]; exact q _ _ _ Kp.refl R (.int _)⟩
  | str z =>
    have e : (if okLen z.length then some (D.int z.length) else none) = some d := e
    split at e
    · rename_i hl
      cases e
      obtain rfl := rx.str R
      exact .inl ⟨_, z.length, rfl, ⟨okLen_le hl, rfl⟩, q _ _ _ Kp.refl R (.int _)⟩
    · cases e
  | _ => cases e
theorem cs_all (hK : X.K = P.K) (hc : X.calm = true) : CallS P X (.builtin "all") (blt1 .all) := by
  refine ⟨_, cr_all hc, fun {x dx d F r t σ H Q} e R rx q => ?_⟩
  cases dx with
  | lst ds =>
    obtain ⟨bs, e1, rfl⟩ := Option.map_eq_some_iff.mp (show (bls ds).map (fun bs => D.bl (bs.all id)) = some d from e)
    obtain ⟨p1, v1, rfl, e2, z1, q1⟩ := rx.lst R
    obtain rfl := q1.blsOf e1
    exact ⟨p1, bs, rfl, SqL.of e2, q _ _ _ Kp.refl R (.bl _)⟩
  | _ => cases e
theorem cs_any (hK : X.K = P.K) (hc : X.calm = true) : CallS P X (.builtin "any") (blt1 .any) := by
  refine ⟨_, cr_any hc, fun {x dx d F r t σ H Q} e R rx q => ?_⟩
  cases dx with
  | lst ds =>
    obtain ⟨bs, e1, rfl⟩ := Option.map_eq_some_iff.mp (show (bls ds).map (fun bs => D.bl (bs.any id)) = some d from e)
    obtain ⟨p1, v1, rfl, e2, z1, q1⟩ := rx.lst R
    obtain rfl := q1.blsOf e1
    exact ⟨p1, bs, rfl, SqL.of e2, q _ _ _ Kp.refl R (.bl _)⟩
  | _ => cases e
theorem cs_sum (hK : X.K = P.K) (hc : X.calm = true) : CallS P X (.builtin "sum") (blt1 .sum) := by
  refine ⟨_, cr_sum hc, fun {x dx d F r t σ H Q} e R rx q => ?_⟩
  cases dx with
  | lst ds =>
    obtain ⟨bs, e1, rfl⟩ := Option.map_eq_some_iff.mp (show (intsD ds).map (fun ns => D.int ns.sum) = some d from e)
    obtain ⟨p1, v1, rfl, e2, z1, q1⟩ := rx.lst R
    obtain rfl := q1.intsOf e1
    exact ⟨p1, bs, rfl, SqL.of e2, q _ _ _ Kp.refl R (.int _)⟩
  | _ => cases e
theorem cs_tuple (hK : X.K = P.K) : CallS P X (.type "tuple") (blt1 .tuple) := by
  refine ⟨_, call_tuple_of, fun {x dx d F r t σ H Q} e R rx q => ?_⟩
  rw [hK]
  cases dx with
  | lst ds =>
    cases e
    obtain ⟨p1, v1, rfl, e2, z1, q1⟩ := rx.lst R
    exact ⟨p1, v1, rfl, .inl ⟨SqL.of e2, mkTup R z1 q1 q⟩⟩
  | tup ds =>
    cases e
    obtain ⟨p1, v1, rfl, e2, z1, q1⟩ := rx.tup R
    exact ⟨p1, v1, rfl, .inr ⟨sqT_mono R.sub e2, q _ _ _ Kp.refl R (.tup e2 z1 q1)⟩⟩
  | _ => cases e
theorem cn_list (hK : X.K = P.K) : CallN P X (.type "list") (blt1 .list) := by
  refine ⟨_, call_list_of, fun {x dx d F r t σ H Q} e R rx q => ?_⟩
  rw [hK]
  cases dx with
  | lst ds =>
    cases e
    obtain ⟨p1, v1, rfl, e2, z1, q1⟩ := rx.lst R
    refine ⟨p1, v1, rfl, .inl (SqL.of e2), fun p hp => ?_⟩
    obtain ⟨R2, k2, fr⟩ := mkNew (o := .lst v1) (d := .lst ds) R hp ⟨v1, upd_same, z1, q1⟩
    exact q _ _ _ p k2 R2 (.of hp) fr
  | tup ds =>
    cases e
    obtain ⟨p1, v1, rfl, e2, z1, q1⟩ := rx.tup R
    refine ⟨p1, v1, rfl, .inr (sqT_mono R.sub e2), fun p hp => ?_⟩
    obtain ⟨R2, k2, fr⟩ := mkNew (o := .lst v1) (d := .lst ds) R hp ⟨v1, upd_same, z1, q1⟩
    exact q _ _ _ p k2 R2 (.of hp) fr
  | _ => cases e
/-! sorted -/
theorem insI_perm (x : Int) : ∀ l : List Int, (insI x l).Perm (x :: l)
  | [] => List.Perm.refl _
  | y :: r => by
    unfold insI
    split
    · exact List.Perm.refl _
    · exact ((insI_perm x r).cons y).trans (List.Perm.swap x y r)
theorem srtI_perm : ∀ l : List Int, (srtI l).Perm l
  | [] => List.Perm.refl _
  | x :: r => (insI_perm x _).trans ((srtI_perm r).cons x)
theorem insI_sorted (x : Int) : ∀ l : List Int, l.Pairwise (· ≤ ·) → (insI x l).Pairwise (· ≤ ·)
  | [], _ => List.pairwise_singleton _ _
  | y :: r, h => by
    obtain ⟨h1, h2⟩ := List.pairwise_cons.mp h
    unfold insI
    split
    · rename_i hx
      refine List.pairwise_cons.mpr ⟨fun z hz => ?_, h⟩
      rcases List.mem_cons.mp hz with rfl | hz
      · exact hx
      · exact Int.le_trans hx (h1 z hz)
    · rename_i hx
      refine List.pairwise_cons.mpr ⟨fun z hz => ?_, insI_sorted x r h2⟩
      rcases List.mem_cons.mp ((insI_perm x r).mem_iff.mp hz) with rfl | hz
      · omega
      · exact h1 z hz
theorem srtI_sorted : ∀ l : List Int, (srtI l).Pairwise (· ≤ ·)
  | [] => List.Pairwise.nil
  | x :: r => insI_sorted x _ (srtI_sorted r)
theorem srtI_one {l m : List Int} (h : m.Perm l) (s : m.Pairwise (· ≤ ·)) : m = srtI l := PySem.W.ksm_same (h.trans (srtI_perm l).symm) s (srtI_sorted l)
theorem keys_of {F : Hp} : ∀ {kvs : List (Key × V)} {es : List (Key × D)} {ns : List Int}, RpK P.K P.T F kvs es → keysI es = some ns → kvs.map (·.1) = ns.map Sum.inl
  | _, _, ns, .nil, h => by
    cases h
    rfl
  | _, _, ns, @RpK.cons _ _ _ k v kvs d es h q, e => by
    cases k with
    | inl i =>
      obtain ⟨ms, e1, rfl⟩ := Option.map_eq_some_iff.mp (show (keysI es).map (i :: ·) = some ns from e)
      simp [keys_of q e1]
    | inr x => cases e
theorem cn_sorted (hK : X.K = P.K) (hc : X.calm = true) : CallN P X (.builtin "sorted") (blt1 .sorted) := by
  refine ⟨_, CallR.or cr_sortedI (call_sortedDI hc), fun {x dx d F r t σ H Q} e R rx q => ?_⟩
  cases dx with
  | lst ds =>
    obtain ⟨ns, e1, rfl⟩ := Option.map_eq_some_iff.mp (show (intsD ds).map (fun ns => D.lst ((srtI ns).map D.int)) = some d from e)
    obtain ⟨p1, v1, rfl, e2, z1, q1⟩ := rx.lst R
    obtain rfl := q1.intsOf e1
    refine .inl ⟨p1, ns, rfl, SqL.of e2, fun ms p h1 h2 hp => ?_⟩
    obtain rfl := srtI_one h1 h2
    obtain ⟨R2, k2, fr⟩ := mkNew (o := .lst ((srtI ns).map V.int)) (d := .lst ((srtI ns).map D.int)) R hp ⟨_, upd_same, by rw [List.length_map, (srtI_perm ns).length_eq]; simpa using z1, RpL.ofInts _⟩
    exact q _ _ _ p k2 R2 (.of hp) fr
  | dct es =>
    have e : ((keysI es).bind fun ns => if decide (ns.length < 64) then some (.lst ((srtI ns).map D.int)) else none) = some d := e
    obtain ⟨ns, e1, e2⟩ := Option.bind_eq_some_iff.mp e
    split at e2
    · rename_i hl
      cases e2
      have hl := of_decide_eq_true hl
      obtain ⟨p1, v1, rfl, e3, q1⟩ := rx.dct R
      refine .inr ⟨p1, v1, ns, rfl, e3, keys_of q1 e1, hl, fun ms p h1 h2 hp => ?_⟩
      obtain rfl := srtI_one h1 h2
      obtain ⟨R2, k2, fr⟩ := mkNew (o := .lst ((srtI ns).map V.int)) (d := .lst ((srtI ns).map D.int)) R hp ⟨_, upd_same, by rw [List.length_map, (srtI_perm ns).length_eq, sizeLine_eq]; omega, RpL.ofInts _⟩
      exact q _ _ _ p k2 R2 (.of hp) fr
    · cases e2
  | _ => cases e
/-! the call itself -/
variable {x : Str} {p1 : Pos}
theorem call_form {g : D → Option D} {rr : List V → Hp → VK → Prop} (hr : ∀ {x : V} {dx d : D} {F : Hp} {r : Rho} {t : Tw} {σ : L2.St} {H : Hp} {Q : VK}, g dx = some d → RelP P F r t σ H → RpB P F r σ x dx →
      (∀ v F' H', Kp P.T F H F' H' → RelP P F' r t σ H' → Rp P.K P.T F' v d → Q v H') → rr [x] H Q) (σ : L2.St) (H : Hp) (Q : VK) (h : tD P (fun r t => (fa r t).bind fun x t1 => Fm.lift (g x) t1) σ H Q) : tCB rr (tCons (tB P fa) tNil) σ H Q := by
  obtain ⟨F, r, t, R, h⟩ := h
  refine ⟨F, r, t, R, h.bind.mono fun d t1 h v F1 H1 s1 R1 rv => ?_⟩
  obtain ⟨d2, e, q⟩ := h.lift
  exact hr e R1 rv fun v F' H' s R' h => q v F' H' (s1.trans s) R' h
theorem call_formN {g : D → Option D} {rr : List V → Hp → VK → Prop} (hr : ∀ {x : V} {dx d : D} {F : Hp} {r : Rho} {t : Tw} {σ : L2.St} {H : Hp} {Q : VK}, g dx = some d → RelP P F r t σ H → RpB P F r σ x dx →
      (∀ v F' H' p, Kp P.T F H F' H' → RelP P F' r t σ H' → Nn H p → Fre P F' r σ H' v d p → Q v H') → rr [x] H Q) (σ : L2.St) (H : Hp) (Q : VK) (h : tN P (fun r t => (fa r t).bind fun x t1 => Fm.lift (g x) t1) σ H Q) : tCB rr (tCons (tB P fa) tNil) σ H Q := by
  obtain ⟨F, r, t, R, h⟩ := h
  refine ⟨F, r, t, R, h.bind.mono fun d t1 h v F1 H1 s1 R1 rv => ?_⟩
  obtain ⟨d2, e, q⟩ := h.lift
  exact hr e R1 rv fun v F' H' p s R' hp h => q v F' H' p (s1.trans s) R' (s1.had p hp) h
theorem s_callB {id : String} {g : D → Option D} (hc : CallS P X (.builtin id) g) (hg : Gl X x) (hm : X.mg x = none) (hv : bootBuiltins x = some (.builtin id)) (ha : PE X a (tB P fa)) (hn : x ≠ "__name__") (hdb : (x == ("__debug__" : Str)) = false)
    (hs : starEach [a] X.env = (false, eval a X.env) :: starEach [] X.env) : PE X (.Call (.Name x p1) [a] [] pos) (tD P fun r t => (fa r t).bind fun x t1 => Fm.lift (g x) t1) := by
  obtain ⟨rr, h1, h2⟩ := hc
  exact peMono (pe_callB h1 hg hm hv (pa_cons ha pa_nil hs) hn hdb hs) (call_form h2)
theorem s_callT {id : String} {g : D → Option D} (hc : CallS P X (.type id) g) (hg : Gl X x) (hm : X.mg x = none) (hv : bootBuiltins x = some (.type id)) (ha : PE X a (tB P fa)) (hn : x ≠ "__name__") (hdb : (x == ("__debug__" : Str)) = false)
    (hs : starEach [a] X.env = (false, eval a X.env) :: starEach [] X.env) : PE X (.Call (.Name x p1) [a] [] pos) (tD P fun r t => (fa r t).bind fun x t1 => Fm.lift (g x) t1) := by
  obtain ⟨rr, h1, h2⟩ := hc
  exact peMono (pe_callTy h1 hg hm hv (pa_cons ha pa_nil hs) hn hdb hs) (call_form h2)
theorem n_callB {id : String} {g : D → Option D} (hc : CallN P X (.builtin id) g) (hg : Gl X x) (hm : X.mg x = none) (hv : bootBuiltins x = some (.builtin id)) (ha : PE X a (tB P fa)) (hn : x ≠ "__name__") (hdb : (x == ("__debug__" : Str)) = false)
    (hs : starEach [a] X.env = (false, eval a X.env) :: starEach [] X.env) : PE X (.Call (.Name x p1) [a] [] pos) (tN P fun r t => (fa r t).bind fun x t1 => Fm.lift (g x) t1) := by
  obtain ⟨rr, h1, h2⟩ := hc
  exact peMono (pe_callB h1 hg hm hv (pa_cons ha pa_nil hs) hn hdb hs) (call_formN h2)
theorem n_callT {id : String} {g : D → Option D} (hc : CallN P X (.type id) g) (hg : Gl X x) (hm : X.mg x = none) (hv : bootBuiltins x = some (.type id)) (ha : PE X a (tB P fa)) (hn : x ≠ "__name__") (hdb : (x == ("__debug__" : Str)) = false)
    (hs : starEach [a] X.env = (false, eval a X.env) :: starEach [] X.env) : PE X (.Call (.Name x p1) [a] [] pos) (tN P fun r t => (fa r t).bind fun x t1 => Fm.lift (g x) t1) := by
  obtain ⟨rr, h1, h2⟩ := hc
  exact peMono (pe_callTy h1 hg hm hv (pa_cons ha pa_nil hs) hn hdb hs) (call_formN h2)
end
end Fm

/-! ### isinstance, dicts, names, calls of the text's own defs -/
namespace Fm
open PySem PySem.Spec PyProof.Rows L2
section
variable {P : Pm} {X : Cx} {a b c : Expr} {pos p1 p2 : Pos} {fa fb fc : Rho → Tw → Res D}
theorem tup_ty {K : PySem.W.Frag} {H : Hp} {p : Addr} {xs : List V} (h : SqT K H p xs) : TyX K H (.ref p) (.type "tuple") := by
  rcases h with (h | ⟨o, h⟩) | ⟨o, its, n, h1, h2, _⟩
  · exact .base (.tup h)
  · exact .fTuple h
  · exact .kTuple h1 h2
theorem isa_of {F : Hp} {r : Rho} {t : Tw} {σ : L2.St} {H : Hp} {x : V} {dx : D} {T : Ty} {k : Bool} (R : RelP P F r t σ H) (rx : RpB P F r σ x dx) (e : isaD dx T = some k) : ∃ t, TyX P.K H x t ∧ PySem.W.kitOne P.K t (.type T.name) = some k := by
  cases dx with
  | non =>
    cases rx.rp R (fun _ z => by cases z) (fun _ z => by cases z)
    refine ⟨_, .base .non, ?_⟩
    cases T <;> cases e <;> exact kit_ty (by decide +kernel)
  | bl z =>
    obtain rfl := rx.bl R
    refine ⟨_, .base (.bl _), ?_⟩
    cases T <;> cases e <;> exact kit_ty (by decide +kernel)
  | int z =>
    obtain rfl := rx.int R
    refine ⟨_, .base (.int _), ?_⟩
    cases T <;> cases e <;> exact kit_ty (by decide +kernel)
  | str z =>
    obtain rfl := rx.str R
    refine ⟨_, .base (.str _), ?_⟩
    cases T <;> cases e <;> exact kit_ty (by decide +kernel)
  | tup z =>
    obtain ⟨p, xs, rfl, h, _, _⟩ := rx.tup R
    refine ⟨_, tup_ty (sqT_mono R.sub h), ?_⟩
    cases T <;> cases e <;> exact kit_ty (by decide +kernel)
  | lst z =>
    obtain ⟨p, xs, rfl, h, _, _⟩ := rx.lst R
    refine ⟨_, .base (.lst h), ?_⟩
    cases T <;> cases e <;> exact kit_ty (by decide +kernel)
  | dct z => cases T <;> cases e
  | dcn z => cases T <;> cases e
  | exc z => cases T <;> cases e
  | tok => cases T <;> cases e
  | scr => cases T <;> cases e
def Ty.nm (T : Ty) : Str := Str.ofString T.name
theorem Ty.boot (T : Ty) : bootBuiltins T.nm = some (.type T.name) := by
  cases T
  · exact PyProof.Rows.boot_int
  · exact PyProof.Rows.boot_bool
  · exact PyProof.Rows.boot_str
  · exact PyProof.Rows.boot_tuple
  · exact PyProof.Rows.boot_list
theorem s_isa (hK : X.K = P.K) {T : Ty} (hg : Gl X "isinstance") (hm : X.mg "isinstance" = none) (hgT : Gl X T.nm) (hmT : X.mg T.nm = none) (ha : PE X a (tB P fa))
    (hs : starEach [a, .Name T.nm p2] X.env = (false, eval a X.env) :: starEach [.Name T.nm p2] X.env) :
    PE X (.Call (.Name "isinstance" p1) [a, .Name T.nm p2] [] pos) (tD P fun r t => (fa r t).bind fun x t1 => Fm.lift ((isaD x T).map D.bl) t1) := by
  have hT : PE X (.Name T.nm p2) (tC (.ty T.name)) := pe_bltn hgT hmT T.boot rfl (by cases T <;> decide) (by cases T <;> decide)
  refine peMono (pe_callB call_isi hg hm PyProof.Rows.boot_isinstance (pa_cons ha (pa_cons hT pa_nil rfl) hs) (by decide) (by decide) hs (by rfl)) fun σ H Q ⟨F, r, t, R, h⟩ => ⟨F, r, t, R, h.bind.mono fun d t1 h v F1 H1 s1 R1 rv => ?_⟩
  obtain ⟨d2, e, q⟩ := h.lift
  obtain ⟨k, e1, rfl⟩ := Option.map_eq_some_iff.mp e
  obtain ⟨ty, h1, h2⟩ := isa_of R1 rv e1
  exact ⟨v, .ty T.name, ty, .type T.name, k, rfl, .ty _, by rw [hK]; exact h1, by rw [hK]; exact h2, q _ _ _ s1 R1 (.bl _)⟩
/-! ### dicts -/
theorem RpK.look {K : PySem.W.Frag} {T : Tn} {F : Hp} (k : Key) : ∀ {kvs : List (Key × V)} {es : List (Key × D)}, RpK K T F kvs es → (∃ v d, valV kvs k = some v ∧ lookD es k = some d ∧ Rp K T F v d) ∨ (valV kvs k = none ∧ lookD es k = none)
  | _, _, .nil => .inr ⟨rfl, rfl⟩
  | _, _, @RpK.cons _ _ _ k' v kvs d es h q => by
    by_cases e : k' = k
    · refine .inl ⟨v, d, valV_pos e, ?_, h⟩
      simp [lookD, List.find?_cons, e]
    · rcases RpK.look k q with ⟨v2, d2, h1, h2, h3⟩ | ⟨h1, h2⟩
      · refine .inl ⟨v2, d2, by rw [valV_neg e]; exact h1, ?_, h3⟩
        simpa [lookD, List.find?_cons, e] using h2
      · refine .inr ⟨by rw [valV_neg e]; exact h1, ?_⟩
        simpa [lookD, List.find?_cons, e] using h2
theorem RpK.any {K : PySem.W.Frag} {T : Tn} {F : Hp} (k : Key) : ∀ {kvs : List (Key × V)} {es : List (Key × D)}, RpK K T F kvs es → (kvs.any fun kv => decide (kv.1 = k)) = es.any fun kv => decide (kv.1 = k)
  | _, _, .nil => rfl
  | _, _, .cons h q => by simp only [List.any_cons, RpK.any k q]
theorem RpK.repl {K : PySem.W.Frag} {T : Tn} {F : Hp} {v : V} {d : D} (k : Key) (h : Rp K T F v d) : ∀ {kvs : List (Key × V)} {es : List (Key × D)}, RpK K T F kvs es →
    RpK K T F (kvs.map fun kv => if kv.1 = k then (kv.1, v) else kv) (es.map fun kv => if kv.1 = k then (kv.1, d) else kv)
  | _, _, .nil => .nil
  | _, _, @RpK.cons _ _ _ k' v' kvs d' es h' q => by
    simp only [List.map_cons]
    by_cases e : k' = k
    · rw [if_pos e, if_pos e]
      exact .cons h (RpK.repl k h q)
    · rw [if_neg e, if_neg e]
      exact .cons h' (RpK.repl k h q)
theorem RpK.snoc {K : PySem.W.Frag} {T : Tn} {F : Hp} {v : V} {d : D} (k : Key) (h : Rp K T F v d) : ∀ {kvs : List (Key × V)} {es : List (Key × D)}, RpK K T F kvs es → RpK K T F (kvs ++ [(k, v)]) (es ++ [(k, d)])
  | _, _, .nil => .cons h .nil
  | _, _, .cons h' q => .cons h' (RpK.snoc k h q)
theorem RpK.put {K : PySem.W.Frag} {T : Tn} {F : Hp} {v : V} {d : D} (k : Key) (h : Rp K T F v d) {kvs : List (Key × V)} {es : List (Key × D)} (q : RpK K T F kvs es) : RpK K T F (L2.putK kvs k v) (putD es k d) := by
  unfold L2.putK putD
  rw [q.any k]
  split
  · exact q.repl k h
  · exact q.snoc k h
theorem key_of' {F : Hp} {r : Rho} {t : Tw} {σ : L2.St} {H : Hp} {x : V} {dx : D} {k : Key} (R : RelP P F r t σ H) (rx : RpB P F r σ x dx) (e : keyD dx = some k) : x = kV k := by
  cases dx with
  | int i =>
    cases e
    exact rx.int R
  | str i =>
    cases e
    exact rx.str R
  | _ => cases e
theorem dget_rd {H : Hp} {a : Addr} {kvs : List (Key × V)} {k : Key} (e : Rd H a (.dK kvs)) : DGet H a (kV k) (valV kvs k) := .inl ⟨kvs, k, e, rfl, rfl⟩
theorem s_dix (hu : X.A.units + 200 < cLine) (ha : PE X a (tB P fa)) (hb : PE X b (tB P fb)) (hs : PlainIx b) : PE X (.Subscript a b pos) (tD P fun r t => (fa r t).bind fun x t1 => (fb r t1).bind fun y t2 => Fm.lift (dixD x y) t2) := by
  refine peMono (pe_dget (by omega) ha hb hs) fun σ H Q h => op2 (P := P) (rr := fun x y H2 Q => ∃ a v, x = .ref a ∧ DGet H2 a y (some v) ∧ Q v H2) (fun {x y dx dy d F r t σ H Q} e R rx ry q => ?_) σ H Q h
  cases dx with
  | dct es =>
    obtain ⟨k, e1, e2⟩ := Option.bind_eq_some_iff.mp (show ((keyD dy).bind fun k => lookD es k) = some d from e)
    obtain ⟨p, kvs, rfl, h1, h2⟩ := rx.dct R
    obtain rfl := key_of' R ry e1
    rcases h2.look k with ⟨v, d2, h3, h4, h5⟩ | ⟨h3, h4⟩
    · rw [e2] at h4
      cases h4
      exact ⟨p, v, rfl, h3 ▸ dget_rd h1, q _ _ _ Kp.refl R h5⟩
    · rw [e2] at h4
      cases h4
  | _ => cases e
def getE (fa fb fc : Rho → Tw → Res D) (r : Rho) (t : Tw) : Res D := (fa r t).bind fun x t1 => match x with
    | .dct kvs => (fb r t1).bind fun y t2 => (fc r t2).bind fun z t3 => (match keyD y with
      | some k => .ok ((lookD kvs k).getD z) t3
      | none => .bad)
    | _ => .bad
theorem s_get (hu : X.A.units + 200 < cLine) (ha : PE X a (tB P fa)) (hb : PE X b (tB P fb)) (hc : PE X c (tD P fc)) (m : M2 X a "get" p1 b c pos) : PE X (.Call (.Attribute a "get" p1) [b, c] [] pos) (tD P (getE fa fb fc)) := by
  refine peMono (pe_dget2 (by omega) ha hb hc m) fun σ H Q ⟨F, r, t, R, h⟩ => ⟨F, r, t, R, h.bind.mono fun dx t1 h v F1 H1 s1 R1 rx => ?_⟩
  cases dx with
  | dct es =>
    obtain ⟨p, kvs, rfl, h1, h2⟩ := rx.dct R1
    have h : Aft P F ((fb r t1).bind fun y t2 => (fc r t2).bind fun z t3 => (match keyD y with
      | some k => .ok ((lookD es k).getD z) t3
      | none => .bad)) _ := h
    refine ⟨p, rfl, .inl ⟨kvs, h1⟩, F1, r, t1, R1, (h.up s1.1).bind.mono fun dy t2 h w F2 H2 s2 R2 ry => ⟨F2, r, t2, R2, (h.up s2.1).bind.mono fun dz t3 h u F3 H3 s3 R3 rz => ?_⟩⟩
    cases e : keyD dy with
    | none =>
      rw [e] at h
      exact h.elim
    | some k =>
      rw [e] at h
      have h : ∀ v F' H', Kp P.T F H F' H' → RelP P F' r t3 σ H' → Rp P.K P.T F' v ((lookD es k).getD dz) → Q v H' := h
      obtain ⟨p', kvs', e1, h1', h2'⟩ := (rx.mono (s2.trans s3).1).dct R3
      cases e1
      obtain rfl := key_of' R3 (ry.mono s3.1) e
      refine ⟨_, dget_rd h1', h _ _ _ (s1.trans (s2.trans s3)) R3 ?_⟩
      rcases h2'.look k with ⟨v, d2, h3, h4, h5⟩ | ⟨h3, h4⟩
      · rw [h3, h4]
        exact h5
      · rw [h3, h4]
        exact rz
  | _ => exact (show False from h).elim
/-! ### a dict of written texts and constants -/
def Cst.v : Cst → V
  | .non => .non
  | .bl b => .bl b
  | .int i => .int i
  | .str x => .str x
theorem Cst.rp {K : PySem.W.Frag} {T : Tn} {F : Hp} (c : Cst) : Rp K T F c.v c.d := by
  cases c
  · exact .non
  · exact .bl _
  · exact .int _
  · exact .str _
def Cst.k : Cst → Const
  | .non => .none
  | .bl b => .bool b
  | .int i => .int i
  | .str x => .str x
theorem pe_cst {k : Cst} {j : Nat} : PE X (.Constant k.k j pos) (tC k.v) := by
  cases k
  · exact pe_non
  · exact pe_bl
  · exact pe_int
  · exact pe_str
theorem s_cst {k : Cst} {j : Nat} : PE X (.Constant k.k j pos) (tD P fun _ t => .ok k.d t) := peMono pe_cst fun σ H Q ⟨F, r, t, R, q⟩ => q _ _ _ Kp.refl R k.rp
/-- keys and values as they are written -/
inductive DspIs : List (Str × Cst) → List (Option Expr) → List Expr → Prop
  | nil : DspIs [] [] []
  | cons {x : Str} {c : Cst} {kvs : List (Str × Cst)} {ks : List (Option Expr)} {vs : List Expr} {j j' : Nat} {q q' : Pos} : DspIs kvs ks vs → DspIs ((x, c) :: kvs) (some (.Constant (.str x) j q) :: ks) (.Constant c.k j' q' :: vs)
theorem DspIs.pps {kvs : List (Str × Cst)} {ks : List (Option Expr)} {vs : List Expr} (h : DspIs kvs ks vs) : PPs X pos ks vs (kvs.map fun p => (tC (.str p.1), tC p.2.v)) := by
  induction h with
  | nil => exact pps_nil
  | cons h ih => exact pps_cons pe_str pe_cst ih
theorem DspIs.all {kvs : List (Str × Cst)} {ks : List (Option Expr)} {vs : List Expr} (h : DspIs kvs ks vs) : ks.all (·.isSome) = true ∧ ks.length = kvs.length ∧ vs.length = kvs.length := by
  induction h with
  | nil => exact ⟨rfl, rfl, rfl⟩
  | cons h ih => exact ⟨by simp [ih.1], by simp [ih.2.1], by simp [ih.2.2]⟩
theorem tPairs_cst {σ : L2.St} {H : Hp} : ∀ {kvs : List (Str × Cst)} {Q : List (V × V) → Hp → Prop}, Q (kvs.map fun p => (V.str p.1, p.2.v)) H → tPairs (kvs.map fun p => (tC (.str p.1), tC p.2.v)) σ H Q
  | [], _, h => h
  | p :: r, Q, h => tPairs_cst (kvs := r) (Q := fun ps H3 => Q ((V.str p.1, p.2.v) :: ps) H3) h
theorem merge_rel {K : PySem.W.Frag} {T : Tn} {F : Hp} : ∀ {l : List (Str × Cst)} {kvs : List (Key × V)} {es : List (Key × D)}, RpK K T F kvs es →
    RpK K T F (mergeK kvs (l.map fun p => (Sum.inr p.1, p.2.v))) (mergeD es (l.map fun p => (p.1, p.2.d)))
  | [], _, _, q => q
  | p :: r, _, _, q => merge_rel (l := r) (q.put (Sum.inr p.1) p.2.rp)
theorem n_dsp {kvs : List (Str × Cst)} {ks : List (Option Expr)} {vs : List Expr} (h : DspIs kvs ks vs) : PE X (.Dict ks vs pos) (tN P fun _ t => if decide (kvs.length ≤ 15) then .ok (.dct (mergeD [] (kvs.map fun p => (p.1, p.2.d)))) t else .bad) := by
  obtain ⟨a1, a2, a3⟩ := h.all
  by_cases hl : kvs.length ≤ 15
  · obtain rfl | hne : kvs = [] ∨ kvs ≠ [] := by
      cases kvs with
      | nil => exact .inl rfl
      | cons => exact .inr (List.cons_ne_nil _ _)
    · cases h
      refine peMono pe_dnewK fun σ H Q ⟨F, r, t, R, q⟩ p hp => ?_
      have q : ∀ v F' H' p, Kp P.T F H F' H' → RelP P F' r t σ H' → Nn H p → Fre P F' r σ H' v (.dct []) p → Q v H' := q
      obtain ⟨R2, k2, fr⟩ := mkNew (o := .dK []) (d := .dct []) R hp ⟨[], upd_same, Nat.zero_le _, .nil⟩
      exact q _ _ _ p k2 R2 (.of hp) fr
    · have h0 : ks ≠ [] := fun e => hne (List.length_eq_zero_iff.mp (by rw [← a2, e]; rfl))
      refine peMono (pe_disp h.pps a1 (a2.trans a3.symm) h0 (by rw [a2]; exact hl)) fun σ H Q ⟨F, r, t, R, q⟩ p hp => ?_
      dsimp only at q
      rw [decide_eq_true hl] at q
      have q : ∀ v F' H' p, Kp P.T F H F' H' → RelP P F' r t σ H' → Nn H p → Fre P F' r σ H' v (.dct (mergeD [] (kvs.map fun p => (p.1, p.2.d)))) p → Q v H' := q
      refine tPairs_cst ⟨upd_same, kvs.map (fun p => (Sum.inr p.1, p.2.v)), by simp [kV], by simpa using hl, ?_⟩
      rw [upd_upd]
      obtain ⟨R2, k2, fr⟩ := mkNew (o := .dK (mergeK [] (kvs.map fun p => (Sum.inr p.1, p.2.v)))) (d := .dct (mergeD [] (kvs.map fun p => (p.1, p.2.d)))) R hp
        ⟨_, upd_same, by have := length_mergeK (kvs.map fun p => (Sum.inr p.1, p.2.v)) []; rw [sizeLine_eq]; simp at this; omega, merge_rel .nil⟩
      exact q _ _ _ p k2 R2 (.of hp) fr
  · exact peMono (t := fun _ _ _ => False) ⟨fun _ _ _ _ _ _ z => False.elim z⟩ fun σ H Q ⟨F, r, t, R, q⟩ => by
      dsimp only at q
      rw [decide_eq_false hl] at q
      exact q
/-! ### names -/
theorem s_var {i : Nat} {x : Str} (hN : X.N[i]? = some x) (hv : Vis X.env.scope x) (hd : (x == ("__debug__" : Str)) = false) (hcd : (x == ("__classdict__" : Str)) = false) :
    PE X (.Name x pos) (tD P fun r t => match r[i]? with
      | some (.val d) => .ok d t
      | _ => .bad) := by
  refine peMono (pe_var hN hv hd hcd) fun σ H Q ⟨F, r, t, R, q⟩ => ?_
  dsimp only at q
  cases e : r[i]? with
  | none =>
    rw [e] at q
    exact q.elim
  | some s =>
    rw [e] at q
    cases s with
    | val d =>
      obtain ⟨v, e1, h⟩ := R.val i d e
      exact ⟨v, e1, q v F H Kp.refl R h⟩
    | _ => exact q.elim
theorem b_var {i : Nat} {x : Str} (hN : X.N[i]? = some x) (hv : Vis X.env.scope x) (hd : (x == ("__debug__" : Str)) = false) (hcd : (x == ("__classdict__" : Str)) = false) :
    PE X (.Name x pos) (tB P fun r t => match r[i]? with
      | some (.val d) => .ok d t
      | some (.own d) => .ok d t
      | _ => .bad) := by
  refine peMono (pe_var hN hv hd hcd) fun σ H Q ⟨F, r, t, R, q⟩ => ?_
  dsimp only at q
  cases e : r[i]? with
  | none =>
    rw [e] at q
    exact q.elim
  | some s =>
    rw [e] at q
    cases s with
    | val d =>
      obtain ⟨v, e1, h⟩ := R.val i d e
      exact ⟨v, e1, q v F H Kp.refl R (.inl h)⟩
    | own d =>
      obtain ⟨p, e1, h⟩ := R.own i d e
      exact ⟨_, e1, q _ F H Kp.refl R (.inr ⟨i, e, e1⟩)⟩
    | _ => exact q.elim
theorem s_glob {x : Str} {v : V} {u : Value} {d : D} (hg : Gl X x) (hm : X.mg x = some u) (rv : RelV v u) (h : Rp P.K P.T (fun _ => none) v d) (hd : (x == ("__debug__" : Str)) = false) : PE X (.Name x pos) (tD P fun _ t => .ok d t) :=
  peMono (pe_glob hg hm rv hd) fun σ H Q ⟨F, r, t, R, q⟩ => q v F H Kp.refl R (h.mono fun _ _ z => by cases z)
end
end Fm

/-! ### targets, what is walked, comprehensions -/
namespace Fm
open PySem PySem.Spec PyProof.Rows L2
/-- only these slots have changed -/
def Chg (is : List Nat) (σ σ' : L2.St) : Prop := σ'.length = σ.length ∧ ∀ j, j ∉ is → σ'[j]? = σ[j]?
mutual
def Tg.slots : Tg → List Nat
  | .name i => [i]
  | .tup ts => ts.slots
def Tgs.slots : Tgs → List Nat
  | .nil => []
  | .cons t ts => t.slots ++ ts.slots
end
theorem Chg.refl {is : List Nat} {σ : L2.St} : Chg is σ σ := ⟨rfl, fun _ _ => rfl⟩
theorem Chg.trans {is js : List Nat} {σ σ1 σ2 : L2.St} (a : Chg is σ σ1) (b : Chg js σ1 σ2) : Chg (is ++ js) σ σ2 :=
  ⟨b.1.trans a.1, fun j h => (b.2 j fun z => h (List.mem_append_right _ z)).trans (a.2 j fun z => h (List.mem_append_left _ z))⟩
theorem wipe_get (σ : L2.St) (j : Nat) : ∀ vs : List Nat, (wipe σ vs)[j]? = if j ∈ vs ∧ j < σ.length then some none else σ[j]?
  | [] => by simp [wipe]
  | v :: vs => by
    unfold wipe
    rw [List.getElem?_set, wipe_get σ j vs, wipe_length]
    by_cases h : v = j
    · subst h
      by_cases hl : v < σ.length
      · simp [hl]
      · simp [hl]
    · simp [h, Ne.symm h]
theorem Chg.wipe {is vs : List Nat} {σ σ' : L2.St} (c : Chg is σ σ') (h : ∀ i ∈ is, i ∈ vs) : wipe σ' vs = wipe σ vs := by
  refine List.ext_getElem? fun j => ?_
  rw [wipe_get, wipe_get, c.1]
  by_cases hj : j ∈ vs
  · by_cases hl : j < σ.length
    · simp [hj, hl]
    · simp only [hj, hl, and_false, if_false]
      rw [List.getElem?_eq_none (by rw [c.1]; omega), List.getElem?_eq_none (by omega)]
  · simp only [hj, false_and, if_false]
    exact c.2 j fun z => hj (h j z)
section
variable {P : Pm} {X : Cx} {a b c : Expr} {pos p1 p2 : Pos} {fa fb fc : Rho → Tw → Res D}
def gT (P : Pm) (tg : Tg) : TG := fun v σ H Q => ∃ F r t d r', RelP P F r t σ H ∧ Rp P.K P.T F v d ∧ setT tg d r = some r' ∧ ∀ σ', RelP P F r' t σ' H → Chg tg.slots σ σ' → Q σ' H
def gTs (P : Pm) (ts : Tgs) : TGs := fun vs σ H Q => ∃ F r t ds r', RelP P F r t σ H ∧ RpL P.K P.T F vs ds ∧ setTs ts ds r = some r' ∧ ∀ σ', RelP P F r' t σ' H → Chg ts.slots σ σ' → Q σ' H
theorem pgMono {tg : Expr} {t u : TG} (h : PG X tg t) (i : ∀ v σ H Q, u v σ H Q → t v σ H Q) : PG X tg u := ⟨fun pins s σ H v w Q I r q => h.run pins s σ H v w Q I r (i v σ H Q q)⟩
theorem pgsMono {tg : List Expr} {t u : TGs} (h : PGs X tg t) (i : ∀ v σ H Q, u v σ H Q → t v σ H Q) : PGs X tg u := ⟨fun pins s σ H v w Q I r q => h.run pins s σ H v w Q I r (i v σ H Q q)⟩
theorem g_name {i : Nat} {x : Str} (hN : X.N.Nodup) (hi : X.N[i]? = some x) (hx : Loc X.env.scope x) (hf : X.fn x = true ∨ X.env.scope.names.lookup x = some .local) : PG X (.Name x pos) (gT P (.name i)) := by
  refine pgMono (pg_name hN hi hx hf) fun v σ H Q ⟨F, r, t, d, r', R, rv, e, q⟩ => ?_
  simp only [setT] at e
  split at e
  · cases e
    refine q _ (R.setVal rv) ⟨by simp, fun j h => ?_⟩
    exact List.getElem?_set_ne (fun z => h (by simp [Tg.slots, z]))
  · cases e
theorem g_nil : PGs X [] (gTs P .nil) := pgsMono pgs_nil fun v σ H Q ⟨F, r, t, ds, r', R, rv, e, q⟩ => by
  cases rv with
  | nil =>
    cases e
    exact ⟨rfl, q σ R Chg.refl⟩
  | cons _ _ => cases e
theorem g_cons {e : Expr} {es : List Expr} {tg : Tg} {ts : Tgs} (h1 : PG X e (gT P tg)) (h2 : PGs X es (gTs P ts)) (hs : (assignEach (e :: es) X.env).map (·.2) = assign e X.env :: (assignEach es X.env).map (·.2)) : PGs X (e :: es) (gTs P (.cons tg ts)) :=
  pgsMono (pgs_cons h1 h2 hs) fun v σ H Q ⟨F, r, t, ds, r', R, rv, e, q⟩ => by
    cases rv with
    | nil => cases e
    | @cons v vs d ds h hr =>
      obtain ⟨r1, e1, e2⟩ := Option.bind_eq_some_iff.mp (show ((setT tg d r).bind fun r1 => setTs ts ds r1) = some r' from e)
      exact ⟨v, vs, rfl, F, r, t, d, r1, R, h, e1, fun σ1 R1 c1 => ⟨F, r1, t, ds, r', R1, hr, e2, fun σ2 R2 c2 => q σ2 R2 (c1.trans c2)⟩⟩
theorem setTs_len : ∀ {ts : Tgs} {ds : List D} {r r' : Rho}, setTs ts ds r = some r' → ∀ {n : Nat}, (∀ ds r r', setTs ts ds r = some r' → ds.length = n) → ds.length = n := fun h n k => k _ _ _ h
def Tgs.count : Tgs → Nat
  | .nil => 0
  | .cons _ ts => ts.count + 1
theorem setTs_count : ∀ {ts : Tgs} {ds : List D} {r r' : Rho}, setTs ts ds r = some r' → ds.length = ts.count
  | .nil, [], _, _, _ => rfl
  | .nil, _ :: _, _, _, h => by cases h
  | .cons _ _, [], _, _, h => by cases h
  | .cons t ts, d :: ds, r, r', h => by
    obtain ⟨r1, e1, e2⟩ := Option.bind_eq_some_iff.mp (show ((setT t d r).bind fun r1 => setTs ts ds r1) = some r' from h)
    show ds.length + 1 = ts.count + 1
    rw [setTs_count e2]
theorem g_tup {es : List Expr} {k : Nat} {ts : Tgs} (hK : X.K = P.K) (hc : X.calm = true) (h : PGs X es (gTs P ts)) (hn : (assignEach es X.env).length = ts.count) (hst : (assignEach es X.env).findIdx? (·.1) = none) :
    PG X (.Tuple es k pos) (gT P (.tup ts)) :=
  pgMono (pg_tup hc h hn hst) fun v σ H Q ⟨F, r, t, d, r', R, rv, e, q⟩ => by
    cases d with
    | tup ds =>
      cases rv with
      | @tup p xs ds h1 z h2 =>
        have e : setTs ts ds r = some r' := by simpa only [setT] using e
        rw [hK]
        exact ⟨p, xs, rfl, sqT_mono R.sub h1, by rw [h2.length]; exact setTs_count e, F, r, t, ds, r', R, h2, e, q⟩
    | _ => simp [setT] at e
/-! ### what is walked -/
structure WD (P : Pm) (J : It) (G : Hp → Prop) (F : Hp) (ds : List D) : Prop where
  goes : ∀ i H, i < ds.length → G H → J.go i H
  stops : ∀ H, G H → J.stop ds.length H
  yields : ∀ i H x H' d, ds[i]? = some d → G H → J.yld i H x H' → (H' = H ∧ Rp P.K P.T F x d) ∨ ∃ p xs es, x = .ref p ∧ H p = none ∧ H' = upd H p (.tup xs) ∧ d = .tup es ∧ xs.length ≤ sizeLine ∧ RpL P.K P.T F xs es
def keepG (P : Pm) (F H : Hp) (H2 : Hp) : Prop := Same F H2 ∧ ∀ a o, H a = some o → a ≠ P.T.a → a ≠ P.T.b → NT o → H2 a = some o
/-- G: what must stand while it is walked -/
def tI (P : Pm) (fz : Bool) (f : Rho → Tw → Res (List D)) : TI := fun σ H Q => ∃ F r t, RelP P F r t σ H ∧ Aft P F (f r t) fun ds t' => ∀ J F' H', Kp P.T F H F' H' → RelP P F' r t' σ H' →
  WD P J (if fz then Same F' else keepG P F' H') F' ds → Q J H'
theorem piMono {tg e : Expr} {t u : TI} (h : PI X tg e t) (i : ∀ σ H Q, u σ H Q → t σ H Q) : PI X tg e u := ⟨fun pins s σ H Q I q => h.run pins s σ H Q I (i σ H Q q)⟩
theorem WD.weak {J : It} {G G' : Hp → Prop} {F : Hp} {ds : List D} (w : WD P J G F ds) (h : ∀ H, G' H → G H) : WD P J G' F ds :=
  ⟨fun i H hi g => w.goes i H hi (h H g), fun H g => w.stops H (h H g), fun i H x H' d e g y => w.yields i H x H' d e (h H g) y⟩
theorem WD.fz {J : It} {F H : Hp} {ds : List D} (w : WD P J (Same F) F ds) (b : Bool) : WD P J (if b then Same F else keepG P F H) F ds := by
  cases b
  · exact w.weak fun H g => g.1
  · exact w
/-- a list, a tuple, a text -/
theorem pi_seq {tg : Expr} {tl : TE} (hl : PE X a tl) : PI X tg a (fun σ H R => tl σ H fun x H1 => (∃ p, x = .ref p ∧ (∃ xs, SqL X.K H1 p xs) ∧ R (Itl X.K p) H1) ∨ (∃ p, x = .ref p ∧ (∃ xs, SqT X.K H1 p xs) ∧ R (Itt X.K p) H1) ∨ ∃ z, x = .str z ∧ R (Its z) H1) := by
  constructor
  intro pins s σ H R I h
  have run := hl.run pins s σ H _ I h
  refine thn run fun v s1 ⟨_, H1, I1, rel, q⟩ => ?_
  rcases q with ⟨p, rfl, ⟨_, seq⟩, q⟩ | ⟨p, rfl, ⟨_, seq⟩, q⟩ | ⟨z, rfl, q⟩
  · cases rel
    have ⟨_, _, l, _⟩ := I1.list seq
    exact wpAny_pyIter_list l.isList (pi_one (tk := s1.toks) I1 _ (turn_list p _) ⟨_, Heap.get?_push_size _ rfl, rfl, rfl⟩ q)
  · cases rel
    have ⟨_, _, t, _⟩ := I1.tuple seq
    exact wpAny_pyIter_tuple t (pi_one (tk := s1.toks) I1 _ (turn_tuple p _) ⟨_, Heap.get?_push_size _ rfl, rfl, rfl⟩ q)
  · obtain ⟨t, rfl⟩ := rel
    cases narrow : z.cps.all (· < 128)
    · exact wpAny_pyIter_wide narrow (pi_one (tk := s1.toks) I1 _ (turn_str _ z t "str_iterator" (.inr rfl)) ⟨_, Heap.get?_push_size _ rfl, rfl, rfl⟩ q)
    · exact wpAny_pyIter_ascii narrow (pi_one (tk := s1.toks) I1 _ (turn_str _ z t "str_ascii_iterator" (.inl rfl)) ⟨_, Heap.get?_push_size _ rfl, rfl, rfl⟩ q)
theorem wd_at {J : It} {n : Nat} {G : Hp → Prop} {F : Hp} {xs : List V} {ds : List D} (w : Walk J xs.length G (YAt xs)) (q : RpL P.K P.T F xs ds) : WD P J G F ds := by
  refine ⟨fun i H hi g => w.goes i H (by rw [q.length]; exact hi) g, fun H g => by rw [← q.length]; exact w.stops H g, fun i H x H' d e g y => .inl ?_⟩
  obtain ⟨v, e1, r1⟩ := q.get e
  have hi : i < xs.length := (List.getElem?_eq_some_iff.mp e1).1
  obtain ⟨h1, h2⟩ := w.yields i H x H' hi g y
  rw [e1] at h2
  cases h2
  exact ⟨h1, r1⟩
theorem wd_lst {F : Hp} {p : Addr} {xs : List V} {ds : List D} {K : PySem.W.Frag} (hK : K = P.K) (h : F p = some (.lst xs)) (q : RpL P.K P.T F xs ds) : WD P (Itl K p) (Same F) F ds :=
  wd_at (n := 0) (walk_list.mono (fun H g => SqL.of (g _ _ h)) fun i H x H' _ _ y => y) q
theorem wd_lstO {F H : Hp} {p : Addr} {xs : List V} {ds : List D} {K : PySem.W.Frag} (hK : K = P.K) (h : H p = some (.lst xs)) (n1 : p ≠ P.T.a) (n2 : p ≠ P.T.b) (q : RpL P.K P.T F xs ds) : WD P (Itl K p) (keepG P F H) F ds :=
  wd_at (n := 0) (walk_list.mono (fun H g => SqL.of (g.2 _ _ h n1 n2 (by intro _ z; cases z))) fun i H x H' _ _ y => y) q
theorem wd_tup {F : Hp} {p : Addr} {xs : List V} {ds : List D} {K : PySem.W.Frag} (hK : K = P.K) (h : SqT K F p xs) (q : RpL P.K P.T F xs ds) : WD P (Itt K p) (Same F) F ds :=
  wd_at (n := 0) (walk_tup.mono (fun H g => sqT_mono g h) fun i H x H' _ _ y => y) q
theorem wd_str {F : Hp} {z : Str} : WD P (Its z) (Same F) F (strD z) := by
  have hl : (strD z).length = z.cps.size := by simp [strD]
  have w := walk_str (z := z)
  refine ⟨fun i H hi g => w.goes i H (by rw [← hl]; exact hi) trivial, fun H g => by rw [hl]; exact w.stops H trivial, fun i H x H' d e g y => .inl ?_⟩
  have hi : i < z.cps.size := by
    rw [← hl]
    exact (List.getElem?_eq_some_iff.mp e).1
  obtain ⟨h1, c, h2, rfl⟩ := w.yields i H x H' hi trivial y
  refine ⟨h1, ?_⟩
  have e2 : (strD z)[i]? = some (.str ⟨#[c]⟩) := by
    unfold strD
    rw [List.getElem?_map, Array.getElem?_toList, h2]
    rfl
  rw [e2] at e
  cases e
  exact .str _
def evV (f : Rho → Tw → Res D) (r : Rho) (t : Tw) : Res (List D) := (f r t).bind fun x t1 => match x with
    | .tup xs => .ok xs t1
    | .lst xs => .ok xs t1
    | .str x => .ok (strD x) t1
    | _ => .bad
theorem i_val {tg : Expr} (hK : X.K = P.K) (ha : PE X a (tD P fa)) : PI X tg a (tI P true (evV fa)) := piMono (pi_seq ha) fun σ H Q ⟨F, r, t, R, h⟩ => ⟨F, r, t, R, h.bind.mono fun d t' h v F' H' s R' rv => by
  cases d with
  | tup ds =>
    cases rv with
    | @tup p xs ds h1 z h2 => exact .inr (.inl ⟨p, rfl, ⟨xs, by rw [hK]; exact sqT_mono R'.sub h1⟩, h _ _ _ s R' (wd_tup hK (by rw [hK]; exact h1) h2)⟩)
  | lst ds =>
    cases rv with
    | @lst p xs ds h1 z h2 => exact .inl ⟨p, rfl, ⟨xs, SqL.of (R'.sub _ _ h1)⟩, h _ _ _ s R' (wd_lst hK h1 h2)⟩
  | str z =>
    cases rv
    exact .inr (.inr ⟨z, rfl, h _ _ _ s R' wd_str⟩)
  | _ => exact (show False from h).elim⟩
theorem i_bor {tg : Expr} (hK : X.K = P.K) (ha : PE X a (tB P fa)) : PI X tg a (tI P false (evV fa)) := piMono (pi_seq ha) fun σ H Q ⟨F, r, t, R, h⟩ => ⟨F, r, t, R, h.bind.mono fun d t' h v F' H' s R' rv => by
  cases d with
  | tup ds =>
    obtain ⟨p, xs, rfl, h1, z, h2⟩ := rv.tup R'
    exact .inr (.inl ⟨p, rfl, ⟨xs, by rw [hK]; exact sqT_mono R'.sub h1⟩, h _ _ _ s R' ((wd_tup hK (by rw [hK]; exact h1) h2).fz false)⟩)
  | lst ds =>
    obtain ⟨p, xs, rfl, h1, z, h2⟩ := rv.lst R'
    have n1 : p ≠ P.T.a := fun e => by
      rw [e, R'.tw.a] at h1
      cases h1
    have n2 : p ≠ P.T.b := fun e => by
      rw [e, R'.tw.b] at h1
      cases h1
    exact .inl ⟨p, rfl, ⟨xs, SqL.of h1⟩, h _ _ _ s R' (wd_lstO hK h1 n1 n2 h2)⟩
  | str z =>
    obtain rfl := rv.str R'
    exact .inr (.inr ⟨z, rfl, h _ _ _ s R' (wd_str.fz false)⟩)
  | _ => exact (show False from h).elim⟩
theorem wd_rng {F : Hp} {lo : Int} {n : Nat} : WD P (Itr lo n) (Same F) F (rngD lo n) := by
  have hl : (rngD lo n).length = n := by simp [rngD]
  refine ⟨fun i H hi g => (by rw [hl] at hi; exact hi), fun H g => (by rw [hl]; exact Nat.le_refl _), fun i H x H' d e g y => .inl ?_⟩
  obtain ⟨h1, h2⟩ := y
  refine ⟨h1, ?_⟩
  have hi : i < n := by
    rw [← hl]
    exact (List.getElem?_eq_some_iff.mp e).1
  have e2 : (rngD lo n)[i]? = some (.int (lo + (i : Nat))) := by
    unfold rngD
    rw [List.getElem?_map, List.getElem?_range hi]
    rfl
  rw [e2] at e
  cases e
  rw [h2]
  exact .int _
theorem okRng_of {i : Int} (h : okRng i = true) : -(2 ^ 62) ≤ i ∧ i < 2 ^ 62 := by
  have := Bool.and_eq_true_iff.mp h
  exact ⟨of_decide_eq_true this.1, of_decide_eq_true this.2⟩
theorem i_rng1 {tg : Expr} {fz : Bool} (hg : Gl X "range") (hm : X.mg "range" = none) (ha : PE X a (tB P fa)) (hs : starEach [a] X.env = (false, eval a X.env) :: starEach [] X.env) :
    PI X tg (.Call (.Name "range" p1) [a] [] pos) (tI P fz fun r t => (fa r t).bind fun x t1 => match x with
    | .int j => if okRng j then .ok (rngD 0 j.toNat) t1 else .bad
    | _ => .bad) := piMono (pi_range1 hg hm (pa_cons ha pa_nil hs) hs) fun σ H Q ⟨F, r, t, R, h⟩ => ⟨F, r, t, R, h.bind.mono fun d t' h v F' H' s R' rv => by
  cases d with
  | int j =>
    have h : Aft P F (if okRng j then .ok (rngD 0 j.toNat) t' else .bad) _ := h
    split at h
    · rename_i hr
      obtain ⟨h1, h2⟩ := okRng_of hr
      exact ⟨j, by rw [rv.int R'], h1, h2, h _ _ _ s R' (wd_rng.fz fz)⟩
    · exact h.elim
  | _ => exact (show False from h).elim⟩
theorem i_rng2 {tg : Expr} {fz : Bool} (hg : Gl X "range") (hm : X.mg "range" = none) (ha : PE X a (tB P fa)) (hb : PE X b (tB P fb)) (hs : starEach [a, b] X.env = (false, eval a X.env) :: starEach [b] X.env) (hs2 : starEach [b] X.env = (false, eval b X.env) :: starEach [] X.env) :
    PI X tg (.Call (.Name "range" p1) [a, b] [] pos) (tI P fz fun r t => (fa r t).bind fun x t1 => (fb r t1).bind fun y t2 => match x, y with
    | .int i, .int j => if okRng i && okRng j then .ok (rngD i (j - i).toNat) t2 else .bad
    | _, _ => .bad) := piMono (pi_range2 hg hm (pa_cons ha (pa_cons hb pa_nil hs2) hs) (hs.trans (by rw [hs2]; rfl)) hs2) fun σ H Q ⟨F, r, t, R, h⟩ => ⟨F, r, t, R, h.bind.mono fun dx t1 h v F1 H1 s1 R1 rx => ⟨F1, r, t1, R1, (h.up s1.1).bind.mono fun dy t2 h w F2 H2 s2 R2 ry => by
  cases dx with
  | int i =>
    cases dy with
    | int j =>
      have h : Aft P F1 (if okRng i && okRng j then .ok (rngD i (j - i).toNat) t2 else .bad) _ := h
      split at h
      · rename_i hr
        have hr := Bool.and_eq_true_iff.mp hr
        obtain ⟨h1, h2⟩ := okRng_of hr.1
        obtain ⟨h3, h4⟩ := okRng_of hr.2
        exact ⟨i, j, by rw [rx.int R1, ry.int R2], ⟨h1, h2, h3, h4⟩, h _ _ _ (s1.trans s2) R2 (wd_rng.fz fz)⟩
      · exact h.elim
    | _ => exact (show False from h).elim
  | _ => exact (show False from h).elim⟩⟩
/-! zip, enumerate -/
theorem zipD_len : ∀ xs ys : List D, (zipD xs ys).length = min xs.length ys.length
  | [], ys => by simp [zipD]
  | _ :: _, [] => by simp [zipD]
  | x :: xs, y :: ys => by
    simp only [zipD, List.length_cons, zipD_len xs ys]
    omega
theorem zipD_get : ∀ {xs ys : List D} {i : Nat} {d : D}, (zipD xs ys)[i]? = some d → ∃ a b, xs[i]? = some a ∧ ys[i]? = some b ∧ d = .tup [a, b]
  | [], ys, i, d, h => by simp [zipD] at h
  | _ :: _, [], i, d, h => by simp [zipD] at h
  | x :: xs, y :: ys, 0, d, h => by
    simp only [zipD, List.getElem?_cons_zero, Option.some.injEq] at h
    exact ⟨x, y, rfl, rfl, h.symm⟩
  | x :: xs, y :: ys, i + 1, d, h => by
    simp only [zipD, List.getElem?_cons_succ] at h
    obtain ⟨a, b, h1, h2, h3⟩ := zipD_get h
    exact ⟨a, b, by simpa using h1, by simpa using h2, h3⟩
theorem two_line : (2 : Nat) ≤ sizeLine := by
  rw [sizeLine_eq]
  decide
theorem wd_pair {J : It} {n : Nat} {G : Hp → Prop} {F : Hp} {ds : List D} {f g : Nat → Option V} (w : Walk J n G (YPair f g)) (hl : ds.length = n)
    (h : ∀ i d, ds[i]? = some d → ∃ x y a b, f i = some x ∧ g i = some y ∧ d = .tup [a, b] ∧ Rp P.K P.T F x a ∧ Rp P.K P.T F y b) : WD P J G F ds := by
  refine ⟨fun i H hi g => w.goes i H (by rw [← hl]; exact hi) g, fun H g => by rw [hl]; exact w.stops H g, fun i H x H' d e g y => .inr ?_⟩
  have hi : i < n := by
    rw [← hl]
    exact (List.getElem?_eq_some_iff.mp e).1
  obtain ⟨T, x1, y1, h1, h2, h3, h4, h5⟩ := w.yields i H x H' hi g y
  obtain ⟨x2, y2, a, b, h6, h7, h8, h9, h10⟩ := h i d e
  rw [h4] at h6
  rw [h5] at h7
  cases h6
  cases h7
  exact ⟨T, [x1, y1], [a, b], h1, h2, h3, h8, two_line, .cons h9 (.cons h10 .nil)⟩
theorem zip_both {F : Hp} {xs ys : List V} {ds es : List D} (q1 : RpL P.K P.T F xs ds) (q2 : RpL P.K P.T F ys es) (i : Nat) (d : D) (e : (zipD ds es)[i]? = some d) :
    ∃ x y a b, xs[i]? = some x ∧ ys[i]? = some y ∧ d = .tup [a, b] ∧ Rp P.K P.T F x a ∧ Rp P.K P.T F y b := by
  obtain ⟨a, b, h1, h2, h3⟩ := zipD_get e
  obtain ⟨x, h4, h5⟩ := q1.get h1
  obtain ⟨y, h6, h7⟩ := q2.get h2
  exact ⟨x, y, a, b, h4, h6, h3, h5, h7⟩
def zipE (fa fb : Rho → Tw → Res D) (r : Rho) (t : Tw) : Res (List D) := (fa r t).bind fun x t1 => (fb r t1).bind fun y t2 => match x, y with
    | .tup xs, .tup ys => .ok (zipD xs ys) t2
    | .lst xs, .lst ys => .ok (zipD xs ys) t2
    | _, _ => .bad
theorem own_ne {F H : Hp} {r : Rho} {t : Tw} {σ : L2.St} {p : Addr} {xs : List V} (R : RelP P F r t σ H) (h1 : H p = some (.lst xs)) : p ≠ P.T.a ∧ p ≠ P.T.b := by
  refine ⟨fun e => ?_, fun e => ?_⟩
  · rw [e, R.tw.a] at h1
    cases h1
  · rw [e, R.tw.b] at h1
    cases h1
theorem walk_zipT {K : PySem.W.Frag} {a b : Addr} {xs ys : List V} {n : Nat} (hn : n = min xs.length ys.length) : Walk (RZ.ItzT K a b) n (fun H => SqT K H a xs ∧ SqT K H b ys) (YPair (fun i => xs[i]?) (fun i => ys[i]?)) where
  goes := fun i _ lt ⟨sa, sb⟩ =>
    have la : i < xs.length := by omega
    have lb : i < ys.length := by omega
    ⟨xs, ys, xs[i], ys[i], sa, sb, List.getElem?_eq_getElem la, List.getElem?_eq_getElem lb⟩
  stops := fun _ ⟨sa, sb⟩ => ⟨xs, ys, sa, sb, by omega⟩
  yields := fun _ _ _ _ _ ⟨sa, sb⟩ ⟨T, x, z, ev, new, eH, ia, ib⟩ => ⟨T, x, z, ev, new, eH, ia xs sa, ib ys sb⟩
theorem i_zipB {elts : List Expr} {kk : Nat} {tpos : Pos} (hK : X.K = P.K) (hg : Gl X "zip") (hm : X.mg "zip" = none) (ha : PE X a (tB P fa)) (hb : PE X b (tB P fb)) (hs : starEach [a, b] X.env = (false, eval a X.env) :: starEach [b] X.env) (hs2 : starEach [b] X.env = (false, eval b X.env) :: starEach [] X.env) :
    PI X (.Tuple elts kk tpos) (.Call (.Name "zip" p1) [a, b] [] pos) (tI P false (zipE fa fb)) :=
  piMono (RZ.pi_zipA hg hm (pa_cons ha (pa_cons hb pa_nil hs2) hs) hs (by rw [hs2]; rfl)) fun σ H Q ⟨F, r, t, R, h⟩ => ⟨F, r, t, R, h.bind.mono fun dx t1 h v F1 H1 s1 R1 rx => ⟨F1, r, t1, R1, (h.up s1.1).bind.mono fun dy t2 h w F2 H2 s2 R2 ry => by
    cases dx with
    | tup xs =>
      cases dy with
      | tup ys =>
        obtain ⟨p1, v1, rfl, e1, z1, q1⟩ := (rx.mono s2.1).tup R2
        obtain ⟨p2, v2, rfl, e2, z2, q2⟩ := ry.tup R2
        refine ⟨p1, p2, v1, v2, rfl, .inr ⟨by rw [hK]; exact sqT_mono R2.sub e1, by rw [hK]; exact sqT_mono R2.sub e2, h _ _ _ (s1.trans s2) R2 ?_⟩⟩
        refine (wd_pair (G := fun H => SqT X.K H p1 v1 ∧ SqT X.K H p2 v2) (walk_zipT (n := min v1.length v2.length) rfl) (by rw [zipD_len, q1.length, q2.length]) (zip_both q1 q2)).weak fun H g => ?_
        rw [hK]
        exact ⟨sqT_mono g.1 e1, sqT_mono g.1 e2⟩
      | _ => exact (show False from h).elim
    | lst xs =>
      cases dy with
      | lst ys =>
        obtain ⟨p1, v1, rfl, e1, z1, q1⟩ := (rx.mono s2.1).lst R2
        obtain ⟨p2, v2, rfl, e2, z2, q2⟩ := ry.lst R2
        have n1 := own_ne R2 e1
        have n2 := own_ne R2 e2
        refine ⟨p1, p2, v1, v2, rfl, .inl ⟨SqL.of e1, SqL.of e2, h _ _ _ (s1.trans s2) R2 ?_⟩⟩
        exact (wd_pair (walk_zip (n := min v1.length v2.length) rfl) (by rw [zipD_len, q1.length, q2.length]) (zip_both q1 q2)).weak fun H g => ⟨SqL.of (g.2 _ _ e1 n1.1 n1.2 (by intro _ z; cases z)), SqL.of (g.2 _ _ e2 n2.1 n2.2 (by intro _ z; cases z))⟩
      | _ => exact (show False from h).elim
    | _ => exact (show False from h).elim⟩⟩
theorem i_zip {elts : List Expr} {kk : Nat} {tpos : Pos} (hK : X.K = P.K) (hg : Gl X "zip") (hm : X.mg "zip" = none) (ha : PE X a (tD P fa)) (hb : PE X b (tD P fb)) (hs : starEach [a, b] X.env = (false, eval a X.env) :: starEach [b] X.env) (hs2 : starEach [b] X.env = (false, eval b X.env) :: starEach [] X.env) :
    PI X (.Tuple elts kk tpos) (.Call (.Name "zip" p1) [a, b] [] pos) (tI P true (zipE fa fb)) :=
  piMono (RZ.pi_zipA hg hm (pa_cons ha (pa_cons hb pa_nil hs2) hs) hs (by rw [hs2]; rfl)) fun σ H Q ⟨F, r, t, R, h⟩ => ⟨F, r, t, R, h.bind.mono fun dx t1 h v F1 H1 s1 R1 rx => ⟨F1, r, t1, R1, (h.up s1.1).bind.mono fun dy t2 h w F2 H2 s2 R2 ry => by
    have rx := rx.mono s2.1
    cases dx with
    | tup xs =>
      cases dy with
      | tup ys =>
        cases rx with
        | @tup p1 v1 _ e1 z1 q1 =>
        cases ry with
        | @tup p2 v2 _ e2 z2 q2 =>
        refine ⟨p1, p2, v1, v2, rfl, .inr ⟨by rw [hK]; exact sqT_mono R2.sub e1, by rw [hK]; exact sqT_mono R2.sub e2, h _ _ _ (s1.trans s2) R2 ?_⟩⟩
        refine (wd_pair (G := fun H => SqT X.K H p1 v1 ∧ SqT X.K H p2 v2) (walk_zipT (n := min v1.length v2.length) rfl) (by rw [zipD_len, q1.length, q2.length]) (zip_both q1 q2)).weak fun H g => ?_
        rw [hK]
        exact ⟨sqT_mono g e1, sqT_mono g e2⟩
      | _ => exact (show False from h).elim
    | lst xs =>
      cases dy with
      | lst ys =>
        cases rx with
        | @lst p1 v1 _ e1 z1 q1 =>
        cases ry with
        | @lst p2 v2 _ e2 z2 q2 =>
        refine ⟨p1, p2, v1, v2, rfl, .inl ⟨SqL.of (R2.sub _ _ e1), SqL.of (R2.sub _ _ e2), h _ _ _ (s1.trans s2) R2 ?_⟩⟩
        exact (wd_pair (walk_zip (n := min v1.length v2.length) rfl) (by rw [zipD_len, q1.length, q2.length]) (zip_both q1 q2)).weak fun H g => ⟨SqL.of (g _ _ e1), SqL.of (g _ _ e2)⟩
      | _ => exact (show False from h).elim
    | _ => exact (show False from h).elim⟩⟩
theorem enumD_get : ∀ {xs : List D} {k i : Nat} {d : D}, (enumD k xs)[i]? = some d → ∃ a, xs[i]? = some a ∧ d = .tup [.int ((k + i : Nat) : Int), a]
  | [], k, i, d, h => by simp [enumD] at h
  | x :: xs, k, 0, d, h => by
    simp only [enumD, List.getElem?_cons_zero, Option.some.injEq] at h
    exact ⟨x, rfl, h.symm⟩
  | x :: xs, k, i + 1, d, h => by
    simp only [enumD, List.getElem?_cons_succ] at h
    obtain ⟨a, h1, h2⟩ := enumD_get h
    refine ⟨a, by simpa using h1, ?_⟩
    rw [h2, show k + 1 + i = k + (i + 1) by omega]
theorem enumD_len : ∀ (xs : List D) (k : Nat), (enumD k xs).length = xs.length
  | [], _ => rfl
  | x :: xs, k => by simp only [enumD, List.length_cons, enumD_len xs]
theorem enum_one {F : Hp} {xs : List V} {ds : List D} (q1 : RpL P.K P.T F xs ds) (i : Nat) (d : D) (e : (enumD 0 ds)[i]? = some d) :
    ∃ x y a b, (some (V.int (i : Nat)) : Option V) = some x ∧ xs[i]? = some y ∧ d = .tup [a, b] ∧ Rp P.K P.T F x a ∧ Rp P.K P.T F y b := by
  obtain ⟨a, h1, h2⟩ := enumD_get e
  obtain ⟨x, h4, h5⟩ := q1.get h1
  refine ⟨_, x, _, a, rfl, h4, h2, ?_, h5⟩
  rw [Nat.zero_add]
  exact .int _
def enumE (fa : Rho → Tw → Res D) (r : Rho) (t : Tw) : Res (List D) := (fa r t).bind fun x t1 => match x with
    | .lst xs => .ok (enumD 0 xs) t1
    | _ => .bad
theorem i_enumB {elts : List Expr} {kk : Nat} {tpos : Pos} (hK : X.K = P.K) (hg : Gl X "enumerate") (hm : X.mg "enumerate" = none) (ha : PE X a (tB P fa)) (hs : starEach [a] X.env = (false, eval a X.env) :: starEach [] X.env) :
    PI X (.Tuple elts kk tpos) (.Call (.Name "enumerate" p1) [a] [] pos) (tI P false (enumE fa)) :=
  piMono (pi_enum hg hm (pa_cons ha pa_nil hs) hs) fun σ H Q ⟨F, r, t, R, h⟩ => ⟨F, r, t, R, h.bind.mono fun dx t1 h v F1 H1 s1 R1 rx => by
    cases dx with
    | lst xs =>
      obtain ⟨p1, v1, rfl, e1, z1, q1⟩ := rx.lst R1
      have n1 := own_ne R1 e1
      refine ⟨p1, v1, rfl, SqL.of e1, h _ _ _ s1 R1 ?_⟩
      exact (wd_pair walk_enum (by rw [enumD_len, q1.length]) (enum_one q1)).weak fun H g => SqL.of (g.2 _ _ e1 n1.1 n1.2 (by intro _ z; cases z))
    | _ => exact (show False from h).elim⟩
theorem i_enum {elts : List Expr} {kk : Nat} {tpos : Pos} (hK : X.K = P.K) (hg : Gl X "enumerate") (hm : X.mg "enumerate" = none) (ha : PE X a (tD P fa)) (hs : starEach [a] X.env = (false, eval a X.env) :: starEach [] X.env) :
    PI X (.Tuple elts kk tpos) (.Call (.Name "enumerate" p1) [a] [] pos) (tI P true (enumE fa)) :=
  piMono (pi_enum hg hm (pa_cons ha pa_nil hs) hs) fun σ H Q ⟨F, r, t, R, h⟩ => ⟨F, r, t, R, h.bind.mono fun dx t1 h v F1 H1 s1 R1 rx => by
    cases dx with
    | lst xs =>
      cases rx with
      | @lst p1 v1 _ e1 z1 q1 =>
      refine ⟨p1, v1, rfl, SqL.of (R1.sub _ _ e1), h _ _ _ s1 R1 ?_⟩
      exact (wd_pair walk_enum (by rw [enumD_len, q1.length]) (enum_one q1)).weak fun H g => SqL.of (g _ _ e1)
    | _ => exact (show False from h).elim⟩
/-! ### comprehensions -/
/-- a turn's outcome: the element, or nothing -/
def turnE (tg : Tg) (vs : List Nat) (fc : Rho → Tw → Res (Option D)) (fe : Rho → Tw → Res D) (r : Rho) (d : D) (t : Tw) : Res (Option D) := match setT tg d (wipeR r vs) with
        | some r2 => (fc r2 t).bind fun o t => match o with
          | none => (fe r2 t).bind fun x t => .ok (some x) t
          | some y => match truD y with
            | some true => (fe r2 t).bind fun x t => .ok (some x) t
            | some false => .ok none t
            | none => .bad
        | none => .bad
/-- a clause's tests, none or one -/
def tC1 (P : Pm) (f : Rho → Tw → Res (Option D)) : TT := fun σ H Q => ∃ F r t, RelP P F r t σ H ∧ Aft P F (f r t) fun o t' => ∃ b, (match o with | none => some true | some y => truD y) = some b ∧ ∀ F' H', Kp P.T F H F' H' → RelP P F' r t' σ H' → Q b H'
theorem c_none : PTs X [] (tC1 P fun _ t => .ok none t) := ⟨fun pins s σ H Q I ⟨F, r, t, R, b, e, q⟩ => by
  cases e
  exact pts_nil.run pins s σ H Q I (q F H Kp.refl R)⟩
theorem c_some (ha : PT X a (tT P fa)) : PTs X [a] (tC1 P fun r t => (fa r t).bind fun x t1 => .ok (some x) t1) := ⟨fun pins s σ H Q I ⟨F, r, t, R, h⟩ =>
  (pts_one ha).run pins s σ H Q I ⟨F, r, t, R, h.bind.mono fun d t' q => q⟩⟩
end
end Fm

/-! ### zip of two tuples, the pair kept under a name -/
namespace Fm
open PySem PySem.Spec PyProof.Rows L2 RZ
/-- a zip: the tuple it gave out, if any, and whether it knows that it is held -/
abbrev ZipG (h : Heap) (z TI TO : Addr) (v0 : Value) (f : Bool) : Prop :=
  h.get? z = some { cls := .type "zip", dict := none, data := .fields #[v0, .bool f, .bool false, .ref TI, .ref TO], slots := #[] }
section
variable {prog : Program} {w : World} {A : Around} {E : Value → Shared → Prop} {s : Shared}
end
section
variable {P : Pm} {X : Cx} {a b : Expr} {pos p1 : Pos} {fa fb : Rho → Tw → Res D}
def zipNE (fa fb : Rho → Tw → Res D) (r : Rho) (t : Tw) : Res (List D) := (fa r t).bind fun x t1 => (fb r t1).bind fun y t2 => match x, y with
    | .tup xs, .tup ys => .ok (zipD xs ys) t2
    | _, _ => .bad
end
/-! ### x[::-1] -/
section
variable {prog : Program} {w : World} {A : Around} {E : Value → Shared → Prop} {s : Shared}
end
section
variable {X : Cx} {P : Pm} {fa fb : Rho → Tw → Res D}
theorem n_cat {a b : Expr} {pos : Pos} (ha : PE X a (tB P fa)) (hb : PE X b (tB P fb)) : PE X (.BinOp a .Add b pos) (tN P fun r t => (fa r t).bind fun x t1 => (fb r t1).bind fun y t2 => Fm.lift (catD x y) t2) := by
  refine peMono (pe_op op_cat ha hb) fun σ H Q ⟨F, r, t, R, h⟩ => ?_
  refine ⟨F, r, t, R, h.bind.mono fun dx t1 h v F1 H1 s1 R1 rx => ?_⟩
  refine ⟨F1, r, t1, R1, (h.up s1.1).bind.mono fun dy t2 h w F2 H2 s2 R2 ry => ?_⟩
  obtain ⟨d, e, q⟩ := h.lift
  have rx := rx.mono s2.1
  cases dx with
  | lst xs =>
    cases dy with
    | lst ys =>
      simp only [catD] at e
      split at e
      · rename_i hl
        cases e
        obtain ⟨p1, v1, rfl, e1, z1, q1⟩ := rx.lst R2
        obtain ⟨p2, v2, rfl, e2, z2, q2⟩ := ry.lst R2
        have hl2 : v1.length + v2.length ≤ sizeLine := by
          rw [q1.length, q2.length]
          exact okLen_le hl
        refine ⟨p1, p2, v1, v2, rfl, rfl, e1, e2, hl2, fun p hp => ?_⟩
        obtain ⟨R3, k3, fr⟩ := mkNew (o := .lst (v1 ++ v2)) (d := .lst (xs ++ ys)) R2 hp ⟨_, upd_same, by rw [List.length_append]; exact hl2, q1.append q2⟩
        exact q _ _ _ p (s1.trans (s2.trans k3)) R3 (s1.had p (s2.had p (.of hp))) fr
      · cases e
    | _ => cases e
  | _ => cases e
end
end Fm

/-! ### comprehensions; statements -/
namespace Fm
open PySem PySem.Spec PyProof.Rows L2
/-- without exceptions -/
abbrev Pm.nox (P : Pm) : Pm := { P with XE := fun _ _ => False }
section
variable {P : Pm} {X : Cx}
/-- an object of ours that no slot has is changed -/
theorem Rel.upd {F H : Hp} {r : Rho} {t : Tw} {σ : L2.St} {p : Addr} {o : HO} {K : PySem.W.Frag} {T : Tn} {F0 H0 : Hp} (R : Rel K T F0 H0 F r t σ H) (hp : H p ≠ none) (hT : ∀ ps, H p ≠ some (.tbl ps)) (hC : ∀ c q, H p ≠ some (LamX.CodeO c q)) (f : F p = none) (h0 : Nn H0 p) (n1 : p ≠ T.a) (n2 : p ≠ T.b)
    (no : ∀ (i : Nat) (e : D), r[i]? = some (.own e) → σ[i]? ≠ some (some (.ref p))) (ho : NT o := by intro _ z; cases z) : Rel K T F0 H0 F r t σ (L2.upd H p o) := by
  have nF : ∀ b u, F b = some u → b ≠ p := fun b u h e => by
    rw [e, f] at h
    cases h
  refine ⟨⟨fun b u h => ?_, R.new, R.base, fun b u h m1 m2 m3 => ?_, fun b h => R.had b (h.upd ho).1, ⟨?_, ?_, R.tw.ne, R.tw.small⟩, R.tF1, R.tF2, R.sc, tabs_upd R.tabs hT hC, R.nt⟩, R.len, R.val, fun i d h => ?_, R.inj⟩
  · rw [upd_ne (nF b u h)]
    exact R.sub b u h
  · have : b ≠ p := fun e => h0.no (by rw [← e]; exact h) m3
    rw [upd_ne this]
    exact R.old b u h m1 m2 m3
  · rw [upd_ne (Ne.symm n1)]
    exact R.tw.a
  · rw [upd_ne (Ne.symm n2)]
    exact R.tw.b
  · obtain ⟨q, e, w⟩ := R.own i d h
    have nq : q ≠ p := fun z => no i d h (z ▸ e)
    exact ⟨q, e, ⟨w.fr, w.n1, w.n2, w.h0, w.at_.keep (Same.refl F) fun o h => by rw [upd_ne nq]; exact h⟩⟩
theorem wipe_wipe (σ : L2.St) (vs : List Nat) : wipe (wipe σ vs) vs = wipe σ vs := by
  refine List.ext_getElem? fun j => ?_
  rw [wipe_get, wipe_get, wipe_length]
  by_cases h : j ∈ vs ∧ j < σ.length
  · rw [if_pos h, if_pos h]
  · rw [if_neg h, if_neg h]
def compE (tg : Tg) (vs : List Nat) (fi : Rho → Tw → Res (List D)) (fc : Rho → Tw → Res (Option D)) (fe : Rho → Tw → Res D) (r : Rho) (t : Tw) : Res D :=
  (fi r t).bind fun xs t1 => if okLen xs.length then (compL (turnE tg vs fc fe r) xs t1).bind fun ys t2 => .ok (.lst ys) t2 else .bad
/-- the invariant of a comprehension's turns -/
structure CInv (P : Pm) (f : D → Tw → Res (Option D)) (r : Rho) (σ : L2.St) (F1 H1 : Hp) (D : Addr) (ds ys : List Fm.D) (t2 : Tw) (i : Nat) (H : Hp) (F2 : Hp) (t' : Tw) (vacc : List V) (acc rest : List Fm.D) : Prop where
  k : Kp P.T F1 H1 F2 H
  R : RelP P F2 r t' σ H
  d : H D = some (.lst vacc)
  q : RpL P.K P.T F2 vacc acc
  l : vacc.length ≤ i
  e : compL f (ds.drop i) t' = .ok rest t2
  y : ys = acc ++ rest
theorem turn_ok {tg : Tg} {vs : List Nat} {fc : Rho → Tw → Res (Option D)} {fe : Rho → Tw → Res D} {r : Rho} {d : D} {t t1 : Tw} {o : Option D} (h : turnE tg vs fc fe r d t = .ok o t1) :
    ∃ r2 oc tc b, setT tg d (wipeR r vs) = some r2 ∧ fc r2 t = .ok oc tc ∧ (match oc with | none => some true | some y => truD y) = some b ∧
      ((b = true ∧ ∃ x, fe r2 tc = .ok x t1 ∧ o = some x) ∨ (b = false ∧ o = none ∧ tc = t1)) := by
  unfold turnE at h
  cases e : setT tg d (wipeR r vs) with
  | none =>
    rw [e] at h
    cases h
  | some r2 =>
    rw [e] at h
    dsimp only at h
    cases e2 : fc r2 t with
    | bad =>
      rw [e2] at h
      cases h
    | exc n t3 =>
      rw [e2] at h
      cases h
    | ok oc tc =>
      rw [e2] at h
      simp only [Res.bind_ok] at h
      have fin : ∀ {res : Res D}, (res.bind fun x t => Res.ok (some x) t) = .ok o t1 → ∃ x, res = .ok x t1 ∧ o = some x := fun {res} h => by
        cases res with
        | ok x t =>
          cases h
          exact ⟨x, rfl, rfl⟩
        | exc n t => cases h
        | bad => cases h
      cases oc with
      | none => exact ⟨r2, none, tc, true, rfl, e2, rfl, .inl ⟨rfl, fin h⟩⟩
      | some y =>
        dsimp only at h
        cases e3 : truD y with
        | none =>
          rw [e3] at h
          cases h
        | some b =>
          rw [e3] at h
          cases b with
          | true => exact ⟨r2, some y, tc, true, rfl, e2, e3, .inl ⟨rfl, fin h⟩⟩
          | false =>
            have h : Res.ok none tc = Res.ok o t1 := h
            injection h with h1 h2
            exact ⟨r2, some y, tc, false, rfl, e2, e3, .inr ⟨rfl, h1.symm, h2⟩⟩
theorem comp_read {tg : Tg} {vs : List Nat} {fi : Rho → Tw → Res (List D)} {fc : Rho → Tw → Res (Option D)} {fe : Rho → Tw → Res D} (hsl : ∀ i ∈ tg.slots, i ∈ vs) (σ : L2.St) (H : Hp) (Q : VK) (h : tN P (compE tg vs fi fc fe) σ H Q) :
    tLc (tI P false fi) (gT P.nox tg) (tC1 P.nox fc) (tD P.nox fe) vs σ H Q := by
  obtain ⟨F, r, t, R, h⟩ := h
  refine ⟨F, r, t, R, h.bind.mono fun ds t1 h J F1 H1 s1 R1 w D hD => ?_⟩
  have w : WD P J (keepG P F1 H1) F1 ds := w
  split at h
  rotate_left
  · exact h.elim
  rename_i hok
  -- what the turns give
  obtain ⟨ys, t2, ec, h⟩ : ∃ ys t2, compL (turnE tg vs fc fe r) ds t1 = .ok ys t2 ∧ ∀ v F' H' p, Kp P.T F H F' H' → RelP P F' r t2 σ H' → Nn H p → Fre P F' r σ H' v (.lst ys) p → Q v H' := by
    cases e : compL (turnE tg vs fc fe r) ds t1 with
    | ok ys t2 =>
      rw [e] at h
      exact ⟨ys, t2, rfl, h⟩
    | exc n t2 =>
      exfalso
      have no : ∀ (l : List Fm.D) (t : Tw) (n : Nat) (t2 : Tw), compL (turnE tg vs fc fe r) l t ≠ .exc n t2 := by
        intro l
        induction l with
        | nil =>
          intro t n t2 z
          cases z
        | cons d l ih =>
          intro t n t2 z
          unfold compL at z
          split at z
          · rename_i o t3 _
            cases e4 : compL (turnE tg vs fc fe r) l t3 with
            | ok a b =>
              rw [e4] at z
              cases z
            | exc a b => exact ih _ _ _ e4
            | bad =>
              rw [e4] at z
              cases z
          · cases z
      exact no _ _ _ _ e
    | bad =>
      rw [e] at h
      exact h.elim
  have nTa : D ≠ P.T.a := fun e => by
    rw [e, R1.tw.a] at hD
    cases hD
  have nTb : D ≠ P.T.b := fun e => by
    rw [e, R1.tw.b] at hD
    cases hD
  have no : ∀ (i : Nat) (e : Fm.D), r[i]? = some (.own e) → σ[i]? ≠ some (some (.ref D)) := fun i e h1 h2 => by
    obtain ⟨q, e1, w⟩ := R1.own i e h1
    rw [h2] at e1
    cases e1
    obtain ⟨o2, ho, _⟩ := w.at_.obj
    rw [hD] at ho
    cases ho
  have FD : ∀ {F2 H2 : Hp}, Kp P.T F1 H1 F2 H2 → H2 D ≠ none → True := fun _ _ => trivial
  have b0 := R1.toRelH.newO (o := .lst []) hD
  -- D is never frozen while it is filled
  refine ⟨fun i m H => m = ds.length - i ∧ i ≤ ds.length ∧ ∃ F2 t' vacc acc rest, CInv P (turnE tg vs fc fe r) r σ F1 H1 D ds ys t2 i H F2 t' vacc acc rest ∧ F2 D = none, ⟨ds.length, by simp, Nat.zero_le _, F1, t1, [], [], ys, ?_, ?_⟩, fun i m H2 hW => ?_⟩
  · exact ⟨Kp.of b0, R1.step b0, upd_same, .nil, Nat.zero_le _, by simpa using ec, rfl⟩
  · exact R1.sub.free hD
  · obtain ⟨rfl, hi, F2, t', vacc, acc, rest, ⟨k, R2, hd, q, hl, e, ey⟩, fD⟩ := hW
    have hG : keepG P F1 H1 H2 := ⟨k.base.trans R2.sub, k.old⟩
    by_cases hlt : i < ds.length
    · refine .inr ⟨w.goes i H2 hlt hG, fun H' => ∃ F2 t' vacc acc rest, CInv P (turnE tg vs fc fe r) r σ F1 H1 D ds ys t2 (i + 1) H' F2 t' vacc acc rest ∧ F2 D = none, fun H' hn => ⟨_, by omega, rfl, hlt, hn⟩, fun x H' hy => ?_⟩
      have hdi : ds[i]? = some ds[i] := List.getElem?_eq_getElem hlt
      -- the turn
      have e' : compL (turnE tg vs fc fe r) (ds[i] :: ds.drop (i + 1)) t' = .ok rest t2 := by
        rw [← List.drop_eq_getElem_cons hlt]
        exact e
      unfold compL at e'
      cases et : turnE tg vs fc fe r ds[i] t' with
      | exc n t3 =>
        rw [et] at e'
        cases e'
      | bad =>
        rw [et] at e'
        cases e'
      | ok o t3 =>
        rw [et] at e'
        dsimp only at e'
        obtain ⟨rest', er, eo⟩ : ∃ rest', compL (turnE tg vs fc fe r) (ds.drop (i + 1)) t3 = .ok rest' t2 ∧ rest = consO o rest' := by
          cases e4 : compL (turnE tg vs fc fe r) (ds.drop (i + 1)) t3 with
          | ok a b =>
            rw [e4] at e'
            simp only [Res.bind_ok] at e'
            cases e'
            exact ⟨a, rfl, rfl⟩
          | exc a b =>
            rw [e4] at e'
            cases e'
          | bad =>
            rw [e4] at e'
            cases e'
        obtain ⟨r2, oc, tc, b, es, efc, eb, alt⟩ := turn_ok et
        -- the item
        obtain ⟨F3, k3, R3, rx⟩ : ∃ F3, Kp P.T F2 H2 F3 H' ∧ RelP P F3 r t' σ H' ∧ Rp P.K P.T F3 x ds[i] := by
          rcases w.yields i H2 x H' _ hdi hG hy with ⟨rfl, rx⟩ | ⟨p, xs, es', rfl, hp, rfl, ed, z, qx⟩
          · exact ⟨F2, Kp.refl, R2, rx.mono k.base⟩
          · have b := R2.toRelH.newF (o := .tup xs) hp
            refine ⟨_, Kp.of b, R2.step b, ?_⟩
            rw [ed]
            exact .tup (SqT.of upd_same) z (qx.mono (k.base.trans b.base))
        refine ⟨F3, wipeR r vs, t', ds[i], r2, R3.wipe vs, rx, es, fun σ' R4 c => ⟨(c.wipe hsl).trans (wipe_wipe σ vs), ?_⟩⟩
        refine ⟨F3, r2, t', R4, ?_⟩
        rw [efc]
        refine ⟨b, eb, fun F4 H4 k4 R5 => ?_⟩
        rcases alt with ⟨rfl, y, efe, rfl⟩ | ⟨rfl, rfl, rfl⟩
        · rw [if_pos rfl]
          refine ⟨F4, r2, tc, R5, ?_⟩
          rw [efe]
          intro v F5 H5 k5 R6 rv
          have k6 : Kp P.T F2 H2 F5 H5 := k3.trans (k4.trans k5)
          have hd5 : H5 D = some (.lst vacc) := k6.old D _ hd nTa nTb (by intro _ z; cases z)
          have fD5 : F5 D = none := by
            cases z : F5 D with
            | none => rfl
            | some u =>
              rcases k6.new D u z with z | z
              · rw [fD] at z
                cases z
              · exact (z.no hd (by intro _ z; cases z)).elim
          have hsz : vacc.length < sizeLine := by
            have := of_decide_eq_true hok
            rw [sizeLine_eq]
            omega
          have R7 : RelP P F5 r t3 σ H5 := R2.step (Kp.relH (P := P.nox) k6 R6)
          have R8 : RelP P F5 r t3 σ (L2.upd H5 D (.lst (vacc ++ [v]))) := Rel.upd R7 (by rw [hd5]; simp) (fun ps z => by rw [hd5] at z; cases z) (fun c q z => by rw [hd5] at z; cases z) fD5 (R1.had D (.of hD)) nTa nTb no
          refine ⟨vacc, hd5, hsz, F5, t3, vacc ++ [v], acc ++ [y], rest', ⟨?_, R8, upd_same, (q.mono k6.base).append (.cons rv .nil), ?_, er, ?_⟩, fD5⟩
          · have k7 := k.trans k6
            refine ⟨k7.base, k7.new, fun a o ha m1 m2 m3 => ?_, fun a ha => k7.had a (ha.upd (by intro _ z; cases z)).1⟩
            have : a ≠ D := fun e => by
              rw [e, hD] at ha
              cases ha
            rw [upd_ne this]
            exact k7.old a o ha m1 m2 m3
          · rw [List.length_append, List.length_singleton]
            omega
          · rw [ey, eo]
            simp [consO]
        · rw [if_neg (by decide)]
          have k6 : Kp P.T F2 H2 F4 H4 := k3.trans k4
          have R7 : RelP P F4 r tc σ H4 := R2.step (Kp.relH (P := P.nox) k6 R5)
          refine ⟨F4, tc, vacc, acc, rest', ⟨k.trans k6, R7, k6.old D _ hd nTa nTb (by intro _ z; cases z), q.mono k6.base, by omega, er, ?_⟩, ?_⟩
          · rw [ey, eo]; rfl
          · cases z : F4 D with
            | none => rfl
            | some u =>
              rcases k6.new D u z with z | z
              · rw [fD] at z
                cases z
              · exact (z.no hd (by intro _ z; cases z)).elim
    · have ei : i = ds.length := by omega
      subst ei
      refine .inl ⟨w.stops H2 hG, ?_⟩
      rw [List.drop_length] at e
      cases e
      rw [List.append_nil] at ey
      subst ey
      refine h _ _ _ D (s1.trans k) R2 (s1.had D (.of hD)) ⟨rfl, ⟨fD, nTa, nTb, R1.had D (.of hD), vacc, hd, ?_, q⟩, no⟩
      have := of_decide_eq_true hok
      rw [sizeLine_eq]
      omega
theorem n_comp {elt tg iter : Expr} {ifs : List Expr} {scope : Scope} {own : List (Str × Nat)} {pos : Pos} {tgt : Tg} {fi : Rho → Tw → Res (List D)} {fc : Rho → Tw → Res (Option D)} {fe : Rho → Tw → Res D} (hc : X.calm = true) (hN : X.N.Nodup)
    (hi : PI X tg iter (tI P false fi)) (ok : BlkOk X.N X.env.scope scope own) (hg : ∀ (s : Shared) (H : Hp) (C : Addr) (cl : List (Str × Addr)) (fp : List Addr), PG (X.blk s H scope (compEnvC scope cl C X.env) fp) tg (gT P.nox tgt))
    (ht : ∀ (s : Shared) (H : Hp) (C : Addr) (cl : List (Str × Addr)) (fp : List Addr), PTs (X.blk s H scope (compEnvC scope cl C X.env) fp) ifs (tC1 P.nox fc))
    (he : ∀ (s : Shared) (H : Hp) (C : Addr) (cl : List (Str × Addr)) (fp : List Addr), PE (X.blk s H scope (compEnvC scope cl C X.env) fp) elt (tD P.nox fe)) (hs : ∀ x, foldedSetIterable iter X.env x = pure x) (hsl : ∀ i ∈ tgt.slots, i ∈ own.map (·.2)) :
    PE X (.ListComp elt [⟨tg, iter, ifs, 0⟩] scope pos) (tN P (compE tgt (own.map (·.2)) fi fc fe)) :=
  peMono (pe_lc hc hN hi ok hg ht he hs) (comp_read hsl)
/-! ### calls of own defs -/
/-- what a def promises: its value by data -/
def spD (K : PySem.W.Frag) (T : Tn) (cl : Nat → Addr) (np : Nat) (Γ : List D → Tw → Res D) : Sp := fun vs H Q E => ∃ F t ds, RelH K T F H F t H ∧ RpL K T F vs ds ∧ ds.length = np ∧ match Γ ds t with
  | .ok d t' => ∀ v F' H', RelH K T F H F' t' H' → Rp K T F' v d → Q v H'
  | .exc n t' => ∀ F' H', RelH K T F H F' t' H' → E (.ref (cl n)) none H'
  | .bad => False
/-- an exception's wish -/
def EX (cl : Nat → Addr) (XE : Nat → Hp → Prop) : XK := fun c d H => ∃ n, c = .ref (cl n) ∧ d = none ∧ XE n H
theorem sp_call {cl : Nat → Addr} {np : Nat} {Γ : List D → Tw → Res D} {F H : Hp} {r : Rho} {t : Tw} {σ : L2.St} {vs : List V} {ds : List D} {Q : VK} (R : RelP P F r t σ H) (rv : RpL P.K P.T F vs ds) (hl : ds.length = np)
    (h : Aft P F (Γ ds t) fun d t' => ∀ v F' H', Kp P.T F H F' H' → RelP P F' r t' σ H' → Rp P.K P.T F' v d → Q v H') : spD P.K P.T cl np Γ vs H Q (EX cl P.XE) := by
  refine ⟨F, t, ds, R.toRelH.refl, rv, hl, ?_⟩
  cases e : Γ ds t with
  | ok d t' =>
    rw [e] at h
    exact fun v F' H' b rv => h v F' H' (Kp.of b) (R.step b) rv
  | exc n t' =>
    rw [e] at h
    exact fun F' H' b => ⟨n, rfl, rfl, h F' H' b.base (R.toRelH.trans b)⟩
  | bad =>
    rw [e] at h
    exact h
variable {k np : Nat} {f : Addr} {fd : FuncData} {ps ks : List Str} {x : Str} {p pos : Pos} {e : Expr} {es : List Expr} {kws : List Keyword} {cl : Nat → Addr} {Γ : List D → Tw → Res D} {fs gs : Rho → Tw → Res (List D)} {dvs : List V} {ds : List Value} {dds : List D}
theorem s_call (F : FnOk X.prog X.w X.K X.mg X.base (CX X.prog X.w) k f fd ps (spD P.K P.T cl np Γ)) (hr : Room k X.A) (hg : Gl X x) (hm : X.mg x = some (.ref f)) (hk : PySem.W.keepIn X.K (.ref f) = true) (hb : Binds X.K fd ps ds) (hd : Vals dvs ds)
    (hdd : ∀ F, RpL P.K P.T F dvs dds) (tk : Takes X fun c d _ H => EX cl P.XE c d H) (ha : PA X (e :: es) (tDs P fs)) (hnp : ∀ r t xs t1, fs r t = .ok xs t1 → xs.length + dds.length = np) (hdb : (x == ("__debug__" : Str)) = false)
    (he : starEach (e :: es) X.env = (false, eval e X.env) :: starEach es X.env) (hpl : (backTo pos (starEach es X.env)).any (·.1) = false) :
    PE X (.Call (.Name x p) (e :: es) [] pos) (tD P fun r t => (fs r t).bind fun xs t1 => Γ (xs ++ dds) t1) :=
  peMono (pe_call F hr hg hm hk hb hd (passes_call tk fun _ _ _ _ h => h) ha hdb he hpl) fun σ H Q ⟨F, r, t, R, h⟩ => ⟨F, r, t, R, by
    dsimp only at h
    cases ef : fs r t with
    | ok xs t1 =>
      rw [ef] at h
      intro vs F1 H1 s1 R1 rv
      exact sp_call R1 (rv.append (hdd F1)) (by rw [List.length_append]; exact hnp r t xs t1 ef) (((show Aft P F (Γ (xs ++ dds) t1) _ from h).up s1.1).mono fun d t' q v F' H' s R' rv => q v F' H' (s1.trans s) R' rv)
    | exc n t1 =>
      rw [ef] at h
      exact h
    | bad =>
      rw [ef] at h
      exact h⟩
theorem s_call0 (F : FnOk X.prog X.w X.K X.mg X.base (CX X.prog X.w) k f fd ps (spD P.K P.T cl np Γ)) (hr : Room k X.A) (hg : Gl X x) (hm : X.mg x = some (.ref f)) (hk : PySem.W.keepIn X.K (.ref f) = true) (hb : Binds X.K fd ps ds) (hd : Vals dvs ds)
    (hdd : ∀ F, RpL P.K P.T F dvs dds) (tk : Takes X fun c d _ H => EX cl P.XE c d H) (hnp : dds.length = np) (hdb : (x == ("__debug__" : Str)) = false) :
    PE X (.Call (.Name x p) [] [] pos) (tD P fun r t => Γ dds t) :=
  peMono (pe_call0 F hr hg hm hk hb hd (passes_call tk fun _ _ _ _ h => h) hdb) fun σ H Q ⟨F, r, t, R, h⟩ => sp_call R (by simpa using hdd F) hnp h
/-- keywords' values -/
theorem pkMono {t u : TA} (h : PK X kws t) (i : ∀ σ H Q, u σ H Q → t σ H Q) : PK X kws u := ⟨fun pos pins s σ H Q I q => h.run pos pins s σ H Q I (i σ H Q q)⟩
theorem k_nil : PK X [] (tDs P fun _ t => .ok [] t) := pkMono pk_nil fun σ H Q ⟨F, r, t, R, q⟩ => q [] F H Kp.refl R .nil
theorem k_cons {fa : Rho → Tw → Res D} {nm : Option Str} {kpos : Pos} (ha : PE X e (tD P fa)) (hr : PK X kws (tDs P fs)) : PK X (⟨nm, e, kpos⟩ :: kws) (tDs P fun r t => (fa r t).bind fun x t1 => (fs r t1).bind fun xs t2 => .ok (x :: xs) t2) :=
  pkMono (pk_cons ha hr) fun σ H Q ⟨F, r, t, R, h⟩ => ⟨F, r, t, R, h.bind.mono fun d t1 h v F1 H1 s1 R1 rv => ⟨F1, r, t1, R1, (h.up s1.1).bind.mono fun ds t2 q vs F2 H2 s2 R2 rvs =>
    q (v :: vs) F2 H2 (s1.trans s2) R2 (.cons (rv.mono s2.1) rvs)⟩⟩
theorem s_callK {n : Nat} {g : List Value → List Value → List Value} (F : FnOk X.prog X.w X.K X.mg X.base (CX X.prog X.w) k f fd ps (spD P.K P.T cl np Γ)) (hr : Room k X.A) (hg : Gl X x) (hm : X.mg x = some (.ref f)) (hk : PySem.W.keepIn X.K (.ref f) = true)
    (hb : KBn X.K fd ps n ks g (fun vs zs => vs ++ zs ++ dvs)) (hdd : ∀ F, RpL P.K P.T F dvs dds) (tk : Takes X fun c d _ H => EX cl P.XE c d H) (ha : PA X (e :: es) (tDs P fs)) (hkw : PK X kws (tDs P gs))
    (hn1 : ∀ r t xs t1, fs r t = .ok xs t1 → xs.length = n) (hn2 : ∀ r t xs t1, gs r t = .ok xs t1 → xs.length = ks.length) (hnp : n + ks.length + dds.length = np)
    (hall : (backToKw pos (keywordEach kws X.env)).all (·.1.isSome) = true) (hks : (backToKw pos (keywordEach kws X.env)).filterMap (·.1) = ks)
    (hdb : (x == ("__debug__" : Str)) = false) (he : starEach (e :: es) X.env = (false, eval e X.env) :: starEach es X.env)
    (hpl : ((backTo pos (starEach (e :: es) X.env)).any (·.1) || (backToKw pos (keywordEach kws X.env)).any (·.1.isNone)) = false) :
    PE X (.Call (.Name x p) (e :: es) kws pos) (tD P fun r t => (fs r t).bind fun xs t1 => (gs r t1).bind fun ys t2 => Γ (xs ++ ys ++ dds) t2) :=
  peMono (pe_callN F hr hg hm hk hb (passes_call tk fun _ _ _ _ h => h) ha hkw hall hks hdb he hpl) fun σ H Q ⟨F, r, t, R, h⟩ => ⟨F, r, t, R, by
    dsimp only at h
    cases ef : fs r t with
    | ok xs t1 =>
      rw [ef] at h
      intro vs F1 H1 s1 R1 rv
      have h : Aft P F ((gs r t1).bind fun ys t2 => Γ (xs ++ ys ++ dds) t2) _ := h
      refine ⟨F1, r, t1, R1, ?_⟩
      have h := h.up s1.1
      cases eg : gs r t1 with
      | ok ys t2 =>
        rw [eg] at h
        intro zs F2 H2 s2 R2 rz
        have l1 := hn1 r t xs t1 ef
        have l2 := hn2 r t1 ys t2 eg
        refine ⟨by rw [rv.length]; exact l1, by rw [rz.length]; exact l2, sp_call R2 (((rv.mono s2.1).append rz).append (hdd F2)) (by rw [List.length_append, List.length_append]; omega) (((show Aft P F1 (Γ (xs ++ ys ++ dds) t2) _ from h).up s2.1).mono fun d t' q v F' H' s R' rv => q v F' H' (s1.trans (s2.trans s)) R' rv)⟩
      | exc n t1 =>
        rw [eg] at h
        exact h
      | bad =>
        rw [eg] at h
        exact h
    | exc n t1 =>
      rw [ef] at h
      exact h
    | bad =>
      rw [ef] at h
      exact h⟩
end
end Fm

/-! ### statements -/
namespace Fm
open PySem PySem.Spec PyProof.Rows L2
def aftS (P : Pm) (F : Hp) (D : Ends) (p : Fl × Rho) (t' : Tw) : Prop := match p.1 with
  | .nx => ∀ F' σ' H', Same F F' → RelP P F' p.2 t' σ' H' → D.nx σ' H'
  | .brk => ∀ F' σ' H', Same F F' → RelP P F' p.2 t' σ' H' → D.bk σ' H'
  | .cont => ∀ F' σ' H', Same F F' → RelP P F' p.2 t' σ' H' → D.ct σ' H'
  | .ret d => ∀ v F' H', Same F F' → RelH P.K P.T P.F0 P.H0 F' t' H' → Rp P.K P.T F' v d → D.rt v H'
def tS (P : Pm) (f : Rho → Tw → Res (Fl × Rho)) : TS := fun D σ H => ∃ F r t, RelP P F r t σ H ∧ Aft P F (f r t) (aftS P F D)
section
variable {P : Pm} {X : Cx} {a b c : Expr} {pos p1 p2 : Pos} {fa fb fc : Rho → Tw → Res D} {st : Stmt} {rest : List Stmt} {f g : Rho → Tw → Res (Fl × Rho)}
theorem aftS.up {F F' : Hp} {D : Ends} {p : Fl × Rho} {t : Tw} (h : aftS P F D p t) (s : Same F F') : aftS P F' D p t := by
  obtain ⟨fl, r⟩ := p
  cases fl with
  | nx => exact fun F2 σ2 H2 s2 => h F2 σ2 H2 (s.trans s2)
  | brk => exact fun F2 σ2 H2 s2 => h F2 σ2 H2 (s.trans s2)
  | cont => exact fun F2 σ2 H2 s2 => h F2 σ2 H2 (s.trans s2)
  | ret d => exact fun v F2 H2 s2 => h v F2 H2 (s.trans s2)
def nilE (r : Rho) (t : Tw) : Res (Fl × Rho) := .ok (.nx, r) t
def consE (f g : Rho → Tw → Res (Fl × Rho)) (r : Rho) (t : Tw) : Res (Fl × Rho) := (f r t).bind fun p t1 => match p with
    | (.nx, r1) => g r1 t1
    | q => .ok q t1
theorem ss_nil : PSs X [] (tS P nilE) := pssMono pss_nil fun D σ H ⟨F, r, t, R, h⟩ => h F σ H (Same.refl F) R
theorem seq_aft {F : Hp} {D : Ends} {r : Rho} {t : Tw} (h : Aft P F (consE f g r t) (aftS P F D)) : Aft P F (f r t) (aftS P F { D with nx := tS P g D }) := by
  unfold consE at h
  refine h.bind.mono fun p t1 h => ?_
  obtain ⟨fl, r1⟩ := p
  cases fl with
  | nx => exact fun F' σ' H' s R => ⟨F', r1, t1, R, ((show Aft P F (g r1 t1) (aftS P F D) from h).up s).mono fun p t2 q => q.up s⟩
  | brk => exact h
  | cont => exact h
  | ret d => exact h
theorem ss_cons (h1 : PS X st (tS P f)) (h2 : PSs X rest (tS P g)) : PSs X (st :: rest) (tS P (consE f g)) := pssMono (pss_cons h1 h2) fun D σ H ⟨F, r, t, R, h⟩ => ⟨F, r, t, R, seq_aft h⟩
theorem st_ret (ha : PE X a (tD P fa)) : PS X (.Return (some a) pos) (tS P fun r t => (fa r t).bind fun x t1 => .ok (.ret x, r) t1) :=
  psMono (ps_ret ha) fun D σ H ⟨F, r, t, R, h⟩ => ⟨F, r, t, R, h.bind.mono fun d t' q v F' H' s R' rv => q v F' H' s.1 R'.toRelH rv⟩
theorem st_exp (ha : PE X a (tD P fa)) (hs : swapsWith a none pos.line X.env = pure false) : PS X (.Expr a pos) (tS P fun r t => (fa r t).bind fun _ t1 => .ok (.nx, r) t1) :=
  psMono (ps_expr ha hs) fun D σ H ⟨F, r, t, R, h⟩ => ⟨F, r, t, R, h.bind.mono fun d t' q v F' H' s R' rv => q F' σ H' s.1 R'⟩
def iteS (fc : Rho → Tw → Res D) (f g : Rho → Tw → Res (Fl × Rho)) (r : Rho) (t : Tw) : Res (Fl × Rho) := (fc r t).bind fun x t1 => match truD x with
    | some true => f r t1
    | some false => g r t1
    | none => .bad
theorem st_ite {as bs : List Stmt} (hc : PT X c (tT P fc)) (ha : PSs X as (tS P f)) (hb : PSs X bs (tS P g)) : PS X (.If c as bs pos) (tS P (iteS fc f g)) :=
  psMono (ps_if hc ha hb) fun D σ H ⟨F, r, t, R, h⟩ => ⟨F, r, t, R, h.bind.mono fun d t' h => by
    cases e : truD d with
    | none =>
      rw [e] at h
      exact h.elim
    | some k =>
      rw [e] at h
      refine ⟨k, rfl, fun F' H' s R' => ?_⟩
      cases k with
      | true => exact ⟨F', r, t', R', ((show Aft P F (f r t') _ from h).up s.1).mono fun p t2 q => q.up s.1⟩
      | false => exact ⟨F', r, t', R', ((show Aft P F (g r t') _ from h).up s.1).mono fun p t2 q => q.up s.1⟩⟩
theorem st_brk : PS X (.Break pos) (tS P fun r t => .ok (.brk, r) t) := psMono ps_break fun D σ H ⟨F, r, t, R, h⟩ => h F σ H (Same.refl F) R
theorem st_cont : PS X (.Continue pos) (tS P fun r t => .ok (.cont, r) t) := psMono ps_continue fun D σ H ⟨F, r, t, R, h⟩ => h F σ H (Same.refl F) R
/-! ### assignments -/
/-- name = e -/
theorem st_set {i : Nat} {y : Str} {py : Pos} (h : PS X (.Assign [.Name y py] a pos) (tAsg (tD P fa) (gName i))) : PS X (.Assign [.Name y py] a pos) (tS P fun r t => (fa r t).bind fun x t1 => Fm.lift ((setT (.name i) x r).map fun r1 => (.nx, r1)) t1) :=
  psMono h fun D σ H ⟨F, r, t, R, h⟩ => ⟨F, r, t, R, h.bind.mono fun d t' h v F' H' s R' rv => by
    obtain ⟨p, e, q⟩ := h.lift
    obtain ⟨r1, e1, rfl⟩ := Option.map_eq_some_iff.mp e
    simp only [setT] at e1
    split at e1
    · cases e1
      exact q F' _ H' s.1 (R'.setVal rv)
    · cases e1⟩
theorem st_new {i : Nat} {y : Str} {py : Pos} (h : PS X (.Assign [.Name y py] a pos) (tAsg (tN P fa) (gName i))) : PS X (.Assign [.Name y py] a pos) (tS P fun r t => (fa r t).bind fun x t1 => okSet r i (.own x) t1) :=
  psMono h fun D σ H ⟨F, r, t, R, h⟩ => ⟨F, r, t, R, h.bind.mono fun d t' h v F' H' p s R' hp fr => by
    unfold okSet at h
    split at h
    · obtain ⟨rfl, o, no⟩ := fr
      exact h F' _ H' s.1 (R'.setOwn o fun j e h1 _ => no j e h1)
    · exact h.elim⟩
theorem asg_plain {i : Nat} {y : Str} {py : Pos} {te : TE} (hN : X.N.Nodup) (hi : X.N[i]? = some y) (hx : Loc X.env.scope y) (ha : PE X a te) (hs : swapsWith a (some (.Name y py)) pos.line X.env = pure false) (hf : X.fn y = true ∨ X.env.scope.names.lookup y = some .local) :
    PS X (.Assign [.Name y py] a pos) (tAsg te (gName i)) := ps_set hN hi hx ha hs hf
/-- targets = e -/
theorem st_asg {tg : Expr} {tt : Tg} (ha : PE X a (tD P fa)) (hg : PG X tg (gT P tt)) (hs : swapsWithSole [tg] a pos.line X.env = pure false) (hw : swappedStores [tg] a X.env = pure none)
    (h1 : (assignEach [tg] X.env).map (·.2) = [assign tg X.env]) : PS X (.Assign [tg] a pos) (tS P fun r t => (fa r t).bind fun x t1 => Fm.lift ((setT tt x r).map fun r1 => (.nx, r1)) t1) :=
  psMono (ps_asg ha hg hs hw h1) fun D σ H ⟨F, r, t, R, h⟩ => ⟨F, r, t, R, h.bind.mono fun d t' h v F' H' s R' rv => by
    obtain ⟨p, e, q⟩ := h.lift
    obtain ⟨r1, e1, rfl⟩ := Option.map_eq_some_iff.mp e
    exact ⟨F', r, t', d, r1, R', rv, e1, fun σ' R2 _ => q F' σ' H' s.1 R2⟩⟩
def parE (is : List Nat) (fs : Rho → Tw → Res (List D)) (r : Rho) (t : Tw) : Res (Fl × Rho) := (fs r t).bind fun xs t1 => Fm.lift ((setAll is xs r).map fun r1 => (.nx, r1)) t1
theorem st_par2 {i j : Nat} {x y : Str} {fs : Rho → Tw → Res (List D)} {px py pt pt2 : Pos} {kt k2 : Nat} (hc : X.calm = true) (hN : X.N.Nodup) (hi : X.N[i]? = some x) (hj : X.N[j]? = some y) (hij : i ≠ j)
    (hx : X.env.scope.names.lookup x = some .local) (hy : X.env.scope.names.lookup y = some .local) (ha : PA X [a, b] (tDs P fs))
    (hw : swappedStores [.Tuple [.Name x px, .Name y py] kt pt] (.Tuple [a, b] k2 pt2) X.env = pure (some [x, y])) :
    PS X (.Assign [.Tuple [.Name x px, .Name y py] kt pt] (.Tuple [a, b] k2 pt2) pos) (tS P (parE [i, j] fs)) :=
  psMono (ps_par hc hN hi hj hij hx hy ha hw) fun D σ H ⟨F, r, t, R, h⟩ => ⟨F, r, t, R, h.bind.mono fun ds t' h vs F' H' s R' rv => by
    obtain ⟨p, e, q⟩ := h.lift
    obtain ⟨r1, e1, rfl⟩ := Option.map_eq_some_iff.mp e
    cases rv with
    | nil => simp [setAll] at e1
    | @cons v1 _ d1 _ h1 rv =>
      cases rv with
      | nil => simp [setAll] at e1
      | @cons v2 _ d2 _ h2 rv =>
        cases rv with
        | nil =>
          simp only [setAll] at e1
          split at e1
          · split at e1
            · cases e1
              exact ⟨v1, v2, rfl, q F' _ H' s.1 ((R'.setVal h1).setVal h2)⟩
            · cases e1
          · cases e1
        | cons _ _ =>
          simp only [setAll] at e1
          split at e1
          · split at e1
            · cases e1
            · cases e1
          · cases e1⟩
theorem st_par3 {i j l : Nat} {x y z : Str} {fs : Rho → Tw → Res (List D)} {px py pz pt pt2 : Pos} {kt k2 : Nat} (hc : X.calm = true) (hN : X.N.Nodup) (hi : X.N[i]? = some x) (hj : X.N[j]? = some y) (hl : X.N[l]? = some z) (hij : i ≠ j) (hil : i ≠ l) (hjl : j ≠ l)
    (hx : X.env.scope.names.lookup x = some .local) (hy : X.env.scope.names.lookup y = some .local) (hz : X.env.scope.names.lookup z = some .local) (ha : PA X [a, b, c] (tDs P fs))
    (hw : swappedStores [.Tuple [.Name x px, .Name y py, .Name z pz] kt pt] (.Tuple [a, b, c] k2 pt2) X.env = pure (some [x, y, z])) :
    PS X (.Assign [.Tuple [.Name x px, .Name y py, .Name z pz] kt pt] (.Tuple [a, b, c] k2 pt2) pos) (tS P (parE [i, j, l] fs)) :=
  psMono (ps_par3 hc hN hi hj hl hij hil hjl hx hy hz ha hw) fun D σ H ⟨F, r, t, R, h⟩ => ⟨F, r, t, R, h.bind.mono fun ds t' h vs F' H' s R' rv => by
    obtain ⟨p, e, q⟩ := h.lift
    obtain ⟨r1, e1, rfl⟩ := Option.map_eq_some_iff.mp e
    cases rv with
    | nil => simp [setAll] at e1
    | @cons v1 _ d1 _ h1 rv =>
      cases rv with
      | nil => simp [setAll] at e1
      | @cons v2 _ d2 _ h2 rv =>
        cases rv with
        | nil => simp [setAll] at e1
        | @cons v3 _ d3 _ h3 rv =>
          cases rv with
          | nil =>
            simp only [setAll] at e1
            split at e1
            · split at e1
              · split at e1
                · cases e1
                  exact ⟨v1, v2, v3, rfl, q F' _ H' s.1 (((R'.setVal h1).setVal h2).setVal h3)⟩
                · cases e1
              · cases e1
            · cases e1
          | cons _ _ => simp [setAll] at e1⟩
/-! ### freezing a slot -/
theorem Rel.unOwn {K : PySem.W.Frag} {T : Tn} {F0 H0 F H : Hp} {r : Rho} {t : Tw} {σ : L2.St} {i : Nat} (R : Rel K T F0 H0 F r t σ H) : Rel K T F0 H0 F (r.set i .un) t σ H := by
  have cs : ∀ {j : Nat} {s : Sl}, (r.set i .un)[j]? = some s → s ≠ .un → i ≠ j ∧ r[j]? = some s := fun {j s} q n => by
    by_cases hj : i = j
    · subst hj
      by_cases hi : i < r.length
      · rw [List.getElem?_set_self hi] at q
        exact absurd (Option.some.inj q).symm n
      · rw [List.getElem?_eq_none (by simpa using hi)] at q
        cases q
    · rw [List.getElem?_set_ne hj] at q
      exact ⟨hj, q⟩
  exact ⟨R.toRelH, by simpa using R.len, fun j d h => R.val j d (cs h (by intro z; cases z)).2, fun j d h => R.own j d (cs h (by intro z; cases z)).2, fun j k d e p h1 h2 h3 h4 => R.inj j k d e p (cs h1 (by intro z; cases z)).2 (cs h2 (by intro z; cases z)).2 h3 h4⟩
theorem Rel.asVal {K : PySem.W.Frag} {T : Tn} {F0 H0 F H : Hp} {r : Rho} {t : Tw} {σ : L2.St} {i : Nat} {v : V} {d : D} (R : Rel K T F0 H0 F r t σ H) (e : σ[i]? = some (some v)) (h : Rp K T F v d) : Rel K T F0 H0 F (r.set i (.val d)) t σ H := by
  have hs : σ.set i (some v) = σ := by
    refine List.ext_getElem? fun j => ?_
    by_cases hj : i = j
    · subst hj
      rw [List.getElem?_set_self (List.getElem?_eq_some_iff.mp e).1, e]
    · rw [List.getElem?_set_ne hj]
  have := R.setVal (i := i) h
  rw [hs] at this
  exact this
theorem Rel.noOwn {K : PySem.W.Frag} {T : Tn} {F0 H0 F H : Hp} {r : Rho} {t : Tw} {σ : L2.St} {i : Nat} {d : D} {p : Addr} (R : Rel K T F0 H0 F r t σ H) (e : r[i]? = some (.own d)) (e1 : σ[i]? = some (some (.ref p))) :
    ∀ (j : Nat) (e' : D), (r.set i .un)[j]? = some (.own e') → σ[j]? ≠ some (some (.ref p)) := fun j e' h z => by
  by_cases hj : i = j
  · subst hj
    rw [List.getElem?_set_self (List.getElem?_eq_some_iff.mp e).1] at h
    cases h
  · rw [List.getElem?_set_ne hj] at h
    exact hj (R.inj i j d e' p e h e1 z)
theorem set_set {r : Rho} {i : Nat} {a b : Sl} : (r.set i a).set i b = r.set i b := List.set_set ..
def frzE (i : Nat) (r : Rho) (t : Tw) : Res (Fl × Rho) := match r[i]? with
    | some (.own d) => .ok (.nx, r.set i (.val d)) t
    | some (.val _) => .ok (.nx, r) t
    | _ => .bad
theorem ss_frz {i : Nat} (h2 : PSs X rest (tS P g)) : PSs X rest (tS P (consE (frzE i) g)) := by
  refine ⟨fun pins s σ H D I ⟨F, r, t, R, h⟩ => ?_⟩
  unfold consE frzE at h
  cases e : r[i]? with
  | none =>
    rw [e] at h
    exact h.elim
  | some sl =>
    rw [e] at h
    cases sl with
    | un => exact h.elim
    | val d => exact h2.run pins s σ H D I ⟨F, r, t, R, h⟩
    | own d =>
      have h : Aft P F (g (r.set i (.val d)) t) (aftS P F D) := h
      obtain ⟨p, e1, o⟩ := R.own i d e
      have no := R.noOwn e e1
      cases d with
      | lst ds =>
        obtain ⟨vs, h1, hz, h3⟩ := o.at_
        have s2 : Same F (L2.upd F p (.lst vs)) := same_new o.fr
        have R2 := (R.unOwn (i := i)).freeze h1 (by intro _ z; cases z) o.fr o.h0 o.n1 o.n2 no
        have R3 := R2.asVal e1 (.lst upd_same hz (h3.mono s2))
        rw [set_set] at R3
        exact h2.run pins s σ H D I ⟨_, _, t, R3, (h.up s2).mono fun p t2 q => q.up s2⟩
      | dct es =>
        obtain ⟨kvs, h1, hz, h3⟩ := o.at_
        obtain ⟨od, I2⟩ := I.lock h1 trivial
        have s2 : Same F (L2.upd F p (.frz od (.dK kvs))) := same_new o.fr
        have R2 := (R.unOwn (i := i)).lockF (od := od) h1 o.fr o.h0 o.n1 o.n2 no
        have R3 := R2.asVal e1 (.dct upd_same hz (h3.mono s2))
        rw [set_set] at R3
        exact h2.run pins s σ _ D I2 ⟨_, _, t, R3, (h.up s2).mono fun p t2 q => q.up s2⟩
      | _ => exact o.at_.elim
/-! ### an object of ours is changed -/
theorem Rel.updOwn {F H : Hp} {r : Rho} {t : Tw} {σ : L2.St} {i : Nat} {d d' : D} {p : Addr} {o : HO} (R : RelP P F r t σ H) (e : r[i]? = some (.own d)) (e1 : σ[i]? = some (some (.ref p))) (h : OwnAt P.K P.T F (L2.upd H p o) p d') :
    RelP P F (r.set i (.own d')) t σ (L2.upd H p o) := by
  obtain ⟨p', e2, w⟩ := R.own i d e
  rw [e1] at e2
  cases e2
  have hi : i < r.length := (List.getElem?_eq_some_iff.mp e).1
  obtain ⟨ob, ho, _⟩ := w.at_.obj
  have hNT : NT o := by
    obtain ⟨o2, z, n⟩ := h.obj
    rw [upd_same] at z
    cases z
    exact n
  have cs : ∀ {j : Nat} {s : Sl}, (r.set i (.own d'))[j]? = some s → (i = j ∧ s = .own d') ∨ (i ≠ j ∧ r[j]? = some s) := fun {j s} q => by
    by_cases hj : i = j
    · subst hj
      rw [List.getElem?_set_self hi] at q
      exact .inl ⟨rfl, (Option.some.inj q).symm⟩
    · rw [List.getElem?_set_ne hj] at q
      exact .inr ⟨hj, q⟩
  have nF : ∀ b u, F b = some u → b ≠ p := fun b u h e => by
    rw [e, w.fr] at h
    cases h
  refine ⟨⟨fun b u h => ?_, R.new, R.base, fun b u h m1 m2 m3 => ?_, fun b h => R.had b (h.upd hNT).1, ⟨?_, ?_, R.tw.ne, R.tw.small⟩, R.tF1, R.tF2, R.sc, ?_, R.nt⟩, by simpa using R.len, fun j e2 h2 => ?_, fun j e2 h2 => ?_, fun j k e2 e3 q h1 h2 h3 h4 => ?_⟩
  · rw [upd_ne (nF b u h)]
    exact R.sub b u h
  · have : b ≠ p := fun e => w.h0.no (by rw [← e]; exact h) m3
    rw [upd_ne this]
    exact R.old b u h m1 m2 m3
  · rw [upd_ne (Ne.symm w.n1)]
    exact R.tw.a
  · rw [upd_ne (Ne.symm w.n2)]
    exact R.tw.b
  · have w2 := w.at_
    cases d with
    | lst ds =>
      obtain ⟨vs, h1, _⟩ := w2
      exact tabs_lst R.tabs h1
    | dct ds =>
      obtain ⟨vs, h1, _⟩ := w2
      exact tabs_dK R.tabs h1
    | _ => exact w2.elim
  · rcases cs h2 with ⟨rfl, z⟩ | ⟨hj, z⟩
    · cases z
    · exact R.val j e2 z
  · rcases cs h2 with ⟨rfl, z⟩ | ⟨hj, z⟩
    · cases z
      exact ⟨p, e1, ⟨w.fr, w.n1, w.n2, w.h0, h⟩⟩
    · obtain ⟨q, e4, w2⟩ := R.own j e2 z
      have nq : q ≠ p := fun z2 => by
        subst z2
        exact hj (R.inj i j d e2 q e z e1 e4)
      exact ⟨q, e4, ⟨w2.fr, w2.n1, w2.n2, w2.h0, w2.at_.keep (Same.refl F) fun o h => by rw [upd_ne nq]; exact h⟩⟩
  · have own : ∀ {j : Nat} {e2 : D}, (r.set i (.own d'))[j]? = some (.own e2) → ∃ e3, r[j]? = some (.own e3) := fun {j e2} q => by
      rcases cs q with ⟨rfl, z⟩ | ⟨_, z⟩
      · exact ⟨d, e⟩
      · exact ⟨e2, z⟩
    obtain ⟨e4, z1⟩ := own h1
    obtain ⟨e5, z2⟩ := own h2
    exact R.inj j k e4 e5 q z1 z2 h3 h4
def borE (i : Nat) (r : Rho) (t : Tw) : Res D := match r[i]? with
    | some (.val d) => .ok d t
    | some (.own d) => .ok d t
    | _ => .bad
/-- the slot itself -/
theorem pe_slot {i : Nat} {x : Str} (hN : X.N[i]? = some x) (hv : Vis X.env.scope x) (hd : (x == ("__debug__" : Str)) = false) (hcd : (x == ("__classdict__" : Str)) = false) : PE X (.Name x pos) (tVar i) := pe_var hN hv hd hcd
def appE (i : Nat) (fa : Rho → Tw → Res D) (r : Rho) (t : Tw) : Res (Fl × Rho) := match r[i]? with
    | some (.own (.lst xs)) => (fa r t).bind fun x t1 => if decide (xs.length < 16777216) then .ok (.nx, r.set i (.own (.lst (xs ++ [x])))) t1 else .bad
    | _ => .bad
/-- the list that a slot has -/
theorem own_lst {F H : Hp} {r : Rho} {t : Tw} {σ : L2.St} {i : Nat} {xs : List D} (R : RelP P F r t σ H) (e : r[i]? = some (.own (.lst xs))) : ∃ p vs, σ[i]? = some (some (.ref p)) ∧ H p = some (.lst vs) ∧ vs.length ≤ sizeLine ∧ RpL P.K P.T F vs xs := by
  obtain ⟨p, e1, w⟩ := R.own i _ e
  obtain ⟨vs, h1, h2, h3⟩ := w.at_
  exact ⟨p, vs, e1, h1, h2, h3⟩
theorem own_dct {F H : Hp} {r : Rho} {t : Tw} {σ : L2.St} {i : Nat} {xs : List (Key × D)} (R : RelP P F r t σ H) (e : r[i]? = some (.own (.dct xs))) : ∃ p vs, σ[i]? = some (some (.ref p)) ∧ H p = some (.dK vs) ∧ vs.length ≤ sizeLine ∧ RpK P.K P.T F vs xs := by
  obtain ⟨p, e1, w⟩ := R.own i _ e
  obtain ⟨vs, h1, h2, h3⟩ := w.at_
  exact ⟨p, vs, e1, h1, h2, h3⟩
theorem appE_ok {i : Nat} {F : Hp} {r : Rho} {t : Tw} {Z : Fl × Rho → Tw → Prop} (h : Aft P F (appE i fa r t) Z) : ∃ xs, r[i]? = some (.own (.lst xs)) ∧ Aft P F ((fa r t).bind fun x t1 => if decide (xs.length < 16777216) then .ok (.nx, r.set i (.own (.lst (xs ++ [x])))) t1 else .bad) Z := by
  unfold appE at h
  split at h
  · rename_i xs e
    exact ⟨xs, e, h⟩
  · exact h.elim
theorem st_app {i : Nat} {y : Str} (hK : X.K = P.K) (hN : X.N[i]? = some y) (hv : Vis X.env.scope y) (hd : (y == ("__debug__" : Str)) = false) (hcd : (y == ("__classdict__" : Str)) = false) (ha : PE X a (tD P fa)) (hline : (p1.endLine == p2.line) = true)
    (hs : starEach [a] X.env = (false, eval a X.env) :: starEach [] X.env) {q : Pos} : PS X (.Expr (.Call (.Attribute (.Name y q) "append" p1) [a] [] p2) pos) (tS P (appE i fa)) := by
  have hfew : ((backTo p2 (starEach [a] X.env)).all (fun x => !x.1) && (backToKw p2 (keywordEach [] X.env)).all (fun x => x.1.isSome)
      && decide (([a] : List Expr).length + ([] : List Keyword).length + (if ([] : List Keyword).isEmpty then 0 else 1) < 30)) = true := by
    rw [hs]
    rfl
  refine psMono (ps_expr (pe_bm PySem.F.plainAttrs_list PySem.F.slot_list_append PySem.F.type_list_append mt_append (pe_slot hN hv hd hcd) (pa_cons ha pa_nil hs) rfl hfew hline hs rfl) rfl) fun D σ H ⟨F, r, t, R, h⟩ => ?_
  obtain ⟨xs, e, h⟩ := appE_ok h
  obtain ⟨p, vs, e1, h1, h2, h3⟩ := own_lst R e
  refine ⟨_, e1, .inl ⟨rfl, vs, SqL.of h1⟩, F, r, t, R, h.bind.mono fun d t' h v F' H' s R' rv => ?_⟩
  split at h
  · rename_i hl
    have hl := of_decide_eq_true hl
    obtain ⟨p', vs', e1', h1', h2', h3'⟩ := own_lst R' e
    rw [e1] at e1'
    cases e1'
    have hz : vs'.length < sizeLine := by
      rw [h3'.length, sizeLine_eq]
      exact hl
    refine ⟨p, vs', v, rfl, rfl, h1', hz, h F' σ _ s.1 (Rel.updOwn R' e e1 ⟨_, upd_same, ?_, h3'.append (.cons rv .nil)⟩)⟩
    rw [List.length_append, List.length_singleton]
    omega
  · exact h.elim
def putE (i : Nat) (fk fa : Rho → Tw → Res D) (r : Rho) (t : Tw) : Res (Fl × Rho) := match r[i]? with
    | some (.own (.dct kvs)) => (fa r t).bind fun x t1 => (fk r t1).bind fun y t2 => (match keyD y with
      | some k => if decide (kvs.length < 16777216) then .ok (.nx, r.set i (.own (.dct (putD kvs k x)))) t2 else .bad
      | none => .bad)
    | _ => .bad
theorem putE_ok {i : Nat} {fk : Rho → Tw → Res D} {F : Hp} {r : Rho} {t : Tw} {Z : Fl × Rho → Tw → Prop} (h : Aft P F (putE i fk fa r t) Z) : ∃ kvs, r[i]? = some (.own (.dct kvs)) ∧ Aft P F ((fa r t).bind fun x t1 => (fk r t1).bind fun y t2 => (match keyD y with
      | some k => if decide (kvs.length < 16777216) then .ok (.nx, r.set i (.own (.dct (putD kvs k x)))) t2 else .bad
      | none => .bad)) Z := by
  unfold putE at h
  split at h
  · rename_i xs e
    exact ⟨xs, e, h⟩
  · exact h.elim
theorem st_put {i : Nat} {y : Str} {q : Pos} (hu : X.A.units + 200 < cLine) (hN : X.N[i]? = some y) (hv : Vis X.env.scope y) (hd : (y == ("__debug__" : Str)) = false) (hcd : (y == ("__classdict__" : Str)) = false) (hb : PE X b (tB P fb)) (ha : PE X a (tD P fa))
    (hs : swapsWith a (some (.Subscript (.Name y q) b p1)) pos.line X.env = pure false) : PS X (.Assign [.Subscript (.Name y q) b p1] a pos) (tS P (putE i fb fa)) := by
  refine psMono (ps_dput (by omega) (pe_slot hN hv hd hcd) hb ha hs) fun D σ H ⟨F, r, t, R, h⟩ => ?_
  obtain ⟨xs, e, h⟩ := putE_ok h
  obtain ⟨p, vs, e1, h1, h2, h3⟩ := own_dct R e
  refine ⟨F, r, t, R, h.bind.mono fun d t1 h v F1 H1 s1 R1 rv => ⟨_, e1, F1, r, t1, R1, (h.up s1.1).bind.mono fun dk t2 h w F2 H2 s2 R2 rw' => ?_⟩⟩
  cases ek : keyD dk with
  | none =>
    rw [ek] at h
    exact h.elim
  | some k =>
    rw [ek] at h
    obtain rfl := key_of' R2 rw' ek
    have h : Aft P F1 (if decide (xs.length < 16777216) then .ok (.nx, r.set i (.own (.dct (putD xs k d)))) t2 else .bad) (aftS P F D) := h
    split at h
    · rename_i hl
      have hl := of_decide_eq_true hl
      obtain ⟨p', vs', e1', h1', h2', h3'⟩ := own_dct R2 e
      rw [e1] at e1'
      cases e1'
      have hz : vs'.length < sizeLine := by
        rw [h3'.length, sizeLine_eq]
        exact hl
      refine ⟨p, _, rfl, DPut.k h1' hz, h F2 σ _ (s1.1.trans s2.1) (Rel.updOwn R2 e e1 ⟨_, upd_same, ?_, h3'.put k (rv.mono s2.1)⟩)⟩
      have := length_putK vs' k v
      omega
    · exact h.elim
def putLE (i : Nat) (fk fa : Rho → Tw → Res D) (r : Rho) (t : Tw) : Res (Fl × Rho) := match r[i]? with
    | some (.own (.lst xs)) => (fa r t).bind fun x t1 => (fk r t1).bind fun y t2 => (match y with
      | .int j => (match L2.ixN xs.length j with
        | some n => .ok (.nx, r.set i (.own (.lst (xs.set n x)))) t2
        | none => .bad)
      | _ => .bad)
    | _ => .bad
theorem putLE_ok {i : Nat} {fk : Rho → Tw → Res D} {F : Hp} {r : Rho} {t : Tw} {Z : Fl × Rho → Tw → Prop} (h : Aft P F (putLE i fk fa r t) Z) : ∃ xs, r[i]? = some (.own (.lst xs)) ∧ Aft P F ((fa r t).bind fun x t1 => (fk r t1).bind fun y t2 => (match y with
      | .int j => (match L2.ixN xs.length j with
        | some n => .ok (.nx, r.set i (.own (.lst (xs.set n x)))) t2
        | none => .bad)
      | _ => .bad)) Z := by
  unfold putLE at h
  split at h
  · rename_i xs e
    exact ⟨xs, e, h⟩
  · exact h.elim
theorem st_putL {i : Nat} {y : Str} {q : Pos} (hN : X.N[i]? = some y) (hv : Vis X.env.scope y) (hd : (y == ("__debug__" : Str)) = false) (hcd : (y == ("__classdict__" : Str)) = false) (hb : PE X b (tB P fb)) (ha : PE X a (tD P fa))
    (hasg : ∀ v, assign (.Subscript (.Name y q) b p1) X.env v = (do
      let ov ← holding [v] (eval (.Name y q) X.env)
      let iv ← holding [v, ov] (eval b X.env)
      standAt p1
      holding [v, ov, iv] (setItem ov iv v)
      release [v, ov, iv] []))
    (hs : swapsWithSole [.Subscript (.Name y q) b p1] a pos.line X.env = pure false) (hw : swappedStores [.Subscript (.Name y q) b p1] a X.env = pure none) : PS X (.Assign [.Subscript (.Name y q) b p1] a pos) (tS P (putLE i fb fa)) := by
  refine psMono (ps_asg ha (pg_sub (pe_slot hN hv hd hcd) hb set_list hasg) hs hw rfl) fun D σ H ⟨F, r, t, R, h⟩ => ?_
  obtain ⟨xs, e, h⟩ := putLE_ok h
  obtain ⟨p, vs, e1, h1, h2, h3⟩ := own_lst R e
  refine ⟨F, r, t, R, h.bind.mono fun d t1 h v F1 H1 s1 R1 rv => ⟨_, e1, F1, r, t1, R1, (h.up s1.1).bind.mono fun dk t2 h w F2 H2 s2 R2 rw' => ?_⟩⟩
  cases dk with
  | int j =>
    obtain rfl := rw'.int R2
    obtain ⟨p', vs', e1', h1', h2', h3'⟩ := own_lst R2 e
    rw [e1] at e1'
    cases e1'
    have h : Aft P F1 (match L2.ixN xs.length j with
        | some n => .ok (.nx, r.set i (.own (.lst (xs.set n d)))) t2
        | none => .bad) (aftS P F D) := h
    cases en : L2.ixN xs.length j with
    | none =>
      rw [en] at h
      exact h.elim
    | some n =>
      rw [en] at h
      refine ⟨p, vs', j, n, rfl, rfl, h1', by rw [h3'.length]; exact en, ?_⟩
      exact h F2 σ _ (s1.1.trans s2.1) (Rel.updOwn R2 e e1 ⟨_, upd_same, by rw [List.length_set]; exact h2', h3'.set (rv.mono s2.1) n⟩)
  | _ => exact (show False from h).elim
/-! ### name op= e, of ints -/
def augE (i : Nat) (op : Operator) (fa : Rho → Tw → Res D) (r : Rho) (t : Tw) : Res (Fl × Rho) := match r[i]? with
    | some (.val x) => (fa r t).bind fun y t1 => match x, y with
      | .int _, .int _ => Fm.lift ((binD op x y).map fun z => (.nx, r.set i (.val z))) t1
      | _, _ => .bad
    | _ => .bad
theorem augE_ok {i : Nat} {op : Operator} {F : Hp} {r : Rho} {t : Tw} {Z : Fl × Rho → Tw → Prop} (h : Aft P F (augE i op fa r t) Z) : ∃ x, r[i]? = some (.val x) ∧ Aft P F ((fa r t).bind fun y t1 => match x, y with
      | .int _, .int _ => Fm.lift ((binD op x y).map fun z => (.nx, r.set i (.val z))) t1
      | _, _ => .bad) Z := by
  unfold augE at h
  split at h
  · rename_i xs e
    exact ⟨xs, e, h⟩
  · exact h.elim
/-- the rule of an in-place operator upon ints -/
def IpS (X : Cx) (op : Operator) : Prop := ∃ (C : Int → Int → Prop) (g : Int → Int → Int), OpR X (inplaceOp op) (rI C fun i j => .int (g i j)) ∧ ∀ i j d, binD op (.int i) (.int j) = some d → C i j ∧ d = .int (g i j)
theorem ip_of {op : Operator} (h : op = .Add ∨ op = .Sub ∨ op = .Mult ∨ op = .FloorDiv ∨ op = .Mod) : IpS X op := by
  rcases h with rfl | rfl | rfl | rfl | rfl
  · exact ⟨fun _ _ => True, fun i j => i + j, opI fun _ _ _ _ _ _ _ _ q => iadd_int q, fun i j d e => by cases e; exact ⟨trivial, rfl⟩⟩
  · exact ⟨fun _ _ => True, fun i j => i - j, opI fun _ _ _ _ _ _ _ _ q => isub_int q, fun i j d e => by cases e; exact ⟨trivial, rfl⟩⟩
  · refine ⟨CMulW, fun i j => i * j, opI fun _ _ _ _ _ _ _ hc q => imul_int q hc.ok, fun i j d e => ?_⟩
    simp only [binD, mulD] at e
    split at e
    · rename_i h
      cases e
      exact ⟨(of_decide_eq_true h : i.natAbs.log2 + j.natAbs.log2 < 1000000), rfl⟩
    · cases e
  · refine ⟨CDivA, fun i j => i.fdiv j, opI fun i j _ _ _ _ _ hc q => ifloordiv_int hc.1 q (.inl (PyProof.noPylong_of_log2 hc.2)), fun i j d e => ?_⟩
    simp only [binD, fdivD] at e
    split at e
    · rename_i h
      cases e
      have h2 := Bool.and_eq_true_iff.mp h
      exact ⟨⟨of_decide_eq_true h2.1, of_decide_eq_true h2.2⟩, rfl⟩
    · cases e
  · refine ⟨fun _ j => j ≠ 0, fun i j => i.fmod j, opI fun i j _ _ _ _ _ hc q => imod_int hc q, fun i j d e => ?_⟩
    simp only [binD, modD] at e
    split at e
    · cases e
    · rename_i h
      cases e
      exact ⟨h, rfl⟩
theorem st_aug {i : Nat} {y : Str} {q : Pos} {op : Operator} (hop : IpS X op) (hN : X.N.Nodup) (hi : X.N[i]? = some y) (hx : Loc X.env.scope y) (hf : X.fn y = true ∨ X.env.scope.names.lookup y = some .local) (ha : PE X a (tB P fa)) :
    PS X (.AugAssign (.Name y q) op a pos) (tS P (augE i op fa)) := by
  obtain ⟨C, g, ho, hg⟩ := hop
  refine psMono (ps_aug hN hi hx ha ho hf) fun D σ H ⟨F, r, t, R, h⟩ => ?_
  obtain ⟨x, e, h⟩ := augE_ok h
  obtain ⟨v, e1, rv⟩ := R.val i x e
  refine ⟨v, e1, F, r, t, R, h.bind.mono fun d t' h w F' H' s R' rw' => ?_⟩
  cases x with
  | int m =>
    cases d with
    | int n =>
      obtain ⟨p, e2, q⟩ := Aft.lift h
      obtain ⟨z, e3, rfl⟩ := Option.map_eq_some_iff.mp e2
      obtain ⟨c, rfl⟩ := hg m n z e3
      cases rv
      exact ⟨m, n, rfl, rw'.int R', c, q F' _ H' s.1 (R'.setVal (.int _))⟩
    | _ => exact (show False from h).elim
  | _ => exact (show False from h).elim
end
end Fm

/-! ### loops, starred targets, raise -/
namespace Fm
open PySem PySem.Spec PyProof.Rows L2
section
variable {P : Pm} {X : Cx} {a b c : Expr} {pos p1 p2 : Pos} {fa fb fc : Rho → Tw → Res D} {st : Stmt} {rest : List Stmt} {f g : Rho → Tw → Res (Fl × Rho)}
def forE (tg : Tg) (fi : Rho → Tw → Res (List D)) (f : Rho → Tw → Res (Fl × Rho)) (r : Rho) (t : Tw) : Res (Fl × Rho) := (fi r t).bind fun xs t1 => loopF (fun d r t => match setT tg d r with
    | some r1 => f r1 t
    | none => .bad) xs r t1
theorem for_turn {tg : Tg} {d : D} {ds : List D} {F : Hp} {r : Rho} {t : Tw} {D' : Ends} (h : Aft P F (loopF (fun d r t => match setT tg d r with
    | some r1 => f r1 t
    | none => .bad) (d :: ds) r t) (aftS P F D')) : ∃ r1, setT tg d r = some r1 ∧ Aft P F (f r1 t) fun p t1 => match p with
      | (.nx, r2) => Aft P F (loopF (fun d r t => match setT tg d r with
        | some r1 => f r1 t
        | none => .bad) ds r2 t1) (aftS P F D')
      | (.cont, r2) => Aft P F (loopF (fun d r t => match setT tg d r with
        | some r1 => f r1 t
        | none => .bad) ds r2 t1) (aftS P F D')
      | (.brk, r2) => aftS P F D' (.nx, r2) t1
      | (.ret d, r2) => aftS P F D' (.ret d, r2) t1 := by
  simp only [loopF] at h
  cases e : setT tg d r with
  | none =>
    rw [e] at h
    exact h.elim
  | some r1 =>
    rw [e] at h
    refine ⟨r1, rfl, h.bind.mono fun p t1 h => ?_⟩
    obtain ⟨fl, r2⟩ := p
    cases fl with
    | nx => exact h
    | cont => exact h
    | brk => exact h
    | ret d => exact h
theorem st_for {tg iter : Expr} {tt : Tg} {body : List Stmt} {fi : Rho → Tw → Res (List D)} (hp : PassesOwn (model X.prog X.w) X.A X.env X.xe) (hc : X.calm = true) (hi : PI X tg iter (tI P true fi)) (hg : PG X tg (gT P tt)) (hb : PSs X body (tS P f))
    (hs : ∀ x, foldedSetIterable iter X.env x = pure x) : PS X (.For tg iter body [] pos) (tS P (forE tt fi f)) := by
  refine psMono (ps_for hp hc hi hg hb hs) fun D σ H ⟨F, r, t, R, h⟩ => ⟨F, r, t, R, h.bind.mono fun ds t1 h J F1 H1 s1 R1 w => ?_⟩
  have w : WD P J (Same F1) F1 ds := w
  refine ⟨fun i m σ H => m = ds.length - i ∧ i ≤ ds.length ∧ ∃ F2 r2 t2, Same F1 F2 ∧ RelP P F2 r2 t2 σ H ∧ Aft P F2 (loopF (fun d r t => match setT tt d r with
    | some r1 => f r1 t
    | none => .bad) (ds.drop i) r2 t2) (aftS P F2 D), ⟨ds.length, by simp, Nat.zero_le _, F1, r, t1, Same.refl F1, R1, (h.up s1.1).mono fun p t2 q => q.up s1.1⟩, fun i m σ2 H2 hW => ?_⟩
  obtain ⟨rfl, hi, F2, r2, t2, s2, R2, h⟩ := hW
  have hG : Same F1 H2 := s2.trans R2.sub
  by_cases hlt : i < ds.length
  · refine .inr ⟨w.goes i H2 hlt hG, fun σ' H' => ∃ F2 r2 t2, Same F1 F2 ∧ RelP P F2 r2 t2 σ' H' ∧ Aft P F2 (loopF (fun d r t => match setT tt d r with
      | some r1 => f r1 t
      | none => .bad) (ds.drop (i + 1)) r2 t2) (aftS P F2 D), fun σ' H' hn => ⟨_, by omega, rfl, hlt, hn⟩, fun x H' hy => ?_⟩
    have hdi : ds[i]? = some ds[i] := List.getElem?_eq_getElem hlt
    rw [List.drop_eq_getElem_cons hlt] at h
    obtain ⟨r3, e3, h⟩ := for_turn h
    obtain ⟨F3, s3, R3, rx⟩ : ∃ F3, Same F2 F3 ∧ RelP P F3 r2 t2 σ2 H' ∧ Rp P.K P.T F3 x ds[i] := by
      rcases w.yields i H2 x H' _ hdi hG hy with ⟨rfl, rx⟩ | ⟨p, xs, es', rfl, hp, rfl, ed, z, qx⟩
      · exact ⟨F2, Same.refl F2, R2, rx.mono s2⟩
      · have b := R2.toRelH.newF (o := .tup xs) hp
        refine ⟨_, b.base, R2.step b, ?_⟩
        rw [ed]
        exact .tup (SqT.of upd_same) z (qx.mono (s2.trans b.base))
    refine ⟨F3, r2, t2, ds[i], r3, R3, rx, e3, fun σ4 R4 _ => ⟨F3, r3, t2, R4, (h.up s3).mono fun p t4 h => ?_⟩⟩
    obtain ⟨fl, r4⟩ := p
    cases fl with
    | nx => exact fun F5 σ5 H5 s5 R5 => ⟨F5, r4, t4, (s2.trans s3).trans s5, R5, ((show Aft P F2 _ (aftS P F2 D) from h).up (s3.trans s5)).mono fun p t q => q.up (s3.trans s5)⟩
    | cont => exact fun F5 σ5 H5 s5 R5 => ⟨F5, r4, t4, (s2.trans s3).trans s5, R5, ((show Aft P F2 _ (aftS P F2 D) from h).up (s3.trans s5)).mono fun p t q => q.up (s3.trans s5)⟩
    | brk => exact fun F5 σ5 H5 s5 R5 => h F5 σ5 H5 (s3.trans s5) R5
    | ret d => exact fun v F5 H5 s5 R5 rv => h v F5 H5 (s3.trans s5) R5 rv
  · have ei : i = ds.length := by omega
    subst ei
    refine .inl ⟨w.stops H2 hG, ?_⟩
    rw [List.drop_length] at h
    exact h F2 σ2 H2 (Same.refl F2) R2
theorem st_while {body : List Stmt} (hp : PassesOwn (model X.prog X.w) X.A X.env X.xe) (hc : PT X c (tT P fc)) (hb : PSs X body (tS P f)) : PS X (.While c body [] pos) (tS P (loopW fc f)) := by
  refine psMono (ps_while hp hc hb) fun D σ H ⟨F, r, t, R, h⟩ => ?_
  obtain ⟨n, hn⟩ := loopW_not (c := fc) (f := f) (r := r) (t := t) fun e => by
    rw [e] at h
    exact h
  refine ⟨fun m σ H => ∃ F2 r2 t2 v, RelP P F2 r2 t2 σ H ∧ loopN fc f m r2 t2 = some v ∧ Aft P F2 v (aftS P F2 D), ⟨n, F, r, t, _, R, hn, h⟩, fun m σ2 H2 hW => ?_⟩
  obtain ⟨F2, r2, t2, v, R2, hm, h⟩ := hW
  cases m with
  | zero => simp [loopN] at hm
  | succ m =>
    simp only [loopN] at hm
    refine ⟨F2, r2, t2, R2, ?_⟩
    cases ec : fc r2 t2 with
    | exc k t3 =>
      rw [ec] at hm
      cases hm
      exact h
    | bad =>
      rw [ec] at hm
      cases hm
      exact h
    | ok x t3 =>
      rw [ec] at hm
      dsimp only at hm
      cases ex : truD x with
      | none =>
        rw [ex] at hm
        cases hm
        exact h.elim
      | some k =>
        rw [ex] at hm
        refine ⟨k, ex, fun F3 H3 s3 R3 => ?_⟩
        cases k with
        | false =>
          cases hm
          rw [if_neg (by decide)]
          exact h F3 σ2 H3 s3.1 R3
        | true =>
          rw [if_pos rfl]
          dsimp only at hm
          refine ⟨fun σ' H' => ∃ F2 r2 t2 v, RelP P F2 r2 t2 σ' H' ∧ loopN fc f m r2 t2 = some v ∧ Aft P F2 v (aftS P F2 D), fun σ' H' q => ⟨m, by omega, q⟩, F3, r2, t3, R3, ?_⟩
          cases ef : f r2 t3 with
          | exc k t4 =>
            rw [ef] at hm
            cases hm
            exact Aft.up h s3.1
          | bad =>
            rw [ef] at hm
            cases hm
            exact h
          | ok p t4 =>
            rw [ef] at hm
            obtain ⟨fl, r4⟩ := p
            cases fl with
            | nx => exact fun F5 σ5 H5 s5 R5 => ⟨F5, r4, t4, v, R5, hm, (h.up (s3.1.trans s5)).mono fun p t q => q.up (s3.1.trans s5)⟩
            | cont => exact fun F5 σ5 H5 s5 R5 => ⟨F5, r4, t4, v, R5, hm, (h.up (s3.1.trans s5)).mono fun p t q => q.up (s3.1.trans s5)⟩
            | brk =>
              cases hm
              exact fun F5 σ5 H5 s5 R5 => h F5 σ5 H5 (s3.1.trans s5) R5
            | ret d =>
              cases hm
              exact fun v F5 H5 s5 R5 rv => h v F5 H5 (s3.1.trans s5) R5 rv
/-! ### x, *y = e -/
theorem star_unpack {prog : Program} {w : World} {A : Around} {E : Value → Shared → Prop} {s : Shared} {l : Addr} {y : Value} {ys : List Value} {Q : List Value → Shared → Prop} (hl : IsTup s.heap l (y :: ys).toArray) (hh : A.handled = none) (hz : ys.length < 16384)
    (h : ∀ (h' : Heap) (tk : Nat), (∀ b o, s.heap.get? b = some o → h'.get? b = some o) → Q [y, .ref h'.objs.size] { s with heap := h'.push { cls := .type "list", data := .seq ys.toArray }, toks := tk }) :
    wpAny (model prog w) A (unpackItems (.ref l) 2 (some 1)) Q E s := by
  have hlt : l ≠ s.heap.objs.size := let ⟨_, ho, _⟩ := hl; Nat.ne_of_lt (Heap.lt_size ho)
  have iterable : ∀ {R : Bool → Shared → Prop}, R false s → wpAny (model prog w) A (notIterableAtAll (.ref l)) R E s := fun q => wpAny_bind (wpAny_specialOf hl.typeIs slot_tuple_iter.lookup (wpAny_pure q))
  unfold unpackItems
  refine wpAny_bind (iterable ?_)
  rw [if_neg Bool.false_ne_true]
  refine wpAny_bind (wpAny_holding (iter_tuple hl (?_)))
  refine wpAny_bind (wpAny_holding (draw_tuple hlt 1 0 _ _ ⟨_, Heap.get?_push_size _ rfl, rfl, rfl⟩ (hl.push _) (by simp) fun h₁ hit₁ hs₁ => ?_))
  have hl₁ : IsTup h₁ l (y :: ys).toArray := (hl.push _).extBut hs₁.extBut hlt
  rw [Nat.zero_add] at hit₁
  have hit₁' := hit₁
  obtain ⟨oi, hoi, _⟩ := hit₁'
  have hl₁' := hl₁
  obtain ⟨ol, hol, _⟩ := hl₁'
  refine wpAny_bind (wpAny_holding (PySem.W.kun_collect (s := { s with heap := h₁ }) (T := "tuple_iterator") (.inr (.inr (.inr rfl))) (Walks.tuple (A := A.in1) hh s.heap.objs.size l hlt (y :: ys).toArray) (fun j u st => st.1.typeIs) (k := 1) (by simp) ⟨hit₁, hl₁⟩ (Heap.lt_size hoi) (Heap.lt_size hol) (fun h₂ tk hk => ?_) (by rw [sizeLine_eq]; simp; omega)))
  show wpAny _ _ (newList (ys.take (ys.length - 0)) >>= fun d => pure ([y] ++ [d] ++ ys.drop (ys.length - 0))) _ _ _
  have e1 : ys.take (ys.length - 0) = ys := by simp
  have e2 : ys.drop (ys.length - 0) = [] := by simp
  rw [e1, e2]
  have he : ∀ b o, s.heap.get? b = some o → h₂.get? b = some o := fun b o e => by
    have nb : b ≠ s.heap.objs.size := Nat.ne_of_lt (Heap.lt_size e)
    exact hk b o nb (hs₁.extBut b o nb (Heap.get?_push_of_some _ e))
  refine wpAny_bind (wpAny_newList (wpAny_pure ?_) (by rw [sizeLine_eq]; omega))
  exact h h₂ tk he
def starE (i j : Nat) (fa : Rho → Tw → Res D) (r : Rho) (t : Tw) : Res (Fl × Rho) := (fa r t).bind fun x t1 => match x with
    | .tup (y :: ys) => if decide (i < r.length) && decide (j < r.length) && decide (ys.length < 16384) then .ok (.nx, (r.set i (.val y)).set j (.val (.lst ys))) t1 else .bad
    | _ => .bad
def gSt (P : Pm) (i j : Nat) : TG := fun v σ H Q => ∃ F r t y ys, RelP P F r t σ H ∧ Rp P.K P.T F v (.tup (y :: ys)) ∧ ys.length < 16384 ∧ ∀ F' σ' H', Same F F' → RelP P F' ((r.set i (.val y)).set j (.val (.lst ys))) t σ' H' → Q σ' H'
theorem g_star {i j : Nat} {x y : Str} {k : Nat} {q1 q2 q3 : Pos} (hK : X.K = P.K) (hc : X.calm = true) (hN : X.N.Nodup) (hi : X.N[i]? = some x) (hj : X.N[j]? = some y) (hx : Loc X.env.scope x) (hy : Loc X.env.scope y)
    (hfx : X.fn x = true ∨ X.env.scope.names.lookup x = some .local) (hfy : X.fn y = true ∨ X.env.scope.names.lookup y = some .local) : PG X (.Tuple [.Name x q1, .Starred (.Name y q2) q3] k pos) (gSt P i j) := by
  refine ⟨fun pins s σ H v u Q I rv h => ?_⟩
  obtain ⟨F, r, t, d, ds, R, rd, hl, q⟩ := h
  cases rd with
  | @tup p xs _ h1 z h2 =>
  cases h2 with
  | @cons v1 vs _ _ r1 r2 =>
  cases rv
  have h1' : SqT X.K H p (v1 :: vs) := by
    rw [hK]
    exact sqT_mono R.sub h1
  obtain ⟨its, rv, ht, hz⟩ := I.tuple h1'
  cases rv with
  | @cons _ u1 _ us ru rus =>
  rw [assign_Tuple]
  refine wpAny_bind (wpAny_standAt ?_)
  unfold unpack
  show wpAny _ _ (assignInOrder _ =<< holding [.ref p] (unpackItems (.ref p) 2 (some 1))) _ _ _
  have hlen : vs.length = us.length := rus.length
  have hvs : vs.length = ds.length := r2.length
  refine wpAny_bind (wpAny_holding (star_unpack ht (I.ok.hd hc) (by omega) fun h' tk hk => ?_))
  have I1 : Inv X pins σ H { s with heap := h', toks := tk } := I.kept hk
  have hf : H h'.objs.size = none := I1.hok.fresh (Nat.le_refl _)
  have hzz : vs.length ≤ sizeLine := by
    rw [sizeLine_eq]
    omega
  have I2 : Inv X pins σ (L2.upd H h'.objs.size (.lst vs)) { s with heap := h'.push { cls := .type "list", data := .seq us.toArray }, toks := tk } := I1.lnew rus hzz
  have b := R.toRelH.newF (o := .lst vs) hf
  have R2 := R.step b
  have pgs : PGs X [.Name x q1, .Name y q2] (gCons (gName i) (gCons (gName j) gNil)) := pgs_cons (pg_name hN hi hx hfx) (pgs_cons (pg_name hN hj hy hfy) pgs_nil rfl) rfl
  refine pgs.run pins _ σ _ [v1, .ref h'.objs.size] [u1, .ref h'.objs.size] Q I2 (.cons ru (.cons rfl .nil)) ⟨v1, _, rfl, .ref _, [], rfl, rfl, ?_⟩
  exact q _ _ _ b.base ((R2.setVal (r1.mono b.base)).setVal (.lst upd_same hzz (r2.mono b.base)))
theorem st_star {i j : Nat} {x y : Str} {k : Nat} {q1 q2 q3 q4 : Pos} (hK : X.K = P.K) (hc : X.calm = true) (hN : X.N.Nodup) (hi : X.N[i]? = some x) (hj : X.N[j]? = some y) (hx : Loc X.env.scope x) (hy : Loc X.env.scope y)
    (hfx : X.fn x = true ∨ X.env.scope.names.lookup x = some .local) (hfy : X.fn y = true ∨ X.env.scope.names.lookup y = some .local) (ha : PE X a (tD P fa)) (hs : swapsWithSole [.Tuple [.Name x q1, .Starred (.Name y q2) q3] k q4] a pos.line X.env = pure false)
    (hw : swappedStores [.Tuple [.Name x q1, .Starred (.Name y q2) q3] k q4] a X.env = pure none) : PS X (.Assign [.Tuple [.Name x q1, .Starred (.Name y q2) q3] k q4] a pos) (tS P (starE i j fa)) :=
  psMono (ps_asg ha (g_star (P := P) hK hc hN hi hj hx hy hfx hfy) hs hw rfl) fun D σ H ⟨F, r, t, R, h⟩ => ⟨F, r, t, R, h.bind.mono fun d t' h v F' H' s R' rv => by
    cases d with
    | tup xs =>
      cases xs with
      | nil => exact (show False from h).elim
      | cons y ys =>
        have h : Aft P F (if decide (i < r.length) && decide (j < r.length) && decide (ys.length < 16384) then .ok (.nx, (r.set i (.val y)).set j (.val (.lst ys))) t' else .bad) (aftS P F D) := h
        split at h
        · rename_i hb
          exact ⟨F', r, t', y, ys, R', rv, of_decide_eq_true (Bool.and_eq_true_iff.mp hb).2, fun F2 σ2 H2 s2 R2 => h F2 σ2 H2 (s.1.trans s2) R2⟩
        · exact h.elim
    | _ => exact (show False from h).elim⟩
/-! ### raise -/
theorem st_raise {n : Nat} {C : Addr} {cl : Nat → Addr} {x m : Str} {j : Nat} {p3 p4 : Pos} {bmB : List Value} {B newId initId : String} (hc : X.calm = true) (tk : Takes X fun c d _ H => EX cl P.XE c d H) (F : ExcBaseFacts B newId initId bmB)
    (q : PySem.W.excIn X.K (cl n) bmB newId = true) (gC : X.mg x = some (.ref (cl n))) (kC : PySem.W.keepIn X.K (.ref (cl n)) = true) (rC : Raises X (.ref (cl n))) (hg : Gl X x) (hdb : (x == ("__debug__" : Str)) = false) :
    PS X (.Raise (some (.Call (.Name x p1) [.Constant (.str m) j p2] [] p3)) none p4) (tS P fun _ t => .exc n t) :=
  psMono (ps_raise hc tk (pmk_own F q gC kC rC hg hdb)) fun D σ H ⟨F, r, t, R, h⟩ => ⟨n, rfl, rfl, h F H (Same.refl F) R.toRelH⟩
end
end Fm

/-! ### the town of the draws -/
namespace Fm
open PySem PySem.Spec PyProof.Rows L2
section
variable {P : Pm} {X : Cx} {a b c : Expr} {pos p1 p2 : Pos} {fa fb fc : Rho → Tw → Res D} {i : Nat} {y : Str} {q : Pos} {j : Nat}
theorem tok_at {F H : Hp} {r : Rho} {t : Tw} {σ : L2.St} (R : RelP P F r t σ H) (e : r[i]? = some (.val .tok)) : σ[i]? = some (some (.ref P.T.a)) := by
  obtain ⟨v, e1, h⟩ := R.val i _ e
  cases h
  exact e1
/-- the town is changed -/
theorem Rel.town {F H H' : Hp} {r : Rho} {t t' : Tw} {σ : L2.St} (R : RelP P F r t σ H) (hn : ∀ b, b ≠ P.T.a → b ≠ P.T.b → H' b = H b) (tw : Town P.T t' H') : RelP P F r t' σ H' := by
  have fa := R.tF1
  have fb := R.tF2
  refine ⟨⟨fun b o h => ?_, R.new, R.base, fun b o h n1 n2 n3 => ?_, fun b h => ?_, tw, fa, fb, R.sc, fun x hx => ?_, R.nt⟩, R.len, R.val, fun i d h => ?_, R.inj⟩
  · have n1 : b ≠ P.T.a := fun e => by
      rw [e, fa] at h
      cases h
    have n2 : b ≠ P.T.b := fun e => by
      rw [e, fb] at h
      cases h
    rw [hn b n1 n2]
    exact R.sub b o h
  · rw [hn b n1 n2]
    exact R.old b o h n1 n2 n3
  · by_cases n1 : b = P.T.a
    · subst n1
      exact (h.no tw.a (by intro _ z; cases z)).elim
    · by_cases n2 : b = P.T.b
      · subst n2
        exact (h.no tw.b (by intro _ z; cases z)).elim
      · exact R.had b fun o e => h o (by rw [hn b n1 n2]; exact e)
  · have ka : ∀ b o, H b = some o → (∀ kvs, o ≠ .dK kvs) → H' b = some o := fun b o h n => by
      rw [hn b (fun z => by rw [z, R.tw.a] at h; cases h; exact n _ rfl) (fun z => by rw [z, R.tw.b] at h; cases h; exact n _ rfl)]
      exact h
    obtain ⟨ps, h1, h2, h3⟩ := R.tabs x hx
    refine ⟨ps, ka _ _ h1 (by intro _ z; cases z), h2, fun pos cv hc => ?_⟩
    obtain ⟨c, e1, e2⟩ := h3 pos cv hc
    exact ⟨c, e1, ka _ _ e2 (by intro _ z; cases z)⟩
  · obtain ⟨p, e, w⟩ := R.own i d h
    exact ⟨p, e, ⟨w.fr, w.n1, w.n2, w.h0, w.at_.keep (Same.refl F) fun o h => by rw [hn p w.n1 w.n2]; exact h⟩⟩
def tcountE (i : Nat) (r : Rho) (t : Tw) : Res D := match r[i]? with
    | some (.val .tok) => .ok (.int t.count) t
    | _ => .bad
def tgetE (i : Nat) (fk fd : Rho → Tw → Res D) (r : Rho) (t : Tw) : Res D := match r[i]? with
    | some (.val .tok) => (fk r t).bind fun y t1 => (fd r t1).bind fun z t2 => (match y, z with
      | .int a, .int b => .ok (.int ((lkT t2.rests a).getD b)) t2
      | _, _ => .bad)
    | _ => .bad
def tcntE (i : Nat) (fa : Rho → Tw → Res D) (r : Rho) (t : Tw) : Res (Fl × Rho) := match r[i]? with
    | some (.val .tok) => (fa r t).bind fun x t1 => (match x with
      | .int c => .ok (.nx, r) { t1 with count := c }
      | _ => .bad)
    | _ => .bad
def trstE (i : Nat) (fk fa : Rho → Tw → Res D) (r : Rho) (t : Tw) : Res (Fl × Rho) := match r[i]? with
    | some (.val .tok) => (fa r t).bind fun x t1 => (fk r t1).bind fun y t2 => (match x, y with
      | .int v, .int a => if decide (t2.rests.length < 1000000) then .ok (.nx, r) { t2 with rests := putT t2.rests a v } else .bad
      | _, _ => .bad)
    | _ => .bad
theorem tok_of {α : Type} {F : Hp} {r : Rho} {m : Res α} {Z : α → Tw → Prop} (h : Aft P F (match r[i]? with
    | some (.val .tok) => m
    | _ => .bad) Z) : r[i]? = some (.val .tok) ∧ Aft P F m Z := by
  split at h
  · rename_i e
    exact ⟨e, h⟩
  · exact h.elim
theorem valV_rests (rs : List (Int × Int)) (k : Int) : valV (rs.map fun p => ((.inl p.1 : Key), V.int p.2)) (.inl k) = (lkT rs k).map V.int := by
  induction rs with
  | nil => rfl
  | cons p r ih =>
    by_cases e : p.1 = k
    · rw [List.map_cons, valV_pos (by rw [e])]
      simp [lkT, List.find?_cons, e]
    · rw [List.map_cons, valV_neg (by simpa using e), ih]
      simp [lkT, List.find?_cons, e]
theorem putK_rests (rs : List (Int × Int)) (k v : Int) : putK (rs.map fun p => ((.inl p.1 : Key), V.int p.2)) (.inl k) (.int v) = (putT rs k v).map fun p => ((.inl p.1 : Key), V.int p.2) := by
  unfold putK putT
  have e : ((rs.map fun p => ((.inl p.1 : Key), V.int p.2)).any fun kv => decide (kv.1 = (.inl k : Key))) = rs.any fun p => decide (p.1 = k) := by
    rw [List.any_map]
    congr 1
    funext p
    simp
  rw [e]
  split
  · rw [List.map_map, List.map_map]
    refine List.map_congr_left fun p _ => ?_
    simp only [Function.comp]
    by_cases e : p.1 = k
    · simp [e]
    · simp [e]
  · simp
theorem putT_len (rs : List (Int × Int)) (k v : Int) : (putT rs k v).length ≤ rs.length + 1 := by
  unfold putT
  split <;> simp
/-- town['count'] -/
theorem s_tcount (hu : X.A.units + 200 < cLine) (hN : X.N[i]? = some y) (hv : Vis X.env.scope y) (hd : (y == ("__debug__" : Str)) = false) (hcd : (y == ("__classdict__" : Str)) = false) : PE X (.Subscript (.Name y q) (.Constant (.str "count") j p1) pos) (tD P (tcountE i)) := by
  refine peMono (pe_dget (by omega) (pe_slot hN hv hd hcd) pe_str (fun _ _ => rfl)) fun σ H Q ⟨F, r, t, R, h⟩ => ?_
  obtain ⟨e, h⟩ := tok_of h
  refine ⟨_, tok_at R e, P.T.a, .int t.count, rfl, DGet.k (k := .inr "count") R.tw.a, h _ _ _ Kp.refl R (.int _)⟩
theorem town_rests (hu : X.A.units + 200 < cLine) (hN : X.N[i]? = some y) (hv : Vis X.env.scope y) (hd : (y == ("__debug__" : Str)) = false) (hcd : (y == ("__classdict__" : Str)) = false) :
    PE X (.Subscript (.Name y q) (.Constant (.str "rests") j p1) pos) (fun σ H Q => ∃ F r t, RelP P F r t σ H ∧ r[i]? = some (.val .tok) ∧ Q (.ref P.T.b) H) := by
  refine peMono (pe_dget (by omega) (pe_slot hN hv hd hcd) pe_str (fun _ _ => rfl)) fun σ H Q ⟨F, r, t, R, e, h⟩ => ?_
  refine ⟨_, tok_at R e, P.T.a, .ref P.T.b, rfl, ?_, h⟩
  have := DGet.k (k := .inr "rests") R.tw.a
  exact this
theorem s_tget (hu : X.A.units + 200 < cLine) (hN : X.N[i]? = some y) (hv : Vis X.env.scope y) (hd : (y == ("__debug__" : Str)) = false) (hcd : (y == ("__classdict__" : Str)) = false) {p3 p4 : Pos} (hb : PE X b (tB P fb)) (hc : PE X c (tD P fc))
    (m : M2 X (.Subscript (.Name y q) (.Constant (.str "rests") j p1) pos) "get" p3 b c p4) : PE X (.Call (.Attribute (.Subscript (.Name y q) (.Constant (.str "rests") j p1) pos) "get" p3) [b, c] [] p4) (tD P (tgetE i fb fc)) := by
  refine peMono (pe_dget2 (by omega) (town_rests (P := P) hu hN hv hd hcd) hb hc m) fun σ H Q ⟨F, r, t, R, h⟩ => ?_
  obtain ⟨e, h⟩ := tok_of h
  refine ⟨F, r, t, R, e, P.T.b, rfl, .inl ⟨_, .inl R.tw.b⟩, F, r, t, R, h.bind.mono fun dy t1 h v F1 H1 s1 R1 ry => ⟨F1, r, t1, R1, (h.up s1.1).bind.mono fun dz t2 h u F2 H2 s2 R2 rz => ?_⟩⟩
  cases dy with
  | int k =>
    cases dz with
    | int z =>
      obtain rfl := (ry.mono s2.1).int R2
      cases rz
      refine ⟨_, DGet.k (k := .inl k) R2.tw.b, ?_⟩
      rw [valV_rests]
      have := h (.int ((lkT t2.rests k).getD z)) F2 H2 (s1.trans s2) R2 (.int _)
      cases e2 : lkT t2.rests k with
      | none =>
        rw [e2] at this
        exact this
      | some w =>
        rw [e2] at this
        exact this
    | _ => exact (show False from h).elim
  | _ => exact (show False from h).elim
/-- town['count'] = e -/
theorem st_tcnt (hu : X.A.units + 200 < cLine) (hN : X.N[i]? = some y) (hv : Vis X.env.scope y) (hd : (y == ("__debug__" : Str)) = false) (hcd : (y == ("__classdict__" : Str)) = false) (ha : PE X a (tD P fa))
    (hs : swapsWith a (some (.Subscript (.Name y q) (.Constant (.str "count") j p1) p2)) pos.line X.env = pure false) : PS X (.Assign [.Subscript (.Name y q) (.Constant (.str "count") j p1) p2] a pos) (tS P (tcntE i fa)) := by
  refine psMono (ps_dput (by omega) (pe_slot hN hv hd hcd) pe_str ha hs) fun D σ H ⟨F, r, t, R, h⟩ => ?_
  obtain ⟨e, h⟩ := tok_of h
  refine ⟨F, r, t, R, h.bind.mono fun d t1 h v F1 H1 s1 R1 rv => ⟨_, tok_at R1 e, ?_⟩⟩
  split at h
  · rename_i c
    cases rv
    have d := DPut.k (k := .inr "count") (v := .int c) R1.tw.a (by rw [sizeLine_eq]; simp)
    refine ⟨P.T.a, _, rfl, d, h F1 σ _ s1.1 (Rel.town R1 (fun b n1 n2 => upd_ne n1) ⟨?_, ?_, R1.tw.ne, R1.tw.small⟩)⟩
    · rw [upd_same]
      rfl
    · rw [upd_ne (Ne.symm R1.tw.ne)]
      exact R1.tw.b
  · exact h.elim
/-- town['rests'][k] = e -/
theorem st_trst (hu : X.A.units + 200 < cLine) (hN : X.N[i]? = some y) (hv : Vis X.env.scope y) (hd : (y == ("__debug__" : Str)) = false) (hcd : (y == ("__classdict__" : Str)) = false) {p3 : Pos} (hb : PE X b (tB P fb)) (ha : PE X a (tD P fa))
    (hs : swapsWith a (some (.Subscript (.Subscript (.Name y q) (.Constant (.str "rests") j p1) p2) b p3)) pos.line X.env = pure false) : PS X (.Assign [.Subscript (.Subscript (.Name y q) (.Constant (.str "rests") j p1) p2) b p3] a pos) (tS P (trstE i fb fa)) := by
  refine psMono (ps_dput (by omega) (town_rests (P := P) hu hN hv hd hcd) hb ha hs) fun D σ H ⟨F, r, t, R, h⟩ => ?_
  obtain ⟨e, h⟩ := tok_of h
  refine ⟨F, r, t, R, h.bind.mono fun d t1 h v F1 H1 s1 R1 rv => ⟨F1, r, t1, R1, e, F1, r, t1, R1, (h.up s1.1).bind.mono fun dk t2 h w F2 H2 s2 R2 rk => ?_⟩⟩
  cases d with
  | int z =>
    cases dk with
    | int k =>
      obtain rfl := rk.int R2
      have rv := rv.mono s2.1
      cases rv
      have h : Aft P F1 (if decide (t2.rests.length < 1000000) then .ok (.nx, r) { t2 with rests := putT t2.rests k z } else .bad) (aftS P F D) := h
      split at h
      · rename_i hl
        have hl := of_decide_eq_true hl
        have d := DPut.k (k := .inl k) (v := .int z) R2.tw.b (by rw [List.length_map, sizeLine_eq]; omega)
        rw [putK_rests] at d
        refine ⟨P.T.b, _, rfl, d, h F2 σ _ (s1.1.trans s2.1) (Rel.town R2 (fun b n1 n2 => upd_ne n2) ⟨?_, ?_, R2.tw.ne, ?_⟩)⟩
        · rw [upd_ne R2.tw.ne]
          exact R2.tw.a
        · rw [upd_same]
        · have := putT_len t2.rests k z
          show (putT t2.rests k z).length ≤ 1000000
          omega
      · exact h.elim
    | _ => exact (show False from h).elim
  | _ => exact (show False from h).elim
end
end Fm

/-! ### d.update(d2), displays of a dict, its keys walked, isinstance of a caught exception -/
namespace Fm
open PySem PySem.Spec PyProof.Rows L2
def rUpdD : V → List V → Hp → VK → Prop := fun x vs H Q => ∃ (a b : Addr) (kvs more : List (Key × V)), x = .ref a ∧ vs = [.ref b] ∧ a ≠ b ∧ H a = some (.dK kvs) ∧ Rd H b (.dK more) ∧ kvs.length + more.length ≤ sizeLine ∧ Q .non (upd H a (.dK (mergeK kvs more)))
theorem mt_updD {X : Cx} : MtR X "dict.update" rUpdD := by
  intro pins s σ H x vs v us Q I rx rv h
  obtain ⟨a, b, kvs, more, ex, ev, hab, e, e2, hz, q⟩ := h
  subst ex ev
  obtain rfl : v = Value.ref a := rx
  obtain ⟨u, rfl, ru⟩ := vals1 rv
  cases ru
  obtain ⟨z, hd, ws, rel, dd⟩ := dk_of I.hok e
  obtain ⟨z2, hd2, ws2, rel2, dd2⟩ := dk_rd I.hok e2
  refine call_meetsIn PySem.F.slot_dict_update dd.typeIs PySem.F.entry_dict_update (PySem.F.args_dict_update_2 _ _) (meets_dict_update (mixKind X.prog X.w) a b hab hd2) ⟨ws, ws2, dd, dd2, ?_, fun h' dd' _ hs => ?_⟩
  · rw [← rel.length, ← rel2.length]
    exact hz
  · have he : ∃ q, h'.get? a = some q := let ⟨q, _, _, hq, _⟩ := dd'; ⟨q, hq⟩
    have hl := length_mergeK more kvs
    exact ⟨.non, _, d_write (t' := s.toks) I (by rw [e]; exact True.intro) hs he (dk_new (by omega) hd (KV.merge rel2 rel) dd'), rfl, q⟩
section
variable {P : Pm} {X : Cx} {a b c : Expr} {pos p1 p2 : Pos} {fa fb fc : Rho → Tw → Res D}
def updE (i : Nat) (fa : Rho → Tw → Res D) (r : Rho) (t : Tw) : Res (Fl × Rho) := match r[i]? with
    | some (.own (.dct kvs)) => (fa r t).bind fun x t1 => (match x with
      | .dct more => if decide (kvs.length + more.length ≤ 16777216) then .ok (.nx, r.set i (.own (.dct (joinD kvs more)))) t1 else .bad
      | _ => .bad)
    | _ => .bad
theorem updE_ok {i : Nat} {F : Hp} {r : Rho} {t : Tw} {Z : Fl × Rho → Tw → Prop} (h : Aft P F (updE i fa r t) Z) : ∃ kvs, r[i]? = some (.own (.dct kvs)) ∧ Aft P F ((fa r t).bind fun x t1 => (match x with
      | .dct more => if decide (kvs.length + more.length ≤ 16777216) then .ok (.nx, r.set i (.own (.dct (joinD kvs more)))) t1 else .bad
      | _ => .bad)) Z := by
  unfold updE at h
  split at h
  · rename_i kvs e
    exact ⟨kvs, e, h⟩
  · exact h.elim
theorem RpK.join {K : PySem.W.Frag} {T : Tn} {F : Hp} : ∀ {more : List (Key × V)} {ms : List (Key × D)} {kvs : List (Key × V)} {es : List (Key × D)}, RpK K T F more ms → RpK K T F kvs es → RpK K T F (mergeK kvs more) (joinD es ms)
  | _, _, _, _, .nil, q => q
  | _, _, kvs, es, @RpK.cons _ _ _ k v ms d ns h r, q => (RpK.join r (q.put k h) : RpK K T F (mergeK (L2.putK kvs k v) ms) (joinD (putD es k d) ns))
theorem st_upd {i : Nat} {y : Str} (hN : X.N[i]? = some y) (hv : Vis X.env.scope y) (hd : (y == ("__debug__" : Str)) = false) (hcd : (y == ("__classdict__" : Str)) = false) (ha : PE X a (tD P fa)) (hline : (p1.endLine == p2.line) = true)
    (hs : starEach [a] X.env = (false, eval a X.env) :: starEach [] X.env) {q : Pos} : PS X (.Expr (.Call (.Attribute (.Name y q) "update" p1) [a] [] p2) pos) (tS P (updE i fa)) := by
  have hfew : ((backTo p2 (starEach [a] X.env)).all (fun x => !x.1) && (backToKw p2 (keywordEach [] X.env)).all (fun x => x.1.isSome)
      && decide (([a] : List Expr).length + ([] : List Keyword).length + (if ([] : List Keyword).isEmpty then 0 else 1) < 30)) = true := by
    rw [hs]
    rfl
  refine psMono (ps_expr (pe_bm PySem.F.plainAttrs_dict PySem.F.slot_dict_update PySem.F.type_dict_update mt_updD (pe_slot hN hv hd hcd) (pa_cons ha pa_nil hs) rfl hfew hline hs rfl) rfl) fun D σ H ⟨F, r, t, R, h⟩ => ?_
  obtain ⟨xs, e, h⟩ := updE_ok h
  obtain ⟨p, vs, e1, h1, h2, h3⟩ := own_dct R e
  refine ⟨_, e1, .inr (.inr (.inl ⟨rfl, .inl ⟨vs, h1⟩⟩)), F, r, t, R, h.bind.mono fun d t' h v F' H' s R' rv => ?_⟩
  cases d with
  | dct more =>
    cases rv with
    | @dct b o kvs _ hb hz hq =>
      have h : Aft P F (if decide (xs.length + more.length ≤ 16777216) then .ok (.nx, r.set i (.own (.dct (joinD xs more)))) t' else .bad) (aftS P F D) := h
      split at h
      · rename_i hl
        have hl := of_decide_eq_true hl
        obtain ⟨p', vs', e1', h1', h2', h3'⟩ := own_dct R' e
        rw [e1] at e1'
        cases e1'
        have hz2 : vs'.length + kvs.length ≤ sizeLine := by
          rw [h3'.length, hq.length, sizeLine_eq]
          exact hl
        have hlm := length_mergeK kvs vs'
        refine ⟨p, b, vs', kvs, rfl, rfl, fun z => ?_, h1', .inr ⟨o, R'.sub _ _ hb⟩, hz2, h F' σ _ s.1 (Rel.updOwn R' e e1 ⟨_, upd_same, by omega, RpK.join hq h3'⟩)⟩
        have := R'.sub _ _ hb
        rw [← z, h1'] at this
        cases this
      · exact h.elim
  | _ => exact (show False from h).elim
/-! ### {"a": e, ..} -/
def evL : List (Rho → Tw → Res D) → Rho → Tw → Res (List D)
  | [], _, t => .ok [] t
  | f :: fs, r, t => (f r t).bind fun x t1 => (evL fs r t1).bind fun xs t2 => .ok (x :: xs) t2
/-- keys and values as they are written -/
inductive DspE (X : Cx) (P : Pm) : List Str → List (Rho → Tw → Res D) → List (Option Expr) → List Expr → Prop
  | nil : DspE X P [] [] [] []
  | cons {x : Str} {f : Rho → Tw → Res D} {xs : List Str} {fs : List (Rho → Tw → Res D)} {ks : List (Option Expr)} {e : Expr} {vs : List Expr} {j : Nat} {q : Pos} : PE X e (tD P f) → DspE X P xs fs ks vs → DspE X P (x :: xs) (f :: fs) (some (.Constant (.str x) j q) :: ks) (e :: vs)
theorem DspE.pps {xs : List Str} {fs : List (Rho → Tw → Res D)} {ks : List (Option Expr)} {vs : List Expr} (h : DspE X P xs fs ks vs) : PPs X pos ks vs ((xs.zip fs).map fun p => (tC (.str p.1), tD P p.2)) := by
  induction h with
  | nil => exact pps_nil
  | cons h1 h ih => exact pps_cons pe_str h1 ih
theorem DspE.all {xs : List Str} {fs : List (Rho → Tw → Res D)} {ks : List (Option Expr)} {vs : List Expr} (h : DspE X P xs fs ks vs) : ks.all (·.isSome) = true ∧ ks.length = xs.length ∧ vs.length = xs.length ∧ fs.length = xs.length := by
  induction h with
  | nil => exact ⟨rfl, rfl, rfl, rfl⟩
  | cons h1 h ih => exact ⟨by simp [ih.1], by simp [ih.2.1], by simp [ih.2.2.1], by simp [ih.2.2.2]⟩
theorem evL_len {fs : List (Rho → Tw → Res D)} {r : Rho} : ∀ {t : Tw} {xs : List D} {t' : Tw}, evL fs r t = .ok xs t' → xs.length = fs.length := by
  induction fs with
  | nil =>
    intro t xs t' h
    cases h
    rfl
  | cons f fs ih =>
    intro t xs t' h
    unfold evL at h
    cases e : f r t with
    | ok x t1 =>
      rw [e] at h
      simp only [Res.bind_ok] at h
      cases e2 : evL fs r t1 with
      | ok ys t2 =>
        rw [e2] at h
        cases h
        simp [ih e2]
      | exc n t2 =>
        rw [e2] at h
        cases h
      | bad =>
        rw [e2] at h
        cases h
    | exc n t1 =>
      rw [e] at h
      cases h
    | bad =>
      rw [e] at h
      cases h
theorem pairs_read {σ : L2.St} {r : Rho} : ∀ {xs : List Str} {fs : List (Rho → Tw → Res D)} {F H : Hp} {t : Tw} {Z : List D → Tw → Prop} {Q : List (V × V) → Hp → Prop}, xs.length = fs.length → RelP P F r t σ H → Aft P F (evL fs r t) Z →
    (∀ ds t' vs F' H', Z ds t' → Kp P.T F H F' H' → RelP P F' r t' σ H' → RpL P.K P.T F' vs ds → vs.length = xs.length → Q ((xs.zip vs).map fun p => (V.str p.1, p.2)) H') → tPairs ((xs.zip fs).map fun p => (tC (.str p.1), tD P p.2)) σ H Q
  | [], [], F, H, t, Z, Q, _, R, h, q => q [] t [] F H h Kp.refl R .nil rfl
  | [], _ :: _, F, H, t, Z, Q, l, R, h, q => by cases l
  | _ :: _, [], F, H, t, Z, Q, l, R, h, q => by cases l
  | x :: xs, f :: fs, F, H, t, Z, Q, l, R, h, q => by
    have h : Aft P F ((f r t).bind fun x t1 => (evL fs r t1).bind fun xs t2 => .ok (x :: xs) t2) Z := h
    refine ⟨F, r, t, R, h.bind.mono fun d t1 h v F1 H1 s1 R1 rv => ?_⟩
    refine pairs_read (xs := xs) (fs := fs) (by simpa using l) R1 ((h.up s1.1).bind) fun ds t' vs F' H' z k R' rvs hl => ?_
    exact q (d :: ds) t' (v :: vs) F' H' z (s1.trans k) R' (.cons (rv.mono k.base) rvs) (by simp [hl])
theorem merge_rel2 {K : PySem.W.Frag} {T : Tn} {F : Hp} : ∀ {xs : List Str} {vs : List V} {ds : List D} {kvs : List (Key × V)} {es : List (Key × D)}, RpL K T F vs ds → RpK K T F kvs es →
    RpK K T F (mergeK kvs ((xs.zip vs).map fun p => (Sum.inr p.1, p.2))) (mergeD es (xs.zip ds))
  | [], _, _, _, _, _, q => q
  | _ :: _, _, _, _, _, .nil, q => q
  | x :: xs, _, _, _, _, .cons h r, q => merge_rel2 (xs := xs) r (q.put (Sum.inr x) h)
def dspEE (ks : List Str) (fs : List (Rho → Tw → Res D)) (r : Rho) (t : Tw) : Res D := (evL fs r t).bind fun xs t1 => if decide (xs.length ≤ 15) && decide (xs.length = ks.length) && decide (0 < xs.length) then .ok (.dct (mergeD [] (ks.zip xs))) t1 else .bad
theorem n_dspE {xs : List Str} {fs : List (Rho → Tw → Res D)} {ks : List (Option Expr)} {vs : List Expr} (h : DspE X P xs fs ks vs) (hl : xs.length ≤ 15 ∧ 0 < xs.length) : PE X (.Dict ks vs pos) (tN P (dspEE xs fs)) := by
  obtain ⟨a1, a2, a3, a4⟩ := h.all
  · have h0 : ks ≠ [] := fun e => by
      rw [e] at a2
      simp at a2
      omega
    refine peMono (pe_disp h.pps a1 (a2.trans a3.symm) h0 (by rw [a2]; exact hl.1)) fun σ H Q ⟨F, r, t, R, q⟩ p hp => ?_
    have q : Aft P F ((evL fs r t).bind fun ds t1 => if decide (ds.length ≤ 15) && decide (ds.length = xs.length) && decide (0 < ds.length) then .ok (D.dct (mergeD [] (xs.zip ds))) t1 else .bad) (fun d t' => ∀ v F' H' p, Kp P.T F H F' H' → RelP P F' r t' σ H' → Nn H p → Fre P F' r σ H' v d p → Q v H') := q
    have b0 := R.toRelH.newO (o := .dK []) hp
    refine pairs_read a4.symm (R.step b0) q.bind fun ds t' vs F' H' z k R' rvs hlv => ?_
    have n1 : p ≠ P.T.a := fun e => by
      rw [e, R.tw.a] at hp
      cases hp
    have n2 : p ≠ P.T.b := fun e => by
      rw [e, R.tw.b] at hp
      cases hp
    have hd : H' p = some (.dK []) := k.old p _ upd_same n1 n2 (by intro _ z; cases z)
    have hdl : ds.length = xs.length := by rw [← rvs.length, hlv]
    rw [if_pos (by simp only [Bool.and_eq_true, decide_eq_true_eq]; omega)] at z
    refine ⟨hd, (xs.zip vs).map (fun p => (Sum.inr p.1, p.2)), by simp [kV], by simp; omega, ?_⟩
    have fF : F' p = none := by
      cases e : F' p with
      | none => rfl
      | some o =>
        rcases k.new p o e with e2 | e2
        · rw [R.sub.free hp] at e2
          cases e2
        · exact (e2.no upd_same (by intro _ z; cases z)).elim
    have no : ∀ (i : Nat) (e : D), r[i]? = some (.own e) → σ[i]? ≠ some (some (.ref p)) := fun i e h1 h2 => by
      obtain ⟨q, e1, w⟩ := R.own i e h1
      rw [h2] at e1
      cases e1
      obtain ⟨o2, ho, _⟩ := w.at_.obj
      rw [hp] at ho
      cases ho
    have R2 : RelP P F' r t' σ (L2.upd H' p (.dK (mergeK [] ((xs.zip vs).map fun p => (Sum.inr p.1, p.2))))) := Rel.upd R' (by rw [hd]; simp) (fun ps z => by rw [hd] at z; cases z) (fun c q z => by rw [hd] at z; cases z) fF (R.had p (.of hp)) n1 n2 no
    refine z _ F' _ p ⟨b0.base.trans k.base, fun c o e => ?_, fun c o e m1 m2 m3 => ?_, fun c e => ?_⟩ R2 (.of hp) ⟨rfl, ⟨fF, n1, n2, R.had p (.of hp), _, upd_same, ?_, merge_rel2 rvs .nil⟩, no⟩
    · rcases k.new c o e with e2 | e2
      · exact .inl e2
      · exact .inr (b0.had c e2)
    · have nc : c ≠ p := fun z => by
        rw [z, hp] at e
        cases e
      rw [upd_ne nc]
      exact k.old c o (by rw [upd_ne nc]; exact e) m1 m2 m3
    · exact b0.had c (k.had c (e.upd (by intro _ z; cases z)).1)
    · have := length_mergeK ((xs.zip vs).map fun p => (Sum.inr p.1, p.2)) ([] : List (Key × V))
      rw [sizeLine_eq]
      simp at this
      omega
/-! ### for k in d -/
theorem RpK.getK {K : PySem.W.Frag} {T : Tn} {F : Hp} : ∀ {kvs : List (Key × V)} {es : List (Key × D)}, RpK K T F kvs es → kvs.map (·.1) = es.map (·.1)
  | _, _, .nil => rfl
  | _, _, .cons _ r => by simp [r.getK]
def keysE (fa : Rho → Tw → Res D) (r : Rho) (t : Tw) : Res (List D) := (fa r t).bind fun x t1 => match x with
    | .dct kvs => .ok (kvs.map fun p => kD p.1) t1
    | _ => .bad
theorem i_keys {tg : Expr} {fz : Bool} (ha : PE X a (tD P fa)) : PI X tg a (tI P fz (keysE fa)) := piMono (pi_keys ha) fun σ H Q ⟨F, r, t, R, h⟩ => ⟨F, r, t, R, h.bind.mono fun d t' h v F' H' s R' rv => by
  cases d with
  | dct es =>
    cases rv with
    | @dct p o kvs _ h1 z h2 =>
      refine ⟨p, o, rfl, .inl ⟨kvs, R'.sub _ _ h1, h _ _ _ s R' (WD.fz ?_ fz)⟩⟩
      have w := walk_keys (d := p) (o := o) (kvs := kvs)
      have hl : (es.map fun q => kD q.1).length = kvs.length := by rw [List.length_map, h2.length]
      refine ⟨fun i H hi g => w.goes i H (by rw [← hl]; exact hi) (g _ _ h1), fun H g => by rw [hl]; exact w.stops H (g _ _ h1), fun i H x H' d e g y => .inl ?_⟩
      have hi : i < kvs.length := by
        rw [← hl]
        exact (List.getElem?_eq_some_iff.mp e).1
      obtain ⟨e1, k, v, e2, rfl⟩ := w.yields i H x H' hi (g _ _ h1) y
      refine ⟨e1, ?_⟩
      have e3 : (es.map (·.1))[i]? = some k := by
        rw [← h2.getK, List.getElem?_map, e2]
        rfl
      have e4 : (es.map fun q => kD q.1)[i]? = some (kD k) := by
        have : (es.map fun q => kD q.1) = (es.map (·.1)).map kD := by simp
        rw [this, List.getElem?_map, e3]
        rfl
      rw [e4] at e
      cases e
      cases k with
      | inl i => exact .int i
      | inr x => exact .str x
  | _ => exact (show False from h).elim⟩
/-! ### isinstance of a caught exception -/
def rIsX (K : PySem.W.Frag) : List V → Hp → VK → Prop := fun xs H Q => ∃ (a C : Addr) (c : V) (cv : Value) (b : Bool), xs = [.ref a, c] ∧ ExcC K C ∧ H a = some (ExI (.ref C) a) ∧ (∀ u, RelV c u → u = cv) ∧ PySem.W.kitOne K (.ref C) cv = some b ∧ Q (.bl b) H
theorem call_isX : CallR X (.builtin "isinstance") (rIsX X.K) := by
  intro pins s σ H xs us Q I r h
  obtain ⟨a, C, c, cv, b, rfl, hC, ha, hcv, e, q⟩ := h
  cases r with
  | cons rx rr =>
    cases rr with
    | cons rt rr =>
      cases rr
      cases rx
      have ec := hcv _ rt
      subst ec
      obtain ⟨⟨oe, vs, hget, hz, hv⟩, _, _⟩ := I.hok a _ ha
      have J : PySem.W.InstAt s.heap a oe C none := by
        obtain ⟨oc, od, oda, osl⟩ := oe
        obtain ⟨h1, h2⟩ := hz
        dsimp only at h1 h2 hv
        subst h1 h2 hv
        exact ⟨hget, rfl, rfl, trivial⟩
      exact PySem.W.kia_one (PySem.W.handS_kitx_exc hC.hg hC.hk hC.hs hC.hd hC.ha hC.hn hC.ht hC.hm) I.kIn J e (fun z => nomatch z) fun tk => ⟨.bl b, H, I.kept (t' := tk) fun _ _ z => z, rfl, q⟩
/-- what the nine classes say -/
structure Nine (K : PySem.W.Frag) (cl : Nat → Addr) : Prop where
  c : ∀ m, m < 9 → ExcC K (cl m)
  s : ∀ m n, m < 9 → n < 9 → PySem.W.kitOne K (.ref (cl m)) (.ref (cl n)) = some (decide (m = n))
  v : ∀ m, m < 9 → PySem.W.kitOne K (.ref (cl m)) (.type "ValueError") = some true
theorem s_isx (hK : X.K = P.K) (N9 : Nine X.K P.T.cl) {n : Nat} {y : Str} (hn : n < 9) (hg : Gl X "isinstance") (hm : X.mg "isinstance" = none) (hgy : Gl X y) (hmy : X.mg y = some (.ref (P.T.cl n))) (hdy : (y == ("__debug__" : Str)) = false) (ha : PE X a (tB P fa))
    (hs : starEach [a, .Name y p2] X.env = (false, eval a X.env) :: starEach [.Name y p2] X.env) :
    PE X (.Call (.Name "isinstance" p1) [a, .Name y p2] [] pos) (tD P fun r t => (fa r t).bind fun x t1 => Fm.lift (isxD x n) t1) := by
  have hT : PE X (.Name y p2) (tC (.ref (P.T.cl n))) := pe_glob hgy hmy rfl hdy
  refine peMono (pe_callB call_isX hg hm PyProof.Rows.boot_isinstance (pa_cons ha (pa_cons hT pa_nil rfl) hs) (by decide) (by decide) hs (by rfl)) fun σ H Q ⟨F, r, t, R, h⟩ => ⟨F, r, t, R, h.bind.mono fun d t1 h v F1 H1 s1 R1 rv => ?_⟩
  obtain ⟨d2, e, q⟩ := h.lift
  cases d with
  | exc m =>
    have e : (if decide (m < 9) && decide (n < 9) then some (D.bl (decide (m = n))) else none) = some d2 := e
    split at e
    · rename_i hm9
      simp only [Bool.and_eq_true, decide_eq_true_eq] at hm9
      cases e
      cases rv.rp R1 (fun _ z => by cases z) (fun _ z => by cases z) with
      | exc _ h1 => exact ⟨_, P.T.cl m, .ref (P.T.cl n), .ref (P.T.cl n), decide (m = n), rfl, N9.c m hm9.1, R1.sub _ _ h1, fun u z => z, N9.s m n hm9.1 hn, q _ _ _ s1 R1 (.bl _)⟩
    · cases e
  | _ => cases e
theorem s_isv (hK : X.K = P.K) (N9 : Nine X.K P.T.cl) (hg : Gl X "isinstance") (hm : X.mg "isinstance" = none) (hgy : Gl X "ValueError") (hmy : X.mg "ValueError" = none) (ha : PE X a (tB P fa))
    (hs : starEach [a, .Name "ValueError" p2] X.env = (false, eval a X.env) :: starEach [.Name "ValueError" p2] X.env) :
    PE X (.Call (.Name "isinstance" p1) [a, .Name "ValueError" p2] [] pos) (tD P fun r t => (fa r t).bind fun x t1 => Fm.lift (isvD x) t1) := by
  have hT : PE X (.Name "ValueError" p2) (tC (.ty "ValueError")) := pe_bltn hgy hmy (by decide +kernel) rfl (by decide) (by decide)
  refine peMono (pe_callB call_isX hg hm PyProof.Rows.boot_isinstance (pa_cons ha (pa_cons hT pa_nil rfl) hs) (by decide) (by decide) hs (by rfl)) fun σ H Q ⟨F, r, t, R, h⟩ => ⟨F, r, t, R, h.bind.mono fun d t1 h v F1 H1 s1 R1 rv => ?_⟩
  obtain ⟨d2, e, q⟩ := h.lift
  cases d with
  | exc m =>
    have e : (if decide (m < 9) then some (D.bl true) else none) = some d2 := e
    split at e
    · rename_i hm9
      simp only [decide_eq_true_eq] at hm9
      cases e
      cases rv.rp R1 (fun _ z => by cases z) (fun _ z => by cases z) with
      | exc _ h1 => exact ⟨_, P.T.cl m, .ty "ValueError", .type "ValueError", true, rfl, N9.c m hm9, R1.sub _ _ h1, fun u z => z, N9.v m hm9, q _ _ _ s1 R1 (.bl _)⟩
    · cases e
  | _ => cases e
end
end Fm

/-! ### try: body, except x as n: suite; the exception is known behind it -/
namespace Fm
open PySem PySem.Spec PyProof.Rows L2
section
variable {X : Cx} {pins : List (Addr × Obj)} {σ : L2.St} {H : Hp} {s : Shared}
theorem inv_track {a : Addr} {φ : Heap → Prop} {oe : Obj} {vs : Array Value} (I : Inv X pins σ H s) (hn : H a = none) (h0 : X.s_0.heap.get? a = none) (ha : s.heap.get? a = some oe) (hd : oe.data = .fields vs) (nL : a ≠ X.env.locals)
    (np : ∀ p ∈ X.pn ++ pins, p.1 ≠ a) (new : ObjOk X.prog X.w (upd H a (.ext φ)) s.heap a (.ext φ)) : Inv X pins σ (upd H a (.ext φ)) s := by
  -- at every other place the table tells what it told
  have off : ∀ {b}, b ≠ a → upd H a (.ext φ) b = H b := upd_ne
  have was : ∀ {b u}, H b = some u → upd H a (.ext φ) b = some u := fun {b u} e => (off (ne_of_none e hn)).trans e
  have noCell : ∀ x c, X.env.cells.lookup x = some c → c ≠ a := by
    rintro x c e rfl
    obtain ⟨v, o, ho, hc⟩ := I.cell x c e
    rw [show o = oe from Option.some.inj (ho.symm.trans ha), hd] at hc
    exact nomatch hc
  exact {
    ok := I.ok, os := I.os, bare := I.bare, loc := I.loc, cell := I.cell, len := I.len
    base := {
      keep := I.base.keep, slot := I.base.slot, there := I.base.there
      free := fun b o e n hx => (off (by rintro rfl; rw [h0] at e; cases e)).trans (I.base.free b o e n hx)
      tups := fun b xs e => was (I.base.tups b xs e)
      frzs := fun b o u e => was (I.base.frzs b o u e)
      tbls := fun b ps e => (I.base.tbls b ps e).imp fun _ => was }
    free := (off nL.symm).trans I.free
    freeC := fun x c e => (off (noCell x c e)).trans (I.freeC x c e)
    pin := fun p hp => (I.pin p hp).imp_right fun q => q.imp_left (off (np p hp)).trans
    hok := fun b u e => by
      by_cases hb : b = a
      · subst hb
        obtain rfl : HO.ext φ = u := Option.some.inj (upd_same.symm.trans e)
        exact new
      · exact (I.hok b u ((off hb).symm.trans e)).stay (fun _ _ _ q => q) (fun _ => was) fun _ _ => was }
end
/-- what the clause wishes of an exception of the body -/
def wKeep (K : PySem.W.Frag) (N : List Str) (c : Value) (i : Nat) (ts : Addr → Value → Option Addr → TS) (D : Ends) : WX := fun cls d σ H =>
  d = none ∧ PySem.W.exmOne K cls c = some true ∧ (σ.length = N.length → ∀ a, H a = none → ts a cls d { nx := fun σ' H' => H' a = none → D.nx (σ'.set i none) (upd H' a (ExI cls a)), rt := fun _ _ => False, bk := fun _ _ => False, ct := fun _ _ => False } (σ.set i (some (.ref a))) H)
/-- an exception in the air is nothing that the def knew -/
structure Aloft (X : Cx) (pins : List (Addr × Obj)) (a : Addr) : Prop where
  loc : a ≠ X.env.locals
  fs : a ∉ X.fs
  old : X.s_0.heap.get? a = none
  pin : ∀ p ∈ X.pn ++ pins, p.1 ≠ a
theorem aloft {X : Cx} {pins : List (Addr × Obj)} {σ : L2.St} {H : Hp} {sI : Shared} {B h : Heap} {a : Addr} {Z : Obj → Prop} (hs : X.stack = X.env :: X.outer) (hf : X.env.frame = some X.env.locals) (hex : X.ex = []) (J : Inv X pins σ H sI)
    (nb : ∀ b o, sI.heap.get? b = some o → b ∉ frs X.stack → B.get? b = some o) (fl : HandSPX.FlyingZ B (X.env :: X.outer) a Z h) : Aloft X pins a := by
  have noFrame : a ∉ frs X.stack := by
    rw [hs]
    intro m
    obtain ⟨o, vs, e, _, dd⟩ := fl.there
    obtain ⟨_, o2, e2, no⟩ := fl.2.2.1.mem m
    exact no vs (Option.some.inj (e2.symm.trans e) ▸ dd)
  have unseen : sI.heap.get? a = none := Option.eq_none_iff_forall_ne_some.mpr fun o e => by
    have z := nb a o e noFrame
    rw [fl.2.1] at z
    exact nomatch z
  have up : ∀ e ∈ X.env :: X.outer, e.frame = some a → False := fun e he q => noFrame (hs ▸ List.mem_filterMap.mpr ⟨e, he, q⟩)
  refine ⟨?_, ?_, ?_, ?_⟩
  · rintro rfl
    exact up _ List.mem_cons_self hf
  · intro m
    obtain ⟨e, he, q⟩ := List.mem_filterMap.mp m
    exact up e (List.mem_cons_of_mem _ he) q
  · refine Option.eq_none_iff_forall_ne_some.mpr fun o e => ?_
    obtain ⟨o2, e2⟩ := J.base.there a o e (by rw [hex]; exact List.not_mem_nil)
    rw [unseen] at e2
    exact nomatch e2
  · rintro ⟨_, o⟩ hp rfl
    have z := (J.pin _ hp).1
    rw [unseen] at z
    exact nomatch z
section
variable {X : Cx} {x n : Str} {c : Value} {i : Nat} {body suite : List Stmt} {b₀ : Stmt} {np pos pos' : Pos} {tb : WX → TS} {ts : Addr → Value → Option Addr → TS}
theorem ps_try_keep (hs : X.stack = X.env :: X.outer) (hf : X.env.frame = some X.env.locals) (hex : X.ex = []) (hN : X.N.Nodup) (hi : X.N[i]? = some n) (hln : X.env.kindOf n = some .local) (hc : Names X x c)
    (hb : ∀ (W : WX) (pn : List (Addr × Obj)) (xe : Value → Shared → Prop), Takes (X.tr pn xe) W → PassesOwn (model X.prog X.w) X.A X.env xe → PSs (X.tr pn xe) body (tb W))
    (hsu : ∀ (a : Addr) (oe : Obj) (cls : Value) (d : Option Addr) (pn : List (Addr × Obj)), Zc cls d oe → (∃ vs, oe.data = .fields vs) → PSs (X.suite a ((a, oe) :: pn)) (b₀ :: suite) (ts a cls d)) :
    PS X (.Try body [.ExceptHandler (some (.Name x np)) (some n) (b₀ :: suite) pos'] [] [] pos) (fun D σ H => tb (wKeep X.K X.N c i ts D) D σ H) := by
  constructor
  intro pins s σ H D I h
  have ok := I.ok
  -- the body's end in the try's context is one in the def's own
  have plainEnd : ∀ {pn : List (Addr × Obj)} {xe : Value → Shared → Prop} {fl : Flow} {s1 : Shared}, SP (X.tr (X.pn ++ pins) xe) pn D fl s1 → SP X pins D fl s1 := fun {pn xe fl s1} q => by
    cases fl
    case ret => exact let ⟨v, σ1, H1, J, r⟩ := q; ⟨v, σ1, H1, J.ofTry ok, r⟩
    all_goals exact let ⟨σ1, H1, J, r⟩ := q; ⟨σ1, H1, J.ofTry ok, r⟩
  refine wpAny_Try_except (wpAny_mono ((hb (wKeep X.K X.N c i ts D) (X.pn ++ pins) _ ?landed PassesOwn.looking).run [] s σ H D (I.toTry _) h) ?fine fun _ _ z => z)
  case fine =>
    intro fl s1 q
    have q := plainEnd q
    cases fl
    case next => exact wpAny_execs_nil q
    all_goals exact q
  case landed =>
    rintro _ s1 ⟨a, B, sI, pn, σ1, H1, cls, _, rfl, J0, nb, up, sky, na, os, ag, rfl, fits, go⟩
    have J : Inv X pins σ1 H1 sI := J0.ofTry ok
    have frames : X.A.frames = some (X.env :: X.outer) := ok.frames.trans (congrArg some hs)
    refine Sky.land Zc.steady frames hf (show Sky B (X.env :: X.outer) a (Zc cls none) X.env.locals s1.heap from hs ▸ sky) fun h2 fl2 up2 => ?_
    have al : Aloft X pins a := aloft hs hf hex J nb fl2
    -- in whatever heap it has landed, the suite may begin
    have begun : ∀ {h : Heap}, HandSPX.FlyingZ B (X.env :: X.outer) a (Zc cls none) h → sI.heap.UpToSlots h → ∃ oe vs, h.get? a = some oe ∧ Zc cls none oe ∧ oe.data = .fields vs ∧ Inv X pins σ1 H1 { s1 with heap := h } ∧ Inv (X.suite a ((a, oe) :: (X.pn ++ pins))) [] σ1 H1 { s1 with heap := h } := fun {h} fl to => by
      obtain ⟨oe, vs, e, z, dd⟩ := fl.there
      have K : Inv X pins σ1 H1 { s1 with heap := h } := J.landed nb fl.1 to os ag
      exact ⟨oe, vs, e, z, dd, K, K.suite e dd na al.loc al.fs⟩
    obtain ⟨o2, _, e2, z2, _, K2, S2⟩ := begun fl2 (up.trans up2)
    refine wpAny_handleBy_cons (codeAny_handlers_test ?_) nofun
    have kind : PySem.W.Looks (model X.prog X.w) h2 (typeOf (.ref a)) cls := fun _ _ _ _ k q => wpAny_typeOf_ref (k _ _ e2) (z2.1.symm ▸ q)
    have caught := PySem.W.exm_one (M := model X.prog X.w) K2.kIn kind fits
    have named : ∀ {Q E}, Q c { s1 with heap := h2 } → wpAny (model X.prog X.w) (X.A.mark (some (.ref a))) (eval (.Name x np) X.env) Q E { s1 with heap := h2 } := fun q => by
      obtain ⟨hg, dbg, hm | ⟨hm, hv, nn⟩⟩ := hc
      · exact ld_glob (X := X.suite a _) S2 hg hm q dbg
      · exact ld_blt (X := X.suite a _) S2 hg hm hv q nn dbg
    refine named (caught.here (codeAny_handlers_suite_as (HandSPX.lands_againZ fl2 fun h4 fl4 up4 => ?_)))
    obtain ⟨o4, v4, _, z4, d4, _, S4⟩ := begun fl4 ((up.trans up2).trans up4)
    refine store_ok (X := X.suite a _) (v := .ref a) S4 hN hi (.inl hln) rfl (fun s5 S5 => ?_) (.inr hln)
    refine wpAny_mono ((hsu a o4 cls none _ z4 ⟨v4, d4⟩).run [] s5 _ H1 _ S5 (go J.len a na)) (fun fl s6 q => ?_) fun _ _ z => z.elim
    cases fl
    case next =>
      obtain ⟨σ6, H6, S6, q⟩ := q
      refine gone_ok (X := X.suite a _) S6 hN hi hln fun s7 S7 => ?_
      have ⟨there, none7, _⟩ := S7.pin (a, o4) (List.mem_append_left _ List.mem_cons_self)
      exact ⟨_, _, inv_track (S7.unsuite ok) none7 al.old there d4 al.loc al.pin ⟨⟨o4, v4, there, z4, d4⟩, ⟨o4, there⟩, fun _ _ ⟨o, v, q, r⟩ k => ⟨o, v, k o q, r⟩⟩, q none7⟩
    case ret => exact let ⟨_, _, _, _, _, z⟩ := q; z.elim
    all_goals exact let ⟨_, _, _, z⟩ := q; z.elim
end
end Fm

/-! ### the text is the one of a Core text: a check by computation -/
namespace Fm
open PySem PySem.Spec PyProof.Rows L2
/-- a call's form: the def's name, positional values, keywords' names, what fills up -/
structure Sh where
  name : Str
  np : Nat
  ks : List Str
  dfl : List Cst
  fn : Nat
structure Tb where
  sh : List Sh
  cs : List Str
  ex : List (Nat × Str)
  hd : Bool
/-- a block's names: its scope; the names whose cells are its own -/
structure Cs where
  sc : Scope
  fn : Str → Bool
  lm : Bool
/-- no parameters -/
def noArgs (a : Arguments) : Bool := a.posonlyargs.isEmpty && a.args.isEmpty && a.vararg.isNone && a.kwonlyargs.isEmpty && a.kw_defaults.isEmpty && a.kwarg.isNone && a.defaults.isEmpty
def keysB : List Str → List (Option Expr) → Bool
  | [], [] => true
  | x :: xs, some (.Constant (.str y) _ _) :: ks => decide (x = y) && keysB xs ks
  | _, _ => false
/-- keys of as many values -/
def keysV (ks : List Str) (kes : List (Option Expr)) (vs : List Expr) : Bool := keysB ks kes && decide (kes.length = vs.length)
def nameB (x : Str) : Bool := !(x == ("__debug__" : Str)) && !(x == ("__classdict__" : Str)) && decide (x ≠ "__name__")
def visB (c : Cs) (x : Str) : Bool := match c.sc.names.lookup x with
  | some .local => true
  | some .cell => true
  | some .free => true
  | _ => false
def locB (c : Cs) (x : Str) : Bool := match c.sc.names.lookup x with
  | some .local => true
  | some .cell => c.fn x
  | _ => false
def lclB (c : Cs) (x : Str) : Bool := match c.sc.names.lookup x with
  | some .local => true
  | _ => false
def glB (c : Cs) (x : Str) : Bool := nameB x && match c.sc.names.lookup x with
  | some .globalImplicit => true
  | _ => false
def varB (N : List Str) (c : Cs) (i : Nat) (x : Str) : Bool := decide (N[i]? = some x) && visB c x && nameB x
def tgtB (N : List Str) (c : Cs) (i : Nat) (x : Str) : Bool := decide (N[i]? = some x) && locB c x && nameB x
def nStar : Expr → Bool
  | .Starred _ _ => false
  | _ => true
def nSlice : Expr → Bool
  | .Slice _ _ _ _ => false
  | _ => true
def nSet : Expr → Bool
  | .Set _ _ _ => false
  | _ => true
def nComp : Expr → Bool
  | .ListComp _ _ _ _ => false
  | .SetComp _ _ _ _ => false
  | .DictComp _ _ _ _ _ => false
  | _ => true
def nCall : Expr → Bool
  | .Call _ _ _ _ => false
  | _ => true
def isTupB : Expr → Bool
  | .Tuple _ _ _ => true
  | _ => false
def isNmB : Expr → Bool
  | .Name _ _ => true
  | _ => false
def opB : Operator → Bool
  | .Add => true
  | .Sub => true
  | .Mult => true
  | .FloorDiv => true
  | .Mod => true
  | .Pow => true
  | .LShift => true
  | _ => false
def Blt.nm : Blt → Str
  | .len => "len"
  | .abs => "abs"
  | .all => "all"
  | .any => "any"
  | .sum => "sum"
  | .tuple => "tuple"
  | .list => "list"
  | .sorted => "sorted"
  | .int => "int"
def bltB : Blt → Bool
  | .int => false
  | _ => true
mutual
def mTg (N : List Str) (c : Cs) : Tg → Expr → Bool
  | .name i, .Name x _ => tgtB N c i x
  | .tup ts, .Tuple es _ _ => mTgs N c ts es
  | _, _ => false
def mTgs (N : List Str) (c : Cs) : Tgs → List Expr → Bool
  | .nil, [] => true
  | .cons t ts, e :: es => nStar e && mTg N c t e && mTgs N c ts es
  | _, _ => false
end
def mDsp : List (Str × Cst) → List (Option Expr) → List Expr → Bool
  | [], [], [] => true
  | (x, k) :: r, some (.Constant (.str y) _ _) :: ks, .Constant k' _ _ :: vs => decide (x = y) && decide (k.k = k') && mDsp r ks vs
  | _, _, _ => false
def isStr (x : Str) : Expr → Bool
  | .Constant (.str y) _ _ => decide (y = x)
  | _ => false
/-- a block of a comprehension -/
def blkCs (c : Cs) (scope : Scope) : Cs := ⟨relS scope c.sc, fun x => scope.names.lookup x == some .cell, false⟩
/-- a lambda's body -/
def lamCs (scope : Scope) : Cs := ⟨scope, fun _ => false, false⟩
mutual
def mE (tb : Tb) (N : List Str) (c : Cs) (fl : Bool) : E → Expr → Bool
  | .cst k, .Constant k' _ _ => decide (k.k = k')
  | .var i, .Name x _ => varB N c i x
  | .bor i, .Name x _ => fl && varB N c i x
  | .glob g, .Name x _ => decide (tb.cs[g]? = some x) && glB c x
  | .bin op a b, .BinOp ea op' eb _ => decide (op = op') && opB op && mE tb N c true a ea && mE tb N c true b eb
  | .cat a b, .BinOp ea .Add eb _ => mE tb N c true a ea && mE tb N c true b eb
  | .neg a, .UnaryOp .USub ea _ => mE tb N c true a ea
  | .not a, .UnaryOp .Not ea _ => mE tb N c true a ea
  | .and a b, .BoolOp .And (x :: y :: r) pos => mE tb N c false a x && (match r with
    | [] => mE tb N c false b y
    | z :: r' => mE tb N c false b (.BoolOp .And (y :: z :: r') pos))
  | .or a b, .BoolOp .Or (x :: y :: r) pos => mE tb N c false a x && (match r with
    | [] => mE tb N c false b y
    | z :: r' => mE tb N c false b (.BoolOp .Or (y :: z :: r') pos))
  | .ite k a b, .IfExp ek ea eb _ => mE tb N c true k ek && mE tb N c false a ea && mE tb N c false b eb
  | .cmp op a b, .Compare ea [op'] [eb] _ => decide (op = op') && !behindInMarks op eb && mE tb N c true a ea && mE tb N c true b eb
  | .chain o1 o2 a b k, .Compare ea [o1', o2'] [eb, ek] _ => decide (o1 = o1') && decide (o2 = o2') && !lastMarks [o1, o2] [eb, ek] && mE tb N c true a ea && mE tb N c true b eb && mE tb N c true k ek
  | .cut a lo hi, .Subscript ea (.Slice l h none _) _ => mE tb N c true a ea && mO tb N c lo l && mO tb N c hi h
  | .ix a b, .Subscript ea eb _ => nSlice eb && mE tb N c true a ea && mE tb N c true b eb
  | .dix a b, .Subscript ea eb _ => nSlice eb && mE tb N c true a ea && mE tb N c true b eb
  | .tup es, .Tuple xs _ _ => mEs tb N c es xs
  | .lst es, .List xs _ => mEs tb N c es xs
  | .call i es ks, .Call (.Name x _) xs kws _ => (match tb.sh[i]? with
    | some sh => decide (sh.name = x) && glB c x && decide (xs.length = sh.np) && decide (kws.map (·.arg) = sh.ks.map some) && (decide (kws = []) || !decide (xs = [])) && mEs tb N c es xs && mKs tb N c ks kws
    | none => false)
  | .blt b a, .Call (.Name x _) [ea] [] _ => bltB b && decide (b.nm = x) && glB c x && nStar ea && mE tb N c true a ea
  | .isa a T, .Call (.Name x _) [ea, .Name y _] [] _ => decide (x = "isinstance") && decide (T.nm = y) && glB c x && glB c y && nStar ea && mE tb N c true a ea
  | .get a k d, .Call (.Attribute ea m p) [ek, ed] [] cp => decide (m = "get") && nCall ea && (p.endLine == cp.line) && nStar ek && nStar ed && mE tb N c true a ea && mE tb N c true k ek && mE tb N c false d ed
  | .tcount i, .Subscript (.Name y _) eb _ => varB N c i y && isStr "count" eb
  | .tget i k d, .Call (.Attribute (.Subscript (.Name y _) eb _) m p) [ek, ed] [] cp => varB N c i y && isStr "rests" eb && decide (m = "get") && (p.endLine == cp.line) && nStar ek && nStar ed && mE tb N c true k ek && mE tb N c false d ed
  | .dsp kvs, .Dict ks vs _ => mDsp kvs ks vs
  | .heard e, .Call (.Name x _) [.Lambda params body scope _] [] _ => decide (x = "_law_heard") && tb.hd && c.lm && glB c x && noArgs params && LamX.lamSB c.sc scope && mE tb N (lamCs scope) false e body
  | .isx a n, .Call (.Name x _) [ea, .Name y _] [] _ => decide (x = "isinstance") && decide (tb.ex.lookup n = some y) && decide (n < 9) && tb.hd && glB c x && glB c y && nStar ea && mE tb N c true a ea
  | .isv a, .Call (.Name x _) [ea, .Name y _] [] _ => decide (x = "isinstance") && decide (y = "ValueError") && tb.hd && glB c x && glB c y && nStar ea && mE tb N c true a ea
  | .dspE ks es, .Dict kes vs _ => keysV ks kes vs && decide (ks.length ≤ 15) && decide (0 < ks.length) && mEs tb N c es vs
  | .rev _, _ => false
  | .comp own elt tg it cd, .ListComp ee [⟨et, ei, ifs, z⟩] scope _ => decide (z = 0) && blkC N c.sc scope own && (tg.slots.all fun i => (own.map (·.2)).contains i) && mI tb N c false et it ei && nSet ei && mTg N (blkCs c scope) tg et && mCd tb N (blkCs c scope) cd ifs && mE tb N (blkCs c scope) false elt ee
  | _, _ => false
def mO (tb : Tb) (N : List Str) (c : Cs) : O → Option Expr → Bool
  | .none, none => true
  | .some e, some x => mE tb N c true e x
  | _, _ => false
def mCd (tb : Tb) (N : List Str) (c : Cs) : O → List Expr → Bool
  | .none, [] => true
  | .some k, [x] => mE tb N c true k x
  | _, _ => false
def mEs (tb : Tb) (N : List Str) (c : Cs) : Es → List Expr → Bool
  | .nil, [] => true
  | .cons e es, x :: xs => nStar x && mE tb N c false e x && mEs tb N c es xs
  | _, _ => false
def mKs (tb : Tb) (N : List Str) (c : Cs) : Es → List Keyword → Bool
  | .nil, [] => true
  | .cons e es, ⟨_, x, _⟩ :: xs => mE tb N c false e x && mKs tb N c es xs
  | _, _ => false
def mI (tb : Tb) (N : List Str) (c : Cs) (fz : Bool) (tg : Expr) : I → Expr → Bool
  | .val e, x => mE tb N c (!fz) e x
  | .rng1 a, .Call (.Name x _) [ea] [] _ => decide (x = "range") && glB c x && nStar ea && mE tb N c true a ea
  | .rng2 a b, .Call (.Name x _) [ea, eb] [] _ => decide (x = "range") && glB c x && nStar ea && nStar eb && mE tb N c true a ea && mE tb N c true b eb
  | .zip a b, .Call (.Name x _) [ea, eb] [] _ => isTupB tg && decide (x = "zip") && glB c x && nStar ea && nStar eb && mE tb N c (!fz) a ea && mE tb N c (!fz) b eb
  | .zipN _ _, _ => false
  | .keys a, x => mE tb N c false a x
  | .enum a, .Call (.Name x _) [ea] [] _ => isTupB tg && decide (x = "enumerate") && glB c x && nStar ea && mE tb N c (!fz) a ea
  | _, _ => false
end
end Fm

/-! ### soundness of expressions -/
namespace Fm
open PySem PySem.Spec PyProof.Rows L2
/-- a def that may be called, at the level k -/
structure CallOk (X : Cx) (P : Pm) (cl : Nat → Addr) (sh : Sh) (k : Nat) (g : List D → List D → Tw → Res D) : Prop where
  ex : ∃ f fd ps Γ, FnOk X.prog X.w X.K X.mg X.base (CX X.prog X.w) k f fd ps (spD P.K P.T cl (sh.np + sh.ks.length + sh.dfl.length) Γ) ∧ X.mg sh.name = some (.ref f) ∧ PySem.W.keepIn X.K (.ref f) = true ∧
    (sh.ks = [] → ∃ ds, Vals (sh.dfl.map Cst.v) ds ∧ Binds X.K fd ps ds) ∧ (sh.ks ≠ [] → ∃ gg, KBn X.K fd ps sh.np sh.ks gg (fun vs zs => vs ++ zs ++ sh.dfl.map Cst.v)) ∧ ∀ xs ys t, g xs ys t = Γ (xs ++ ys ++ sh.dfl.map Cst.d) t
structure ExcOk (X : Cx) (C : Addr) (x : Str) : Prop where
  q : PySem.W.excIn X.K C He.veBase "ValueError.__new__" = true
  g : X.mg x = some (.ref C)
  k : PySem.W.keepIn X.K (.ref C) = true
  r : Raises X (.ref C)
def freeNames : List Str := ["len", "abs", "all", "any", "sum", "tuple", "list", "sorted", "isinstance", "int", "bool", "str", "range", "zip", "enumerate", "ValueError"]
def heardN : List Str := ["deed", "refused", "found", "e", "some", "names", "word"]
/-- what is heard of a deed -/
def TTh (K : PySem.W.Frag) (T : Tn) : (XK → Hp → VK → Prop) → Hp → VK → Prop := fun tl H Q => ∃ (F : Hp) (t : Tw), RelH K T F H F t H ∧ ∀ F1 H1, RelH K T F H F1 t H1 →
  tl (fun cls d H' => ∃ (n : Nat) (F' : Hp) (t' : Tw), n < 9 ∧ cls = .ref (T.cl n) ∧ d = none ∧ RelH K T F' H' F' t' H' ∧ ∀ v F2 H2, RelH K T F' H' F2 t' H2 → Rp K T F2 v (.tup [.str (hWord n)]) → Q v H2) H1
    fun v H' => ∃ (F' : Hp) (t' : Tw) (d : D), RelH K T F' H' F' t' H' ∧ Rp K T F' v d ∧ ∀ w F2 H2, RelH K T F' H' F2 t' H2 → Rp K T F2 w (.tup [.str "told", d]) → Q w H2
structure Heard (X : Cx) (P : Pm) : Prop where
  ex : ∃ (g c Pt : Addr) (pg : Arguments) (bg : List Stmt) (sg : Scope) (dV kV doc pm cdv ct oc : Value) (an od : Option Addr) (osl : Array (Option Value)),
    X.mg "_law_heard" = some (.ref g) ∧ PySem.W.keepIn X.K (.ref g) = true ∧ X.K.lookup g = some ⟨oc, od, .func (PySem.W.fnOf "_law_heard" "_law_heard" pg bg sg dV kV doc pm an cdv ct), osl⟩ ∧ PySem.W.codeIn X.K cdv "_law_heard" = true ∧
    L2.Binds X.K (PySem.W.fnOf "_law_heard" "_law_heard" pg bg sg dV kV doc pm an cdv ct) ["deed"] [] ∧ FnScope heardN ["deed"] sg ∧ LamX.GivesTo X heardN "_law_heard" sg g cdv bg "deed" (X.env.qual ++ "<lambda>") (TTh P.K P.T) ∧
    LamX.TabB X.base X.mg c Pt ∧ X.env.code = .ref c ∧ (Pt, X.env.qual ++ "<lambda>") ∈ P.T.tabs ∧ ∀ p ∈ P.T.tabs, p.1 = Pt → p.2 = X.env.qual ++ "<lambda>"
structure Ok (tb : Tb) (N : List Str) (G : Gam) (cs : Nat → D) (cl : Nat → Addr) (X : Cx) (P : Pm) (c : Cs) : Prop where
  hK : X.K = P.K
  hN : X.N = N
  nd : N.Nodup
  sc : X.env.scope = c.sc
  fn : X.fn = c.fn
  calm : X.calm = true
  room : Room G.lv X.A
  hcl : P.T.cl = cl
  free : ∀ x ∈ freeNames, X.mg x = none
  con : ∀ g x, tb.cs[g]? = some x → ∃ u v, X.mg x = some u ∧ RelV v u ∧ Rp P.K P.T (fun _ => none) v (cs g)
  call : ∀ d i sh, tb.sh[i]? = some sh → d ≤ G.lv → CallOk X P cl sh (G.lv - d) (G.f d i)
  tk : Takes X fun cc d _ H => EX cl P.XE cc d H
  own : PassesOwn (model X.prog X.w) X.A X.env X.xe
  exc : ∀ n x, tb.ex.lookup n = some x → ExcOk X (cl n) x
  nine : tb.hd = true → Nine X.K cl
  heard : tb.hd = true → c.lm = true → Heard X P
theorem Ok.hu {tb : Tb} {N : List Str} {G : Gam} {cs : Nat → D} {cl : Nat → Addr} {X : Cx} {P : Pm} {c : Cs} (ok : Ok tb N G cs cl X P c) : X.A.units + 200 < cLine := by
  have := ok.room.un
  omega
structure Snd (X : Cx) (P : Pm) (f : Rho → Tw → Res D) (fl : Bool) (e : Expr) : Prop where
  b : PE X e (tB P f)
  d : fl = false → PE X e (tD P f)
  t : PT X e (tT P f)
  w : ∀ op vs pos, e = .BoolOp op vs pos → PW X e (tT P f)
theorem Snd.plain {X : Cx} {P : Pm} {f : Rho → Tw → Res D} {fl : Bool} {e : Expr} (hK : X.K = P.K) (h : PE X e (tD P f)) (he : ∀ whole, isTrue e X.env whole = (do let v ← whole; standAt e.pos; holding [v] (truthy v))) (nw : ∀ op vs pos, e ≠ .BoolOp op vs pos) : Snd X P f fl e :=
  ⟨tB_tD h, fun _ => h, t_plain hK (tB_tD h) he, fun op vs pos z => absurd z (nw op vs pos)⟩
section
variable {tb : Tb} {N : List Str} {G : Gam} {cs : Nat → D} {cl : Nat → Addr} {X : Cx} {P : Pm} {c : Cs}
theorem and2 {a b : Bool} (h : (a && b) = true) : a = true ∧ b = true := Bool.and_eq_true_iff.mp h
theorem nameB_of {x : Str} (h : nameB x = true) : (x == ("__debug__" : Str)) = false ∧ (x == ("__classdict__" : Str)) = false ∧ x ≠ "__name__" := by
  obtain ⟨h1, h3⟩ := and2 h
  obtain ⟨h1, h2⟩ := and2 h1
  exact ⟨by simpa using h1, by simpa using h2, of_decide_eq_true h3⟩
theorem varB_of (ok : Ok tb N G cs cl X P c) {i : Nat} {x : Str} (h : varB N c i x = true) : X.N[i]? = some x ∧ Vis X.env.scope x ∧ (x == ("__debug__" : Str)) = false ∧ (x == ("__classdict__" : Str)) = false := by
  obtain ⟨h1, h3⟩ := and2 h
  obtain ⟨h1, h2⟩ := and2 h1
  obtain ⟨n1, n2, _⟩ := nameB_of h3
  refine ⟨by rw [ok.hN]; exact of_decide_eq_true h1, ?_, n1, n2⟩
  rw [ok.sc]
  unfold visB at h2
  unfold Vis
  split at h2
  · rename_i e
    exact .inl e
  · rename_i e
    exact .inr (.inl e)
  · rename_i e
    exact .inr (.inr e)
  · cases h2
theorem tgtB_of (ok : Ok tb N G cs cl X P c) {i : Nat} {x : Str} (h : tgtB N c i x = true) : X.N[i]? = some x ∧ Loc X.env.scope x ∧ (X.fn x = true ∨ X.env.scope.names.lookup x = some .local) := by
  obtain ⟨h1, h3⟩ := and2 h
  obtain ⟨h1, h2⟩ := and2 h1
  refine ⟨by rw [ok.hN]; exact of_decide_eq_true h1, ?_⟩
  rw [ok.sc, ok.fn]
  unfold locB at h2
  unfold L2.Loc
  split at h2
  · rename_i e
    exact ⟨.inl e, .inr e⟩
  · rename_i e
    exact ⟨.inr e, .inl h2⟩
  · cases h2
theorem glB_of (ok : Ok tb N G cs cl X P c) {x : Str} (h : glB c x = true) : Gl X x ∧ (x == ("__debug__" : Str)) = false ∧ x ≠ "__name__" := by
  obtain ⟨h1, h2⟩ := and2 h
  obtain ⟨n1, n2, n3⟩ := nameB_of h1
  refine ⟨?_, n1, n3⟩
  show X.env.scope.names.lookup x = _
  rw [ok.sc]
  split at h2
  · rename_i e
    exact e
  · cases h2
theorem star_of {e : Expr} {es : List Expr} {env : Env} (h : nStar e = true) : starEach (e :: es) env = (false, eval e env) :: starEach es env := by
  cases e <;> first | rfl | (cases h; done)
theorem plain_of {b : Expr} (h : nSlice b = true) : PlainIx b := by
  intro o i
  cases b <;> first | rfl | (cases h; done)
theorem fold_of {e : Expr} {env : Env} (h : nSet e = true) : ∀ x, foldedSetIterable e env x = pure x := by
  intro x
  cases e <;> first | rfl | (cases h; done)
theorem base_of {e : Expr} {m : Str} {env : Env} (h : nCall e = true) : attributeBase e m env (eval e env) = eval e env := by
  cases e <;> first | rfl | (cases h; done)
/-- in a comprehension's block -/
theorem Ok.blk (ok : Ok tb N G cs cl X P c) (scope : Scope) (s : Shared) (H : Hp) (C : Addr) (cls : List (Str × Addr)) (fp : List Addr) : Ok tb N G cs cl (X.blk s H scope (compEnvC scope cls C X.env) fp) P.nox (blkCs c scope) where
  hK := ok.hK
  hN := ok.hN
  nd := ok.nd
  sc := by
    show relS scope X.env.scope = relS scope c.sc
    rw [ok.sc]
  fn := rfl
  calm := ok.calm
  room := ok.room
  hcl := ok.hcl
  free := ok.free
  con := ok.con
  call := fun d i sh e h => by
    obtain ⟨f, fd, ps, Γ, h1⟩ := (ok.call d i sh e h).ex
    exact ⟨f, fd, ps, Γ, h1⟩
  tk := fun u s' ⟨a, B, sI, pins, σ, H, cls, d, e, I, nb, up, sky, na, os, ag, w⟩ => by
    obtain ⟨n, _, _, z⟩ := w
    exact z
  own := PassesOwn.never
  exc := fun n x e => by
    obtain ⟨h1, h2, h3, h4⟩ := ok.exc n x e
    exact ⟨h1, h2, h3, h4⟩
  nine := ok.nine
  heard := fun _ z => by cases z
/-- in a lambda's body -/
theorem Ok.lam (ok : Ok tb N G cs cl X P c) (h2 : 2 ≤ G.lv) (A : Around) (outer : List Env) (s : Shared) (H : Hp) (E : XK) (scope : Scope) (f c' : Addr) (hr : Room (G.lv - 2) (A.deeper (LamX.lamEnv X scope s.heap.objs.size f c'))) (F0 H0 : Hp) :
    Ok tb N G.low cs cl (LamX.lamCx X A outer s H E scope f c') ⟨P.K, P.T, F0, H0, fun n H' => E (.ref (cl n)) none H'⟩ (lamCs scope) where
  hK := ok.hK
  hN := ok.hN
  nd := ok.nd
  sc := rfl
  fn := rfl
  calm := rfl
  room := hr
  hcl := ok.hcl
  free := ok.free
  con := ok.con
  call := fun d i sh e h => by
    have h : d ≤ G.lv - 2 := h
    obtain ⟨f, fd, ps, Γ, h1, h2⟩ := (ok.call (d + 2) i sh e (by omega)).ex
    refine ⟨f, fd, ps, Γ, ?_, h2⟩
    have e : G.lv - (d + 2) = G.low.lv - d := by
      show _ = G.lv - 2 - d
      omega
    rw [← e]
    exact h1
  tk := by
    have tk := takes_of (X := LamX.lamCx X A outer s H E scope f c') (E := E) rfl rfl rfl rfl
    exact fun u s' z => tk u s' (by
      obtain ⟨a, B, sI, pins, σ, H, cls, d, e, I, nb, up, sky, na, os, ag, wn⟩ := z
      obtain ⟨n, e1, e2, z⟩ := wn
      exact ⟨a, B, sI, pins, σ, H, cls, d, e, I, nb, up, sky, na, os, ag, by rw [e1, e2]; exact z⟩)
  own := passes_of rfl
  exc := fun n x e => by
    obtain ⟨h1, h2, h3, h4⟩ := ok.exc n x e
    exact ⟨h1, h2, h3, h4⟩
  nine := ok.nine
  heard := fun _ z => by cases z
/-- a lambda was made -/
theorem RelH.lam {K : PySem.W.Frag} {T : Tn} {F0 H0 F H H1 : Hp} {t : Tw} (R : RelH K T F0 H0 F t H) (e : LamX.ExtN H H1) (tb : LamX.Tabs T.tabs H1) : RelH K T F H F t H1 :=
  ⟨fun b o h => e b o (R.sub b o h) (R.nt b o h), fun _ _ h => .inl h, Same.refl F, fun b o h _ _ n => e b o h n, fun b h o z => Classical.byContradiction fun n => h.no (e b o z (fun ps q => n ⟨ps, q⟩)) fun ps q => n ⟨ps, q⟩,
    ⟨e _ _ R.tw.a (by intro _ z; cases z), e _ _ R.tw.b (by intro _ z; cases z), R.tw.ne, R.tw.small⟩, R.tF1, R.tF2, R.sc, tb, R.nt⟩
theorem valsR_val {r : Rho} {i : Nat} {d : D} (h : (valsR r)[i]? = some (.val d)) : r[i]? = some (.val d) := by
  unfold valsR at h
  rw [List.getElem?_map] at h
  obtain ⟨s, e, z⟩ := Option.map_eq_some_iff.mp h
  cases s with
  | un => cases z
  | val x =>
    cases z
    exact e
  | own x => cases z
theorem valsR_own {r : Rho} {i : Nat} {d : D} (h : (valsR r)[i]? = some (.own d)) : False := by
  unfold valsR at h
  rw [List.getElem?_map] at h
  obtain ⟨s, e, z⟩ := Option.map_eq_some_iff.mp h
  cases s <;> cases z
theorem Rel.vals {K : PySem.W.Frag} {T : Tn} {F0 H0 F H : Hp} {r : Rho} {t : Tw} {σ : L2.St} (R : Rel K T F0 H0 F r t σ H) : Rel K T F H F (valsR r) t σ H :=
  ⟨R.toRelH.refl, by unfold valsR; rw [List.length_map]; exact R.len, fun i d h => R.val i d (valsR_val h), fun i d h => (valsR_own h).elim, fun i j d e p h => (valsR_own h).elim⟩
theorem noArgs_of {a : Arguments} (h : noArgs a = true) : a = { posonlyargs := [], args := [], vararg := none, kwonlyargs := [], kw_defaults := [], kwarg := none, defaults := [] } := by
  unfold noArgs at h
  simp only [Bool.and_eq_true, List.isEmpty_iff, Option.isNone_iff_eq_none] at h
  obtain ⟨⟨⟨⟨⟨⟨h1, h2⟩, h3⟩, h4⟩, h5⟩, h6⟩, h7⟩ := h
  obtain ⟨a1, a2, a3, a4, a5, a6, a7⟩ := a
  subst h1 h2 h3 h4 h5 h6 h7
  rfl
theorem s_heard (ok : Ok tb N G cs cl X P c) (hh : Heard X P) (h2 : 2 ≤ G.lv) {p lpos pos : Pos} {params : Arguments} {body : Expr} {scope : Scope} (hg : Gl X "_law_heard") (hn : noArgs params = true) (L : LamX.LamS X.env.scope scope) {f : Rho → Tw → Res D}
    (hbody : ∀ (X' : Cx) (P' : Pm), Ok tb N G.low cs cl X' P' (lamCs scope) → PE X' body (tD P' f)) : PE X (.Call (.Name "_law_heard" p) [.Lambda params body scope lpos] [] pos) (tD P fun r t => heardR (f (valsR r) t)) := by
  obtain ⟨g, c0, Pt, pg, bg, sg, dV, kV, doc, pm, cdv, ct, oc, an, od, osl, hm, hk, lk, hcg, hb, Sg, hG, TB, hcode, hmT, hu⟩ := hh.ex
  obtain rfl := noArgs_of hn
  have hva : Vis sg "deed" := (Sg.par "deed" (by simp)).elim .inl fun z => .inr (.inl z)
  refine peMono (LamX.pe_lamcall (k := G.lv - 2) (t := fun E σ H Q => ∃ F0 H0, tD ⟨P.K, P.T, F0, H0, fun n H' => E (.ref (cl n)) none H'⟩ f σ H Q) hg hm hk lk hcg hb Sg rfl hva hG TB hcode hmT hu (by rw [Nat.sub_add_cancel h2]; exact ok.room) L rfl (fun q cl pm cv ctv => rfl) (fun A outer s H E f' c' hr => ?_)) fun σ H Q ⟨F, r, t, R, h⟩ => ⟨R.tabs, fun H1 e1 tb1 => ?_⟩
  · refine ⟨fun pins s' σ H' Q I ⟨F0, H0, z⟩ => ?_⟩
    exact (hbody _ _ (ok.lam h2 A outer s H E scope f' c' hr F0 H0)).run pins s' σ H' Q I z
  · have b0 := R.toRelH.lam e1 tb1
    have R0 := R.step b0
    refine ⟨F, t, R0.toRelH.refl, fun F1 H2 b1' => ?_⟩
    have b1 := b0.trans b1'
    have R1 := R0.step b1'
    refine ⟨F1, H2, F1, valsR r, t, R1.vals, ?_⟩
    dsimp only at h
    cases e : f (valsR r) t with
    | ok d t' =>
      rw [e] at h
      have h : ∀ v F' H', Kp P.T F H F' H' → RelP P F' r t' σ H' → Rp P.K P.T F' v (.tup [.str "told", d]) → Q v H' := h
      intro v F' H' k R' rv
      have b2 : RelH P.K P.T F1 H2 F' t' H' := R'.toRelH
      exact ⟨F', t', d, R'.toRelH.refl, rv, fun w F2 H3 b3 rw => h w F2 H3 ((Kp.of b1).trans ((Kp.of b2).trans (Kp.of b3))) ((R1.step b2).step b3) rw⟩
    | exc n t' =>
      rw [e] at h
      unfold heardR at h
      dsimp only at h
      split at h
      · rename_i hn
        have hn := of_decide_eq_true hn
        have h : ∀ v F' H', Kp P.T F H F' H' → RelP P F' r t' σ H' → Rp P.K P.T F' v (.tup [.str (hWord n)]) → Q v H' := h
        intro F' H' s2 b2
        have b2 : RelH P.K P.T F1 H2 F' t' H' := b2
        exact ⟨n, F', t', hn, by rw [ok.hcl], rfl, b2.refl, fun v F2 H3 b3 rv => h v F2 H3 ((Kp.of b1).trans ((Kp.of b2).trans (Kp.of b3))) ((R1.step b2).step b3) rv⟩
      · exact h.elim
    | bad =>
      rw [e] at h
      exact h.elim
theorem dsp_of : ∀ {kvs : List (Str × Cst)} {ks : List (Option Expr)} {vs : List Expr}, mDsp kvs ks vs = true → DspIs kvs ks vs
  | [], [], [], _ => .nil
  | (x, k) :: r, some (.Constant (.str y) j q) :: ks, .Constant k' j' q' :: vs, h => by
    obtain ⟨h1, h2⟩ := and2 (show (decide (x = y) && decide (k.k = k') && mDsp r ks vs) = true from h)
    obtain ⟨h3, h4⟩ := and2 h1
    obtain rfl := of_decide_eq_true h3
    obtain rfl := of_decide_eq_true h4
    exact .cons (dsp_of h2)
mutual
theorem sTg (ok : Ok tb N G cs cl X P c) : ∀ {t : Tg} {e : Expr}, mTg N c t e = true → PG X e (gT P t)
  | .name i, .Name x p, h => by
    obtain ⟨h1, h2, h3⟩ := tgtB_of ok (show tgtB N c i x = true from h)
    exact g_name (by rw [ok.hN]; exact ok.nd) h1 h2 h3
  | .tup ts, .Tuple es k p, h => by
    have h : mTgs N c ts es = true := h
    obtain ⟨h1, h2, h3⟩ := sTgs ok h
    exact g_tup ok.hK ok.calm h1 h2 h3
theorem sTgs (ok : Ok tb N G cs cl X P c) : ∀ {ts : Tgs} {es : List Expr}, mTgs N c ts es = true → PGs X es (gTs P ts) ∧ (assignEach es X.env).length = ts.count ∧ (assignEach es X.env).findIdx? (·.1) = none
  | .nil, [], _ => ⟨g_nil, rfl, rfl⟩
  | .cons t ts, e :: es, h => by
    obtain ⟨h1, h2⟩ := and2 (show (nStar e && mTg N c t e && mTgs N c ts es) = true from h)
    obtain ⟨h3, h4⟩ := and2 h1
    obtain ⟨g1, g2, g3⟩ := sTgs ok h2
    have ea : assignEach (e :: es) X.env = (false, assign e X.env) :: assignEach es X.env := by
      cases e <;> first | rfl | (cases h3; done)
    refine ⟨g_cons (sTg ok h4) g1 (by rw [ea]; rfl), ?_, ?_⟩
    · rw [ea, List.length_cons, g2]
      rfl
    · rw [ea, List.findIdx?_cons]
      simp [g3]
end
end
end Fm

namespace Fm
open PySem PySem.Spec PyProof.Rows L2
section
variable {G : Gam} {cs : Nat → D}
theorem ev_cst (k : Cst) : ev G cs (.cst k) = fun _ t => .ok k.d t := by funext r t; rw [ev]
theorem ev_var (i : Nat) : ev G cs (.var i) = fun r t => match r[i]? with
    | some (.val d) => .ok d t
    | _ => .bad := by funext r t; first | (rw [ev]; done) | (rw [ev]; rfl)
theorem ev_bor (i : Nat) : ev G cs (.bor i) = fun r t => match r[i]? with
    | some (.val d) => .ok d t
    | some (.own d) => .ok d t
    | _ => .bad := by funext r t; first | (rw [ev]; done) | (rw [ev]; rfl)
theorem ev_glob (g : Nat) : ev G cs (.glob g) = fun _ t => .ok (cs g) t := by funext r t; rw [ev]
theorem ev_bin (op : Operator) (a b : E) : ev G cs (.bin op a b) = fun r t => (ev G cs a r t).bind fun x t1 => (ev G cs b r t1).bind fun y t2 => lift (binD op x y) t2 := by funext r t; rw [ev]
theorem ev_cat (a b : E) : ev G cs (.cat a b) = fun r t => (ev G cs a r t).bind fun x t1 => (ev G cs b r t1).bind fun y t2 => lift (catD x y) t2 := by funext r t; rw [ev]
theorem ev_neg (a : E) : ev G cs (.neg a) = fun r t => (ev G cs a r t).bind fun x t1 => lift (negD x) t1 := by funext r t; rw [ev]
theorem ev_not (a : E) : ev G cs (.not a) = fun r t => (ev G cs a r t).bind fun x t1 => lift (notD x) t1 := by funext r t; rw [ev]
theorem ev_and (a b : E) : ev G cs (.and a b) = andE (ev G cs a) (ev G cs b) := by funext r t; first | (rw [ev]; done) | (rw [ev]; rfl)
theorem ev_or (a b : E) : ev G cs (.or a b) = orE (ev G cs a) (ev G cs b) := by funext r t; first | (rw [ev]; done) | (rw [ev]; rfl)
theorem ev_ite (k a b : E) : ev G cs (.ite k a b) = iteE (ev G cs k) (ev G cs a) (ev G cs b) := by funext r t; first | (rw [ev]; done) | (rw [ev]; rfl)
theorem ev_cmp (op : CmpOp) (a b : E) : ev G cs (.cmp op a b) = fun r t => (ev G cs a r t).bind fun x t1 => (ev G cs b r t1).bind fun y t2 => lift (cmpD op x y) t2 := by funext r t; rw [ev]
theorem ev_chain (o1 o2 : CmpOp) (a b k : E) : ev G cs (.chain o1 o2 a b k) = chainE o1 o2 (ev G cs a) (ev G cs b) (ev G cs k) := by funext r t; first | (rw [ev]; done) | (rw [ev]; rfl)
theorem ev_ix (a b : E) : ev G cs (.ix a b) = fun r t => (ev G cs a r t).bind fun x t1 => (ev G cs b r t1).bind fun y t2 => lift (ixD x y) t2 := by funext r t; rw [ev]
theorem ev_dix (a b : E) : ev G cs (.dix a b) = fun r t => (ev G cs a r t).bind fun x t1 => (ev G cs b r t1).bind fun y t2 => lift (dixD x y) t2 := by funext r t; rw [ev]
theorem ev_cut (a : E) (lo hi : O) : ev G cs (.cut a lo hi) = cutE (ev G cs a) (evO G cs lo) (evO G cs hi) := by funext r t; first | (rw [ev]; done) | (rw [ev]; rfl)
theorem ev_tup (es : Es) : ev G cs (.tup es) = fun r t => (evs G cs es r t).bind fun xs t1 => if okLen xs.length then .ok (.tup xs) t1 else .bad := by funext r t; rw [ev]
theorem ev_lst (es : Es) : ev G cs (.lst es) = fun r t => (evs G cs es r t).bind fun xs t1 => if okLen xs.length then .ok (.lst xs) t1 else .bad := by funext r t; rw [ev]
theorem ev_call (i : Nat) (es ks : Es) : ev G cs (.call i es ks) = fun r t => (evs G cs es r t).bind fun xs t1 => (evs G cs ks r t1).bind fun ys t2 => G.f 0 i xs ys t2 := by funext r t; rw [ev]
theorem ev_blt (b : Blt) (a : E) : ev G cs (.blt b a) = fun r t => (ev G cs a r t).bind fun x t1 => lift (blt1 b x) t1 := by funext r t; rw [ev]
theorem ev_isa (a : E) (T : Ty) : ev G cs (.isa a T) = fun r t => (ev G cs a r t).bind fun x t1 => lift ((isaD x T).map D.bl) t1 := by funext r t; rw [ev]
theorem ev_comp (own : List (Str × Nat)) (elt : E) (tg : Tg) (it : I) (cd : O) : ev G cs (.comp own elt tg it cd) = compE tg (own.map (·.2)) (evI G cs it) (evO G cs cd) (ev G cs elt) := by funext r t; first | (rw [ev]; done) | (rw [ev]; rfl)
theorem ev_get (a k d : E) : ev G cs (.get a k d) = getE (ev G cs a) (ev G cs k) (ev G cs d) := by funext r t; first | (rw [ev]; done) | (rw [ev]; rfl)
theorem ev_dsp (kvs : List (Str × Cst)) : ev G cs (.dsp kvs) = fun _ t => if decide (kvs.length ≤ 15) then .ok (.dct (mergeD [] (kvs.map fun p => (p.1, p.2.d)))) t else .bad := by funext r t; rw [ev]
theorem ev_rev (a : E) : ev G cs (.rev a) = fun r t => (ev G cs a r t).bind fun x t1 => lift (revD x) t1 := by funext r t; rw [ev]
theorem ev_heard (e : E) : ev G cs (.heard e) = fun r t => if decide (2 ≤ G.lv) then heardR (ev G.low cs e (valsR r) t) else .bad := by funext r t; rw [ev]
theorem ev_isx (a : E) (n : Nat) : ev G cs (.isx a n) = fun r t => (ev G cs a r t).bind fun x t1 => lift (isxD x n) t1 := by funext r t; rw [ev]
theorem ev_isv (a : E) : ev G cs (.isv a) = fun r t => (ev G cs a r t).bind fun x t1 => lift (isvD x) t1 := by funext r t; rw [ev]
/-- expressions, one by one -/
def esF (G : Gam) (cs : Nat → D) : Es → List (Rho → Tw → Res D)
  | .nil => []
  | .cons e es => ev G cs e :: esF G cs es
theorem evs_evL : ∀ es : Es, evs G cs es = evL (esF G cs es)
  | .nil => by funext r t; rw [evs]; rfl
  | .cons e es => by
    funext r t
    rw [evs, evs_evL es]
    rfl
theorem ev_dspE (ks : List Str) (es : Es) : ev G cs (.dspE ks es) = dspEE ks (esF G cs es) := by funext r t; rw [ev, evs_evL]; rfl
theorem evI_keys (a : E) : evI G cs (.keys a) = keysE (ev G cs a) := by funext r t; first | (rw [evI]; done) | (rw [evI]; rfl)
theorem ev_tcount (i : Nat) : ev G cs (.tcount i) = tcountE i := by funext r t; first | (rw [ev]; done) | (rw [ev]; rfl)
theorem ev_tget (i : Nat) (k d : E) : ev G cs (.tget i k d) = tgetE i (ev G cs k) (ev G cs d) := by funext r t; first | (rw [ev]; done) | (rw [ev]; rfl)
theorem evO_none : evO G cs .none = fun _ t => .ok none t := by funext r t; rw [evO]
theorem evO_some (e : E) : evO G cs (.some e) = fun r t => (ev G cs e r t).bind fun x t1 => .ok (some x) t1 := by funext r t; rw [evO]
theorem evs_nil : evs G cs .nil = fun _ t => .ok [] t := by funext r t; rw [evs]
theorem evs_cons (e : E) (es : Es) : evs G cs (.cons e es) = fun r t => (ev G cs e r t).bind fun x t1 => (evs G cs es r t1).bind fun xs t2 => .ok (x :: xs) t2 := by funext r t; rw [evs]
theorem evI_val (e : E) : evI G cs (.val e) = evV (ev G cs e) := by funext r t; first | (rw [evI]; done) | (rw [evI]; rfl)
theorem evI_rng1 (a : E) : evI G cs (.rng1 a) = fun r t => (ev G cs a r t).bind fun x t1 => match x with
    | .int j => if okRng j then .ok (rngD 0 j.toNat) t1 else .bad
    | _ => .bad := by funext r t; first | (rw [evI]; done) | (rw [evI]; rfl)
theorem evI_rng2 (a b : E) : evI G cs (.rng2 a b) = fun r t => (ev G cs a r t).bind fun x t1 => (ev G cs b r t1).bind fun y t2 => match x, y with
    | .int i, .int j => if okRng i && okRng j then .ok (rngD i (j - i).toNat) t2 else .bad
    | _, _ => .bad := by funext r t; first | (rw [evI]; done) | (rw [evI]; rfl)
theorem evI_zip (a b : E) : evI G cs (.zip a b) = zipE (ev G cs a) (ev G cs b) := by funext r t; first | (rw [evI]; done) | (rw [evI]; rfl)
theorem evI_zipN (a b : E) : evI G cs (.zipN a b) = zipNE (ev G cs a) (ev G cs b) := by funext r t; first | (rw [evI]; done) | (rw [evI]; rfl)
theorem evI_enum (a : E) : evI G cs (.enum a) = enumE (ev G cs a) := by funext r t; first | (rw [evI]; done) | (rw [evI]; rfl)
theorem evs_len {xs : List Expr} {tb : Tb} {N : List Str} {c : Cs} : ∀ {es : Es} {xs : List Expr}, mEs tb N c es xs = true → ∀ r t ys t1, evs G cs es r t = .ok ys t1 → ys.length = xs.length
  | .nil, [], _, r, t, ys, t1, e => by
    rw [evs_nil] at e
    cases e
    rfl
  | .cons k es, x :: xs, h, r, t, ys, t1, e => by
    obtain ⟨_, h2⟩ := and2 (show (nStar x && mE tb N c false k x && mEs tb N c es xs) = true from h)
    rw [evs_cons] at e
    cases e1 : ev G cs k r t with
    | ok y t2 =>
      simp only [e1, Res.bind_ok] at e
      cases e2 : evs G cs es r t2 with
      | ok zs t3 =>
        simp only [e2, Res.bind_ok] at e
        cases e
        rw [List.length_cons, List.length_cons, evs_len (xs := xs) h2 r t2 zs _ e2]
      | exc n t3 =>
        simp only [e2] at e
        cases e
      | bad =>
        simp only [e2] at e
        cases e
    | exc n t2 =>
      simp only [e1] at e
      cases e
    | bad =>
      simp only [e1] at e
      cases e
theorem evs_lenK {tb : Tb} {N : List Str} {c : Cs} : ∀ {es : Es} {xs : List Keyword}, mKs tb N c es xs = true → ∀ r t ys t1, evs G cs es r t = .ok ys t1 → ys.length = xs.length
  | .nil, [], _, r, t, ys, t1, e => by
    rw [evs_nil] at e
    cases e
    rfl
  | .cons k es, ⟨nm, x, p⟩ :: xs, h, r, t, ys, t1, e => by
    obtain ⟨_, h2⟩ := and2 (show (mE tb N c false k x && mKs tb N c es xs) = true from h)
    rw [evs_cons] at e
    cases e1 : ev G cs k r t with
    | ok y t2 =>
      simp only [e1, Res.bind_ok] at e
      cases e2 : evs G cs es r t2 with
      | ok zs t3 =>
        simp only [e2, Res.bind_ok] at e
        cases e
        rw [List.length_cons, List.length_cons, evs_lenK h2 r t2 zs _ e2]
      | exc n t3 =>
        simp only [e2] at e
        cases e
      | bad =>
        simp only [e2] at e
        cases e
    | exc n t2 =>
      simp only [e1] at e
      cases e
    | bad =>
      simp only [e1] at e
      cases e
end
/-- a new object is told as nobody's -/
def freshB : E → Bool
  | .lst _ => true
  | .comp _ _ _ _ _ => true
  | .blt .list _ => true
  | .blt .sorted _ => true
  | .dsp _ => true
  | .dspE _ _ => true
  | .cat _ _ => true
  | _ => false
theorem t_ite {X : Cx} {P : Pm} {a b c : Expr} {pos : Pos} {fa fb fc : Rho → Tw → Res D} (hc : PT X c (tT P fc)) (ha : PT X a (tT P fa)) (hb : PT X b (tT P fb)) : PT X (.IfExp c a b pos) (tT P (iteE fc fa fb)) := by
  refine ⟨fun pins s0 σ H Q I ⟨F, r, t, R, h⟩ => ?_⟩
  show wpAny _ _ (isTrue c X.env (eval c X.env) >>= fun d => if d = true then isTrue a X.env (eval a X.env) else isTrue b X.env (eval b X.env)) _ _ _
  refine wpAny_bind (thn (hc.run pins s0 σ H (fun k H1 => if k = true then tT P fa σ H1 Q else tT P fb σ H1 Q) I ⟨F, r, t, R, h.bind.mono fun d t' h => ?_⟩) fun d s1 ⟨H1, I1, q1⟩ => ?_)
  · cases e : truD d with
    | none =>
      rw [e] at h
      exact h.elim
    | some k =>
      rw [e] at h
      refine ⟨k, rfl, fun F' H' s R' => ?_⟩
      cases k with
      | true => exact ⟨F', r, t', R', ((show Aft P F (fa r t') _ from h).up s.1).mono fun d2 t2 ⟨b2, e2, q⟩ => ⟨b2, e2, fun F2 H2 s2 R2 => q F2 H2 (s.trans s2) R2⟩⟩
      | false => exact ⟨F', r, t', R', ((show Aft P F (fb r t') _ from h).up s.1).mono fun d2 t2 ⟨b2, e2, q⟩ => ⟨b2, e2, fun F2 H2 s2 R2 => q F2 H2 (s.trans s2) R2⟩⟩
  · cases d with
    | true => exact ha.run pins s1 σ H1 Q I1 q1
    | false => exact hb.run pins s1 σ H1 Q I1 q1
section
variable {tb : Tb} {N : List Str} {G : Gam} {cs : Nat → D} {cl : Nat → Addr}
theorem notWord {X : Cx} {P : Pm} {f : Rho → Tw → Res D} {e : Expr} (nw : ∀ op vs pos, e ≠ .BoolOp op vs pos) : ∀ op vs pos, e = .BoolOp op vs pos → PW X e (tT P f) := fun op vs pos z => absurd z (nw op vs pos)
theorem s_callA {X : Cx} {P : Pm} {c : Cs} (ok : Ok tb N G cs cl X P c) {i : Nat} {sh : Sh} {x : Str} {p pos : Pos} {xs : List Expr} {kws : List Keyword} {es ks : Es} (hsh : tb.sh[i]? = some sh) (hx : sh.name = x) (hg : glB c x = true) (hl : xs.length = sh.np)
    (hk : kws.map (·.arg) = sh.ks.map some) (h0 : kws = [] ∨ xs ≠ []) (he : mEs tb N c es xs = true) (hke : mKs tb N c ks kws = true) (pa : PA X xs (tDs P (evs G cs es))) (pk : PK X kws (tDs P (evs G cs ks))) :
    PE X (.Call (.Name x p) xs kws pos) (tD P (ev G cs (.call i es ks))) := by
  subst hx
  obtain ⟨f, fd, ps, Γ, F, hm, hkp, hb0, hb1, hG⟩ := (ok.call 0 i sh hsh (Nat.zero_le _)).ex
  have hr : Room (G.lv - 0) X.A := ok.room
  obtain ⟨g1, g2, g3⟩ := glB_of ok hg
  have lk : kws.length = sh.ks.length := by
    have := congrArg List.length hk
    simpa using this
  have dd : ∀ F, RpL P.K P.T F (sh.dfl.map Cst.v) (sh.dfl.map Cst.d) := fun F => by
    induction sh.dfl with
    | nil => exact .nil
    | cons d r ih => exact .cons d.rp ih
  have ld : (sh.dfl.map Cst.d).length = sh.dfl.length := List.length_map ..
  rw [ev_call]
  by_cases hks : sh.ks = []
  · obtain ⟨ds, hv, hb⟩ := hb0 hks
    rw [hks] at lk F
    have ek : kws = [] := List.length_eq_zero_iff.mp lk
    subst ek
    cases ks with
    | cons _ _ => cases hke
    | nil =>
      cases xs with
      | nil =>
        cases es with
        | cons _ _ => cases he
        | nil =>
          have e : (fun r t => (evs G cs .nil r t).bind fun xs t1 => (evs G cs .nil r t1).bind fun ys t2 => G.f 0 i xs ys t2) = fun (r : Rho) t => Γ (sh.dfl.map Cst.d) t := by
            funext r t
            simp only [evs_nil, Res.bind_ok, hG, List.nil_append]
          rw [e]
          have hl : 0 = sh.np := hl
          exact s_call0 F hr g1 hm hkp hb hv dd ok.tk (by rw [ld, ← hl]; simp) g2
      | cons y ys =>
        have e : (fun r t => (evs G cs es r t).bind fun xs t1 => (evs G cs .nil r t1).bind fun ys t2 => G.f 0 i xs ys t2) = fun (r : Rho) t => (evs G cs es r t).bind fun xs t1 => Γ (xs ++ sh.dfl.map Cst.d) t1 := by
          funext r t
          simp only [evs_nil, Res.bind_ok, hG, List.append_nil]
        rw [e]
        have hst : starEach (y :: ys) X.env = (false, eval y X.env) :: starEach ys X.env := by
          cases es with
          | nil => cases he
          | cons k0 es0 =>
            obtain ⟨h1, _⟩ := and2 (show (nStar y && mE tb N c false k0 y && mEs tb N c es0 ys) = true from he)
            exact star_of (and2 h1).1
        have hpl : ∀ {es0 : Es} {ys : List Expr}, mEs tb N c es0 ys = true → (backTo pos (starEach ys X.env)).any (·.1) = false := by
          intro es0 ys
          induction ys generalizing es0 with
          | nil => intro _; rfl
          | cons z zs ih =>
            intro h
            cases es0 with
            | nil => cases h
            | cons k0 es1 =>
              obtain ⟨h1, h2⟩ := and2 (show (nStar z && mE tb N c false k0 z && mEs tb N c es1 zs) = true from h)
              rw [star_of (and2 h1).1]
              exact ih h2
        have hys : ∃ es0, mEs tb N c es0 ys = true := by
          cases es with
          | nil => cases he
          | cons k0 es0 => exact ⟨es0, (and2 (show (nStar y && mE tb N c false k0 y && mEs tb N c es0 ys) = true from he)).2⟩
        obtain ⟨es0, hys⟩ := hys
        refine s_call F hr g1 hm hkp hb hv dd ok.tk pa (fun r t zs t1 e1 => ?_) g2 hst (hpl hys)
        rw [evs_len (xs := y :: ys) he r t zs t1 e1, ld, hl]
        simp
  · obtain ⟨gg, hb⟩ := hb1 hks
    have kne : kws ≠ [] := fun e => hks (List.length_eq_zero_iff.mp (by rw [← lk, e]; rfl))
    rcases h0 with h0 | h0
    · exact absurd h0 kne
    cases xs with
    | nil => exact absurd rfl h0
    | cons y ys =>
      have hst : starEach (y :: ys) X.env = (false, eval y X.env) :: starEach ys X.env := by
        cases es with
        | nil => cases he
        | cons k0 es0 =>
          obtain ⟨h1, _⟩ := and2 (show (nStar y && mE tb N c false k0 y && mEs tb N c es0 ys) = true from he)
          exact star_of (and2 h1).1
      have hpl : ∀ {es0 : Es} {ys : List Expr}, mEs tb N c es0 ys = true → (backTo pos (starEach ys X.env)).any (·.1) = false := by
        intro es0 ys
        induction ys generalizing es0 with
        | nil => intro _; rfl
        | cons z zs ih =>
          intro h
          cases es0 with
          | nil => cases h
          | cons k0 es1 =>
            obtain ⟨h1, h2⟩ := and2 (show (nStar z && mE tb N c false k0 z && mEs tb N c es1 zs) = true from h)
            rw [star_of (and2 h1).1]
            exact ih h2
      have kwl : ∀ {kws : List Keyword} {l : List Str}, kws.map (·.arg) = l.map some → (backToKw pos (keywordEach kws X.env)).all (·.1.isSome) = true ∧ (backToKw pos (keywordEach kws X.env)).filterMap (·.1) = l ∧ (backToKw pos (keywordEach kws X.env)).any (·.1.isNone) = false := by
        intro kws
        induction kws with
        | nil =>
          intro l h
          cases l with
          | nil => exact ⟨rfl, rfl, rfl⟩
          | cons _ _ => cases h
        | cons k0 kr ih =>
          intro l h
          cases l with
          | nil => cases h
          | cons z zs =>
            obtain ⟨nm, e0, p0⟩ := k0
            simp only [List.map_cons, List.cons.injEq] at h
            obtain ⟨h1, h2⟩ := h
            subst h1
            obtain ⟨i1, i2, i3⟩ := ih h2
            refine ⟨?_, ?_, ?_⟩
            · show (true && (backToKw pos (keywordEach kr X.env)).all (·.1.isSome)) = true
              rw [i1]
              rfl
            · show z :: (backToKw pos (keywordEach kr X.env)).filterMap (·.1) = z :: zs
              rw [i2]
            · show (false || (backToKw pos (keywordEach kr X.env)).any (·.1.isNone)) = false
              rw [i3]
              rfl
      obtain ⟨k1, k2, k3⟩ := kwl hk
      have e : (fun r t => (evs G cs es r t).bind fun xs t1 => (evs G cs ks r t1).bind fun ys t2 => G.f 0 i xs ys t2) = fun (r : Rho) t => (evs G cs es r t).bind fun xs t1 => (evs G cs ks r t1).bind fun ys t2 => Γ (xs ++ ys ++ sh.dfl.map Cst.d) t2 := by
        funext r t
        simp only [hG]
      rw [e]
      refine s_callK F hr g1 hm hkp hb dd ok.tk pa pk (fun r t zs t1 e1 => ?_) (fun r t zs t1 e1 => ?_) (by rw [ld]) k1 k2 g2 hst ?_
      · rw [evs_len (xs := y :: ys) he r t zs t1 e1, hl]
      · rw [evs_lenK hke r t zs t1 e1, lk]
      · rw [hpl he, k3]
        rfl
end
end Fm

namespace Fm
open PySem PySem.Spec PyProof.Rows L2
section
variable {tb : Tb} {N : List Str} {c : Cs} {fl : Bool}
theorem mE_cst {k : Cst} {e : Expr} (h : mE tb N c fl (.cst k) e = true) : ∃ k' j p, e = .Constant k' j p ∧ (decide (k.k = k')) = true := by
  cases e
  all_goals first
    | (cases h; done)
    | exact ⟨_, _, _, rfl, h⟩
theorem mE_var {i : Nat} {e : Expr} (h : mE tb N c fl (.var i) e = true) : ∃ x p, e = .Name x p ∧ (varB N c i x) = true := by
  cases e
  all_goals first
    | (cases h; done)
    | exact ⟨_, _, rfl, h⟩
theorem mE_bor {i : Nat} {e : Expr} (h : mE tb N c fl (.bor i) e = true) : ∃ x p, e = .Name x p ∧ (fl && varB N c i x) = true := by
  cases e
  all_goals first
    | (cases h; done)
    | exact ⟨_, _, rfl, h⟩
theorem mE_glob {g : Nat} {e : Expr} (h : mE tb N c fl (.glob g) e = true) : ∃ x p, e = .Name x p ∧ (decide (tb.cs[g]? = some x) && glB c x) = true := by
  cases e
  all_goals first
    | (cases h; done)
    | exact ⟨_, _, rfl, h⟩
theorem mE_bin {op : Operator} {a b : E} {e : Expr} (h : mE tb N c fl (.bin op a b) e = true) : ∃ ea op' eb p, e = .BinOp ea op' eb p ∧ (decide (op = op') && opB op && mE tb N c true a ea && mE tb N c true b eb) = true := by
  cases e
  all_goals first
    | (cases h; done)
    | exact ⟨_, _, _, _, rfl, h⟩
theorem mE_cat {a b : E} {e : Expr} (h : mE tb N c fl (.cat a b) e = true) : ∃ ea eb p, e = .BinOp ea .Add eb p ∧ (mE tb N c true a ea && mE tb N c true b eb) = true := by
  cases e
  all_goals first
    | (cases h; done)
    | exact ⟨_, _, _, rfl, h⟩
    | (rename_i a1 a2 a3 a4; cases a2 <;> first | (cases h; done) | exact ⟨_, _, _, rfl, h⟩)
theorem mE_neg {a : E} {e : Expr} (h : mE tb N c fl (.neg a) e = true) : ∃ ea p, e = .UnaryOp .USub ea p ∧ (mE tb N c true a ea) = true := by
  cases e
  all_goals first
    | (cases h; done)
    | exact ⟨_, _, rfl, h⟩
    | (rename_i a1 a2 a3; cases a1 <;> first | (cases h; done) | exact ⟨_, _, rfl, h⟩)
theorem mE_not {a : E} {e : Expr} (h : mE tb N c fl (.not a) e = true) : ∃ ea p, e = .UnaryOp .Not ea p ∧ (mE tb N c true a ea) = true := by
  cases e
  all_goals first
    | (cases h; done)
    | exact ⟨_, _, rfl, h⟩
    | (rename_i a1 a2 a3; cases a1 <;> first | (cases h; done) | exact ⟨_, _, rfl, h⟩)
def mAnd (tb : Tb) (N : List Str) (c : Cs) (b : E) (y : Expr) (r : List Expr) (p : Pos) : Bool := match r with
    | [] => mE tb N c false b y
    | z :: r' => mE tb N c false b (.BoolOp .And (y :: z :: r') p)
theorem mE_and {a b : E} {e : Expr} (h : mE tb N c fl (.and a b) e = true) : ∃ x y r p, e = .BoolOp .And (x :: y :: r) p ∧ (mE tb N c false a x && mAnd tb N c b y r p) = true := by
  cases e
  all_goals first
    | (cases h; done)
    | exact ⟨_, _, _, _, rfl, h⟩
    | (rename_i a1 a2 a3; cases a1 <;> first | (cases h; done) | (cases a2 with | nil => (cases h; done) | cons x a2 => cases a2 with | nil => (cases h; done) | cons y r => exact ⟨_, _, _, _, rfl, h⟩))
def mOr (tb : Tb) (N : List Str) (c : Cs) (b : E) (y : Expr) (r : List Expr) (p : Pos) : Bool := match r with
    | [] => mE tb N c false b y
    | z :: r' => mE tb N c false b (.BoolOp .Or (y :: z :: r') p)
theorem mE_or {a b : E} {e : Expr} (h : mE tb N c fl (.or a b) e = true) : ∃ x y r p, e = .BoolOp .Or (x :: y :: r) p ∧ (mE tb N c false a x && mOr tb N c b y r p) = true := by
  cases e
  all_goals first
    | (cases h; done)
    | exact ⟨_, _, _, _, rfl, h⟩
    | (rename_i a1 a2 a3; cases a1 <;> first | (cases h; done) | (cases a2 with | nil => (cases h; done) | cons x a2 => cases a2 with | nil => (cases h; done) | cons y r => exact ⟨_, _, _, _, rfl, h⟩))
theorem mE_ite {k a b : E} {e : Expr} (h : mE tb N c fl (.ite k a b) e = true) : ∃ ek ea eb p, e = .IfExp ek ea eb p ∧ (mE tb N c true k ek && mE tb N c false a ea && mE tb N c false b eb) = true := by
  cases e
  all_goals first
    | (cases h; done)
    | exact ⟨_, _, _, _, rfl, h⟩
theorem mE_cmp {op : CmpOp} {a b : E} {e : Expr} (h : mE tb N c fl (.cmp op a b) e = true) : ∃ ea op' eb p, e = .Compare ea [op'] [eb] p ∧ (decide (op = op') && !behindInMarks op eb && mE tb N c true a ea && mE tb N c true b eb) = true := by
  cases e
  all_goals first
    | (cases h; done)
    | exact ⟨_, _, _, _, rfl, h⟩
    | (rename_i a1 a2 a3 a4; cases a2 with | nil => (cases h; done) | cons o1 a2 => cases a2 with | nil => (cases a3 with | nil => (cases h; done) | cons x a3 => cases a3 with | nil => exact ⟨_, _, _, _, rfl, h⟩ | cons _ _ => (cases h; done)) | cons o2 a2 => cases a2 with | cons _ _ => (cases a3 <;> (cases h; done)) | nil => (cases a3 with | nil => (cases h; done) | cons x a3 => cases a3 with | nil => (cases h; done) | cons y a3 => cases a3 with | nil => (cases h; done) | cons _ _ => (cases h; done)))
theorem mE_chain {o1 o2 : CmpOp} {a b k : E} {e : Expr} (h : mE tb N c fl (.chain o1 o2 a b k) e = true) : ∃ ea o1' o2' eb ek p, e = .Compare ea [o1', o2'] [eb, ek] p ∧ (decide (o1 = o1') && decide (o2 = o2') && !lastMarks [o1, o2] [eb, ek] && mE tb N c true a ea && mE tb N c true b eb && mE tb N c true k ek) = true := by
  cases e
  all_goals first
    | (cases h; done)
    | exact ⟨_, _, _, _, _, _, rfl, h⟩
    | (rename_i a1 a2 a3 a4; cases a2 with | nil => (cases h; done) | cons o1 a2 => cases a2 with | nil => (cases a3 with | nil => (cases h; done) | cons x a3 => cases a3 with | nil => (cases h; done) | cons _ _ => (cases h; done)) | cons o2 a2 => cases a2 with | cons _ _ => (cases a3 <;> (cases h; done)) | nil => (cases a3 with | nil => (cases h; done) | cons x a3 => cases a3 with | nil => (cases h; done) | cons y a3 => cases a3 with | nil => exact ⟨_, _, _, _, _, _, rfl, h⟩ | cons _ _ => (cases h; done)))
theorem mE_cut {a : E} {lo hi : O} {e : Expr} (h : mE tb N c fl (.cut a lo hi) e = true) : ∃ ea l u p2 p, e = .Subscript ea (.Slice l u none p2) p ∧ (mE tb N c true a ea && mO tb N c lo l && mO tb N c hi u) = true := by
  cases e
  all_goals first
    | (cases h; done)
    | exact ⟨_, _, _, _, _, rfl, h⟩
    | (rename_i a1 a2 a3; cases a2 <;> first | (cases h; done) | (rename_i l u st p2; cases st <;> first | (cases h; done) | exact ⟨_, _, _, _, _, rfl, h⟩))
theorem mE_ix {a b : E} {e : Expr} (h : mE tb N c fl (.ix a b) e = true) : ∃ ea eb p, e = .Subscript ea eb p ∧ (nSlice eb && mE tb N c true a ea && mE tb N c true b eb) = true := by
  cases e
  all_goals first
    | (cases h; done)
    | exact ⟨_, _, _, rfl, h⟩
    | (rename_i a1 a2 a3; cases a2 <;> first | exact ⟨_, _, _, rfl, h⟩ | (rename_i l u st p2; cases st <;> first | exact ⟨_, _, _, rfl, h⟩ | (cases h; done)))
theorem mE_dix {a b : E} {e : Expr} (h : mE tb N c fl (.dix a b) e = true) : ∃ ea eb p, e = .Subscript ea eb p ∧ (nSlice eb && mE tb N c true a ea && mE tb N c true b eb) = true := by
  cases e
  all_goals first
    | (cases h; done)
    | exact ⟨_, _, _, rfl, h⟩
    | (rename_i a1 a2 a3; cases a2 <;> first | exact ⟨_, _, _, rfl, h⟩ | (rename_i l u st p2; cases st <;> first | exact ⟨_, _, _, rfl, h⟩ | (cases h; done)))
theorem mE_tup {es : Es} {e : Expr} (h : mE tb N c fl (.tup es) e = true) : ∃ xs k p, e = .Tuple xs k p ∧ (mEs tb N c es xs) = true := by
  cases e
  all_goals first
    | (cases h; done)
    | exact ⟨_, _, _, rfl, h⟩
theorem mE_lst {es : Es} {e : Expr} (h : mE tb N c fl (.lst es) e = true) : ∃ xs p, e = .List xs p ∧ (mEs tb N c es xs) = true := by
  cases e
  all_goals first
    | (cases h; done)
    | exact ⟨_, _, rfl, h⟩
def mCall (tb : Tb) (N : List Str) (c : Cs) (i : Nat) (es ks : Es) (x : Str) (xs : List Expr) (kws : List Keyword) : Bool := match tb.sh[i]? with
    | some sh => decide (sh.name = x) && glB c x && decide (xs.length = sh.np) && decide (kws.map (·.arg) = sh.ks.map some) && (decide (kws = []) || !decide (xs = [])) && mEs tb N c es xs && mKs tb N c ks kws
    | none => false
theorem mE_call {i : Nat} {es ks : Es} {e : Expr} (h : mE tb N c fl (.call i es ks) e = true) : ∃ x q xs kws p, e = .Call (.Name x q) xs kws p ∧ (mCall tb N c i es ks x xs kws) = true := by
  cases e
  all_goals first
    | (cases h; done)
    | exact ⟨_, _, _, _, _, rfl, h⟩
    | (rename_i f0 xs kws p; cases f0 <;> first | (cases h; done) | exact ⟨_, _, _, _, _, rfl, h⟩)
theorem mE_blt {b : Blt} {a : E} {e : Expr} (h : mE tb N c fl (.blt b a) e = true) : ∃ x q ea p, e = .Call (.Name x q) [ea] [] p ∧ (bltB b && decide (b.nm = x) && glB c x && nStar ea && mE tb N c true a ea) = true := by
  cases e
  all_goals first
    | (cases h; done)
    | exact ⟨_, _, _, _, rfl, h⟩
    | (rename_i f0 xs kws p; cases f0 <;> first | (cases h; done) | (cases xs with | nil => (cases h; done) | cons y xs => cases xs with | cons _ _ => (cases h; done) | nil => cases kws with | cons _ _ => (cases h; done) | nil => exact ⟨_, _, _, _, rfl, h⟩))
theorem mE_isa {a : E} {T : Ty} {e : Expr} (h : mE tb N c fl (.isa a T) e = true) : ∃ x q ea y q2 p, e = .Call (.Name x q) [ea, .Name y q2] [] p ∧ (decide (x = "isinstance") && decide (T.nm = y) && glB c x && glB c y && nStar ea && mE tb N c true a ea) = true := by
  cases e
  all_goals first
    | (cases h; done)
    | exact ⟨_, _, _, _, _, _, rfl, h⟩
    | (rename_i f0 xs kws p; cases f0 <;> first | (cases h; done) | (cases xs with | nil => (cases h; done) | cons y xs => cases xs with | nil => (cases h; done) | cons z xs => cases xs with | cons _ _ => (cases z <;> (cases h; done)) | nil => cases kws with | cons _ _ => (cases z <;> (cases h; done)) | nil => (cases z <;> first | (cases h; done) | exact ⟨_, _, _, _, _, _, rfl, h⟩)))
theorem mE_heard {k : E} {e : Expr} (h : mE tb N c fl (.heard k) e = true) : ∃ x q params body scope lp p, e = .Call (.Name x q) [.Lambda params body scope lp] [] p ∧ (decide (x = "_law_heard") && tb.hd && c.lm && glB c x && noArgs params && LamX.lamSB c.sc scope && mE tb N (lamCs scope) false k body) = true := by
  cases e
  all_goals first
    | (cases h; done)
    | exact ⟨_, _, _, _, _, _, _, rfl, h⟩
    | (rename_i f0 xs kws p; cases f0 <;> first | (cases h; done) | (cases xs with | nil => (cases h; done) | cons y xs => cases xs with | cons _ _ => (cases y <;> (cases h; done)) | nil => cases kws with | cons _ _ => (cases y <;> (cases h; done)) | nil => (cases y <;> first | (cases h; done) | exact ⟨_, _, _, _, _, _, _, rfl, h⟩)))
theorem mE_isx {a : E} {n : Nat} {e : Expr} (h : mE tb N c fl (.isx a n) e = true) : ∃ x q ea y q2 p, e = .Call (.Name x q) [ea, .Name y q2] [] p ∧ (decide (x = "isinstance") && decide (tb.ex.lookup n = some y) && decide (n < 9) && tb.hd && glB c x && glB c y && nStar ea && mE tb N c true a ea) = true := by
  cases e
  all_goals first
    | (cases h; done)
    | exact ⟨_, _, _, _, _, _, rfl, h⟩
    | (rename_i f0 xs kws p; cases f0 <;> first | (cases h; done) | (cases xs with | nil => (cases h; done) | cons y xs => cases xs with | nil => (cases h; done) | cons z xs => cases xs with | cons _ _ => (cases z <;> (cases h; done)) | nil => cases kws with | cons _ _ => (cases z <;> (cases h; done)) | nil => (cases z <;> first | (cases h; done) | exact ⟨_, _, _, _, _, _, rfl, h⟩)))
theorem mE_isv {a : E} {e : Expr} (h : mE tb N c fl (.isv a) e = true) : ∃ x q ea y q2 p, e = .Call (.Name x q) [ea, .Name y q2] [] p ∧ (decide (x = "isinstance") && decide (y = "ValueError") && tb.hd && glB c x && glB c y && nStar ea && mE tb N c true a ea) = true := by
  cases e
  all_goals first
    | (cases h; done)
    | exact ⟨_, _, _, _, _, _, rfl, h⟩
    | (rename_i f0 xs kws p; cases f0 <;> first | (cases h; done) | (cases xs with | nil => (cases h; done) | cons y xs => cases xs with | nil => (cases h; done) | cons z xs => cases xs with | cons _ _ => (cases z <;> (cases h; done)) | nil => cases kws with | cons _ _ => (cases z <;> (cases h; done)) | nil => (cases z <;> first | (cases h; done) | exact ⟨_, _, _, _, _, _, rfl, h⟩)))
theorem mE_dspE {ks : List Str} {es : Es} {e : Expr} (h : mE tb N c fl (.dspE ks es) e = true) : ∃ kes vs p, e = .Dict kes vs p ∧ (keysV ks kes vs && decide (ks.length ≤ 15) && decide (0 < ks.length) && mEs tb N c es vs) = true := by
  cases e
  all_goals first
    | (cases h; done)
    | exact ⟨_, _, _, rfl, h⟩
theorem mE_get {a k d : E} {e : Expr} (h : mE tb N c fl (.get a k d) e = true) : ∃ ea m q ek ed cp, e = .Call (.Attribute ea m q) [ek, ed] [] cp ∧ (decide (m = "get") && nCall ea && (q.endLine == cp.line) && nStar ek && nStar ed && mE tb N c true a ea && mE tb N c true k ek && mE tb N c false d ed) = true := by
  cases e
  all_goals first
    | (cases h; done)
    | exact ⟨_, _, _, _, _, _, rfl, h⟩
    | (rename_i f0 xs kws p; cases f0 <;> first | (cases h; done) | (cases xs with | nil => (cases h; done) | cons y xs => cases xs with | nil => (cases h; done) | cons z xs => cases xs with | cons _ _ => (cases h; done) | nil => cases kws with | cons _ _ => (cases h; done) | nil => exact ⟨_, _, _, _, _, _, rfl, h⟩))
theorem mE_tcount {i : Nat} {e : Expr} (h : mE tb N c fl (.tcount i) e = true) : ∃ y q eb p, e = .Subscript (.Name y q) eb p ∧ (varB N c i y && isStr "count" eb) = true := by
  cases e
  all_goals first
    | (cases h; done)
    | exact ⟨_, _, _, _, rfl, h⟩
    | (rename_i a1 a2 a3; cases a1 <;> first | (cases h; done) | exact ⟨_, _, _, _, rfl, h⟩)
theorem mE_tget {i : Nat} {k d : E} {e : Expr} (h : mE tb N c fl (.tget i k d) e = true) : ∃ y q eb q2 m p ek ed cp, e = .Call (.Attribute (.Subscript (.Name y q) eb q2) m p) [ek, ed] [] cp ∧ (varB N c i y && isStr "rests" eb && decide (m = "get") && (p.endLine == cp.line) && nStar ek && nStar ed && mE tb N c true k ek && mE tb N c false d ed) = true := by
  cases e
  all_goals first
    | (cases h; done)
    | exact ⟨_, _, _, _, _, _, _, _, _, rfl, h⟩
    | (rename_i f0 xs kws p; cases f0 <;> first | (cases h; done) | (rename_i ob m p1; cases ob <;> first | (cases h; done) | (rename_i ob2 eb q2; cases ob2 <;> first | (cases h; done) | (cases xs with | nil => (cases h; done) | cons y xs => cases xs with | nil => (cases h; done) | cons z xs => cases xs with | cons _ _ => (cases h; done) | nil => cases kws with | cons _ _ => (cases h; done) | nil => exact ⟨_, _, _, _, _, _, _, _, _, rfl, h⟩))))
theorem mE_dsp {kvs : List (Str × Cst)} {e : Expr} (h : mE tb N c fl (.dsp kvs) e = true) : ∃ ks vs p, e = .Dict ks vs p ∧ (mDsp kvs ks vs) = true := by
  cases e
  all_goals first
    | (cases h; done)
    | exact ⟨_, _, _, rfl, h⟩
theorem mE_comp {own : List (Str × Nat)} {elt : E} {tg : Tg} {it : I} {cd : O} {e : Expr} (h : mE tb N c fl (.comp own elt tg it cd) e = true) : ∃ ee et ei ifs z scope p, e = .ListComp ee [⟨et, ei, ifs, z⟩] scope p ∧ (decide (z = 0) && blkC N c.sc scope own && (tg.slots.all fun i => (own.map (·.2)).contains i) && mI tb N c false et it ei && nSet ei && mTg N (blkCs c scope) tg et && mCd tb N (blkCs c scope) cd ifs && mE tb N (blkCs c scope) false elt ee) = true := by
  cases e
  all_goals first
    | (cases h; done)
    | exact ⟨_, _, _, _, _, _, _, rfl, h⟩
    | (rename_i ee gs scope p; cases gs with | nil => (cases h; done) | cons g gs => cases g with | mk et ei ifs z => cases gs with | cons _ _ => (cases h; done) | nil => exact ⟨_, _, _, _, _, _, _, rfl, h⟩)
theorem mI_rng1 {a : E} {e : Expr} {fz : Bool} {tg : Expr} (h : mI tb N c fz tg (.rng1 a) e = true) : ∃ x q ea p, e = .Call (.Name x q) [ea] [] p ∧ (decide (x = "range") && glB c x && nStar ea && mE tb N c true a ea) = true := by
  cases e
  all_goals first
    | (cases h; done)
    | exact ⟨_, _, _, _, rfl, h⟩
    | (rename_i f0 xs kws p; cases f0 <;> first | (cases h; done) | (cases xs with | nil => (cases h; done) | cons y xs => cases xs with | cons _ _ => (cases h; done) | nil => cases kws with | cons _ _ => (cases h; done) | nil => exact ⟨_, _, _, _, rfl, h⟩))
theorem mI_rng2 {a b : E} {e : Expr} {fz : Bool} {tg : Expr} (h : mI tb N c fz tg (.rng2 a b) e = true) : ∃ x q ea eb p, e = .Call (.Name x q) [ea, eb] [] p ∧ (decide (x = "range") && glB c x && nStar ea && nStar eb && mE tb N c true a ea && mE tb N c true b eb) = true := by
  cases e
  all_goals first
    | (cases h; done)
    | exact ⟨_, _, _, _, _, rfl, h⟩
    | (rename_i f0 xs kws p; cases f0 <;> first | (cases h; done) | (cases xs with | nil => (cases h; done) | cons y xs => cases xs with | nil => (cases h; done) | cons z xs => cases xs with | cons _ _ => (cases h; done) | nil => cases kws with | cons _ _ => (cases h; done) | nil => exact ⟨_, _, _, _, _, rfl, h⟩))
theorem mI_zip {a b : E} {e : Expr} {fz : Bool} {tg : Expr} (h : mI tb N c fz tg (.zip a b) e = true) : ∃ x q ea eb p, e = .Call (.Name x q) [ea, eb] [] p ∧ (isTupB tg && decide (x = "zip") && glB c x && nStar ea && nStar eb && mE tb N c (!fz) a ea && mE tb N c (!fz) b eb) = true := by
  cases e
  all_goals first
    | (cases h; done)
    | exact ⟨_, _, _, _, _, rfl, h⟩
    | (rename_i f0 xs kws p; cases f0 <;> first | (cases h; done) | (cases xs with | nil => (cases h; done) | cons y xs => cases xs with | nil => (cases h; done) | cons z xs => cases xs with | cons _ _ => (cases h; done) | nil => cases kws with | cons _ _ => (cases h; done) | nil => exact ⟨_, _, _, _, _, rfl, h⟩))
theorem mI_enum {a : E} {e : Expr} {fz : Bool} {tg : Expr} (h : mI tb N c fz tg (.enum a) e = true) : ∃ x q ea p, e = .Call (.Name x q) [ea] [] p ∧ (isTupB tg && decide (x = "enumerate") && glB c x && nStar ea && mE tb N c (!fz) a ea) = true := by
  cases e
  all_goals first
    | (cases h; done)
    | exact ⟨_, _, _, _, rfl, h⟩
    | (rename_i f0 xs kws p; cases f0 <;> first | (cases h; done) | (cases xs with | nil => (cases h; done) | cons y xs => cases xs with | cons _ _ => (cases h; done) | nil => cases kws with | cons _ _ => (cases h; done) | nil => exact ⟨_, _, _, _, rfl, h⟩))
end
end Fm

/-! ### soundness of expressions, all together -/
namespace Fm
open PySem PySem.Spec PyProof.Rows L2
section
variable {tb : Tb} {N : List Str} {G : Gam} {cs : Nat → D} {cl : Nat → Addr}
theorem s_bin {X : Cx} {P : Pm} {a b : Expr} {pos : Pos} {fa fb : Rho → Tw → Res D} (hK : X.K = P.K) {op : Operator} (h : opB op = true) (ha : PE X a (tB P fa)) (hb : PE X b (tB P fb)) :
    PE X (.BinOp a op b pos) (tD P fun r t => (fa r t).bind fun x t1 => (fb r t1).bind fun y t2 => Fm.lift (binD op x y) t2) := by
  cases op with
  | Add => exact s_add hK ha hb
  | Sub => exact s_sub ha hb
  | Mult => exact s_mul ha hb
  | FloorDiv => exact s_fdiv ha hb
  | Mod => exact s_mod ha hb
  | Pow => exact s_pow ha hb
  | LShift => exact s_shl ha hb
  | _ => cases h
theorem mem_free {x : Str} (h : x ∈ freeNames) : x ∈ freeNames := h
theorem s_blt {X : Cx} {P : Pm} {c : Cs} (ok : Ok tb N G cs cl X P c) {a : Expr} {p1 pos : Pos} {fa : Rho → Tw → Res D} {b : Blt} (hb : bltB b = true) (hg : glB c b.nm = true) (hs : nStar a = true) (ha : PE X a (tB P fa)) :
    PE X (.Call (.Name b.nm p1) [a] [] pos) (tD P fun r t => (fa r t).bind fun x t1 => Fm.lift (blt1 b x) t1) ∧ (freshB (.blt b (.cst .non)) = true → PE X (.Call (.Name b.nm p1) [a] [] pos) (tN P fun r t => (fa r t).bind fun x t1 => Fm.lift (blt1 b x) t1)) := by
  obtain ⟨g1, g2, g3⟩ := glB_of ok hg
  have st := star_of (es := []) (env := X.env) hs
  cases b with
  | len => exact ⟨s_callB (cs_len ok.hK) g1 (ok.free _ (by decide)) PySem.boot_len ha g3 g2 st, fun z => by cases z⟩
  | abs => exact ⟨s_callB cs_abs g1 (ok.free _ (by decide)) PyProof.Rows.boot_abs ha g3 g2 st, fun z => by cases z⟩
  | all => exact ⟨s_callB (cs_all ok.hK ok.calm) g1 (ok.free _ (by decide)) PyProof.Rows.boot_all ha g3 g2 st, fun z => by cases z⟩
  | any => exact ⟨s_callB (cs_any ok.hK ok.calm) g1 (ok.free _ (by decide)) PyProof.Rows.boot_any ha g3 g2 st, fun z => by cases z⟩
  | sum => exact ⟨s_callB (cs_sum ok.hK ok.calm) g1 (ok.free _ (by decide)) PyProof.Rows.boot_sum ha g3 g2 st, fun z => by cases z⟩
  | tuple => exact ⟨s_callT (cs_tuple ok.hK) g1 (ok.free _ (by decide)) PyProof.Rows.boot_tuple ha g3 g2 st, fun z => by cases z⟩
  | list =>
    have h := n_callT (cn_list ok.hK) g1 (ok.free _ (by decide)) PyProof.Rows.boot_list ha g3 g2 st (p1 := p1) (pos := pos)
    exact ⟨tN_tD h, fun _ => h⟩
  | sorted =>
    have h := n_callB (cn_sorted ok.hK ok.calm) g1 (ok.free _ (by decide)) PyProof.Rows.boot_sorted ha g3 g2 st (p1 := p1) (pos := pos)
    exact ⟨tN_tD h, fun _ => h⟩
  | int => cases hb
theorem isTup_of {e : Expr} (h : isTupB e = true) : ∃ elts k p, e = .Tuple elts k p := by
  cases e <;> first | (cases h; done) | exact ⟨_, _, _, rfl⟩
theorem isNm_of {e : Expr} (h : isNmB e = true) : ∃ x p, e = .Name x p := by
  cases e <;> first | (cases h; done) | exact ⟨_, _, rfl⟩
theorem isStr_of {x : Str} {e : Expr} (h : isStr x e = true) : ∃ j p, e = .Constant (.str x) j p := by
  unfold isStr at h
  split at h
  · obtain rfl := of_decide_eq_true h
    exact ⟨_, _, rfl⟩
  · cases h
theorem keysB_of {ks : List Str} {ke : Option Expr} {kes : List (Option Expr)} (h : keysB ks (ke :: kes) = true) : ∃ y ks' j q, ks = y :: ks' ∧ ke = some (.Constant (.str y) j q) ∧ keysB ks' kes = true := by
  unfold keysB at h
  split at h
  · rename_i z
    cases z
  · rename_i x xs y j q ks2 z
    cases z
    obtain ⟨h1, h2⟩ := and2 h
    obtain rfl := of_decide_eq_true h1
    exact ⟨_, _, _, _, rfl, rfl, h2⟩
  · cases h
mutual
theorem sE : ∀ (k : E) {G : Gam} {X : Cx} {P : Pm} {c : Cs} {fl : Bool} {e : Expr}, Ok tb N G cs cl X P c → mE tb N c fl k e = true → Snd X P (ev G cs k) fl e
  | .cst k, G, X, P, c, fl, e, ok, h => by
    obtain ⟨k', j, p, rfl, h⟩ := mE_cst h
    obtain rfl : k.k = k' := of_decide_eq_true h
    rw [ev_cst]
    exact .plain ok.hK s_cst (fun _ => rfl) (fun _ _ _ z => by cases z)
  | .var i, G, X, P, c, fl, e, ok, h => by
    obtain ⟨x, p, rfl, h⟩ := mE_var h
    obtain ⟨h1, h2, h3, h4⟩ := varB_of ok h
    rw [ev_var]
    exact .plain ok.hK (s_var h1 h2 h3 h4) (fun _ => rfl) (fun _ _ _ z => by cases z)
  | .bor i, G, X, P, c, fl, e, ok, h => by
    obtain ⟨x, p, rfl, h⟩ := mE_bor h
    obtain ⟨h0, h⟩ := and2 h
    obtain ⟨h1, h2, h3, h4⟩ := varB_of ok h
    rw [ev_bor]
    have hb := b_var (P := P) (pos := p) h1 h2 h3 h4
    exact ⟨hb, fun z => (by rw [z] at h0; cases h0), t_plain ok.hK hb (fun _ => rfl), notWord (fun _ _ _ z => by cases z)⟩
  | .glob g, G, X, P, c, fl, e, ok, h => by
    obtain ⟨x, p, rfl, h⟩ := mE_glob h
    obtain ⟨h1, h2⟩ := and2 h
    obtain ⟨g1, g2, g3⟩ := glB_of ok h2
    obtain ⟨u, v, m1, m2, m3⟩ := ok.con g x (of_decide_eq_true h1)
    rw [ev_glob]
    exact .plain ok.hK (s_glob g1 m1 m2 m3 g2) (fun _ => rfl) (fun _ _ _ z => by cases z)
  | .bin op a b, G, X, P, c, fl, e, ok, h => by
    obtain ⟨ea, op', eb, p, rfl, h⟩ := mE_bin h
    obtain ⟨h, h4⟩ := and2 h
    obtain ⟨h, h3⟩ := and2 h
    obtain ⟨h1, h2⟩ := and2 h
    obtain rfl := of_decide_eq_true h1
    rw [ev_bin]
    exact .plain ok.hK (s_bin ok.hK h2 (sE a ok h3).b (sE b ok h4).b) (fun _ => rfl) (fun _ _ _ z => by cases z)
  | .cat a b, G, X, P, c, fl, e, ok, h => by
    obtain ⟨ea, eb, p, rfl, h⟩ := mE_cat h
    obtain ⟨h3, h4⟩ := and2 h
    rw [ev_cat]
    exact .plain ok.hK (s_cat (sE a ok h3).b (sE b ok h4).b) (fun _ => rfl) (fun _ _ _ z => by cases z)
  | .neg a, G, X, P, c, fl, e, ok, h => by
    obtain ⟨ea, p, rfl, h⟩ := mE_neg h
    rw [ev_neg]
    exact .plain ok.hK (s_neg (sE a ok h).b) (fun _ => rfl) (fun _ _ _ z => by cases z)
  | .not a, G, X, P, c, fl, e, ok, h => by
    obtain ⟨ea, p, rfl, h⟩ := mE_not h
    have ha := sE a ok h
    rw [ev_not]
    have hd := s_not ok.hK ha.b (pos := p)
    exact ⟨tB_tD hd, fun _ => hd, t_not ha.t, notWord (fun _ _ _ z => by cases z)⟩
  | .and a b, G, X, P, c, fl, e, ok, h => by
    obtain ⟨x, y, r, p, rfl, h⟩ := mE_and h
    obtain ⟨h1, h2⟩ := and2 h
    have ha := sE a ok h1
    rw [ev_and]
    cases r with
    | nil =>
      have hb := sE b ok (show mE tb N c false b y = true from h2)
      have hd := s_and ok.hK (ha.d rfl) (pe_one (op := .And) (pos := p) (hb.d rfl))
      have hw := t_and ha.t (pw_and1 (pos := p) hb.t)
      exact ⟨tB_tD hd, fun _ => hd, hw.pt, fun _ _ _ _ => hw⟩
    | cons z r' =>
      have hb := sE b ok (show mE tb N c false b (.BoolOp .And (y :: z :: r') p) = true from h2)
      have hd := s_and ok.hK (ha.d rfl) (hb.d rfl)
      have hw := t_and ha.t (hb.w _ _ _ rfl)
      exact ⟨tB_tD hd, fun _ => hd, hw.pt, fun _ _ _ _ => hw⟩
  | .or a b, G, X, P, c, fl, e, ok, h => by
    obtain ⟨x, y, r, p, rfl, h⟩ := mE_or h
    obtain ⟨h1, h2⟩ := and2 h
    have ha := sE a ok h1
    rw [ev_or]
    cases r with
    | nil =>
      have hb := sE b ok (show mE tb N c false b y = true from h2)
      have hd := s_or ok.hK (ha.d rfl) (pe_one (op := .Or) (pos := p) (hb.d rfl))
      have hw := t_or ha.t (pw_or1 (pos := p) hb.t)
      exact ⟨tB_tD hd, fun _ => hd, hw.pt, fun _ _ _ _ => hw⟩
    | cons z r' =>
      have hb := sE b ok (show mE tb N c false b (.BoolOp .Or (y :: z :: r') p) = true from h2)
      have hd := s_or ok.hK (ha.d rfl) (hb.d rfl)
      have hw := t_or ha.t (hb.w _ _ _ rfl)
      exact ⟨tB_tD hd, fun _ => hd, hw.pt, fun _ _ _ _ => hw⟩
  | .ite k a b, G, X, P, c, fl, e, ok, h => by
    obtain ⟨ek, ea, eb, p, rfl, h⟩ := mE_ite h
    obtain ⟨h, h3⟩ := and2 h
    obtain ⟨h1, h2⟩ := and2 h
    have hk := sE k ok h1
    have ha := sE a ok h2
    have hb := sE b ok h3
    rw [ev_ite]
    have hd := s_ite hk.t (ha.d rfl) (hb.d rfl) (pos := p)
    exact ⟨tB_tD hd, fun _ => hd, t_ite hk.t ha.t hb.t, notWord (fun _ _ _ z => by cases z)⟩
  | .cmp op a b, G, X, P, c, fl, e, ok, h => by
    obtain ⟨ea, op', eb, p, rfl, h⟩ := mE_cmp h
    obtain ⟨h, h4⟩ := and2 h
    obtain ⟨h, h3⟩ := and2 h
    obtain ⟨h1, h2⟩ := and2 h
    obtain rfl := of_decide_eq_true h1
    have hm : behindInMarks op eb = false := by simpa using h2
    have ha := sE a ok h3
    have hb := sE b ok h4
    rw [ev_cmp]
    have hd := s_cmp ok.hK ok.hu ha.b hb.b hm (pos := p)
    exact ⟨tB_tD hd, fun _ => hd, t_cmp ok.hK ok.hu ha.b hb.b hm, notWord (fun _ _ _ z => by cases z)⟩
  | .chain o1 o2 a b k, G, X, P, c, fl, e, ok, h => by
    obtain ⟨ea, o1', o2', eb, ek, p, rfl, h⟩ := mE_chain h
    obtain ⟨h, h6⟩ := and2 h
    obtain ⟨h, h5⟩ := and2 h
    obtain ⟨h, h4⟩ := and2 h
    obtain ⟨h, h3⟩ := and2 h
    obtain ⟨h1, h2⟩ := and2 h
    obtain rfl := of_decide_eq_true h1
    obtain rfl := of_decide_eq_true h2
    have hm : lastMarks [o1, o2] [eb, ek] = false := by simpa using h3
    have ha := sE a ok h4
    have hb := sE b ok h5
    have hk := sE k ok h6
    rw [ev_chain]
    have hd := s_chain ok.hK ok.hu ha.b hb.b hk.b hm (pos := p)
    exact ⟨tB_tD hd, fun _ => hd, t_chain ok.hK ok.hu ha.b hb.b hk.b hm, notWord (fun _ _ _ z => by cases z)⟩
  | .cut a lo hi, G, X, P, c, fl, e, ok, h => by
    obtain ⟨ea, l, u, p2, p, rfl, h⟩ := mE_cut h
    obtain ⟨h, h3⟩ := and2 h
    obtain ⟨h1, h2⟩ := and2 h
    rw [ev_cut]
    exact .plain ok.hK (s_cut ok.hK (sE a ok h1).b (sO lo ok h2) (sO hi ok h3)) (fun _ => rfl) (fun _ _ _ z => by cases z)
  | .ix a b, G, X, P, c, fl, e, ok, h => by
    obtain ⟨ea, eb, p, rfl, h⟩ := mE_ix h
    obtain ⟨h, h3⟩ := and2 h
    obtain ⟨h1, h2⟩ := and2 h
    rw [ev_ix]
    exact .plain ok.hK (s_ix ok.hK (sE a ok h2).b (sE b ok h3).b (plain_of h1)) (fun _ => rfl) (fun _ _ _ z => by cases z)
  | .dix a b, G, X, P, c, fl, e, ok, h => by
    obtain ⟨ea, eb, p, rfl, h⟩ := mE_dix h
    obtain ⟨h, h3⟩ := and2 h
    obtain ⟨h1, h2⟩ := and2 h
    rw [ev_dix]
    exact .plain ok.hK (s_dix ok.hu (sE a ok h2).b (sE b ok h3).b (plain_of h1)) (fun _ => rfl) (fun _ _ _ z => by cases z)
  | .tup es, G, X, P, c, fl, e, ok, h => by
    obtain ⟨xs, k, p, rfl, h⟩ := mE_tup h
    rw [ev_tup]
    exact .plain ok.hK (s_tup (sEs es ok h)) (fun _ => rfl) (fun _ _ _ z => by cases z)
  | .lst es, G, X, P, c, fl, e, ok, h => by
    obtain ⟨xs, p, rfl, h⟩ := mE_lst h
    rw [ev_lst]
    exact .plain ok.hK (tN_tD (n_lst (sEs es ok h))) (fun _ => rfl) (fun _ _ _ z => by cases z)
  | .call i es ks, G, X, P, c, fl, e, ok, h => by
    obtain ⟨x, q, xs, kws, p, rfl, hc⟩ := mE_call h
    clear h
    have h := hc
    unfold mCall at h
    cases e : tb.sh[i]? with
    | none =>
      rw [e] at h
      cases h
    | some sh =>
      rw [e] at h
      obtain ⟨h, h7⟩ := and2 h
      obtain ⟨h, h6⟩ := and2 h
      obtain ⟨h, h5⟩ := and2 h
      obtain ⟨h, h4⟩ := and2 h
      obtain ⟨h, h3⟩ := and2 h
      obtain ⟨h1, h2⟩ := and2 h
      refine .plain ok.hK (s_callA ok e (of_decide_eq_true h1) h2 (of_decide_eq_true h3) (of_decide_eq_true h4) ?_ h6 h7 (sEs es ok h6) (sKs ks ok h7)) (fun _ => rfl) (fun _ _ _ z => by cases z)
      rcases Bool.or_eq_true_iff.mp h5 with h5 | h5
      · exact .inl (of_decide_eq_true h5)
      · exact .inr (by simpa using h5)
  | .blt b a, G, X, P, c, fl, e, ok, h => by
    obtain ⟨x, q, ea, p, rfl, h⟩ := mE_blt h
    obtain ⟨h, h5⟩ := and2 h
    obtain ⟨h, h4⟩ := and2 h
    obtain ⟨h, h3⟩ := and2 h
    obtain ⟨h1, h2⟩ := and2 h
    obtain rfl := of_decide_eq_true h2
    rw [ev_blt]
    exact .plain ok.hK (s_blt ok h1 h3 h4 (sE a ok h5).b).1 (fun _ => rfl) (fun _ _ _ z => by cases z)
  | .isa a T, G, X, P, c, fl, e, ok, h => by
    obtain ⟨x, q, ea, y, q2, p, rfl, h⟩ := mE_isa h
    obtain ⟨h, h6⟩ := and2 h
    obtain ⟨h, h5⟩ := and2 h
    obtain ⟨h, h4⟩ := and2 h
    obtain ⟨h, h3⟩ := and2 h
    obtain ⟨h1, h2⟩ := and2 h
    obtain rfl := of_decide_eq_true h1
    obtain rfl := of_decide_eq_true h2
    rw [ev_isa]
    have mT : T.nm ∈ freeNames := by cases T <;> decide
    exact .plain ok.hK (s_isa ok.hK (glB_of ok h3).1 (ok.free _ (by decide)) (glB_of ok h4).1 (ok.free _ mT) (sE a ok h6).b (star_of h5)) (fun _ => rfl) (fun _ _ _ z => by cases z)
  | .get a k d, G, X, P, c, fl, e, ok, h => by
    obtain ⟨ea, m, q, ek, ed, cp, rfl, h⟩ := mE_get h
    obtain ⟨h, h8⟩ := and2 h
    obtain ⟨h, h7⟩ := and2 h
    obtain ⟨h, h6⟩ := and2 h
    obtain ⟨h, h5⟩ := and2 h
    obtain ⟨h, h4⟩ := and2 h
    obtain ⟨h, h3⟩ := and2 h
    obtain ⟨h1, h2⟩ := and2 h
    obtain rfl := of_decide_eq_true h1
    rw [ev_get]
    have hst : starEach [ek, ed] X.env = [(false, eval ek X.env), (false, eval ed X.env)] := by
      rw [star_of h4, star_of h5]
      rfl
    have m2 : M2 X ea "get" q ek ed cp := ⟨base_of h2, by rw [hst]; rfl, h3, by rw [hst]; rfl⟩
    exact .plain ok.hK (s_get ok.hu (sE a ok h6).b (sE k ok h7).b ((sE d ok h8).d rfl) m2) (fun _ => rfl) (fun _ _ _ z => by cases z)
  | .tcount i, G, X, P, c, fl, e, ok, h => by
    obtain ⟨y, q, eb, p, rfl, h⟩ := mE_tcount h
    obtain ⟨h1, h2⟩ := and2 h
    obtain ⟨a1, a2, a3, a4⟩ := varB_of ok h1
    obtain ⟨j, q2, rfl⟩ := isStr_of h2
    rw [ev_tcount]
    exact .plain ok.hK (s_tcount ok.hu a1 a2 a3 a4) (fun _ => rfl) (fun _ _ _ z => by cases z)
  | .tget i k d, G, X, P, c, fl, e, ok, h => by
    obtain ⟨y, q, eb, q2, m, p, ek, ed, cp, rfl, h⟩ := mE_tget h
    obtain ⟨h, h8⟩ := and2 h
    obtain ⟨h, h7⟩ := and2 h
    obtain ⟨h, h6⟩ := and2 h
    obtain ⟨h, h5⟩ := and2 h
    obtain ⟨h, h4⟩ := and2 h
    obtain ⟨h, h3⟩ := and2 h
    obtain ⟨h1, h2⟩ := and2 h
    obtain rfl := of_decide_eq_true h3
    obtain ⟨a1, a2, a3, a4⟩ := varB_of ok h1
    obtain ⟨j, q3, rfl⟩ := isStr_of h2
    rw [ev_tget]
    have hst : starEach [ek, ed] X.env = [(false, eval ek X.env), (false, eval ed X.env)] := by
      rw [star_of h5, star_of h6]
      rfl
    exact .plain ok.hK (s_tget ok.hu a1 a2 a3 a4 (sE k ok h7).b ((sE d ok h8).d rfl) ⟨rfl, by rw [hst]; rfl, h4, by rw [hst]; rfl⟩) (fun _ => rfl) (fun _ _ _ z => by cases z)
  | .dsp kvs, G, X, P, c, fl, e, ok, h => by
    obtain ⟨ks, vs, p, rfl, h⟩ := mE_dsp h
    rw [ev_dsp]
    exact .plain ok.hK (tN_tD (n_dsp (dsp_of h))) (fun _ => rfl) (fun _ _ _ z => by cases z)
  | .heard k, G, X, P, c, fl, e, ok, h => by
    obtain ⟨x, q, params, body, scope, lp, p, rfl, h⟩ := mE_heard h
    obtain ⟨h, h7⟩ := and2 h
    obtain ⟨h, h6⟩ := and2 h
    obtain ⟨h, h5⟩ := and2 h
    obtain ⟨h, h4⟩ := and2 h
    obtain ⟨h, h3⟩ := and2 h
    obtain ⟨h1, h2⟩ := and2 h
    obtain rfl := of_decide_eq_true h1
    rw [ev_heard]
    by_cases hl : 2 ≤ G.lv
    · simp only [hl, decide_true, if_true]
      exact .plain ok.hK (s_heard ok (ok.heard h2 h3) hl (glB_of ok h4).1 h5 (by rw [ok.sc]; exact LamX.lamS_by h6) fun X' P' ok' => (sE k ok' h7).d rfl) (fun _ => rfl) (fun _ _ _ z => by cases z)
    · simp only [hl, decide_false]
      exact .plain ok.hK (peMono (t := fun _ _ _ => False) ⟨fun _ _ _ _ _ _ z => False.elim z⟩ fun σ H Q ⟨F, r, t, R, q⟩ => q) (fun _ => rfl) (fun _ _ _ z => by cases z)
  | .isx a n, G, X, P, c, fl, e, ok, h => by
    obtain ⟨x, q, ea, y, q2, p, rfl, h⟩ := mE_isx h
    obtain ⟨h, h8⟩ := and2 h
    obtain ⟨h, h7⟩ := and2 h
    obtain ⟨h, h6⟩ := and2 h
    obtain ⟨h, h5⟩ := and2 h
    obtain ⟨h, h4⟩ := and2 h
    obtain ⟨h, h3⟩ := and2 h
    obtain ⟨h1, h2⟩ := and2 h
    obtain rfl := of_decide_eq_true h1
    have n9 := ok.nine h4
    have eg := (ok.exc n y (of_decide_eq_true h2)).g
    rw [← ok.hcl] at n9 eg
    obtain ⟨g1, g2, g3⟩ := glB_of ok h6
    rw [ev_isx]
    exact .plain ok.hK (s_isx ok.hK n9 (of_decide_eq_true h3) (glB_of ok h5).1 (ok.free _ (by decide)) g1 eg g2 (sE a ok h8).b (star_of h7)) (fun _ => rfl) (fun _ _ _ z => by cases z)
  | .isv a, G, X, P, c, fl, e, ok, h => by
    obtain ⟨x, q, ea, y, q2, p, rfl, h⟩ := mE_isv h
    obtain ⟨h, h8⟩ := and2 h
    obtain ⟨h, h7⟩ := and2 h
    obtain ⟨h, h6⟩ := and2 h
    obtain ⟨h, h5⟩ := and2 h
    obtain ⟨h, h4⟩ := and2 h
    obtain ⟨h1, h2⟩ := and2 h
    obtain rfl := of_decide_eq_true h1
    obtain rfl := of_decide_eq_true h2
    have n9 := ok.nine h4
    rw [← ok.hcl] at n9
    rw [ev_isv]
    exact .plain ok.hK (s_isv ok.hK n9 (glB_of ok h5).1 (ok.free _ (by decide)) (glB_of ok h6).1 (ok.free _ (by decide)) (sE a ok h8).b (star_of h7)) (fun _ => rfl) (fun _ _ _ z => by cases z)
  | .dspE ks es, G, X, P, c, fl, e, ok, h => by
    obtain ⟨kes, vs, p, rfl, h⟩ := mE_dspE h
    obtain ⟨h, h4⟩ := and2 h
    obtain ⟨h, h3⟩ := and2 h
    obtain ⟨h1, h2⟩ := and2 h
    rw [ev_dspE]
    exact .plain ok.hK (tN_tD (n_dspE (sDs es ok (and2 h1).1 (of_decide_eq_true (and2 h1).2) h4) ⟨of_decide_eq_true h2, of_decide_eq_true h3⟩)) (fun _ => rfl) (fun _ _ _ z => by cases z)
  | .rev a, G, X, P, c, fl, e, ok, h => by
    cases h
  | .comp own elt tg it cd, G, X, P, c, fl, e, ok, h => by
    obtain ⟨ee, et, ei, ifs, z, scope, p, rfl, h⟩ := mE_comp h
    obtain ⟨h, h8⟩ := and2 h
    obtain ⟨h, h7⟩ := and2 h
    obtain ⟨h, h6⟩ := and2 h
    obtain ⟨h, h5⟩ := and2 h
    obtain ⟨h, h4⟩ := and2 h
    obtain ⟨h, h3⟩ := and2 h
    obtain ⟨h1, h2⟩ := and2 h
    obtain rfl := of_decide_eq_true h1
    rw [ev_comp]
    have hsl : ∀ i ∈ tg.slots, i ∈ own.map (·.2) := fun i hi => by
      have := List.all_eq_true.mp h3 i hi
      simpa using this
    refine .plain ok.hK (tN_tD (n_comp ok.calm (by rw [ok.hN]; exact ok.nd) (sI it ok h4) (by rw [ok.hN, ok.sc]; exact blkOk_by h2) (fun s H C cl' fp => sTg (ok.blk scope s H C cl' fp) h6) (fun s H C cl' fp => ?_)
      (fun s H C cl' fp => (sE elt (ok.blk scope s H C cl' fp) h8).d rfl) (fold_of h5) hsl)) (fun _ => rfl) (fun _ _ _ z => by cases z)
    cases cd with
    | none =>
      cases ifs with
      | nil =>
        rw [evO_none]
        exact c_none
      | cons _ _ => cases h7
    | some k =>
      cases ifs with
      | nil => cases h7
      | cons x xs =>
        cases xs with
        | nil =>
          rw [evO_some]
          exact c_some (sE k (ok.blk scope s H C cl' fp) (show mE tb N (blkCs c scope) true k x = true from h7)).t
        | cons _ _ => cases h7
theorem sO : ∀ (o : O) {G : Gam} {X : Cx} {P : Pm} {c : Cs} {e : Option Expr}, Ok tb N G cs cl X P c → mO tb N c o e = true → PO X e (tO P (evO G cs o))
  | .none, G, X, P, c, none, ok, h => by
    rw [evO_none]
    exact s_none
  | .some k, G, X, P, c, some e, ok, h => by
    rw [evO_some]
    exact s_some (sE k ok h).b
theorem sEs : ∀ (es : Es) {G : Gam} {X : Cx} {P : Pm} {c : Cs} {xs : List Expr}, Ok tb N G cs cl X P c → mEs tb N c es xs = true → PA X xs (tDs P (evs G cs es))
  | .nil, G, X, P, c, [], ok, h => by
    rw [evs_nil]
    exact s_nil
  | .cons k es, G, X, P, c, x :: xs, ok, h => by
    obtain ⟨h, h3⟩ := and2 h
    obtain ⟨h1, h2⟩ := and2 h
    rw [evs_cons]
    exact s_cons ((sE k ok h2).d rfl) (sEs es ok h3) (star_of h1)
theorem sDs : ∀ (es : Es) {G : Gam} {X : Cx} {P : Pm} {c : Cs} {ks : List Str} {kes : List (Option Expr)} {xs : List Expr}, Ok tb N G cs cl X P c → keysB ks kes = true → kes.length = xs.length → mEs tb N c es xs = true → DspE X P ks (esF G cs es) kes xs
  | .nil, G, X, P, c, ks, kes, [], ok, hk, hl, h => by
    cases kes with
    | cons _ _ => cases hl
    | nil =>
      cases ks with
      | cons _ _ => cases hk
      | nil => exact .nil
  | .cons k es, G, X, P, c, ks, kes, x :: xs, ok, hk, hl, h => by
    obtain ⟨h, h3⟩ := and2 h
    obtain ⟨h1, h2⟩ := and2 h
    cases kes with
    | nil => cases hl
    | cons ke kes =>
      obtain ⟨y, ks', j, q, rfl, rfl, hk2⟩ := keysB_of hk
      exact .cons ((sE k ok h2).d rfl) (sDs es ok hk2 (by simpa using hl) h3)
theorem sKs : ∀ (es : Es) {G : Gam} {X : Cx} {P : Pm} {c : Cs} {xs : List Keyword}, Ok tb N G cs cl X P c → mKs tb N c es xs = true → PK X xs (tDs P (evs G cs es))
  | .nil, G, X, P, c, [], ok, h => by
    rw [evs_nil]
    exact k_nil
  | .cons k es, G, X, P, c, ⟨nm, x, p⟩ :: xs, ok, h => by
    obtain ⟨h2, h3⟩ := and2 h
    rw [evs_cons]
    exact k_cons ((sE k ok h2).d rfl) (sKs es ok h3)
theorem sI : ∀ (i : I) {G : Gam} {X : Cx} {P : Pm} {c : Cs} {fz : Bool} {tg e : Expr}, Ok tb N G cs cl X P c → mI tb N c fz tg i e = true → PI X tg e (tI P fz (evI G cs i))
  | .val k, G, X, P, c, fz, tg, e, ok, h => by
    have h : mE tb N c (!fz) k e = true := h
    rw [evI_val]
    cases fz with
    | true => exact i_val ok.hK ((sE k ok h).d rfl)
    | false => exact i_bor ok.hK (sE k ok h).b
  | .rng1 a, G, X, P, c, fz, tg, e, ok, h => by
    obtain ⟨x, q, ea, p, rfl, h⟩ := mI_rng1 h
    obtain ⟨h, h4⟩ := and2 h
    obtain ⟨h, h3⟩ := and2 h
    obtain ⟨h1, h2⟩ := and2 h
    obtain rfl := of_decide_eq_true h1
    rw [evI_rng1]
    exact i_rng1 (glB_of ok h2).1 (ok.free _ (by decide)) (sE a ok h4).b (star_of h3)
  | .rng2 a b, G, X, P, c, fz, tg, e, ok, h => by
    obtain ⟨x, q, ea, eb, p, rfl, h⟩ := mI_rng2 h
    obtain ⟨h, h6⟩ := and2 h
    obtain ⟨h, h5⟩ := and2 h
    obtain ⟨h, h4⟩ := and2 h
    obtain ⟨h, h3⟩ := and2 h
    obtain ⟨h1, h2⟩ := and2 h
    obtain rfl := of_decide_eq_true h1
    rw [evI_rng2]
    exact i_rng2 (glB_of ok h2).1 (ok.free _ (by decide)) (sE a ok h5).b (sE b ok h6).b (star_of h3) (star_of h4)
  | .zip a b, G, X, P, c, fz, tg, e, ok, h => by
    obtain ⟨x, q, ea, eb, p, rfl, h⟩ := mI_zip h
    obtain ⟨h, h6⟩ := and2 h
    obtain ⟨h, h5⟩ := and2 h
    obtain ⟨h, h4⟩ := and2 h
    obtain ⟨h, h3⟩ := and2 h
    obtain ⟨h, h2⟩ := and2 h
    obtain ⟨h0, h1⟩ := and2 h
    obtain rfl := of_decide_eq_true h1
    obtain ⟨elts, kk, tpos, rfl⟩ := isTup_of h0
    rw [evI_zip]
    cases fz with
    | true => exact i_zip ok.hK (glB_of ok h2).1 (ok.free _ (by decide)) ((sE a ok h5).d rfl) ((sE b ok h6).d rfl) (star_of h3) (star_of h4)
    | false => exact i_zipB ok.hK (glB_of ok h2).1 (ok.free _ (by decide)) (sE a ok h5).b (sE b ok h6).b (star_of h3) (star_of h4)
  | .zipN a b, G, X, P, c, fz, tg, e, ok, h => by
    cases h
  | .keys a, G, X, P, c, fz, tg, e, ok, h => by
    have h : mE tb N c false a e = true := h
    rw [evI_keys]
    exact i_keys ((sE a ok h).d rfl)
  | .enum a, G, X, P, c, fz, tg, e, ok, h => by
    obtain ⟨x, q, ea, p, rfl, h⟩ := mI_enum h
    obtain ⟨h, h5⟩ := and2 h
    obtain ⟨h, h3⟩ := and2 h
    obtain ⟨h, h2⟩ := and2 h
    obtain ⟨h0, h1⟩ := and2 h
    obtain rfl := of_decide_eq_true h1
    obtain ⟨elts, kk, tpos, rfl⟩ := isTup_of h0
    rw [evI_enum]
    cases fz with
    | true => exact i_enum ok.hK (glB_of ok h2).1 (ok.free _ (by decide)) ((sE a ok h5).d rfl) (star_of h3)
    | false => exact i_enumB ok.hK (glB_of ok h2).1 (ok.free _ (by decide)) (sE a ok h5).b (star_of h3)
end
end
end Fm

/-! ### statements: the check by computation -/
namespace Fm
open PySem PySem.Spec PyProof.Rows L2
def augB : Operator → Bool
  | .Add => true
  | .Sub => true
  | .Mult => true
  | .FloorDiv => true
  | .Mod => true
  | _ => false
def isComp : E → Bool
  | .comp _ _ _ _ _ => true
  | _ => false
/-- of name = [..]: the name is stored ahead of the block's names' going, or not -/
def swT (c : Cs) (y : Str) (py : Pos) : Expr → Bool
  | .ListComp _ _ scope p => decide (c.sc.kind = .function) && lclB c y && (py.line == p.line) && !(scope.names.any fun (n, k) => n == y && (k == .local || k == .cell))
  | _ => false
def swF (c : Cs) (y : Str) (py : Pos) (v : Expr) : Bool := nComp v || match v with
  | .ListComp _ _ scope p => decide (c.sc.names.lookup y = some .cell) || !(py.line == p.line)
  | _ => false
def nonLoc (c : Cs) : Expr → Bool
  | .Name x _ => !lclB c x
  | _ => true
def noneB (c : Cs) (ts : List Expr) : Expr → Bool
  | .Tuple vs _ _ => !(ts.length == 2 || ts.length == 3) || ts.any (nonLoc c) || vs.all (foldedForSure 8)
  | _ => true
def mAsg (tb : Tb) (N : List Str) (c : Cs) (tg : Tg) (k : E) : Expr → Expr → Bool
  | .Name y py, v => mTg N c tg (.Name y py) && (swF c y py v || (isComp k && swT c y py v)) && mE tb N c false k v
  | .Tuple ts a p, v => mTg N c tg (.Tuple ts a p) && nComp v && noneB c ts v && mE tb N c false k v
  | _, _ => false
def locAt (N : List Str) (c : Cs) (i : Nat) (x : Str) : Bool := decide (N[i]? = some x) && lclB c x
def mPar (tb : Tb) (N : List Str) (c : Cs) (is : List Nat) (es : Es) (ts vs : List Expr) : Bool := decide (c.sc.kind = .function) && !vs.any (fun e => !nStar e) && !vs.all (foldedForSure 8) && !vs.all (constantsAlone 8) && mEs tb N c es vs &&
  (match is, ts, vs with
    | [i, j], [.Name x px, .Name y py], [_, _] => decide (i ≠ j) && locAt N c i x && locAt N c j y && decide (x ≠ y) && (py.line == px.line)
    | [i, j, l], [.Name x px, .Name y py, .Name z pz], [_, _, _] => decide (i ≠ j) && decide (i ≠ l) && decide (j ≠ l) && locAt N c i x && locAt N c j y && locAt N c l z && decide (x ≠ y) && decide (x ≠ z) && decide (y ≠ z) && (py.line == px.line) && (pz.line == px.line)
    | _, _, _ => false)
def nTup : Expr → Bool
  | .Tuple _ _ _ => false
  | _ => true
def mStar (tb : Tb) (N : List Str) (c : Cs) (i j : Nat) (k : E) (t v : Expr) : Bool := match t with
  | .Tuple [.Name x _, .Starred (.Name y _) _] _ _ => tgtB N c i x && tgtB N c j y && nComp v && nTup v && mE tb N c false k v
  | _ => false
def mNew (tb : Tb) (N : List Str) (c : Cs) (i : Nat) (k : E) (t v : Expr) : Bool := match t with
  | .Name y py => freshB k && tgtB N c i y && (swF c y py v || (isComp k && swT c y py v)) && mE tb N c false k v
  | _ => false
def mApp (tb : Tb) (N : List Str) (c : Cs) (i : Nat) (k : E) : Expr → Bool
  | .Call (.Attribute (.Name y _) m p1) [a] [] p2 => decide (m = "append") && varB N c i y && (p1.endLine == p2.line) && nStar a && mE tb N c false k a
  | _ => false
def mUpd (tb : Tb) (N : List Str) (c : Cs) (i : Nat) (k : E) : Expr → Bool
  | .Call (.Attribute (.Name y _) m p1) [a] [] p2 => decide (m = "update") && varB N c i y && (p1.endLine == p2.line) && nStar a && mE tb N c false k a
  | _ => false
def mPut (tb : Tb) (N : List Str) (c : Cs) (i : Nat) (k e : E) (t v : Expr) : Bool := match t with
  | .Subscript (.Name y _) b _ => varB N c i y && nSlice b && nComp v && mE tb N c true k b && mE tb N c false e v
  | _ => false
def mAug (tb : Tb) (N : List Str) (c : Cs) (i : Nat) (op : Operator) (k : E) (t : Expr) (op' : Operator) (v : Expr) : Bool := match t with
  | .Name y _ => decide (op = op') && augB op && tgtB N c i y && mE tb N c true k v
  | _ => false
def mRaise (tb : Tb) (c : Cs) (n : Nat) (m : Str) (a b : Option Expr) : Bool := match a, b with
  | some (.Call (.Name x _) [.Constant (.str m') _ _] [] _), none => decide (m = m') && decide (tb.ex.lookup n = some x) && glB c x
  | _, _ => false
def mTcnt (tb : Tb) (N : List Str) (c : Cs) (i : Nat) (k : E) (t v : Expr) : Bool := match t with
  | .Subscript (.Name y _) eb _ => varB N c i y && isStr "count" eb && nComp v && mE tb N c false k v
  | _ => false
def mTrst (tb : Tb) (N : List Str) (c : Cs) (i : Nat) (k a : E) (t v : Expr) : Bool := match t with
  | .Subscript (.Subscript (.Name y _) eb _) b _ => varB N c i y && isStr "rests" eb && nComp v && mE tb N c true k b && mE tb N c false a v
  | _ => false
def isFrz : S → Option Nat
  | .frz i => some i
  | _ => none
mutual
def mS (tb : Tb) (N : List Str) (c : Cs) : S → Stmt → Bool
  | .asg tg k, .Assign [t] v _ => mAsg tb N c tg k t v
  | .par is es, .Assign [.Tuple ts _ _] (.Tuple vs _ _) _ => mPar tb N c is es ts vs
  | .star i j k, .Assign [t] v _ => mStar tb N c i j k t v
  | .aug i op k, .AugAssign t op' v _ => mAug tb N c i op k t op' v
  | .ret k, .Return (some v) _ => mE tb N c false k v
  | .ite k a b, .If ek sa sb _ => mE tb N c true k ek && mSs tb N c a sa && mSs tb N c b sb
  | .for tg it b, .For et ei sb [] _ => nSet ei && mTg N c tg et && mI tb N c true et it ei && mSs tb N c b sb
  | .while k b, .While ek sb [] _ => mE tb N c true k ek && mSs tb N c b sb
  | .exp k, .Expr v _ => nComp v && mE tb N c false k v
  | .new i k, .Assign [t] v _ => mNew tb N c i k t v
  | .app i k, .Expr v _ => mApp tb N c i k v
  | .upd i k, .Expr v _ => mUpd tb N c i k v
  | .put i k e, .Assign [t] v _ => mPut tb N c i k e t v
  | .putL i k e, .Assign [t] v _ => mPut tb N c i k e t v
  | .tcnt i k, .Assign [t] v _ => mTcnt tb N c i k t v
  | .trst i k e, .Assign [t] v _ => mTrst tb N c i k e t v
  | .brk, .Break _ => true
  | .cont, .Continue _ => true
  | .raise n m, .Raise a b _ => mRaise tb c n m a b
  | _, _ => false
def mSs (tb : Tb) (N : List Str) (c : Cs) : Ss → List Stmt → Bool
  | .nil, [] => true
  | .nil, _ :: _ => false
  | .cons s r, ss => match isFrz s with
    | some _ => mSs tb N c r ss
    | none => match ss with
      | st :: rest => mS tb N c s st && mSs tb N c r rest
      | [] => false
end
section
variable {tb : Tb} {N : List Str} {c : Cs}
theorem mS_asg {tg : Tg} {k : E} {e : Stmt} (h : mS tb N c (.asg tg k) e = true) : ∃ t v p, e = .Assign [t] v p ∧ (mAsg tb N c tg k t v) = true := by
  cases e
  all_goals first
    | (cases h; done)
    | exact ⟨_, _, _, rfl, h⟩
    | (rename_i ts v p; cases ts with | nil => (cases h; done) | cons t ts => cases ts with | nil => exact ⟨_, _, _, rfl, h⟩ | cons _ _ => (cases h; done))
theorem mS_star {i j : Nat} {k : E} {e : Stmt} (h : mS tb N c (.star i j k) e = true) : ∃ t v p, e = .Assign [t] v p ∧ (mStar tb N c i j k t v) = true := by
  cases e
  all_goals first
    | (cases h; done)
    | exact ⟨_, _, _, rfl, h⟩
    | (rename_i ts v p; cases ts with | nil => (cases h; done) | cons t ts => cases ts with | nil => exact ⟨_, _, _, rfl, h⟩ | cons _ _ => (cases h; done))
theorem mS_new {i : Nat} {k : E} {e : Stmt} (h : mS tb N c (.new i k) e = true) : ∃ t v p, e = .Assign [t] v p ∧ (mNew tb N c i k t v) = true := by
  cases e
  all_goals first
    | (cases h; done)
    | exact ⟨_, _, _, rfl, h⟩
    | (rename_i ts v p; cases ts with | nil => (cases h; done) | cons t ts => cases ts with | nil => exact ⟨_, _, _, rfl, h⟩ | cons _ _ => (cases h; done))
theorem mS_put {i : Nat} {k a : E} {e : Stmt} (h : mS tb N c (.put i k a) e = true) : ∃ t v p, e = .Assign [t] v p ∧ (mPut tb N c i k a t v) = true := by
  cases e
  all_goals first
    | (cases h; done)
    | exact ⟨_, _, _, rfl, h⟩
    | (rename_i ts v p; cases ts with | nil => (cases h; done) | cons t ts => cases ts with | nil => exact ⟨_, _, _, rfl, h⟩ | cons _ _ => (cases h; done))
theorem mS_putL {i : Nat} {k a : E} {e : Stmt} (h : mS tb N c (.putL i k a) e = true) : ∃ t v p, e = .Assign [t] v p ∧ (mPut tb N c i k a t v) = true := by
  cases e
  all_goals first
    | (cases h; done)
    | exact ⟨_, _, _, rfl, h⟩
    | (rename_i ts v p; cases ts with | nil => (cases h; done) | cons t ts => cases ts with | nil => exact ⟨_, _, _, rfl, h⟩ | cons _ _ => (cases h; done))
theorem mS_tcnt {i : Nat} {k : E} {e : Stmt} (h : mS tb N c (.tcnt i k) e = true) : ∃ t v p, e = .Assign [t] v p ∧ (mTcnt tb N c i k t v) = true := by
  cases e
  all_goals first
    | (cases h; done)
    | exact ⟨_, _, _, rfl, h⟩
    | (rename_i ts v p; cases ts with | nil => (cases h; done) | cons t ts => cases ts with | nil => exact ⟨_, _, _, rfl, h⟩ | cons _ _ => (cases h; done))
theorem mS_trst {i : Nat} {k a : E} {e : Stmt} (h : mS tb N c (.trst i k a) e = true) : ∃ t v p, e = .Assign [t] v p ∧ (mTrst tb N c i k a t v) = true := by
  cases e
  all_goals first
    | (cases h; done)
    | exact ⟨_, _, _, rfl, h⟩
    | (rename_i ts v p; cases ts with | nil => (cases h; done) | cons t ts => cases ts with | nil => exact ⟨_, _, _, rfl, h⟩ | cons _ _ => (cases h; done))
theorem mS_par {is : List Nat} {es : Es} {e : Stmt} (h : mS tb N c (.par is es) e = true) : ∃ ts kt pt vs kv pv p, e = .Assign [.Tuple ts kt pt] (.Tuple vs kv pv) p ∧ (mPar tb N c is es ts vs) = true := by
  cases e
  all_goals first
    | (cases h; done)
    | exact ⟨_, _, _, _, _, _, _, rfl, h⟩
    | (rename_i ts v p; cases ts with | nil => (cases h; done) | cons t ts => cases t <;> first | (cases h; done) | (cases ts with | nil => (cases v <;> first | (cases h; done) | exact ⟨_, _, _, _, _, _, _, rfl, h⟩) | cons _ _ => (cases h; done)))
theorem mS_aug {i : Nat} {op : Operator} {k : E} {e : Stmt} (h : mS tb N c (.aug i op k) e = true) : ∃ t op' v p, e = .AugAssign t op' v p ∧ (mAug tb N c i op k t op' v) = true := by
  cases e
  all_goals first
    | (cases h; done)
    | exact ⟨_, _, _, _, rfl, h⟩
theorem mS_ret {k : E} {e : Stmt} (h : mS tb N c (.ret k) e = true) : ∃ v p, e = .Return (some v) p ∧ (mE tb N c false k v) = true := by
  cases e
  all_goals first
    | (cases h; done)
    | exact ⟨_, _, rfl, h⟩
    | (rename_i v p; cases v with | none => (cases h; done) | some v => exact ⟨_, _, rfl, h⟩)
theorem mS_ite {k : E} {a b : Ss} {e : Stmt} (h : mS tb N c (.ite k a b) e = true) : ∃ ek sa sb p, e = .If ek sa sb p ∧ (mE tb N c true k ek && mSs tb N c a sa && mSs tb N c b sb) = true := by
  cases e
  all_goals first
    | (cases h; done)
    | exact ⟨_, _, _, _, rfl, h⟩
theorem mS_for {tg : Tg} {it : I} {b : Ss} {e : Stmt} (h : mS tb N c (.for tg it b) e = true) : ∃ et ei sb p, e = .For et ei sb [] p ∧ (nSet ei && mTg N c tg et && mI tb N c true et it ei && mSs tb N c b sb) = true := by
  cases e
  all_goals first
    | (cases h; done)
    | exact ⟨_, _, _, _, rfl, h⟩
    | (rename_i et ei sb el p; cases el with | nil => exact ⟨_, _, _, _, rfl, h⟩ | cons _ _ => (cases h; done))
theorem mS_while {k : E} {b : Ss} {e : Stmt} (h : mS tb N c (.while k b) e = true) : ∃ ek sb p, e = .While ek sb [] p ∧ (mE tb N c true k ek && mSs tb N c b sb) = true := by
  cases e
  all_goals first
    | (cases h; done)
    | exact ⟨_, _, _, rfl, h⟩
    | (rename_i ek sb el p; cases el with | nil => exact ⟨_, _, _, rfl, h⟩ | cons _ _ => (cases h; done))
theorem mS_exp {k : E} {e : Stmt} (h : mS tb N c (.exp k) e = true) : ∃ v p, e = .Expr v p ∧ (nComp v && mE tb N c false k v) = true := by
  cases e
  all_goals first
    | (cases h; done)
    | exact ⟨_, _, rfl, h⟩
theorem mS_app {i : Nat} {k : E} {e : Stmt} (h : mS tb N c (.app i k) e = true) : ∃ v p, e = .Expr v p ∧ (mApp tb N c i k v) = true := by
  cases e
  all_goals first
    | (cases h; done)
    | exact ⟨_, _, rfl, h⟩
theorem mS_upd {i : Nat} {k : E} {e : Stmt} (h : mS tb N c (.upd i k) e = true) : ∃ v p, e = .Expr v p ∧ (mUpd tb N c i k v) = true := by
  cases e
  all_goals first
    | (cases h; done)
    | exact ⟨_, _, rfl, h⟩
theorem mS_brk  {e : Stmt} (h : mS tb N c .brk e = true) : ∃ p, e = .Break p ∧ (true) = true := by
  cases e
  all_goals first
    | (cases h; done)
    | exact ⟨_, rfl, h⟩
theorem mS_cont  {e : Stmt} (h : mS tb N c .cont e = true) : ∃ p, e = .Continue p ∧ (true) = true := by
  cases e
  all_goals first
    | (cases h; done)
    | exact ⟨_, rfl, h⟩
theorem mS_raise {n : Nat} {m : Str} {e : Stmt} (h : mS tb N c (.raise n m) e = true) : ∃ a b p, e = .Raise a b p ∧ (mRaise tb c n m a b) = true := by
  cases e
  all_goals first
    | (cases h; done)
    | exact ⟨_, _, _, rfl, h⟩
theorem mSs_frz {i : Nat} {r : Ss} {ss : List Stmt} (h : mSs tb N c (.cons (.frz i) r) ss = true) : mSs tb N c r ss = true := h
theorem mSs_cons {s : S} {r : Ss} {ss : List Stmt} (hf : isFrz s = none) (h : mSs tb N c (.cons s r) ss = true) : ∃ st rest, ss = st :: rest ∧ mS tb N c s st = true ∧ mSs tb N c r rest = true := by
  cases s <;> first | (cases hf; done) | (cases ss with | nil => (cases h; done) | cons st rest => exact ⟨st, rest, rfl, and2 h⟩)
end
end Fm

/-! ### statements: soundness -/
namespace Fm
open PySem PySem.Spec PyProof.Rows L2
section
variable {tb : Tb} {N : List Str} {G : Gam} {cs : Nat → D} {cl : Nat → Addr} {X : Cx} {P : Pm} {c : Cs}
theorem sw_plain {v : Expr} {t : Option Expr} {l : Nat} {env : Env} (h : nComp v = true) : swapsWith v t l env = pure false := by
  cases v <;> first | rfl | (cases h; done)
theorem sw_sole {v t : Expr} {l : Nat} {env : Env} (h : nComp v = true) : swapsWithSole [t] v l env = pure false := sw_plain h
theorem sw_off {elt : Expr} {gs : List Comprehension} {scope : Scope} {pos py : Pos} {y : Str} {l : Nat} {env : Env} (h : env.scope.names.lookup y = some .cell ∨ (py.line == pos.line) = false) : swapsWith (.ListComp elt gs scope pos) (some (.Name y py)) l env = pure false := by
  unfold swapsWith
  rcases h with h | h
  · have ky : env.kindOf y = some .cell := h
    simp only [ky, Expr.pos]
    have : ((some NameKind.cell : Option NameKind) == some NameKind.local) = false := rfl
    simp only [this, Bool.and_false, Bool.false_and]
  · simp only [Expr.pos, h, Bool.and_false, Bool.false_and]
theorem lclB_of {x : Str} (h : lclB c x = true) : c.sc.names.lookup x = some .local := by
  unfold lclB at h
  split at h
  · assumption
  · cases h
theorem swF_of (ok : Ok tb N G cs cl X P c) {y : Str} {py : Pos} {v : Expr} {l : Nat} (h : swF c y py v = true) : swapsWith v (some (.Name y py)) l X.env = pure false := by
  unfold swF at h
  rcases Bool.or_eq_true_iff.mp h with h | h
  · exact sw_plain h
  · split at h
    · refine sw_off ?_
      rw [ok.sc]
      rcases Bool.or_eq_true_iff.mp h with h | h
      · exact .inl (of_decide_eq_true h)
      · exact .inr (by simpa using h)
    · cases h
theorem sCd (ok : Ok tb N G cs cl X P c) {cd : O} {ifs : List Expr} (h7 : mCd tb N c cd ifs = true) : PTs X ifs (tC1 P (evO G cs cd)) := by
  cases cd with
  | none =>
    cases ifs with
    | nil =>
      rw [evO_none]
      exact c_none
    | cons _ _ => cases h7
  | some k =>
    cases ifs with
    | nil => cases h7
    | cons x xs =>
      cases xs with
      | nil =>
        rw [evO_some]
        exact c_some (sE k ok (show mE tb N c true k x = true from h7)).t
      | cons _ _ => cases h7
/-- what is new is told as nobody's -/
theorem sN (ok : Ok tb N G cs cl X P c) {k : E} {v : Expr} (hf : freshB k = true) (hv : mE tb N c false k v = true) : PE X v (tN P (ev G cs k)) := by
  cases k with
  | lst es =>
    obtain ⟨xs, p, rfl, h⟩ := mE_lst hv
    rw [ev_lst]
    exact n_lst (sEs es ok h)
  | dsp kvs =>
    obtain ⟨ks, vs, p, rfl, h⟩ := mE_dsp hv
    rw [ev_dsp]
    exact n_dsp (dsp_of h)
  | dspE ks es =>
    obtain ⟨kes, vs, p, rfl, h⟩ := mE_dspE hv
    obtain ⟨h, h4⟩ := and2 h
    obtain ⟨h, h3⟩ := and2 h
    obtain ⟨h1, h2⟩ := and2 h
    rw [ev_dspE]
    exact n_dspE (sDs es ok (and2 h1).1 (of_decide_eq_true (and2 h1).2) h4) ⟨of_decide_eq_true h2, of_decide_eq_true h3⟩
  | comp own elt tg it cd =>
    obtain ⟨ee, et, ei, ifs, z, scope, p, rfl, h⟩ := mE_comp hv
    obtain ⟨h, h8⟩ := and2 h
    obtain ⟨h, h7⟩ := and2 h
    obtain ⟨h, h6⟩ := and2 h
    obtain ⟨h, h5⟩ := and2 h
    obtain ⟨h, h4⟩ := and2 h
    obtain ⟨h, h3⟩ := and2 h
    obtain ⟨h1, h2⟩ := and2 h
    obtain rfl := of_decide_eq_true h1
    have hsl : ∀ i ∈ tg.slots, i ∈ own.map (·.2) := fun i hi => by
      have := List.all_eq_true.mp h3 i hi
      simpa using this
    rw [ev_comp]
    exact n_comp ok.calm (by rw [ok.hN]; exact ok.nd) (sI it ok h4) (by rw [ok.hN, ok.sc]; exact blkOk_by h2) (fun s H C cl' fp => sTg (ok.blk scope s H C cl' fp) h6) (fun s H C cl' fp => sCd (ok.blk scope s H C cl' fp) h7)
      (fun s H C cl' fp => (sE elt (ok.blk scope s H C cl' fp) h8).d rfl) (fold_of h5) hsl
  | cat a b =>
    obtain ⟨ea, eb, p, rfl, h⟩ := mE_cat hv
    obtain ⟨h3, h4⟩ := and2 h
    rw [ev_cat]
    exact n_cat (sE a ok h3).b (sE b ok h4).b
  | blt b a =>
    obtain ⟨x, q, ea, p, rfl, h⟩ := mE_blt hv
    obtain ⟨h, h5⟩ := and2 h
    obtain ⟨h, h4⟩ := and2 h
    obtain ⟨h, h3⟩ := and2 h
    obtain ⟨h1, h2⟩ := and2 h
    obtain rfl := of_decide_eq_true h2
    rw [ev_blt]
    exact (s_blt ok h1 h3 h4 (sE a ok h5).b).2 (by cases b <;> first | rfl | (cases hf; done))
  | _ => cases hf
/-- name = value, the value told as it may be -/
theorem asgN (ok : Ok tb N G cs cl X P c) {i : Nat} {y : Str} {py pos : Pos} {k : E} {v : Expr} {te : TE} (ht : tgtB N c i y = true) (hs : swF c y py v = true) (hv : PE X v te) : PS X (.Assign [.Name y py] v pos) (tAsg te (gName i)) := by
  obtain ⟨h1, h2, h3⟩ := tgtB_of ok ht
  exact asg_plain (by rw [ok.hN]; exact ok.nd) h1 h2 hv (swF_of ok hs) h3
theorem asgC (ok : Ok tb N G cs cl X P c) {i : Nat} {y : Str} {py pos : Pos} {k : E} {v : Expr} (ht : tgtB N c i y = true) (hi : isComp k = true) (hs : swT c y py v = true) (hv : mE tb N c false k v = true) : PS X (.Assign [.Name y py] v pos) (tAsg (tN P (ev G cs k)) (gName i)) := by
  obtain ⟨t1, t2, t3⟩ := tgtB_of ok ht
  cases k <;> first | (cases hi; done) | skip
  rename_i own elt tg it cd
  obtain ⟨ee, et, ei, ifs, z, scope, p, rfl, h⟩ := mE_comp hv
  obtain ⟨h, h8⟩ := and2 h
  obtain ⟨h, h7⟩ := and2 h
  obtain ⟨h, h6⟩ := and2 h
  obtain ⟨h, h5⟩ := and2 h
  obtain ⟨h, h4⟩ := and2 h
  obtain ⟨h, h3⟩ := and2 h
  obtain ⟨h1, h2⟩ := and2 h
  obtain rfl := of_decide_eq_true h1
  have hs : (decide (c.sc.kind = .function) && lclB c y && (py.line == p.line) && !(scope.names.any fun (n, k) => n == y && (k == .local || k == .cell))) = true := hs
  obtain ⟨hs, s4⟩ := and2 hs
  obtain ⟨hs, s3⟩ := and2 hs
  obtain ⟨s1, s2⟩ := and2 hs
  have hsl : ∀ i ∈ tg.slots, i ∈ own.map (·.2) := fun i hi => by
    have := List.all_eq_true.mp h3 i hi
    simpa using this
  have hyl : X.env.scope.names.lookup y = some .local := by rw [ok.sc]; exact lclB_of s2
  rw [ev_comp]
  refine psMono (ps_setLc ok.calm (by rw [ok.hN]; exact ok.nd) t1 hyl (sw_true (by rw [ok.sc]; exact of_decide_eq_true s1) hyl s3 (by simpa using s4)) (sI it ok h4) (by rw [ok.hN, ok.sc]; exact blkOk_by h2) (fun s H C cl' fp => sTg (ok.blk scope s H C cl' fp) h6) (fun s H C cl' fp => sCd (ok.blk scope s H C cl' fp) h7)
    (fun s H C cl' fp => (sE elt (ok.blk scope s H C cl' fp) h8).d rfl) (fold_of h5)) fun D σ H h => comp_read hsl σ H _ h
theorem comp_lst {k : E} (hi : isComp k = true) (r : Rho) (t : Tw) (d : D) (t' : Tw) (h : ev G cs k r t = .ok d t') : ∃ xs, d = .lst xs := by
  cases k <;> first | (cases hi; done) | skip
  rw [ev_comp] at h
  unfold compE at h
  rename_i own elt tg it cd
  cases e : evI G cs it r t with
  | ok xs t1 =>
    rw [e] at h
    simp only [Res.bind_ok] at h
    split at h
    · generalize compL _ xs t1 = res at h
      cases res with
      | ok ys t2 =>
        cases h
        exact ⟨_, rfl⟩
      | exc n t2 => cases h
      | bad => cases h
    · cases h
  | exc n t1 =>
    rw [e] at h
    cases h
  | bad =>
    rw [e] at h
    cases h
theorem asgD (ok : Ok tb N G cs cl X P c) {i : Nat} {y : Str} {py pos : Pos} {k : E} {v : Expr} (ht : tgtB N c i y = true) (hs : (swF c y py v || (isComp k && swT c y py v)) = true) (hv : mE tb N c false k v = true) :
    PS X (.Assign [.Name y py] v pos) (tAsg (tD P (ev G cs k)) (gName i)) ∧ (freshB k = true → PS X (.Assign [.Name y py] v pos) (tAsg (tN P (ev G cs k)) (gName i))) := by
  rcases Bool.or_eq_true_iff.mp hs with hs | hs
  · exact ⟨asgN (k := k) ok ht hs ((sE k ok hv).d rfl), fun hf => asgN (k := k) ok ht hs (sN ok hf hv)⟩
  · obtain ⟨h1, h2⟩ := and2 hs
    have h := asgC (pos := pos) ok ht h1 h2 hv
    exact ⟨psMono h fun D σ H q => tNtD_mono (comp_lst h1) σ H _ q, fun _ => h⟩
/-- no stores exchanged -/
theorem none_of (hsc : X.env.scope = c.sc) {ts : List Expr} {v : Expr} {k : Nat} {p : Pos} (h : noneB c ts v = true) : swappedStores [.Tuple ts k p] v X.env = pure none := by
  cases v <;> try rfl
  rename_i vs kv pv
  have h : (!(ts.length == 2 || ts.length == 3) || ts.any (nonLoc c) || vs.all (foldedForSure 8)) = true := h
  unfold swappedStores
  simp only
  by_cases h1 : (!(ts.length == 2 || ts.length == 3) || vs.length != ts.length || X.env.blockKind != .function) = true
  · simp only [h1, if_true]
  · rw [if_neg h1]
    split
    · rfl
    · split
      · rfl
      · rename_i h3
        split
        · rfl
        · rename_i h4
          exfalso
          rcases Bool.or_eq_true_iff.mp h with h | h
          · rcases Bool.or_eq_true_iff.mp h with h | h
            · exact h1 (by rw [h]; rfl)
            · refine h3 (Bool.or_eq_true_iff.mpr (.inl ?_))
              refine bne_iff_ne.mpr fun z => ?_
              have z := List.filterMap_length_eq_length.mp z
              obtain ⟨e, m, q⟩ := List.any_eq_true.mp h
              have z := z e m
              cases e with
              | Name x px =>
                have q : (!lclB c x) = true := q
                simp only at z
                split at z
                · rename_i w
                  have w1 := (and2 w).1
                  have : X.env.kindOf x = some .local := eq_of_beq w1
                  have : X.env.scope.names.lookup x = some .local := this
                  rw [hsc] at this
                  unfold lclB at q
                  rw [this] at q
                  cases q
                · cases z
              | _ => cases z
          · exact h4 h
theorem blk_fn {env : Env} (h : env.scope.kind = .function) : env.blockKind = .function := by
  unfold Env.blockKind
  rw [h]
  rfl
theorem nstar_any {vs : List Expr} (h : (!vs.any fun e => !nStar e) = true) : (vs.any fun | .Starred .. => true | _ => false) = false := by
  induction vs with
  | nil => rfl
  | cons e r ih =>
    simp only [List.any_cons, Bool.not_or, Bool.not_not] at h ⊢
    obtain ⟨h1, h2⟩ := and2 h
    rw [ih h2]
    cases e <;> first | rfl | (cases h1; done)
theorem par2_of (hsc : X.env.scope = c.sc) {x y : Str} {px py : Pos} {a b : Expr} {k k2 : Nat} {p p2 : Pos} (hk : c.sc.kind = .function) (h1 : (!([a, b] : List Expr).any fun e => !nStar e) = true) (h2 : (([a, b] : List Expr).all (foldedForSure 8)) = false) (h3 : (([a, b] : List Expr).all (constantsAlone 8)) = false)
    (hx : c.sc.names.lookup x = some .local) (hy : c.sc.names.lookup y = some .local) (hxy : x ≠ y) (hl : (py.line == px.line) = true) : swappedStores [.Tuple [.Name x px, .Name y py] k p] (.Tuple [a, b] k2 p2) X.env = pure (some [x, y]) := by
  have kx : X.env.kindOf x = some .local := by show X.env.scope.names.lookup x = _; rw [hsc]; exact hx
  have ky : X.env.kindOf y = some .local := by show X.env.scope.names.lookup y = _; rw [hsc]; exact hy
  have hb := blk_fn (env := X.env) (by rw [hsc]; exact hk)
  have s := nstar_any h1
  unfold swappedStores
  simp only [hb, h2, h3, List.head?_cons, Option.map_some, Option.getD_some, Expr.pos, List.filterMap_cons, kx, ky, hl, beq_self_eq_true, Bool.and_self, if_true, List.filterMap_nil]
  have e : ([x, y] : List Str).eraseDups = [x, y] := by
    simp [List.eraseDups_cons, Ne.symm hxy]
  rw [if_neg (by simp)]
  split
  · rename_i z
    exact Bool.noConfusion (s.symm.trans z)
  · simp [e]
theorem par3_of (hsc : X.env.scope = c.sc) {x y z : Str} {px py pz : Pos} {a b d : Expr} {k k2 : Nat} {p p2 : Pos} (hk : c.sc.kind = .function) (h1 : (!([a, b, d] : List Expr).any fun e => !nStar e) = true) (h2 : (([a, b, d] : List Expr).all (foldedForSure 8)) = false) (h3 : (([a, b, d] : List Expr).all (constantsAlone 8)) = false)
    (hx : c.sc.names.lookup x = some .local) (hy : c.sc.names.lookup y = some .local) (hz : c.sc.names.lookup z = some .local) (hxy : x ≠ y) (hxz : x ≠ z) (hyz : y ≠ z) (hl : (py.line == px.line) = true) (hl2 : (pz.line == px.line) = true) : swappedStores [.Tuple [.Name x px, .Name y py, .Name z pz] k p] (.Tuple [a, b, d] k2 p2) X.env = pure (some [x, y, z]) := by
  have kx : X.env.kindOf x = some .local := by show X.env.scope.names.lookup x = _; rw [hsc]; exact hx
  have ky : X.env.kindOf y = some .local := by show X.env.scope.names.lookup y = _; rw [hsc]; exact hy
  have kz : X.env.kindOf z = some .local := by show X.env.scope.names.lookup z = _; rw [hsc]; exact hz
  have hb := blk_fn (env := X.env) (by rw [hsc]; exact hk)
  have s := nstar_any h1
  unfold swappedStores
  simp only [hb, h2, h3, List.head?_cons, Option.map_some, Option.getD_some, Expr.pos, List.filterMap_cons, kx, ky, kz, hl, hl2, beq_self_eq_true, Bool.and_self, if_true, List.filterMap_nil]
  have e : ([x, y, z] : List Str).eraseDups = [x, y, z] := by
    simp [List.eraseDups_cons, Ne.symm hxy, Ne.symm hxz, Ne.symm hyz]
  rw [if_neg (by simp)]
  split
  · rename_i z
    exact Bool.noConfusion (s.symm.trans z)
  · simp [e]
theorem locAt_of (ok : Ok tb N G cs cl X P c) {i : Nat} {x : Str} (h : locAt N c i x = true) : X.N[i]? = some x ∧ X.env.scope.names.lookup x = some .local ∧ c.sc.names.lookup x = some .local := by
  obtain ⟨h1, h2⟩ := and2 h
  exact ⟨by rw [ok.hN]; exact of_decide_eq_true h1, by rw [ok.sc]; exact lclB_of h2, lclB_of h2⟩
theorem sPar (ok : Ok tb N G cs cl X P c) {is : List Nat} {es : Es} {ts vs : List Expr} {kt kv : Nat} {pt pv pos : Pos} (h : mPar tb N c is es ts vs = true) : PS X (.Assign [.Tuple ts kt pt] (.Tuple vs kv pv) pos) (tS P (parE is (evs G cs es))) := by
  unfold mPar at h
  obtain ⟨h, h6⟩ := and2 h
  obtain ⟨h, h5⟩ := and2 h
  obtain ⟨h, h4⟩ := and2 h
  obtain ⟨h, h3⟩ := and2 h
  obtain ⟨h1, h2⟩ := and2 h
  have hk := of_decide_eq_true h1
  have h3 : vs.all (foldedForSure 8) = false := by simpa using h3
  have h4 : vs.all (constantsAlone 8) = false := by simpa using h4
  have nd : X.N.Nodup := by rw [ok.hN]; exact ok.nd
  split at h6
  · obtain ⟨q, q5⟩ := and2 h6
    obtain ⟨q, q4⟩ := and2 q
    obtain ⟨q, q3⟩ := and2 q
    obtain ⟨q1, q2⟩ := and2 q
    obtain ⟨a1, a2, a3⟩ := locAt_of ok q2
    obtain ⟨b1, b2, b3⟩ := locAt_of ok q3
    exact st_par2 ok.calm nd a1 b1 (of_decide_eq_true q1) a2 b2 (sEs es ok h5) (par2_of ok.sc hk h2 h3 h4 a3 b3 (of_decide_eq_true q4) q5)
  · obtain ⟨q, q11⟩ := and2 h6
    obtain ⟨q, q10⟩ := and2 q
    obtain ⟨q, q9⟩ := and2 q
    obtain ⟨q, q8⟩ := and2 q
    obtain ⟨q, q7⟩ := and2 q
    obtain ⟨q, q6⟩ := and2 q
    obtain ⟨q, q5⟩ := and2 q
    obtain ⟨q, q4⟩ := and2 q
    obtain ⟨q, q3⟩ := and2 q
    obtain ⟨q1, q2⟩ := and2 q
    obtain ⟨a1, a2, a3⟩ := locAt_of ok q4
    obtain ⟨b1, b2, b3⟩ := locAt_of ok q5
    obtain ⟨c1, c2, c3⟩ := locAt_of ok q6
    exact st_par3 ok.calm nd a1 b1 c1 (of_decide_eq_true q1) (of_decide_eq_true q2) (of_decide_eq_true q3) a2 b2 c2 (sEs es ok h5) (par3_of ok.sc hk h2 h3 h4 a3 b3 c3 (of_decide_eq_true q7) (of_decide_eq_true q8) (of_decide_eq_true q9) q10 q11)
  · cases h6
theorem sAsg (ok : Ok tb N G cs cl X P c) {tg : Tg} {k : E} {t v : Expr} {pos : Pos} (h : mAsg tb N c tg k t v = true) : PS X (.Assign [t] v pos) (tS P fun r t => (ev G cs k r t).bind fun x t1 => Fm.lift ((setT tg x r).map fun r1 => (.nx, r1)) t1) := by
  unfold mAsg at h
  split at h
  · obtain ⟨h, h3⟩ := and2 h
    obtain ⟨h1, h2⟩ := and2 h
    cases tg with
    | name i => exact st_set (asgD (i := i) ok h1 h2 h3).1
    | tup _ => cases h1
  · obtain ⟨h, h4⟩ := and2 h
    obtain ⟨h, h3⟩ := and2 h
    obtain ⟨h1, h2⟩ := and2 h
    exact st_asg ((sE k ok h4).d rfl) (sTg ok h1) (sw_sole h2) (none_of ok.sc h3) rfl
  · cases h
theorem sStar (ok : Ok tb N G cs cl X P c) {i j : Nat} {k : E} {t v : Expr} {pos : Pos} (h : mStar tb N c i j k t v = true) : PS X (.Assign [t] v pos) (tS P (starE i j (ev G cs k))) := by
  unfold mStar at h
  split at h
  · obtain ⟨h, h5⟩ := and2 h
    obtain ⟨h, h4⟩ := and2 h
    obtain ⟨h, h3⟩ := and2 h
    obtain ⟨h1, h2⟩ := and2 h
    obtain ⟨a1, a2, a3⟩ := tgtB_of ok h1
    obtain ⟨b1, b2, b3⟩ := tgtB_of ok h2
    exact st_star ok.hK ok.calm (by rw [ok.hN]; exact ok.nd) a1 b1 a2 b2 a3 b3 ((sE k ok h5).d rfl) (sw_sole h3) (none_of ok.sc (by cases v <;> first | rfl | (cases h4; done)))
  · cases h
theorem sNew (ok : Ok tb N G cs cl X P c) {i : Nat} {k : E} {t v : Expr} {pos : Pos} (h : mNew tb N c i k t v = true) : PS X (.Assign [t] v pos) (tS P fun r t => (ev G cs k r t).bind fun x t1 => okSet r i (.own x) t1) := by
  unfold mNew at h
  split at h
  · obtain ⟨h, h4⟩ := and2 h
    obtain ⟨h, h3⟩ := and2 h
    obtain ⟨h1, h2⟩ := and2 h
    exact st_new ((asgD ok h2 h3 h4).2 h1)
  · cases h
theorem sApp (ok : Ok tb N G cs cl X P c) {i : Nat} {k : E} {v : Expr} {pos : Pos} (h : mApp tb N c i k v = true) : PS X (.Expr v pos) (tS P (appE i (ev G cs k))) := by
  unfold mApp at h
  split at h
  · obtain ⟨h, h5⟩ := and2 h
    obtain ⟨h, h4⟩ := and2 h
    obtain ⟨h, h3⟩ := and2 h
    obtain ⟨h1, h2⟩ := and2 h
    obtain rfl := of_decide_eq_true h1
    obtain ⟨a1, a2, a3, a4⟩ := varB_of ok h2
    exact st_app ok.hK a1 a2 a3 a4 ((sE k ok h5).d rfl) h3 (star_of h4)
  · cases h
theorem sUpd (ok : Ok tb N G cs cl X P c) {i : Nat} {k : E} {v : Expr} {pos : Pos} (h : mUpd tb N c i k v = true) : PS X (.Expr v pos) (tS P (updE i (ev G cs k))) := by
  unfold mUpd at h
  split at h
  · obtain ⟨h, h5⟩ := and2 h
    obtain ⟨h, h4⟩ := and2 h
    obtain ⟨h, h3⟩ := and2 h
    obtain ⟨h1, h2⟩ := and2 h
    obtain rfl := of_decide_eq_true h1
    obtain ⟨a1, a2, a3, a4⟩ := varB_of ok h2
    exact st_upd a1 a2 a3 a4 ((sE k ok h5).d rfl) h3 (star_of h4)
  · cases h
theorem sPut (ok : Ok tb N G cs cl X P c) {i : Nat} {k a : E} {t v : Expr} {pos : Pos} (h : mPut tb N c i k a t v = true) : PS X (.Assign [t] v pos) (tS P (putE i (ev G cs k) (ev G cs a))) ∧ PS X (.Assign [t] v pos) (tS P (putLE i (ev G cs k) (ev G cs a))) := by
  unfold mPut at h
  split at h
  · rename_i y q b p
    obtain ⟨h, h5⟩ := and2 h
    obtain ⟨h, h4⟩ := and2 h
    obtain ⟨h, h3⟩ := and2 h
    obtain ⟨h1, h2⟩ := and2 h
    obtain ⟨a1, a2, a3, a4⟩ := varB_of ok h1
    refine ⟨st_put ok.hu a1 a2 a3 a4 (sE k ok h4).b ((sE a ok h5).d rfl) (sw_plain h3), st_putL a1 a2 a3 a4 (sE k ok h4).b ((sE a ok h5).d rfl) ?_ (sw_sole h3) (by cases v <;> rfl)⟩
    intro v
    cases b <;> first | rfl | (cases h2; done)
  · cases h
theorem sTcnt (ok : Ok tb N G cs cl X P c) {i : Nat} {k : E} {t v : Expr} {pos : Pos} (h : mTcnt tb N c i k t v = true) : PS X (.Assign [t] v pos) (tS P (tcntE i (ev G cs k))) := by
  unfold mTcnt at h
  split at h
  · obtain ⟨h, h4⟩ := and2 h
    obtain ⟨h, h3⟩ := and2 h
    obtain ⟨h1, h2⟩ := and2 h
    obtain ⟨a1, a2, a3, a4⟩ := varB_of ok h1
    obtain ⟨j, q2, rfl⟩ := isStr_of h2
    exact st_tcnt ok.hu a1 a2 a3 a4 ((sE k ok h4).d rfl) (sw_plain h3)
  · cases h
theorem sTrst (ok : Ok tb N G cs cl X P c) {i : Nat} {k a : E} {t v : Expr} {pos : Pos} (h : mTrst tb N c i k a t v = true) : PS X (.Assign [t] v pos) (tS P (trstE i (ev G cs k) (ev G cs a))) := by
  unfold mTrst at h
  split at h
  · obtain ⟨h, h5⟩ := and2 h
    obtain ⟨h, h4⟩ := and2 h
    obtain ⟨h, h3⟩ := and2 h
    obtain ⟨h1, h2⟩ := and2 h
    obtain ⟨a1, a2, a3, a4⟩ := varB_of ok h1
    obtain ⟨j, q2, rfl⟩ := isStr_of h2
    exact st_trst ok.hu a1 a2 a3 a4 (sE k ok h4).b ((sE a ok h5).d rfl) (sw_plain h3)
  · cases h
theorem sAug (ok : Ok tb N G cs cl X P c) {i : Nat} {op op' : Operator} {k : E} {t v : Expr} {pos : Pos} (h : mAug tb N c i op k t op' v = true) : PS X (.AugAssign t op' v pos) (tS P (augE i op (ev G cs k))) := by
  unfold mAug at h
  split at h
  · obtain ⟨h, h4⟩ := and2 h
    obtain ⟨h, h3⟩ := and2 h
    obtain ⟨h1, h2⟩ := and2 h
    obtain rfl := of_decide_eq_true h1
    obtain ⟨a1, a2, a3⟩ := tgtB_of ok h3
    refine st_aug (ip_of ?_) (by rw [ok.hN]; exact ok.nd) a1 a2 a3 (sE k ok h4).b
    cases op <;> first | (cases h2; done) | simp
  · cases h
theorem sRaise (ok : Ok tb N G cs cl X P c) {n : Nat} {m : Str} {a b : Option Expr} {pos : Pos} (h : mRaise tb c n m a b = true) : PS X (.Raise a b pos) (tS P fun _ t => .exc n t) := by
  unfold mRaise at h
  split at h
  · obtain ⟨h, h3⟩ := and2 h
    obtain ⟨h1, h2⟩ := and2 h
    obtain ⟨e1, e2, e3, e4⟩ := ok.exc n _ (of_decide_eq_true h2)
    obtain ⟨g1, g2, g3⟩ := glB_of ok h3
    exact st_raise (C := cl n) ok.calm ok.tk PySem.F.excBase_ValueError e1 e2 e3 e4 g1 g2
  · cases h
end
section
variable {G : Gam} {cs : Nat → D}
theorem evS_asg (tg : Tg) (e : E) : evS G cs (.asg tg e) = fun r t => (ev G cs e r t).bind fun x t1 => Fm.lift ((setT tg x r).map fun r1 => (.nx, r1)) t1 := by funext r t; rw [evS]
theorem evS_par (is : List Nat) (es : Es) : evS G cs (.par is es) = parE is (evs G cs es) := by funext r t; first | (rw [evS]; done) | (rw [evS]; rfl)
theorem evS_star (i j : Nat) (e : E) : evS G cs (.star i j e) = starE i j (ev G cs e) := by funext r t; first | (rw [evS]; done) | (rw [evS]; rfl)
theorem evS_aug (i : Nat) (op : Operator) (e : E) : evS G cs (.aug i op e) = augE i op (ev G cs e) := by funext r t; first | (rw [evS]; done) | (rw [evS]; rfl)
theorem evS_ret (e : E) : evS G cs (.ret e) = fun r t => (ev G cs e r t).bind fun x t1 => .ok (.ret x, r) t1 := by funext r t; rw [evS]
theorem evS_ite (k : E) (a b : Ss) : evS G cs (.ite k a b) = iteS (ev G cs k) (evSs G cs a) (evSs G cs b) := by funext r t; first | (rw [evS]; done) | (rw [evS]; rfl)
theorem evS_for (tg : Tg) (it : I) (b : Ss) : evS G cs (.for tg it b) = forE tg (evI G cs it) (evSs G cs b) := by funext r t; first | (rw [evS]; done) | (rw [evS]; rfl)
theorem evS_while (k : E) (b : Ss) : evS G cs (.while k b) = loopW (ev G cs k) (evSs G cs b) := by funext r t; rw [evS]
theorem evS_exp (e : E) : evS G cs (.exp e) = fun r t => (ev G cs e r t).bind fun _ t1 => .ok (.nx, r) t1 := by funext r t; rw [evS]
theorem evS_new (i : Nat) (e : E) : evS G cs (.new i e) = fun r t => (ev G cs e r t).bind fun x t1 => okSet r i (.own x) t1 := by funext r t; rw [evS]
theorem evS_app (i : Nat) (e : E) : evS G cs (.app i e) = appE i (ev G cs e) := by funext r t; first | (rw [evS]; done) | (rw [evS]; rfl)
theorem evS_put (i : Nat) (k e : E) : evS G cs (.put i k e) = putE i (ev G cs k) (ev G cs e) := by funext r t; first | (rw [evS]; done) | (rw [evS]; rfl)
theorem evS_upd (i : Nat) (e : E) : evS G cs (.upd i e) = updE i (ev G cs e) := by funext r t; first | (rw [evS]; done) | (rw [evS]; rfl)
theorem evS_putL (i : Nat) (k e : E) : evS G cs (.putL i k e) = putLE i (ev G cs k) (ev G cs e) := by funext r t; first | (rw [evS]; done) | (rw [evS]; rfl)
theorem evS_frz (i : Nat) : evS G cs (.frz i) = frzE i := by funext r t; first | (rw [evS]; done) | (rw [evS]; rfl)
theorem evS_tcnt (i : Nat) (e : E) : evS G cs (.tcnt i e) = tcntE i (ev G cs e) := by funext r t; first | (rw [evS]; done) | (rw [evS]; rfl)
theorem evS_trst (i : Nat) (k e : E) : evS G cs (.trst i k e) = trstE i (ev G cs k) (ev G cs e) := by funext r t; first | (rw [evS]; done) | (rw [evS]; rfl)
theorem evS_brk : evS G cs .brk = fun r t => .ok (.brk, r) t := by funext r t; rw [evS]
theorem evS_cont : evS G cs .cont = fun r t => .ok (.cont, r) t := by funext r t; rw [evS]
theorem evS_raise (n : Nat) (x : Str) : evS G cs (.raise n x) = fun _ t => .exc n t := by funext r t; rw [evS]
theorem evSs_nil : evSs G cs .nil = nilE := by funext r t; first | (rw [evSs]; done) | (rw [evSs]; rfl)
theorem evSs_cons (s : S) (r : Ss) : evSs G cs (.cons s r) = consE (evS G cs s) (evSs G cs r) := by funext r t; first | (rw [evSs]; done) | (rw [evSs]; rfl)
end
section
variable {tb : Tb} {N : List Str} {G : Gam} {cs : Nat → D} {cl : Nat → Addr} {X : Cx} {P : Pm} {c : Cs}
mutual
theorem sS (ok : Ok tb N G cs cl X P c) : ∀ (s : S) {st : Stmt}, mS tb N c s st = true → PS X st (tS P (evS G cs s))
  | .asg tg k, st, h => by
    obtain ⟨t, v, p, rfl, h⟩ := mS_asg h
    rw [evS_asg]
    exact sAsg ok h
  | .par is es, st, h => by
    obtain ⟨ts, kt, pt, vs, kv, pv, p, rfl, h⟩ := mS_par h
    rw [evS_par]
    exact sPar ok h
  | .star i j k, st, h => by
    obtain ⟨t, v, p, rfl, h⟩ := mS_star h
    rw [evS_star]
    exact sStar ok h
  | .aug i op k, st, h => by
    obtain ⟨t, op', v, p, rfl, h⟩ := mS_aug h
    rw [evS_aug]
    exact sAug ok h
  | .ret k, st, h => by
    obtain ⟨v, p, rfl, h⟩ := mS_ret h
    rw [evS_ret]
    exact st_ret ((sE k ok h).d rfl)
  | .ite k a b, st, h => by
    obtain ⟨ek, sa, sb, p, rfl, h⟩ := mS_ite h
    obtain ⟨h, h3⟩ := and2 h
    obtain ⟨h1, h2⟩ := and2 h
    rw [evS_ite]
    exact st_ite (sE k ok h1).t (sSs ok a h2) (sSs ok b h3)
  | .for tg it b, st, h => by
    obtain ⟨et, ei, sb, p, rfl, h⟩ := mS_for h
    obtain ⟨h, h4⟩ := and2 h
    obtain ⟨h, h3⟩ := and2 h
    obtain ⟨h1, h2⟩ := and2 h
    rw [evS_for]
    exact st_for ok.own ok.calm (sI it ok h3) (sTg ok h2) (sSs ok b h4) (fold_of h1)
  | .while k b, st, h => by
    obtain ⟨ek, sb, p, rfl, h⟩ := mS_while h
    obtain ⟨h1, h2⟩ := and2 h
    rw [evS_while]
    exact st_while ok.own (sE k ok h1).t (sSs ok b h2)
  | .exp k, st, h => by
    obtain ⟨v, p, rfl, h⟩ := mS_exp h
    obtain ⟨h1, h2⟩ := and2 h
    rw [evS_exp]
    exact st_exp ((sE k ok h2).d rfl) (sw_plain h1)
  | .new i k, st, h => by
    obtain ⟨t, v, p, rfl, h⟩ := mS_new h
    rw [evS_new]
    exact sNew ok h
  | .app i k, st, h => by
    obtain ⟨v, p, rfl, h⟩ := mS_app h
    rw [evS_app]
    exact sApp ok h
  | .put i k a, st, h => by
    obtain ⟨t, v, p, rfl, h⟩ := mS_put h
    rw [evS_put]
    exact (sPut ok h).1
  | .upd i k, st, h => by
    obtain ⟨v, p, rfl, h⟩ := mS_upd h
    rw [evS_upd]
    exact sUpd ok h
  | .putL i k a, st, h => by
    obtain ⟨t, v, p, rfl, h⟩ := mS_putL h
    rw [evS_putL]
    exact (sPut ok h).2
  | .tcnt i k, st, h => by
    obtain ⟨t, v, p, rfl, h⟩ := mS_tcnt h
    rw [evS_tcnt]
    exact sTcnt ok h
  | .trst i k a, st, h => by
    obtain ⟨t, v, p, rfl, h⟩ := mS_trst h
    rw [evS_trst]
    exact sTrst ok h
  | .brk, st, h => by
    obtain ⟨p, rfl, _⟩ := mS_brk h
    rw [evS_brk]
    exact st_brk
  | .cont, st, h => by
    obtain ⟨p, rfl, _⟩ := mS_cont h
    rw [evS_cont]
    exact st_cont
  | .raise n m, st, h => by
    obtain ⟨a, b, p, rfl, h⟩ := mS_raise h
    rw [evS_raise]
    exact sRaise ok h
  | .frz i, st, h => by cases st <;> cases h
theorem sSs (ok : Ok tb N G cs cl X P c) : ∀ (s : Ss) {ss : List Stmt}, mSs tb N c s ss = true → PSs X ss (tS P (evSs G cs s))
  | .nil, ss, h => by
    cases ss with
    | nil =>
      rw [evSs_nil]
      exact ss_nil
    | cons _ _ => cases h
  | .cons s r, ss, h => by
    rw [evSs_cons]
    cases e : isFrz s with
    | some i =>
      cases s <;> first | (cases e; done) | skip
      rw [evS_frz]
      exact ss_frz (sSs ok r (mSs_frz h))
    | none =>
      obtain ⟨st, rest, rfl, h1, h2⟩ := mSs_cons e h
      exact ss_cons (sS ok s h1) (sSs ok r h2)
end
end
end Fm

/-! ### what the law hears of a deed -/
namespace Fm
open PySem PySem.Spec PyProof.Rows L2
def nineEx : List (Nat × Str) := [(0, "NoRoot"), (1, "NoForm"), (2, "ByNought"), (3, "NoQuotient"), (4, "NoName"), (5, "NoPath"), (6, "Spent"), (7, "BadWord"), (8, "NoText")]
def tbH : Tb := ⟨[], [], nineEx, true⟩
def G0 : Gam := ⟨0, fun _ _ _ _ _ => .bad⟩
def cs0 : Nat → D := fun _ => .non
def two9 (x y : Str) (i j : Nat) : E := .dspE [x, y] (.cons (.isx (.var 1) i) (.cons (.isx (.var 1) j) .nil))
def heardT : Ss :=
  .cons (.ite (.cmp .Is (.var 1) (.cst .non)) (.cons (.ret (.tup (.cons (.cst (.str "told")) (.cons (.var 2) .nil)))) .nil) .nil)
  (.cons (.new 4 (two9 "no root" "no form" 0 1))
  (.cons (.upd 4 (two9 "by nought" "no quotient" 2 3))
  (.cons (.upd 4 (two9 "no name" "no path" 4 5))
  (.cons (.upd 4 (two9 "spent" "bad word" 6 7))
  (.cons (.put 4 (.cst (.str "no text")) (.isx (.var 1) 8))
  (.cons (.frz 4)
  (.cons (.asg (.name 5) (.comp [("word", 6)] (.var 6) (.name 6) (.keys (.var 4)) (.some (.dix (.var 4) (.var 6)))))
  (.cons (.ret (.ite (.and (.cmp .Eq (.blt .len (.var 5)) (.cst (.int 1))) (.isv (.var 1))) (.tup (.cons (.ix (.var 5) (.cst (.int 0))) .nil)) (.tup (.cons (.cst (.str "is wrong")) .nil)))) .nil))))))))
theorem heardT_told (d : D) (t : Tw) : evSs G0 cs0 heardT [.un, .val .non, .val d, .un, .un, .un, .un] t = .ok (.ret (.tup [.str "told", d]), [.un, .val .non, .val d, .un, .un, .un, .un]) t := by
  rfl
theorem heardT_exc (n : Nat) (h : n < 9) (t : Tw) : ∃ r, evSs G0 cs0 heardT [.un, .val (.exc n), .un, .un, .un, .un, .un] t = .ok (.ret (.tup [.str (hWord n)]), r) t := by
  have : n = 0 ∨ n = 1 ∨ n = 2 ∨ n = 3 ∨ n = 4 ∨ n = 5 ∨ n = 6 ∨ n = 7 ∨ n = 8 := by omega
  rcases this with rfl | rfl | rfl | rfl | rfl | rfl | rfl | rfl | rfl
  all_goals exact ⟨_, rfl⟩
/-- what the head tells for it -/
structure HeardK (K : PySem.W.Frag) (mg : Str → Option Value) (cl : Nat → Addr) (CF : Addr) : Prop where
  form : mg "FormError" = some (.ref CF)
  exm : ∀ n, n < 9 → PySem.W.exmOne K (.ref (cl n)) (.ref CF) = some true
def csH (sg : Scope) : Cs := ⟨sg, fun _ => true, false⟩
def mHeard (sg : Scope) : List Stmt → Bool
  | .Assign [.Tuple [.Name a1 _, .Name a2 _] _ _] (.Tuple [.Constant .none _ _, .Constant .none _ _] _ _) _ :: .Try [.Assign [.Name a3 _] (.Call (.Name a4 _) [] [] _) _] [.ExceptHandler (some (.Name a5 _)) (some a6) [.Assign [.Name a7 _] (.Name a8 _) _] _] [] [] _ :: rest =>
    tgtB heardN (csH sg) 1 a1 && tgtB heardN (csH sg) 2 a2 && tgtB heardN (csH sg) 2 a3 && decide (a4 = "deed") && decide (a5 = "FormError") && glB (csH sg) a5 && locAt heardN (csH sg) 3 a6 && tgtB heardN (csH sg) 1 a7 && varB heardN (csH sg) 3 a8 && mSs tbH heardN (csH sg) heardT rest
  | _ => false
theorem heardT_ok {X : Cx} {T : Tn} {cl : Nat → Addr} (hcl : T.cl = cl) (free : ∀ x ∈ freeNames, X.mg x = none) (nine : Nine X.K cl) (exc : ∀ n x, nineEx.lookup n = some x → ExcOk X (cl n) x) {sg : Scope} {g : Addr} {cdg : Value} (S : FnScope heardN ["deed"] sg) (s : Shared) (H : Hp)
    (hr : Room 0 (X.A.deeper (envOfC "_law_heard" sg s.heap.objs.size g cdg))) (F0 H0 : Hp) :
    Ok tbH heardN G0 cs0 cl (cxOf C8.CX0 X.prog X.w X.K X.mg X.base heardN "_law_heard" sg g cdg X.A X.stack s H C8.E0).nox ⟨X.K, T, F0, H0, fun _ _ => False⟩ (csH sg) where
  hK := rfl
  hN := rfl
  nd := S.nd
  sc := rfl
  fn := rfl
  calm := rfl
  room := hr
  hcl := hcl
  free := free
  con := fun g x e => by simp [tbH] at e
  call := fun d i sh e => by simp [tbH] at e
  tk := fun u s' ⟨a, B, sI, pins, σ, H, cls, d, e, I, nb, up, sky, na, os, ag, w⟩ => by
    obtain ⟨n, _, _, z⟩ := w
    exact z.elim
  own := PassesOwn.never
  exc := fun n x e => by
    obtain ⟨h1, h2, h3, h4⟩ := exc n x e
    exact ⟨h1, h2, h3, h4⟩
  nine := fun _ => nine
  heard := fun _ z => by cases z
theorem tail_exc {K : PySem.W.Frag} {T : Tn} {F' H' : Hp} {t' : Tw} {n : Nat} {a : Addr} {σ' : L2.St} {Q : VK} {nx : L2.St → Hp → Prop} (hn : n < 9) (RF : RelH K T F' H' F' t' H') (ha : H' a = none) (hl : σ'.length = 7)
    (hq : ∀ v F2 H2, RelH K T F' H' F2 t' H2 → Rp K T F2 v (.tup [.str (hWord n)]) → Q v H2) :
    tS ⟨K, T, F', H', fun _ _ => False⟩ (evSs G0 cs0 heardT) { nx := nx, rt := Q } (((σ'.set 3 (some (.ref a))).set 1 (some (.ref a))).set 3 none) (L2.upd H' a (ExI (.ref (T.cl n)) a)) := by
  have b2 := RF.newF (o := ExI (.ref (T.cl n)) a) ha (by intro _ z; cases z)
  obtain ⟨r, er⟩ := heardT_exc n hn t'
  refine ⟨_, [.un, .val (.exc n), .un, .un, .un, .un, .un], t', ⟨b2, by simp [hl], fun i d e => ?_, fun i d e => ?_, fun i j d e p e1 => ?_⟩, ?_⟩
  · match i, e with
    | 1, e =>
      cases e
      refine ⟨.ref a, ?_, .exc n upd_same⟩
      rw [List.getElem?_set_ne (by decide), List.getElem?_set_self (by simp [hl])]
    | 0, e => cases e
    | 2, e => cases e
    | 3, e => cases e
    | 4, e => cases e
    | 5, e => cases e
    | 6, e => cases e
    | i + 7, e => simp at e
  · match i, e with
    | 0, e => cases e
    | 1, e => cases e
    | 2, e => cases e
    | 3, e => cases e
    | 4, e => cases e
    | 5, e => cases e
    | 6, e => cases e
    | i + 7, e => simp at e
  · match i, e1 with
    | 0, e => cases e
    | 1, e => cases e
    | 2, e => cases e
    | 3, e => cases e
    | 4, e => cases e
    | 5, e => cases e
    | 6, e => cases e
    | i + 7, e => simp at e
  · rw [er]
    exact fun v F2 H2 _ R' rv => hq v F2 H2 R' rv
theorem tail_told {K : PySem.W.Frag} {T : Tn} {F' H' : Hp} {t' : Tw} {d : D} {v f : V} {Q : VK} {nx : L2.St → Hp → Prop} (RF : RelH K T F' H' F' t' H') (rv : Rp K T F' v d)
    (hq : ∀ w F2 H2, RelH K T F' H' F2 t' H2 → Rp K T F2 w (.tup [.str "told", d]) → Q w H2) :
    tS ⟨K, T, F', H', fun _ _ => False⟩ (evSs G0 cs0 heardT) { nx := nx, rt := Q } ((((L2.start heardN [f]).set 1 (some .non)).set 2 (some .non)).set 2 (some v)) H' := by
  refine ⟨_, [.un, .val .non, .val d, .un, .un, .un, .un], t', ⟨RF, rfl, fun i d' e => ?_, fun i d e => ?_, fun i j d e p e1 => ?_⟩, ?_⟩
  · match i, e with
    | 1, e =>
      cases e
      exact ⟨.non, rfl, .non⟩
    | 2, e =>
      cases e
      exact ⟨v, rfl, rv⟩
    | 0, e => cases e
    | 3, e => cases e
    | 4, e => cases e
    | 5, e => cases e
    | 6, e => cases e
    | i + 7, e => simp at e
  · match i, e with
    | 0, e => cases e
    | 1, e => cases e
    | 2, e => cases e
    | 3, e => cases e
    | 4, e => cases e
    | 5, e => cases e
    | 6, e => cases e
    | i + 7, e => simp at e
  · match i, e1 with
    | 0, e => cases e
    | 1, e => cases e
    | 2, e => cases e
    | 3, e => cases e
    | 4, e => cases e
    | 5, e => cases e
    | 6, e => cases e
    | i + 7, e => simp at e
  · rw [heardT_told]
    exact fun v F2 H2 _ R' rv => hq v F2 H2 R' rv
theorem heard_gives {X : Cx} {T : Tn} {cl : Nat → Addr} {CF : Addr} (hk : HeardK X.K X.mg cl CF) (hcl : T.cl = cl) (free : ∀ x ∈ freeNames, X.mg x = none) (nine : Nine X.K cl) (exc : ∀ n x, nineEx.lookup n = some x → ExcOk X (cl n) x) {sg : Scope} {g : Addr} {cdg : Value} {bg : List Stmt} {q : Str}
    (S : FnScope heardN ["deed"] sg) (hr : Room 1 X.A) (hm : mHeard sg bg = true) : LamX.GivesTo X heardN "_law_heard" sg g cdg bg "deed" q (TTh X.K T) := by
  intro f c' s H Q tl act hc h
  obtain ⟨F, t, R0, h⟩ := h
  have ok := heardT_ok (g := g) (cdg := cdg) hcl free nine exc S s H (hr.deeper _)
  unfold mHeard at hm
  split at hm
  · rename_i a1 q1 a2 q2 k1 q3 j1 q4 j2 q5 k2 q6 q7 a3 q8 a4 q9 q10 q11 a5 q12 a6 a7 q13 a8 q14 q15 q16 q17 rest
    obtain ⟨hm, m10⟩ := and2 hm
    obtain ⟨hm, m9⟩ := and2 hm
    obtain ⟨hm, m8⟩ := and2 hm
    obtain ⟨hm, m7⟩ := and2 hm
    obtain ⟨hm, m6⟩ := and2 hm
    obtain ⟨hm, m5⟩ := and2 hm
    obtain ⟨hm, m4⟩ := and2 hm
    obtain ⟨hm, m3⟩ := and2 hm
    obtain ⟨m1, m2⟩ := and2 hm
    obtain rfl := of_decide_eq_true m4
    obtain rfl := of_decide_eq_true m5
    have ok0 := ok H H
    obtain ⟨n1, l1, f1⟩ := tgtB_of ok0 m1
    obtain ⟨n2, l2, f2⟩ := tgtB_of ok0 m2
    obtain ⟨n3, l3, f3⟩ := tgtB_of ok0 m3
    obtain ⟨n7, l7, f7⟩ := tgtB_of ok0 m8
    obtain ⟨n8, v8, d8, c8⟩ := varB_of ok0 m9
    obtain ⟨n6, l6, _⟩ := locAt_of ok0 m7
    obtain ⟨g5, d5, _⟩ := glB_of ok0 m6
    have nd := S.nd
    have st1 := ps_asg (X := (cxOf C8.CX0 X.prog X.w X.K X.mg X.base heardN "_law_heard" sg g cdg X.A X.stack s H C8.E0).nox) (pos := q7) (pe_tup (x1 := k2) (pos := q6) (pa_cons (pe_non (j := j1) (pos := q4)) (pa_cons (pe_non (j := j2) (pos := q5)) pa_nil rfl) rfl))
      (pg_tup (pos := q3) (k := k1) rfl (pgs_cons (pg_name (pos := q1) nd n1 l1 f1) (pgs_cons (pg_name (pos := q2) nd n2 l2 f2) pgs_nil))) rfl (none_of (c := csH sg) rfl (by simp [noneB]; exact .inr ⟨rfl, rfl⟩)) rfl
    have st2 := ps_try_keep (X := (cxOf C8.CX0 X.prog X.w X.K X.mg X.base heardN "_law_heard" sg g cdg X.A X.stack s H C8.E0).nox) (i := 3) (c := .ref CF) (x := "FormError") (np := q12) (pos := q17) (pos' := q16) (suite := []) (b₀ := .Assign [.Name a7 q13] (.Name a8 q14) q15)
      (tb := fun W D σ H => ∃ (Ech : XK) (Qch : VK), (∀ cls d σ' H', Ech cls d H' → W cls d σ' H') ∧ (∀ v H', Qch v H' → D.nx (σ.set 2 (some v)) H') ∧ σ[0]? = some (some (.ref f)) ∧ H c' = some (LamX.CodeO c' q) ∧ tl Ech H Qch)
      (ts := fun _ _ _ => tAsg (tVar 3) (gName 1)) (body := [.Assign [.Name a3 q8] (.Call (.Name "deed" q9) [] [] q10) q11]) rfl rfl rfl nd n6 l6 ⟨g5, d5, .inl hk.form⟩ (fun W pn xe tk _ => ?_) (fun a oe cls d pn _ _ => pss_one (asg_plain (by exact nd) n7 l7 (pe_var n8 v8 d8 c8) (sw_plain rfl) f7))
    refine ⟨_, pss_cons st1 (pss_cons st2 (u := fun D σ H => ∃ F0 H0, tS ⟨X.K, T, F0, H0, fun _ _ => False⟩ (evSs G0 cs0 heardT) D σ H) ⟨fun pins s1 σ H1 D I ⟨F0, H0, h⟩ => (sSs (ok F0 H0) heardT m10).run pins s1 σ H1 D I h⟩), ?_⟩
    · refine ⟨by decide, fun p hp => ⟨p, _, rfl, .inl (.inl upd_same), rfl, .non, _, rfl, .non, _, rfl, rfl, ?_⟩⟩
      have bF := R0.newF (o := .tup [.non, .non]) hp
      refine ⟨_, _, fun cls d σ' H' z => ?_, fun v H' z => ?_, rfl, by rw [upd_ne (ne_of_none hc hp)]; exact hc, h _ _ bF⟩
      · obtain ⟨n, F', t', hn, rfl, rfl, RF, hq⟩ := z
        rw [hcl]
        refine ⟨rfl, hk.exm n hn, fun hl a ha => ⟨.ref a, ?_, fun ha2 => ?_⟩⟩
        · have hl : σ'.length = 7 := hl
          rw [List.getElem?_set_self (by rw [hl]; decide)]
        · subst hcl
          exact ⟨_, _, tail_exc hn RF ha2 hl hq⟩
      · obtain ⟨F', t', d, RF, rv, hq⟩ := z
        exact ⟨_, _, tail_told RF rv hq⟩
    · refine ⟨fun pins s' σ H' D I h' => ?_⟩
      obtain ⟨Ech, Qch, hW, hQ, h1, h2, h3⟩ := h'
      have hp := act W pn xe Ech q9 q10 tk hW
      have hp2 : PE _ (.Call (.Name "deed" q9) [] [] q10) (fun σZ HZ Q => ∃ Qch : VK, (∀ v H', Qch v H' → Q v H') ∧ σZ[0]? = some (some (.ref f)) ∧ HZ c' = some (LamX.CodeO c' q) ∧ tl Ech HZ Qch) := ⟨fun pins s σ H Q I ⟨Qch, m, z⟩ => thn (hp.run pins s σ H Qch I z) fun u s1 ⟨v, H1, I1, r, w⟩ => ⟨v, H1, I1, r, m v H1 w⟩⟩
      have hq := pss_one (asg_plain (X := (cxOf C8.CX0 X.prog X.w X.K X.mg X.base heardN "_law_heard" sg g cdg X.A X.stack s H C8.E0).tr pn xe) (pos := q11) (py := q8) (i := 2) (by exact nd) n3 l3 hp2 (sw_plain rfl) f3)
      exact hq.run pins s' σ H' D I ⟨Qch, hQ, h1, h2, h3⟩
  · cases hm
end Fm

/-! ### defs: what a call tells, by levels -/
namespace Fm
open PySem PySem.Spec PyProof.Rows L2
structure Fd where
  ps : List Str
  N : List Str
  body : Ss
inductive Fn where
  | df (f : Fd)
  | nat (ps : List Str) (g : List Int → List D → Tw → Res D)
def Fn.ps : Fn → List Str
  | .df f => f.ps
  | .nat ps _ => ps
structure Pg where
  tb : Tb
  fs : List Fn
  cs : Nat → D
def startR (N : List Str) (ds : List D) : Rho := ds.map .val ++ List.replicate (N.length - ds.length) .un
def retD : Res (Fl × Rho) → Res D
  | .ok (.ret d, _) t => .ok d t
  | .ok (.nx, _) t => .ok .non t
  | .ok (.brk, _) _ => .bad
  | .ok (.cont, _) _ => .bad
  | .exc n t => .exc n t
  | .bad => .bad
noncomputable def callF (p : Pg) (ns : List Int) (k i : Nat) (ds : List D) (t : Tw) : Res D := match k with
  | 0 => .bad
  | k + 1 => match p.fs[i]? with
    | some (.df f) => retD (evSs ⟨k, fun d j xs ys t => match p.tb.sh[j]? with
      | some sh => callF p ns (k - d) sh.fn (xs ++ ys ++ sh.dfl.map Cst.d) t
      | none => .bad⟩ p.cs f.body (startR f.N ds) t)
    | some (.nat _ g) => g ns ds t
    | none => .bad
termination_by k
decreasing_by omega
/-- what calls tell, of level k -/
noncomputable def gam (p : Pg) (ns : List Int) (k : Nat) : Gam := ⟨k, fun d j xs ys t => match p.tb.sh[j]? with
  | some sh => callF p ns (k - d) sh.fn (xs ++ ys ++ sh.dfl.map Cst.d) t
  | none => .bad⟩
@[simp] theorem gam_low (p : Pg) (ns : List Int) (k : Nat) : (gam p ns k).low = gam p ns (k - 2) := by
  unfold gam Gam.low
  congr 1
  funext d j xs ys t
  simp only [Nat.add_comm d 2, Nat.sub_add_eq]
@[simp] theorem gam_lv (p : Pg) (ns : List Int) (k : Nat) : (gam p ns k).lv = k := rfl
theorem callF_zero {p : Pg} {ns : List Int} {i : Nat} (ds : List D) (t : Tw) : callF p ns 0 i ds t = .bad := by rw [callF]
theorem callF_df {p : Pg} {ns : List Int} {k i : Nat} {f : Fd} (h : p.fs[i]? = some (.df f)) (ds : List D) (t : Tw) : callF p ns (k + 1) i ds t = retD (evSs (gam p ns k) p.cs f.body (startR f.N ds) t) := by
  rw [callF]
  simp only [h]
  rfl
theorem callF_nat {p : Pg} {ns : List Int} {k i : Nat} {ps : List Str} {g : List Int → List D → Tw → Res D} (h : p.fs[i]? = some (.nat ps g)) (ds : List D) (t : Tw) : callF p ns (k + 1) i ds t = g ns ds t := by
  rw [callF]
  simp only [h]
structure Bnd (K : PySem.W.Frag) (mg : Str → Option Value) (sh : Sh) (fa : Addr) (fd : FuncData) (ps : List Str) : Prop where
  mg : mg sh.name = some (.ref fa)
  kp : PySem.W.keepIn K (.ref fa) = true
  len : sh.np + sh.ks.length + sh.dfl.length = ps.length
  b0 : sh.ks = [] → ∃ ds, Vals (sh.dfl.map Cst.v) ds ∧ Binds K fd ps ds
  b1 : sh.ks ≠ [] → ∃ gg, KBn K fd ps sh.np sh.ks gg (fun vs zs => vs ++ zs ++ sh.dfl.map Cst.v)
structure ExcK (K : PySem.W.Frag) (mg : Str → Option Value) (C : Addr) (x : Str) : Prop where
  q : PySem.W.excIn K C He.veBase "ValueError.__new__" = true
  g : mg x = some (.ref C)
  k : PySem.W.keepIn K (.ref C) = true
  s : PySem.W.subIn K (.ref C) (.type "BaseException") = some true
  t : PySem.W.typeIn K (.ref C) = some (.type "type")
/-- what the head tells -/
structure Hd (p : Pg) (P : Program) (w : World) (K : PySem.W.Frag) (mg : Str → Option Value) (base : Heap) (cl : Nat → Addr) (fad : Nat → Addr) (ffd : Nat → FuncData) : Prop where
  free : ∀ x ∈ freeNames, mg x = none
  con : ∀ (g : Nat) (x : Str), p.tb.cs[g]? = some x → ∃ u v, mg x = some u ∧ RelV v u ∧ ∀ T, Rp K T (fun _ => none) v (p.cs g)
  exc : ∀ (n : Nat) (x : Str), p.tb.ex.lookup n = some x → ExcK K mg (cl n) x
  nine : p.tb.hd = true → Nine K cl
  sh : ∀ (j : Nat) (sh : Sh), p.tb.sh[j]? = some sh → ∃ fn : Fn, p.fs[sh.fn]? = some fn ∧ Bnd K mg sh (fad sh.fn) (ffd sh.fn) fn.ps
  df : ∀ (i : Nat) (f : Fd), p.fs[i]? = some (.df f) → ∃ x params body scope dvs kws, FunD K x x params body scope dvs kws (fad i) (ffd i) ∧ FnScope f.N f.ps scope ∧ mSs p.tb f.N ⟨scope, fun _ => true, false⟩ f.body body = true
  nat : ∀ (i : Nat) (ps : List Str) (g : List Int → List D → Tw → Res D), p.fs[i]? = some (.nat ps g) → ∀ T, T.cl = cl → FnOk P w K mg base (CX P w) 1 (fad i) (ffd i) ps (spD K T cl ps.length (g T.ns))
theorem map_get {ds : List D} {n i : Nat} {s : Sl} (h : (ds.map Sl.val ++ List.replicate n Sl.un)[i]? = some s) : (∃ d, s = .val d ∧ ds[i]? = some d) ∨ s = .un := by
  by_cases hi : i < ds.length
  · rw [List.getElem?_append_left (by rw [List.length_map]; exact hi), List.getElem?_map] at h
    obtain ⟨d, e, z⟩ := Option.map_eq_some_iff.mp h
    exact .inl ⟨d, z.symm, e⟩
  · rw [List.getElem?_append_right (by rw [List.length_map]; omega), List.getElem?_replicate] at h
    split at h
    · exact .inr (Option.some.inj h).symm
    · cases h
/-- at a def's entry -/
theorem Rel.start {K : PySem.W.Frag} {T : Tn} {F H : Hp} {t : Tw} {N : List Str} {vs : List V} {ds : List D} (R : RelH K T F H F t H) (rv : RpL K T F vs ds) : Rel K T F H F (startR N ds) t (L2.start N vs) H := by
  refine ⟨R, ?_, fun i d h => ?_, fun i d h => ?_, fun i j d e q h => ?_⟩
  · unfold startR L2.start
    simp [rv.length]
  · rcases map_get h with ⟨d', z, e⟩ | z
    · cases z
      obtain ⟨v, ev, q⟩ := rv.get e
      refine ⟨v, ?_, q⟩
      unfold L2.start
      have hi : i < vs.length := (List.getElem?_eq_some_iff.mp ev).1
      rw [List.getElem?_append_left (by rw [List.length_map]; exact hi), List.getElem?_map, ev]
      rfl
    · cases z
  · rcases map_get h with ⟨d', z, e⟩ | z <;> cases z
  · rcases map_get h with ⟨d', z, e⟩ | z <;> cases z
/-- in a def's body -/
theorem mkOk {p : Pg} {P : Program} {w : World} {K : PySem.W.Frag} {mg : Str → Option Value} {base : Heap} {cl : Nat → Addr} {fad : Nat → Addr} {ffd : Nat → FuncData} (hd : Hd p P w K mg base cl fad ffd) (T : Tn) (hT : T.cl = cl) {k : Nat}
    (ih : ∀ j, j ≤ k → ∀ (i : Nat) (fn : Fn), p.fs[i]? = some fn → FnOk P w K mg base (CX P w) j (fad i) (ffd i) fn.ps (spD K T cl fn.ps.length (callF p T.ns j i)))
    {N ps : List Str} {x : Str} {scope : Scope} {f : Addr} {cdv : Value} {A : Around} {outer : List Env} {s : Shared} {H : Hp} {E : XK} (S : FnScope N ps scope) (hr : Room k (A.deeper (envOfC x scope s.heap.objs.size f cdv))) (F0 H0 : Hp) (lm : Bool)
    (hh : p.tb.hd = true → lm = true → Heard (cxOf (CX P w) P w K mg base N x scope f cdv A outer s H E) ⟨K, T, F0, H0, fun n H' => E (.ref (cl n)) none H'⟩) :
    Ok p.tb N (gam p T.ns k) p.cs cl (cxOf (CX P w) P w K mg base N x scope f cdv A outer s H E) ⟨K, T, F0, H0, fun n H' => E (.ref (cl n)) none H'⟩ ⟨scope, fun _ => true, lm⟩ where
  hK := rfl
  hN := rfl
  nd := S.nd
  sc := rfl
  fn := rfl
  calm := rfl
  room := hr
  hcl := hT
  free := hd.free
  con := fun g x e => by
    obtain ⟨u, v, a, b, c⟩ := hd.con g x e
    exact ⟨u, v, a, b, c T⟩
  call := fun d j sh e hdk => by
    obtain ⟨fn, e2, b⟩ := hd.sh j sh e
    refine ⟨fad sh.fn, ffd sh.fn, fn.ps, callF p T.ns (k - d) sh.fn, ?_, b.mg, b.kp, b.b0, b.b1, fun xs ys t => ?_⟩
    · have := ih (k - d) (Nat.sub_le k d) sh.fn fn e2
      rw [← b.len] at this
      exact this
    · show (match p.tb.sh[j]? with
        | some sh => _
        | none => _) = _
      rw [e]
  tk := by
    have tk := takes_of (X := cxOf (CX P w) P w K mg base N x scope f cdv A outer s H E) (E := E) rfl rfl rfl rfl
    exact fun u s' z => tk u s' (by
      obtain ⟨a, B, sI, pins, σ, H, cls, d, e, I, nb, up, sky, na, os, ag, wn⟩ := z
      obtain ⟨n, e1, e2, z⟩ := wn
      exact ⟨a, B, sI, pins, σ, H, cls, d, e, I, nb, up, sky, na, os, ag, by rw [e1, e2]; exact z⟩)
  own := passes_of rfl
  exc := fun n x e => by
    obtain ⟨a, b, c, d, e⟩ := hd.exc n x e
    exact ⟨a, b, c, raises_own d e⟩
  nine := hd.nine
  heard := hh
theorem fnOk {p : Pg} {P : Program} {w : World} {K : PySem.W.Frag} {mg : Str → Option Value} {base : Heap} {cl : Nat → Addr} {fad : Nat → Addr} {ffd : Nat → FuncData} (hd : Hd p P w K mg base cl fad ffd) (T : Tn) (hT : T.cl = cl) :
    ∀ (k i : Nat) (fn : Fn), p.fs[i]? = some fn → FnOk P w K mg base (CX P w) k (fad i) (ffd i) fn.ps (spD K T cl fn.ps.length (callF p T.ns k i)) := by
  intro k
  induction k using Nat.strongRecOn with
  | ind k ih =>
  cases k with
  | zero =>
    intro i fn hf
    refine ⟨fun vs H Q E h => ?_, fun A outer s H args us vs Q E _ _ _ _ h => ?_⟩
    · obtain ⟨_, _, _, _, _, _, z⟩ := h
      rw [callF_zero] at z
      exact z.elim
    · obtain ⟨_, _, _, _, _, _, z⟩ := h
      rw [callF_zero] at z
      exact z.elim
  | succ k =>
    intro i fn hf
    cases fn with
    | nat ps g =>
      have e : callF p T.ns (k + 1) i = g T.ns := by
        funext ds t
        exact callF_nat hf ds t
      rw [e]
      exact (hd.nat i ps g hf T hT).mono (by omega)
    | df f =>
      obtain ⟨x, params, body, scope, dvs, kws, F, S, hm⟩ := hd.df i f hf
      refine F.ok S (fun vs H Q E h => ?_) fun cdv A outer s H vs Q E hr h => ?_
      · obtain ⟨_, _, _, _, rv, hl, _⟩ := h
        rw [rv.length, hl]
      · obtain ⟨F0, t, ds, R, rv, hl, q⟩ := h
        rw [callF_df hf] at q
        refine ⟨tS ⟨K, T, F0, H, fun n H' => E (.ref (cl n)) none H'⟩ (evSs (gam p T.ns k) p.cs f.body), ?_, F0, startR f.N ds, t, Rel.start R rv, ?_⟩
        · exact sSs (mkOk hd T hT (fun j hj => ih j (by omega)) S hr F0 H false (fun _ z => by cases z)) f.body hm
        · cases er : evSs (gam p T.ns k) p.cs f.body (startR f.N ds) t with
          | ok r t' =>
            rw [er] at q
            obtain ⟨fl, r⟩ := r
            cases fl with
            | nx => exact fun F' σ' H' _ R' => q .non F' H' R'.toRelH .non
            | ret d => exact fun v F' H' _ R' rv => q v F' H' R' rv
            | brk => exact q.elim
            | cont => exact q.elim
          | exc n t' =>
            rw [er] at q
            exact fun F' H' _ R' => q F' H' R'
          | bad =>
            rw [er] at q
            exact q.elim
end Fm

/-! ### the law's def: the town is made, then data alone -/
namespace Fm
open PySem PySem.Spec PyProof.Rows L2
def isBegun : List Stmt → Bool
  | [.Return (some (.Dict [some k1, some k2] [.Constant (.int z) _ _, .Dict [] [] _] _)) _] => isStr "count" k1 && isStr "rests" k2 && decide (z = 0)
  | _ => false
def spB : Sp := fun vs H Q _ => vs = [] ∧ ∀ a b H', H a = none → H b = none → a ≠ b → H' a = some (.dK [(.inr "count", .int 0), (.inr "rests", .ref b)]) → H' b = some (.dK []) → (∀ c, c ≠ a → c ≠ b → H' c = H c) → Q (.ref a) H'
theorem begun_ok {CX : CXT} {P : Program} {w : World} {K : PySem.W.Frag} {mg : Str → Option Value} {base : Heap} {x : Str} {params : Arguments} {body : List Stmt} {scope : Scope} {f : Addr} {fd : FuncData} (F : FunD K x x params body scope [] [] f fd) (S : FnScope [] [] scope) (hb : isBegun body = true) :
    FnOk P w K mg base CX 1 f fd [] spB := by
  refine F.ok S (fun vs H Q E h => by rw [h.1]; rfl) fun cdv A outer s H vs Q E hr h => ?_
  unfold isBegun at hb
  split at hb
  · rename_i k1 k2 z j1 q1 q2 q3 q4
    obtain ⟨hb, h3⟩ := and2 hb
    obtain ⟨h1, h2⟩ := and2 hb
    obtain ⟨a1, a2, rfl⟩ := isStr_of h1
    obtain ⟨b1, b2, rfl⟩ := isStr_of h2
    obtain rfl := of_decide_eq_true h3
    refine ⟨_, pss_one (ps_ret (pe_disp (pps_cons pe_str pe_int (pps_cons pe_str pe_dnewK pps_nil)) rfl rfl (by simp) (by simp))), ?_⟩
    obtain ⟨rfl, h⟩ := h
    intro p hp b hb
    obtain ⟨hb, hpb⟩ := upd_none hb
    refine ⟨?_, [(.inr "count", .int 0), (.inr "rests", .ref b)], rfl, by simp, ?_⟩
    · rw [upd_ne (Ne.symm hpb), upd_same]
    · refine h p b _ hp hb (Ne.symm hpb) ?_ ?_ fun c n1 n2 => ?_
      · rw [upd_same]
        rfl
      · rw [upd_ne hpb, upd_same]
      · rw [upd_ne n1, upd_ne n2, upd_ne n1]
  · cases hb
def mLaw (tb : Tb) (N : List Str) (c : Cs) (L : Ss) : List Stmt → Bool
  | .Assign [.Name y _] (.Call (.Name b _) [] [] _) _ :: rest => decide (b = "_law_begun") && glB c b && tgtB N c 1 y && mSs tb N c L rest
  | _ => false
def startL (N : List Str) (ns : List Int) : Rho := (startR N [.scr ns]).set 1 (.val .tok)
def spLaw (K : PySem.W.Frag) (tabs : List Addr) : Sp := fun vs H Q _ => ∃ (a : Addr) (ns : List Int), vs = [.ref a] ∧ ns.length ≤ 63 ∧ (∀ z ∈ ns, Builtin.Int.intBits z ≤ 1048576) ∧ SqL K H a (ns.map V.int) ∧ (∀ p ∈ tabs, H p = some (.tbl #[])) ∧ ∀ H', Q (.bl true) H'
/-- the tables left out -/
def noTab (H : Hp) : Hp := fun b => match H b with
  | some (.tbl _) => none
  | o => o
theorem noTab_same (H : Hp) : Same (noTab H) H := fun b o h => by
  unfold noTab at h
  split at h
  · cases h
  · exact h
theorem noTab_nt (H : Hp) (b : Addr) (o : HO) (h : noTab H b = some o) : NT o := fun ps z => by
  unfold noTab at h
  split at h
  · cases h
  · rename_i n
    rw [z] at h
    exact n ps h
theorem noTab_of {H : Hp} {b : Addr} {o : HO} (h : H b = some o) (n : NT o) : noTab H b = some o := by
  unfold noTab
  rw [h]
  cases o <;> first | rfl | exact absurd rfl (n _)
theorem sqL_noTab {K : PySem.W.Frag} {H : Hp} {a : Addr} {xs : List V} (h : SqL K H a xs) : SqL K (noTab H) a xs := by
  rcases h with h | h
  · rcases h with h | ⟨o, h⟩
    · exact .inl (.inl (noTab_of h (by intro _ z; cases z)))
    · exact .inl (.inr ⟨o, noTab_of h (by intro _ z; cases z)⟩)
  · exact .inr h
/-- what the head tells of the def that hears -/
structure HdH (p : Pg) (K : PySem.W.Frag) (mg : Str → Option Value) (cl : Nat → Addr) : Prop where
  ex : ∃ (g CF : Addr) (fd : FuncData) (pg : Arguments) (bg : List Stmt) (sg : Scope), FunD K "_law_heard" "_law_heard" pg bg sg [] [] g fd ∧ Binds K fd ["deed"] [] ∧ FnScope heardN ["deed"] sg ∧ mHeard sg bg = true ∧ mg "_law_heard" = some (.ref g) ∧ HeardK K mg cl CF
  nine : ∀ n x, nineEx.lookup n = some x → p.tb.ex.lookup n = some x
theorem mkHeard {p : Pg} {P : Program} {w : World} {K : PySem.W.Frag} {mg : Str → Option Value} {base : Heap} {cl : Nat → Addr} {fad : Nat → Addr} {ffd : Nat → FuncData} (hd : Hd p P w K mg base cl fad ffd) (hH : HdH p K mg cl) (hh : p.tb.hd = true) {X : Cx} {Q : Pm} {c Pt : Addr} (hp : X.prog = P) (hK : X.K = K) (hK2 : Q.K = K) (hmg : X.mg = mg) (hb : X.base = base) (hcl : Q.T.cl = cl)
    (hr : Room 1 X.A) (TB : LamX.TabB base mg c Pt) (hcode : X.env.code = .ref c) (hm : (Pt, X.env.qual ++ "<lambda>") ∈ Q.T.tabs) (hu : ∀ p ∈ Q.T.tabs, p.1 = Pt → p.2 = X.env.qual ++ "<lambda>") : Heard X Q := by
  subst hp hmg hb
  obtain ⟨g, CF, fd, pg, bg, sg, F, b, S, hm1, hg, hk⟩ := hH.ex
  obtain ⟨oc, od, dV, kV, doc, pm, an, cdv, ct, osl, rfl, lk, hcd, _, _⟩ := F.ex
  subst hK
  refine ⟨g, c, Pt, pg, bg, sg, dV, kV, doc, pm, cdv, ct, oc, an, od, osl, hg, F.kp, lk, hcd, b, S, ?_, TB, hcode, hm, hu⟩
  rw [hK2]
  exact heard_gives hk hcl hd.free (hd.nine hh) (fun n x e => by
    obtain ⟨a, b, c, d, e⟩ := hd.exc n x (hH.nine n x e)
    exact ⟨a, b, c, raises_own d e⟩) S hr hm1
theorem lawOk {p : Pg} {P : Program} {w : World} {K : PySem.W.Frag} {mg : Str → Option Value} {base : Heap} {cl : Nat → Addr} {fad : Nat → Addr} {ffd : Nat → FuncData} (hd : Hd p P w K mg base cl fad ffd) {k : Nat} {f fB : Addr} {fd fdB : FuncData} {params paramsB : Arguments} {body bodyB : List Stmt} {scope scopeB : Scope}
    {x xB : Str} {N : List Str} {L : Ss} {tabs : List Addr} (F : FunD K x x params body scope [] [] f fd) (S : FnScope N ["script"] scope) (hm : mLaw p.tb N ⟨scope, fun _ => true, true⟩ L body = true) (FB : FunD K xB xB paramsB bodyB scopeB [] [] fB fdB) (SB : FnScope [] [] scopeB) (hB : isBegun bodyB = true)
    (bB : Binds K fdB [] []) (gB : mg "_law_begun" = some (.ref fB)) (hk : 1 ≤ k) (hH : p.tb.hd = true → HdH p K mg cl ∧ ∃ Pt ∈ tabs, ∀ c, fd.code = .ref c → LamX.TabB base mg c Pt)
    (hev : ∀ ns : List Int, ns.length ≤ 63 → (∀ z ∈ ns, Builtin.Int.intBits z ≤ 1048576) → ∃ r t, evSs (gam p ns k) p.cs L (startL N ns) ⟨0, []⟩ = .ok (.ret (.bl true), r) t) : FnOk P w K mg base (CX P w) (k + 1) f fd ["script"] (spLaw K tabs) := by
  obtain ⟨oc, od, dV, kV, doc, pm, an, cdv, ct, osl, rfl, lk, hcd, _, _⟩ := F.ex
  obtain ⟨c0, rfl⟩ := He.codeIn_ref hcd
  refine fn_of lk hcd S (fun vs H Q E h => ?_) fun A outer s H vs Q E hr h => ?_
  · obtain ⟨a, ns, rfl, _⟩ := h
    rfl
  · obtain ⟨a, ns, rfl, hns, hbits, hS, htab, hQ⟩ := h
    unfold mLaw at hm
    split at hm
    · rename_i y py b pb q1 q2 rest
      obtain ⟨hm, h4⟩ := and2 hm
      obtain ⟨hm, h3⟩ := and2 hm
      obtain ⟨h1, h2⟩ := and2 hm
      obtain rfl := of_decide_eq_true h1
      have tk := takes_of (X := cxOf (CX P w) P w K mg base N x scope f (.ref c0) A outer s H E) (E := E) rfl rfl rfl rfl
      have ok : ∀ T F0 H0, T.cl = cl → T.ns = ns → T.tabs = tabs.map (fun P => (P, (envOfC x scope s.heap.objs.size f (.ref c0)).qual ++ "<lambda>")) → Ok p.tb N (gam p ns k) p.cs cl (cxOf (CX P w) P w K mg base N x scope f (.ref c0) A outer s H E) ⟨K, T, F0, H0, fun n H' => E (.ref (cl n)) none H'⟩ ⟨scope, fun _ => true, true⟩ := by
        intro T F0 H0 eC eT eB
        subst eT
        refine mkOk hd T eC (fun j _ => fnOk hd T eC j) S hr F0 H0 true fun hh _ => ?_
        obtain ⟨hH, Pt, hPt, TB⟩ := hH hh
        refine mkHeard (Pt := Pt) (c := c0) hd hH hh rfl rfl rfl rfl rfl eC (hr.mono hk) (TB c0 rfl) rfl ?_ ?_
        · show _ ∈ T.tabs
          rw [eB]
          exact List.mem_map.mpr ⟨Pt, hPt, rfl⟩
        · intro p hp e
          have hp : p ∈ T.tabs := hp
          rw [eB] at hp
          obtain ⟨q, _, e⟩ := List.mem_map.mp hp
          rw [← e]
          rfl
      have ok0 := ok ⟨0, 0, 0, ns, _, cl⟩ H H rfl rfl rfl
      obtain ⟨t1, t2, t3⟩ := tgtB_of ok0 h3
      obtain ⟨g1, g2, g3⟩ := glB_of ok0 h2
      have st0 := asg_plain (pos := q2) (py := py) (by rw [ok0.hN]; exact ok0.nd) t1 t2 (pe_call0 (p := pb) (pos := q1) (begun_ok FB SB hB) (hr.mono hk) g1 gB FB.kp bB .nil (passes_call (E := E) tk fun _ _ _ _ h => h) g2) (sw_plain rfl) t3
      refine ⟨_, pss_cons st0 (u := fun D σ H' => ∃ T H0, T.cl = cl ∧ T.ns = ns ∧ T.tabs = tabs.map (fun P => (P, (envOfC x scope s.heap.objs.size f (.ref c0)).qual ++ "<lambda>")) ∧ tS ⟨K, T, noTab H, H0, fun n H' => E (.ref (cl n)) none H'⟩ (evSs (gam p ns k) p.cs L) D σ H') ⟨fun pins s1 σ H1 D I h => ?_⟩, ?_⟩
      · obtain ⟨T, H0, eC, eT, eB, h⟩ := h
        exact (sSs (ok T (noTab H) H0 eC eT eB) L h4).run pins s1 σ H1 D I h
      · refine ⟨rfl, fun ta tb H' ha hb hne e1 e2 e3 => ?_⟩
        refine ⟨⟨ta, tb, a, ns, _, cl⟩, H', rfl, rfl, rfl, noTab H, startL N ns, ⟨0, []⟩, ?_, ?_⟩
        · have fr : ∀ {b : Addr}, H b = none → noTab H b = none := fun {b} h => by
            unfold noTab
            rw [h]
          have R0 : RelH K ⟨ta, tb, a, ns, tabs.map (fun P => (P, (envOfC x scope s.heap.objs.size f (.ref c0)).qual ++ "<lambda>")), cl⟩ (noTab H) H' (noTab H) ⟨0, []⟩ H' := by
            refine ⟨fun c o h => ?_, fun _ _ h => .inl h, Same.refl _, fun _ _ h _ _ _ => h, fun _ h => h, ⟨e1, e2, hne, Nat.zero_le _⟩, fr ha, fr hb, sqL_noTab hS, fun q hq => ?_, noTab_nt H⟩
            · have h := noTab_same H _ _ h
              have n1 : c ≠ ta := fun z => by
                rw [z, ha] at h
                cases h
              have n2 : c ≠ tb := fun z => by
                rw [z, hb] at h
                cases h
              rw [e3 c n1 n2]
              exact h
            · obtain ⟨P0, hP0, rfl⟩ := List.mem_map.mp hq
              have h := htab P0 hP0
              refine LamX.TabS.nil ?_
              have n1 : P0 ≠ ta := fun z => by
                rw [z, ha] at h
                cases h
              have n2 : P0 ≠ tb := fun z => by
                rw [z, hb] at h
                cases h
              show H' P0 = _
              rw [e3 P0 n1 n2]
              exact h
          have hN2 : 1 < N.length := (List.getElem?_eq_some_iff.mp t1).1
          refine ⟨R0, ?_, fun i d h => ?_, fun i d h => ?_, fun i j d e q h => ?_⟩
          · unfold startL startR L2.start
            simp
          · by_cases hi : 1 = i
            · subst hi
              unfold startL at h
              rw [List.getElem?_set_self (by unfold startR; simp; omega)] at h
              cases h
              refine ⟨.ref ta, ?_, .tok⟩
              rw [List.getElem?_set_self (by unfold L2.start; simp; omega)]
            · unfold startL at h
              rw [List.getElem?_set_ne hi] at h
              rw [List.getElem?_set_ne hi]
              rcases map_get h with ⟨d', z, e⟩ | z
              · cases z
                cases i with
                | zero =>
                  cases e
                  exact ⟨.ref a, rfl, .scr⟩
                | succ i => simp at e
              · cases z
          · unfold startL at h
            by_cases hi : 1 = i
            · subst hi
              rw [List.getElem?_set_self (by unfold startR; simp; omega)] at h
              cases h
            · rw [List.getElem?_set_ne hi] at h
              rcases map_get h with ⟨d', z, e⟩ | z <;> cases z
          · unfold startL at h
            by_cases hi : 1 = i
            · subst hi
              rw [List.getElem?_set_self (by unfold startR; simp; omega)] at h
              cases h
            · rw [List.getElem?_set_ne hi] at h
              rcases map_get h with ⟨d', z, e⟩ | z <;> cases z
        · obtain ⟨r, t, er⟩ := hev ns hns hbits
          rw [er]
          intro v F' H2 _ _ rv
          cases rv
          exact hQ H2
    · cases hm
end Fm

/-! ### the head: constants too -/
namespace Fm
open PySem PySem.Spec PyProof.Rows L2
mutual
/-- the value, in the written part, bears the datum -/
def dvB (K : PySem.W.Frag) : D → Value → Bool
  | .non, u => He.relB .non u
  | .bl b, u => He.relB (.bl b) u
  | .int i, u => He.relB (.int i) u
  | .str x, u => He.relB (.str x) u
  | .tup ds, .ref a => (match K.lookup a with
    | some ⟨.type c, _, .seq its _, _⟩ => decide (c = "tuple") && (decide (its.size ≤ sizeLine) && dvsB K ds its.toList)
    | _ => false)
  | _, _ => false
def dvsB (K : PySem.W.Frag) : List D → List Value → Bool
  | [], [] => true
  | d :: ds, u :: us => dvB K d u && dvsB K ds us
  | _, _ => false
end
mutual
theorem dvB_ok {K : PySem.W.Frag} : ∀ (d : D) {u : Value}, dvB K d u = true → ∃ v, RelV v u ∧ ∀ T, Rp K T (fun _ => none) v d
  | .non, u, h => ⟨.non, He.relB_ok (by rw [dvB] at h; exact h), fun _ => .non⟩
  | .bl b, u, h => ⟨.bl b, He.relB_ok (by rw [dvB] at h; exact h), fun _ => .bl b⟩
  | .int i, u, h => ⟨.int i, He.relB_ok (by rw [dvB] at h; exact h), fun _ => .int i⟩
  | .str x, u, h => ⟨.str x, He.relB_ok (by rw [dvB] at h; exact h), fun _ => .str x⟩
  | .tup ds, u, h => by
    cases u with
    | ref a =>
      rw [dvB] at h
      cases q : K.lookup a with
      | none =>
        rw [q] at h
        cases h
      | some o =>
        obtain ⟨oc, od, dt, osl⟩ := o
        rw [q] at h
        cases oc with
        | type c =>
          cases dt with
          | seq its n =>
            obtain ⟨h1, h2⟩ := and2 (show (decide (c = "tuple") && (decide (its.size ≤ sizeLine) && dvsB K ds its.toList)) = true from h)
            obtain ⟨h3, h4⟩ := and2 h2
            obtain ⟨vs, r, t⟩ := dvsB_ok ds h4
            refine ⟨.ref a, rfl, fun T => .tup (xs := vs) (.inr ⟨_, its, n, q, congrArg Value.type (of_decide_eq_true h1), rfl, of_decide_eq_true h3, r⟩) ?_ (t T)⟩
            have := r.length
            have h3 := of_decide_eq_true h3
            rw [this]
            simpa using h3
          | _ => cases h
        | _ => cases dt <;> cases h
    | _ => rw [dvB] at h <;> first | cases h | (intros; intro z; cases z)
  | .lst ds, u, h => by cases u <;> (rw [dvB] at h <;> first | cases h | (intros; intro z; cases z))
  | .dct ds, u, h => by cases u <;> (rw [dvB] at h <;> first | cases h | (intros; intro z; cases z))
  | .tok, u, h => by cases u <;> (rw [dvB] at h <;> first | cases h | (intros; intro z; cases z))
  | .scr _, u, h => by cases u <;> (rw [dvB] at h <;> first | cases h | (intros; intro z; cases z))
  | .exc _, u, h => by cases u <;> (rw [dvB] at h <;> first | cases h | (intros; intro z; cases z))
  | .dcn _, u, h => by cases u <;> (rw [dvB] at h <;> first | cases h | (intros; intro z; cases z))
theorem dvsB_ok {K : PySem.W.Frag} : ∀ (ds : List D) {us : List Value}, dvsB K ds us = true → ∃ vs, Vals vs us ∧ ∀ T, RpL K T (fun _ => none) vs ds
  | [], [], _ => ⟨[], .nil, fun _ => .nil⟩
  | [], _ :: _, h => by simp [dvsB] at h
  | _ :: _, [], h => by simp [dvsB] at h
  | d :: ds, u :: us, h => by
    rw [dvsB] at h
    obtain ⟨h1, h2⟩ := and2 h
    obtain ⟨v, r, t⟩ := dvB_ok d h1
    obtain ⟨vs, r2, t2⟩ := dvsB_ok ds h2
    exact ⟨v :: vs, .cons r r2, fun T => .cons (t T) (t2 T)⟩
end
def mgB (K : PySem.W.Frag) (x : Str) (d : D) : Bool := match PySem.W.nsIn K mainGlobals x with
  | some (some u) => dvB K d u
  | _ => false
theorem mgB_ok {K : PySem.W.Frag} {h : Heap} {mg : Str → Option Value} (X : K.In h) (G : h.Ns mainGlobals mg) {x : Str} {d : D} (c : mgB K x d = true) : ∃ u v, mg x = some u ∧ RelV v u ∧ ∀ T, Rp K T (fun _ => none) v d := by
  unfold mgB at c
  cases e : PySem.W.nsIn K mainGlobals x with
  | none =>
    rw [e] at c
    cases c
  | some o =>
    rw [e] at c
    cases o with
    | none => cases c
    | some u =>
      obtain ⟨v, r, t⟩ := dvB_ok d c
      exact ⟨u, v, PySem.W.mg_of X G e, r, t⟩
/-! ### the Hook -/
def clOf (ex : List (Nat × Str)) (K : PySem.W.Frag) (n : Nat) : Addr := match ex.lookup n with
  | some x => He.ga K x
  | none => 0
def isBlt (o : Option (Option Value)) (id : String) : Bool := match o with
  | some (some (.builtin i)) => decide (i = id)
  | _ => false
theorem isBlt_of {o : Option (Option Value)} {id : String} (h : isBlt o id = true) : o = some (some (.builtin id)) := by
  unfold isBlt at h
  split at h
  · rw [of_decide_eq_true h]
  · cases h
def isNo (o : Option (Option Value)) : Bool := match o with
  | some none => true
  | _ => false
theorem isNo_of {o : Option (Option Value)} (h : isNo o = true) : o = some none := by
  unfold isNo at h
  split at h
  · rfl
  · cases h
def excCB (K : PySem.W.Frag) (D : Addr) : Bool := isBlt (PySem.W.findIn K (.ref D) "__getattribute__") "BaseException.__getattribute__" && isNo (PySem.W.findIn K (.ref D) "__getattr__") && decide (PySem.W.subIn K (.ref D) (.type "BaseException") = some true) && PySem.W.hasDictIn K D && isBlt (PySem.W.findIn K (.ref D) "__class__") "object.__class__" &&
  isBlt (PySem.W.specialIn K (.builtin "object.__class__") "__get__") "getset_descriptor.__get__" && decide (PySem.W.takesIn K (.builtin "object.__class__") = some true) && decide (PySem.W.mroIn K D (.type "object") = some true)
theorem excCB_ok {K : PySem.W.Frag} {D : Addr} (h : excCB K D = true) : ExcC K D := by
  unfold excCB at h
  obtain ⟨h, h8⟩ := and2 h
  obtain ⟨h, h7⟩ := and2 h
  obtain ⟨h, h6⟩ := and2 h
  obtain ⟨h, h5⟩ := and2 h
  obtain ⟨h, h4⟩ := and2 h
  obtain ⟨h, h3⟩ := and2 h
  obtain ⟨h1, h2⟩ := and2 h
  exact ⟨isBlt_of h1, isNo_of h2, of_decide_eq_true h3, h4, isBlt_of h5, isBlt_of h6, of_decide_eq_true h7, of_decide_eq_true h8⟩
/-- the nine classes -/
def nineB (ex : List (Nat × Str)) (K : PySem.W.Frag) : Bool := (List.range 9).all fun m => excCB K (clOf ex K m) && decide (PySem.W.kitOne K (.ref (clOf ex K m)) (.type "ValueError") = some true) && decide (PySem.W.exmOne K (.ref (clOf ex K m)) (.ref (He.ga K "FormError")) = some true) &&
  (List.range 9).all fun n => decide (PySem.W.kitOne K (.ref (clOf ex K m)) (.ref (clOf ex K n)) = some (decide (m = n)))
theorem nineB_ok {ex : List (Nat × Str)} {K : PySem.W.Frag} (h : nineB ex K = true) : Nine K (clOf ex K) ∧ ∀ n, n < 9 → PySem.W.exmOne K (.ref (clOf ex K n)) (.ref (He.ga K "FormError")) = some true := by
  have key : ∀ m, m < 9 → _ := fun m hm => List.all_eq_true.mp h m (List.mem_range.mpr hm)
  refine ⟨⟨fun m hm => ?_, fun m n hm hn => ?_, fun m hm => ?_⟩, fun m hm => ?_⟩
  all_goals
    obtain ⟨h, h4⟩ := and2 (key m hm)
    obtain ⟨h, h3⟩ := and2 h
    obtain ⟨h1, h2⟩ := and2 h
  · exact excCB_ok h1
  · exact of_decide_eq_true (List.all_eq_true.mp h4 n (List.mem_range.mpr hn))
  · exact of_decide_eq_true h2
  · exact of_decide_eq_true h3
/-- the head's Bool -/
def exB (hd : Bool) (ex : List (Nat × Str)) (cst : List (Str × D)) (K : PySem.W.Frag) : Bool := (cst.all fun p => mgB K p.1 p.2) && (!hd || nineB ex K)
def tfOf (hd : Bool) : List He.Defn := if hd then [("law", none)] else []
structure SaysC (fa : List He.Fa) (fn : List He.DefD) (cst : List (Str × D)) (K : PySem.W.Frag) : Prop where
  d : He.SaysD fa fn K
  co : (cst.all fun p => mgB K p.1 p.2) = true
theorem SaysC.con {fa : List He.Fa} {fn : List He.DefD} {cst : List (Str × D)} {K : PySem.W.Frag} (c : SaysC fa fn cst K) (i : Nat) {x : Str} {d : D} (h : cst[i]? = some (x, d)) : mgB K x d = true :=
  List.all_eq_true.mp c.co _ (List.mem_of_getElem? h)
/-- the scope's check -/
def scB (N ps : List Str) (sc : Scope) : Bool := decide (sc.kind = .function) && !sc.isCoroutine && !sc.isGenerator && decide N.Nodup && decide (N.take ps.length = ps) && (ps.all fun x => decide (sc.names.lookup x = some .local) || decide (sc.names.lookup x = some .cell)) && sc.names.all fun y => decide (y.2 ≠ .free)
theorem scB_ok {N ps : List Str} {sc : Scope} (h : scB N ps sc = true) : FnScope N ps sc := by
  unfold scB at h
  obtain ⟨h, h7⟩ := and2 h
  obtain ⟨h, h6⟩ := and2 h
  obtain ⟨h, h5⟩ := and2 h
  obtain ⟨h, h4⟩ := and2 h
  obtain ⟨h, h3⟩ := and2 h
  obtain ⟨h1, h2⟩ := and2 h
  refine ⟨of_decide_eq_true h1, by simpa using h2, by simpa using h3, of_decide_eq_true h4, of_decide_eq_true h5, fun x hx => ?_, fun y hy => of_decide_eq_true (List.all_eq_true.mp h7 y hy)⟩
  have := List.all_eq_true.mp h6 x hx
  rcases Bool.or_eq_true_iff.mp this with h | h
  · exact .inl (of_decide_eq_true h)
  · exact .inr (of_decide_eq_true h)
/-- a def's check -/
def fdB (tb : Tb) (f : Fd) (d : He.DefD) : Bool := scB f.N f.ps d.scope && mSs tb f.N ⟨d.scope, fun _ => true, false⟩ f.body d.body && decide (d.name = d.qual)
end Fm

/-! ### the head's facts, all together -/
namespace Fm
open PySem PySem.Spec PyProof.Rows L2
def faOf (fn : List He.DefD) (ex : List (Nat × Str)) (hd : Bool) : List He.Fa := fn.map (fun d => .glo d.name) ++ (ex.map (fun q => .glo q.2) ++ (ex.map (fun q => .exc q.2) ++ (freeNames.map .free ++ (if hd then [.glo "FormError"] else []))))
def fadOf (fn : List He.DefD) (K : PySem.W.Frag) (i : Nat) : Addr := match fn[i]? with
  | some d => He.fAd K d.at_
  | none => 0
abbrev FunAt (K : PySem.W.Frag) (d : He.DefD) (fd : FuncData) : Prop := FunD K d.name d.qual d.params d.body d.scope (d.dvs K) (d.kws K) (He.fAd K d.at_) fd
section
variable {fn : List He.DefD} {ex : List (Nat × Str)} {hd : Bool} {cst : List (Str × D)} {K : PySem.W.Frag} {h : Heap} {mg : Str → Option Value}
theorem fun_all {fa : List He.Fa} (c : SaysC fa fn cst K) {d0 : He.DefD} (h0 : fn[0]? = some d0) : ∃ ffd : Nat → FuncData, ∀ (i : Nat) (d : He.DefD), fn[i]? = some d → FunAt K d (ffd i) := by
  refine Classical.axiomOfChoice (r := fun i fd => ∀ d, fn[i]? = some d → FunAt K d fd) fun i => ?_
  cases e : fn[i]? with
  | none => exact ⟨(c.d.def_ 0 h0).choose, fun d z => by cases z⟩
  | some d =>
    obtain ⟨fd, hf⟩ := c.d.def_ i e
    exact ⟨fd, fun d' z => by cases z; exact hf⟩
theorem fact_of {fa : List He.Fa} (c : SaysC fa fn cst K) {f : He.Fa} (m : f ∈ fa) : f.ok K = true := by
  obtain ⟨i, e⟩ := List.mem_iff_getElem?.mp m
  exact c.d.fact i e
theorem free_all (X : K.In h) (G : h.Ns mainGlobals mg) (c : SaysC (faOf fn ex hd) fn cst K) : ∀ x ∈ freeNames, mg x = none := fun x hx =>
  He.free_ok X G (fact_of c (List.mem_append_right _ (List.mem_append_right _ (List.mem_append_right _ (List.mem_append_left _ (List.mem_map_of_mem hx))))))
theorem glo_all (X : K.In h) (G : h.Ns mainGlobals mg) (c : SaysC (faOf fn ex hd) fn cst K) {i : Nat} {d : He.DefD} (e : fn[i]? = some d) (ha : d.at_ = (d.name, none)) : mg d.name = some (.ref (He.fAd K d.at_)) := by
  have := He.glo_ok X G (fact_of c (List.mem_append_left _ (List.mem_map_of_mem (f := fun d : He.DefD => He.Fa.glo d.name) (List.mem_of_getElem? e))))
  rw [ha]
  exact this
theorem mem_lookup' {l : List (Nat × Str)} {n : Nat} {x : Str} (h : l.lookup n = some x) : (n, x) ∈ l := by
  induction l with
  | nil => cases h
  | cons q r ih =>
    obtain ⟨m, y⟩ := q
    rw [List.lookup_cons] at h
    split at h
    · rename_i z
      cases h
      rw [eq_of_beq z]
      exact List.mem_cons_self
    · exact List.mem_cons_of_mem _ (ih h)
theorem exc_all (X : K.In h) (G : h.Ns mainGlobals mg) (c : SaysC (faOf fn ex hd) fn cst K) (n : Nat) (x : Str) (e : ex.lookup n = some x) : ExcK K mg (clOf ex K n) x := by
  have m : (n, x) ∈ ex := mem_lookup' e
  have h1 := He.glo_ok X G (fact_of c (List.mem_append_right _ (List.mem_append_left _ (List.mem_map_of_mem (f := fun q : Nat × Str => He.Fa.glo q.2) m))))
  obtain ⟨a1, a2, a3, a4⟩ := He.exc_ok (fact_of c (List.mem_append_right _ (List.mem_append_right _ (List.mem_append_left _ (List.mem_map_of_mem (f := fun q : Nat × Str => He.Fa.exc q.2) m)))))
  have e2 : clOf ex K n = He.ga K x := by
    unfold clOf
    rw [e]
  rw [e2]
  exact ⟨a1, h1, a2, a3, a4⟩
def csOf (cst : List (Str × D)) (g : Nat) : D := match cst[g]? with
  | some q => q.2
  | none => .non
theorem con_all {fa : List He.Fa} (X : K.In h) (G : h.Ns mainGlobals mg) (c : SaysC fa fn cst K) (g : Nat) (x : Str) (e : (cst.map (·.1))[g]? = some x) : ∃ u v, mg x = some u ∧ RelV v u ∧ ∀ T, Rp K T (fun _ => none) v (csOf cst g) := by
  rw [List.getElem?_map] at e
  obtain ⟨q, e1, e2⟩ := Option.map_eq_some_iff.mp e
  subst e2
  have e3 : csOf cst g = q.2 := by
    unfold csOf
    rw [e1]
  rw [e3]
  exact mgB_ok X G (c.con g e1)
/-- the defs' check -/
def okDefs (tb : Tb) (fs : List Fd) (fn : List He.DefD) : Bool := decide (fs.length ≤ fn.length) && (fs.zip fn).all (fun q => fdB tb q.1 q.2) && fn.all fun d => decide (d.at_ = (d.name, none)) && decide (d.name = d.qual)
structure ShOk (p : Pg) (fn : List He.DefD) : Prop where
  sh : ∀ (K : PySem.W.Frag) (mg : Str → Option Value) (ffd : Nat → FuncData), (∀ (i : Nat) (d : He.DefD), fn[i]? = some d → FunAt K d (ffd i)) → (∀ (i : Nat) (d : He.DefD), fn[i]? = some d → mg d.name = some (.ref (He.fAd K d.at_))) →
    ∀ (j : Nat) (sh : Sh), p.tb.sh[j]? = some sh → ∃ f : Fn, p.fs[sh.fn]? = some f ∧ Bnd K mg sh (fadOf fn K sh.fn) (ffd sh.fn) f.ps
theorem mkHd {fs : List Fd} {shs : List Sh} (P : Program) (w : World) (base : Heap) (X : K.In h) (G : h.Ns mainGlobals mg) (c : SaysC (faOf fn ex hd) fn cst K) (ok : okDefs ⟨shs, cst.map (·.1), ex, hd⟩ fs fn = true) (so : ShOk ⟨⟨shs, cst.map (·.1), ex, hd⟩, fs.map .df, csOf cst⟩ fn) (n9 : hd = true → nineB ex K = true)
    {ffd : Nat → FuncData} (hf : ∀ (i : Nat) (d : He.DefD), fn[i]? = some d → FunAt K d (ffd i)) : Hd ⟨⟨shs, cst.map (·.1), ex, hd⟩, fs.map .df, csOf cst⟩ P w K mg base (clOf ex K) (fadOf fn K) ffd := by
  obtain ⟨ok, o3⟩ := and2 ok
  obtain ⟨o1, o2⟩ := and2 ok
  have at_ : ∀ (i : Nat) (d : He.DefD), fn[i]? = some d → d.at_ = (d.name, none) ∧ d.name = d.qual := fun i d e => by
    have := List.all_eq_true.mp o3 d (List.mem_of_getElem? e)
    obtain ⟨a, b⟩ := and2 this
    exact ⟨of_decide_eq_true a, of_decide_eq_true b⟩
  refine ⟨free_all X G c, con_all X G c, exc_all X G c, fun z => (nineB_ok (n9 z)).1, so.sh K mg ffd hf fun i d e => glo_all X G c e (at_ i d e).1, fun i f e => ?_, fun i ps g e => ?_⟩
  · have e : (fs.map Fn.df)[i]? = some (.df f) := e
    rw [List.getElem?_map] at e
    obtain ⟨f', e1, e2⟩ := Option.map_eq_some_iff.mp e
    cases e2
    have hi : i < fs.length := (List.getElem?_eq_some_iff.mp e1).1
    have hl := of_decide_eq_true o1
    have e3 : fn[i]? = some fn[i] := List.getElem?_eq_getElem (by omega)
    have hz : (fs.zip fn)[i]? = some (f, fn[i]) := by
      rw [List.getElem?_zip_eq_some]
      exact ⟨e1, e3⟩
    have := List.all_eq_true.mp o2 _ (List.mem_of_getElem? hz)
    obtain ⟨h1, h3⟩ := and2 (show (scB f.N f.ps fn[i].scope && mSs _ f.N ⟨fn[i].scope, fun _ => true, false⟩ f.body fn[i].body && decide (fn[i].name = fn[i].qual)) = true from this)
    obtain ⟨h1, h2⟩ := and2 h1
    have F := hf i _ e3
    have h3 : fn[i].name = fn[i].qual := of_decide_eq_true h3
    have ea : fadOf fn K i = He.fAd K fn[i].at_ := by
      unfold fadOf
      rw [e3]
    have F : FunD K fn[i].name fn[i].qual fn[i].params fn[i].body fn[i].scope (fn[i].dvs K) (fn[i].kws K) (fadOf fn K i) (ffd i) := by
      rw [ea]
      exact F
    refine ⟨fn[i].name, fn[i].params, fn[i].body, fn[i].scope, fn[i].dvs K, fn[i].kws K, ?_, scB_ok h1, h2⟩
    rw [← h3] at F
    exact F
  · have e : (fs.map Fn.df)[i]? = some (.nat ps g) := e
    rw [List.getElem?_map] at e
    obtain ⟨f', e1, e2⟩ := Option.map_eq_some_iff.mp e
    cases e2
end
/-- the law's own check -/
def okLaw (tb : Tb) (N : List Str) (L : Ss) (dL dB : He.DefD) : Bool := scB N ["script"] dL.scope && mLaw tb N ⟨dL.scope, fun _ => true, true⟩ L dL.body && (scB [] [] dB.scope && isBegun dB.body) && (decide (dL.dfl.length = 0) && decide (dL.kwd.length = 0) && decide (dB.dfl.length = 0) && decide (dB.kwd.length = 0)) && (decide (dL.name = dL.qual) && decide (dB.name = dB.qual) && decide (dL.at_ = (dL.name, none)) && decide (dB.at_ = (dB.name, none)) && decide (dL.name = "law") && decide (dB.name = "_law_begun"))
/-- the check of the def that hears -/
def okHeard (dH : He.DefD) (ex : List (Nat × Str)) : Bool := scB heardN ["deed"] dH.scope && mHeard dH.scope dH.body && (decide (dH.dfl.length = 0) && decide (dH.kwd.length = 0)) && (decide (dH.name = dH.qual) && decide (dH.at_ = (dH.name, none)) && decide (dH.name = "_law_heard")) && decide (ex.take 9 = nineEx)
structure HearIs (fn : List He.DefD) (ex : List (Nat × Str)) (dH : He.DefD) (iH : Nat) : Prop where
  at_ : fn[iH]? = some dH
  ok : okHeard dH ex = true
  bn : ∀ (kV doc pm : Value) (an : Option Addr) (cdv ct : Value) (us : List Value), us.length = 1 → bindArgs (PySem.W.fnOf dH.name dH.qual dH.params dH.body dH.scope .none kV doc pm an cdv ct) ⟨us, []⟩ = pure ((["deed"] : List Str).zip us)
theorem lookup_take {ex : List (Nat × Str)} {n : Nat} {x : Str} (h : (ex.take 9).lookup n = some x) : ex.lookup n = some x := by
  rw [← List.take_append_drop 9 ex, List.lookup_append, h]
  rfl
theorem mkHdH {fn : List He.DefD} {ex : List (Nat × Str)} {cst : List (Str × D)} {K : PySem.W.Frag} {h : Heap} {mg : Str → Option Value} {fs : List Fn} {shs : List Sh} {csf : Nat → D} {ffd : Nat → FuncData} {dH : He.DefD} {iH : Nat} (X : K.In h) (G : h.Ns mainGlobals mg) (c : SaysC (faOf fn ex true) fn cst K) (hf : ∀ (i : Nat) (d : He.DefD), fn[i]? = some d → FunAt K d (ffd i))
    (n9 : nineB ex K = true) (Hr : HearIs fn ex dH iH) : HdH ⟨⟨shs, cst.map (·.1), ex, true⟩, fs, csf⟩ K mg (clOf ex K) := by
  have okH := Hr.ok
  unfold okHeard at okH
  obtain ⟨okH, o5⟩ := and2 okH
  obtain ⟨okH, o4⟩ := and2 okH
  obtain ⟨okH, o3⟩ := and2 okH
  obtain ⟨o1, o2⟩ := and2 okH
  obtain ⟨o3a, o3b⟩ := and2 o3
  obtain ⟨o4, o4c⟩ := and2 o4
  obtain ⟨o4a, o4b⟩ := and2 o4
  have F := hf iH dH Hr.at_
  have z1 : dH.dvs K = [] := by
    have := List.length_eq_zero_iff.mp (of_decide_eq_true o3a)
    unfold He.DefD.dvs
    rw [this]
    rfl
  have z2 : dH.kws K = [] := by
    have := List.length_eq_zero_iff.mp (of_decide_eq_true o3b)
    unfold He.DefD.kws
    rw [this]
    rfl
  unfold FunAt at F
  rw [z1, z2] at F
  have b := FunD.bindsN (ps := ["deed"]) F Hr.bn
  have g := glo_all X G c Hr.at_ (of_decide_eq_true o4b)
  have e1 : dH.name = dH.qual := of_decide_eq_true o4a
  have e2 : dH.name = "_law_heard" := of_decide_eq_true o4c
  rw [← e1, e2] at F
  rw [e2] at g
  refine ⟨⟨_, He.ga K "FormError", _, _, _, _, F, b, scB_ok o1, o2, g, ⟨?_, (nineB_ok n9).2⟩⟩, fun n x e => ?_⟩
  · exact He.glo_ok X G (fact_of c (List.mem_append_right _ (List.mem_append_right _ (List.mem_append_right _ (List.mem_append_right _ (by simp))))))
  · show ex.lookup n = some x
    refine lookup_take ?_
    rw [of_decide_eq_true o5]
    exact e
theorem lawFacts {fn : List He.DefD} {ex : List (Nat × Str)} {hd : Bool} {cst : List (Str × D)} {K : PySem.W.Frag} {h : Heap} {mg : Str → Option Value} {fs : List Fd} {shs : List Sh} {P : Program} {w : World} {f : Addr} (X : K.In h) (G : h.Ns mainGlobals mg) (c : SaysC (faOf fn ex hd) fn cst K)
    (ok : okDefs ⟨shs, cst.map (·.1), ex, hd⟩ fs fn = true) (so : ShOk ⟨⟨shs, cst.map (·.1), ex, hd⟩, fs.map .df, csOf cst⟩ fn) (n9 : hd = true → nineB ex K = true) {N : List Str} {L : Ss} {dL dB dH : He.DefD} {iL iB iH k : Nat} (eL : fn[iL]? = some dL) (eB : fn[iB]? = some dB) (eH : hd = true → HearIs fn ex dH iH) {d0 : He.DefD} (e0 : fn[0]? = some d0)
    (okL : okLaw ⟨shs, cst.map (·.1), ex, hd⟩ N L dL dB = true) (hfa : mg ("law" : Str) = some (.ref f))
    (bL : ∀ (kV doc pm : Value) (an : Option Addr) (cdv ct : Value) (us : List Value), us.length = 1 → bindArgs (PySem.W.fnOf dL.name dL.qual dL.params dL.body dL.scope .none kV doc pm an cdv ct) ⟨us, []⟩ = pure ((["script"] : List Str).zip us))
    (bB : ∀ (kV doc pm : Value) (an : Option Addr) (cdv ct : Value) (us : List Value), us.length = 0 → bindArgs (PySem.W.fnOf dB.name dB.qual dB.params dB.body dB.scope .none kV doc pm an cdv ct) ⟨us, []⟩ = pure (([] : List Str).zip us)) (hk : 1 ≤ k)
    (hev : ∀ ns : List Int, ns.length ≤ 63 → (∀ z ∈ ns, Builtin.Int.intBits z ≤ 1048576) → ∃ r t, evSs (gam ⟨⟨shs, cst.map (·.1), ex, hd⟩, fs.map .df, csOf cst⟩ ns k) (csOf cst) L (startL N ns) ⟨0, []⟩ = .ok (.ret (.bl true), r) t) :
    ∃ fd : FuncData, (∀ (s : Shared) (v : Value), BindsTo s fd ⟨[v], []⟩ [("script", v)]) ∧ ∀ base : Heap, K.In base → base.Ns mainGlobals mg → (∀ p ∈ (tfOf hd).map (He.cT K), LamX.TabB base mg p.1 p.2) → FnOk P w K mg base (CX P w) (k + 1) f fd ["script"] (spLaw K (((tfOf hd).map (He.cT K)).map (·.2))) := by
  obtain ⟨ffd, hf⟩ := fun_all c e0
  have FL := hf iL dL eL
  have FB := hf iB dB eB
  unfold okLaw at okL
  obtain ⟨okL, o4⟩ := and2 okL
  obtain ⟨okL, o3⟩ := and2 okL
  obtain ⟨okL, o2⟩ := and2 okL
  obtain ⟨o1a, o1b⟩ := and2 okL
  obtain ⟨o2a, o2b⟩ := and2 o2
  obtain ⟨o3, o3d⟩ := and2 o3
  obtain ⟨o3, o3c⟩ := and2 o3
  obtain ⟨o3a, o3b⟩ := and2 o3
  obtain ⟨o4, n6⟩ := and2 o4
  obtain ⟨o4, n5⟩ := and2 o4
  obtain ⟨o4, n4⟩ := and2 o4
  obtain ⟨o4, n3⟩ := and2 o4
  obtain ⟨n1, n2⟩ := and2 o4
  have z1 : dL.dvs K = [] := by
    have := List.length_eq_zero_iff.mp (of_decide_eq_true o3a)
    unfold He.DefD.dvs
    rw [this]
    rfl
  have z2 : dL.kws K = [] := by
    have := List.length_eq_zero_iff.mp (of_decide_eq_true o3b)
    unfold He.DefD.kws
    rw [this]
    rfl
  have z3 : dB.dvs K = [] := by
    have := List.length_eq_zero_iff.mp (of_decide_eq_true o3c)
    unfold He.DefD.dvs
    rw [this]
    rfl
  have z4 : dB.kws K = [] := by
    have := List.length_eq_zero_iff.mp (of_decide_eq_true o3d)
    unfold He.DefD.kws
    rw [this]
    rfl
  have FL : FunD K dL.name dL.qual dL.params dL.body dL.scope [] [] (He.fAd K dL.at_) (ffd iL) := by
    have FL := FL
    unfold FunAt at FL
    rw [z1, z2] at FL
    exact FL
  have FB : FunD K dB.name dB.qual dB.params dB.body dB.scope [] [] (He.fAd K dB.at_) (ffd iB) := by
    have FB := FB
    unfold FunAt at FB
    rw [z3, z4] at FB
    exact FB
  have gL := glo_all X G c eL (of_decide_eq_true n3)
  have gB := glo_all X G c eB (of_decide_eq_true n4)
  rw [of_decide_eq_true n5, hfa] at gL
  rw [of_decide_eq_true n6] at gB
  have ef : f = He.fAd K dL.at_ := by
    injection gL with q
    injection q
  have b := FunD.bindsA (ps := ["script"]) FL bL
  refine ⟨ffd iL, fun s v => b s [v] rfl, fun base _ _ TB => ?_⟩
  have hd' := mkHd P w base X G c ok so n9 hf
  have atL : dL.at_ = (("law" : Str), none) := by
    have := of_decide_eq_true n3
    rw [of_decide_eq_true n5] at this
    exact this
  obtain ⟨oc, od, dV, kV, doc, pm, an, cdv, ct, osl, efd, lkL, _, _, _⟩ := FL.ex
  have n1 : dL.name = dL.qual := of_decide_eq_true n1
  have n2 : dB.name = dB.qual := of_decide_eq_true n2
  rw [ef]
  rw [← n1] at FL
  have bb := FunD.bindsN (ps := []) FB bB
  rw [← n2] at FB
  refine lawOk hd' FL (scB_ok o1a) o1b FB (scB_ok o2a) o2b bb gB hk (fun z => ?_) hev
  have z : hd = true := z
  subst z
  refine ⟨mkHdH X G c hf (n9 rfl) (eH rfl), (He.cT K (("law" : Str), none)).2, by simp [tfOf], fun c0 hc => ?_⟩
  have := TB (He.cT K (("law" : Str), none)) (by simp [tfOf])
  have e2 : (He.cT K (("law" : Str), none)).1 = c0 := by
    rw [atL] at lkL
    exact He.codeOf_eq lkL hc
  rw [e2] at this
  exact this
/-- the law's promise at the head's heap -/
theorem lawAt {l : PySem.W.OpenLaw} {fn : List He.DefD} {ex : List (Nat × Str)} {hd : Bool} {cst : List (Str × D)} {K : PySem.W.Frag} {h : Heap} {mg : Str → Option Value} {fs : List Fd} {shs : List Sh} {w : World} {f : Addr} (X : K.In h) (G : h.Ns mainGlobals mg) (c : He.SaysX (faOf fn ex hd) fn [] (tfOf hd) (exB hd ex cst) w h K)
    (ok : okDefs ⟨shs, cst.map (·.1), ex, hd⟩ fs fn = true) (so : ShOk ⟨⟨shs, cst.map (·.1), ex, hd⟩, fs.map .df, csOf cst⟩ fn) {N : List Str} {L : Ss} {dL dB dH : He.DefD} {iL iB iH k : Nat} (eL : fn[iL]? = some dL) (eB : fn[iB]? = some dB) (eH : hd = true → HearIs fn ex dH iH) {d0 : He.DefD} (e0 : fn[0]? = some d0)
    (okL : okLaw ⟨shs, cst.map (·.1), ex, hd⟩ N L dL dB = true) (hfa : mg ("law" : Str) = some (.ref f))
    (bL : ∀ (kV doc pm : Value) (an : Option Addr) (cdv ct : Value) (us : List Value), us.length = 1 → bindArgs (PySem.W.fnOf dL.name dL.qual dL.params dL.body dL.scope .none kV doc pm an cdv ct) ⟨us, []⟩ = pure ((["script"] : List Str).zip us))
    (bB : ∀ (kV doc pm : Value) (an : Option Addr) (cdv ct : Value) (us : List Value), us.length = 0 → bindArgs (PySem.W.fnOf dB.name dB.qual dB.params dB.body dB.scope .none kV doc pm an cdv ct) ⟨us, []⟩ = pure (([] : List Str).zip us)) (hk : 1 ≤ k)
    (hev : ∀ ns : List Int, ns.length ≤ 63 → (∀ z ∈ ns, Builtin.Int.intBits z ≤ 1048576) → ∃ r t, evSs (gam ⟨⟨shs, cst.map (·.1), ex, hd⟩, fs.map .df, csOf cst⟩ ns k) (csOf cst) L (startL N ns) ⟨0, []⟩ = .ok (.ret (.bl true), r) t) : LamX.LawAtS l w K (CX l.prog w) (k + 1) 63 "script" mg f h := by
  obtain ⟨m1, m2⟩ := and2 (show ((cst.all fun p => mgB K p.1 p.2) && (!hd || nineB ex K)) = true from c.more)
  obtain ⟨fd, hb, hF⟩ := lawFacts (P := l.prog) (w := w) X G ⟨c.t.d, m1⟩ ok so (fun z => by rw [z] at m2; exact m2) eL eB eH e0 okL hfa bL bB hk hev
  have mem : ∀ {φ : Addr × Addr → Prop}, (∀ q ∈ tfOf hd, φ (He.cT K q)) → ∀ p ∈ (tfOf hd).map (He.cT K), φ p := fun {φ} h p hp => by
    obtain ⟨q, hq, e⟩ := List.mem_map.mp hp
    rw [← e]
    exact h q hq
  refine ⟨fd, (tfOf hd).map (He.cT K), spLaw K (((tfOf hd).map (He.cT K)).map (·.2)), mem c.empty, mem c.out, mem fun q hq => PySem.W.codeHd_of_K X (c.hd q hq), hb, fun H a ns hl hbits hT hS => ⟨a, ns, rfl, hl, hbits, hS, fun p hp => ?_, fun _ => rfl⟩, hF⟩
  obtain ⟨q, hq, e⟩ := List.mem_map.mp hp
  rw [← e]
  exact hT q hq
theorem cx_no {P : Program} {w : World} {H : Hp} {s : Shared} {e : Value} {s' : Shared} (z : CX P w [] H s (fun _ _ _ => False) e s') : False := by
  obtain ⟨_, _, _, _, _, _, _, _, _, _, _, _, z⟩ := z
  exact z
end Fm

/-! ### plain reckoning with the evaluator -/
namespace Fm
open PySem
section
variable {G : Gam} {cs : Nat → D} {r : Rho} {t : Tw}
@[simp] theorem x_ev_cst (k : Cst) : ev G cs (.cst k) r t = (fun _ t => .ok k.d t) r t := by first | (rw [ev_cst]; done) | (rw [ev_cst]; rfl)
@[simp] theorem x_ev_var (i : Nat) : ev G cs (.var i) r t = (fun r t => match r[i]? with
    | some (.val d) => .ok d t
    | _ => .bad) r t := by first | (rw [ev_var]; done) | (rw [ev_var]; rfl)
@[simp] theorem x_ev_bor (i : Nat) : ev G cs (.bor i) r t = (fun r t => match r[i]? with
    | some (.val d) => .ok d t
    | some (.own d) => .ok d t
    | _ => .bad) r t := by first | (rw [ev_bor]; done) | (rw [ev_bor]; rfl)
@[simp] theorem x_ev_glob (g : Nat) : ev G cs (.glob g) r t = (fun _ t => .ok (cs g) t) r t := by first | (rw [ev_glob]; done) | (rw [ev_glob]; rfl)
@[simp] theorem x_ev_bin (op : Operator) (a b : E) : ev G cs (.bin op a b) r t = (fun r t => (ev G cs a r t).bind fun x t1 => (ev G cs b r t1).bind fun y t2 => lift (binD op x y) t2) r t := by first | (rw [ev_bin]; done) | (rw [ev_bin]; rfl)
@[simp] theorem x_ev_cat (a b : E) : ev G cs (.cat a b) r t = (fun r t => (ev G cs a r t).bind fun x t1 => (ev G cs b r t1).bind fun y t2 => lift (catD x y) t2) r t := by first | (rw [ev_cat]; done) | (rw [ev_cat]; rfl)
@[simp] theorem x_ev_neg (a : E) : ev G cs (.neg a) r t = (fun r t => (ev G cs a r t).bind fun x t1 => lift (negD x) t1) r t := by first | (rw [ev_neg]; done) | (rw [ev_neg]; rfl)
@[simp] theorem x_ev_not (a : E) : ev G cs (.not a) r t = (fun r t => (ev G cs a r t).bind fun x t1 => lift (notD x) t1) r t := by first | (rw [ev_not]; done) | (rw [ev_not]; rfl)
@[simp] theorem x_ev_and (a b : E) : ev G cs (.and a b) r t = (andE (ev G cs a) (ev G cs b)) r t := by first | (rw [ev_and]; done) | (rw [ev_and]; rfl)
@[simp] theorem x_ev_or (a b : E) : ev G cs (.or a b) r t = (orE (ev G cs a) (ev G cs b)) r t := by first | (rw [ev_or]; done) | (rw [ev_or]; rfl)
@[simp] theorem x_ev_ite (k a b : E) : ev G cs (.ite k a b) r t = (iteE (ev G cs k) (ev G cs a) (ev G cs b)) r t := by first | (rw [ev_ite]; done) | (rw [ev_ite]; rfl)
@[simp] theorem x_ev_cmp (op : CmpOp) (a b : E) : ev G cs (.cmp op a b) r t = (fun r t => (ev G cs a r t).bind fun x t1 => (ev G cs b r t1).bind fun y t2 => lift (cmpD op x y) t2) r t := by first | (rw [ev_cmp]; done) | (rw [ev_cmp]; rfl)
@[simp] theorem x_ev_chain (o1 o2 : CmpOp) (a b k : E) : ev G cs (.chain o1 o2 a b k) r t = (chainE o1 o2 (ev G cs a) (ev G cs b) (ev G cs k)) r t := by first | (rw [ev_chain]; done) | (rw [ev_chain]; rfl)
@[simp] theorem x_ev_ix (a b : E) : ev G cs (.ix a b) r t = (fun r t => (ev G cs a r t).bind fun x t1 => (ev G cs b r t1).bind fun y t2 => lift (ixD x y) t2) r t := by first | (rw [ev_ix]; done) | (rw [ev_ix]; rfl)
@[simp] theorem x_ev_dix (a b : E) : ev G cs (.dix a b) r t = (fun r t => (ev G cs a r t).bind fun x t1 => (ev G cs b r t1).bind fun y t2 => lift (dixD x y) t2) r t := by first | (rw [ev_dix]; done) | (rw [ev_dix]; rfl)
@[simp] theorem x_ev_cut (a : E) (lo hi : O) : ev G cs (.cut a lo hi) r t = (cutE (ev G cs a) (evO G cs lo) (evO G cs hi)) r t := by first | (rw [ev_cut]; done) | (rw [ev_cut]; rfl)
@[simp] theorem x_ev_tup (es : Es) : ev G cs (.tup es) r t = (fun r t => (evs G cs es r t).bind fun xs t1 => if okLen xs.length then .ok (.tup xs) t1 else .bad) r t := by first | (rw [ev_tup]; done) | (rw [ev_tup]; rfl)
@[simp] theorem x_ev_lst (es : Es) : ev G cs (.lst es) r t = (fun r t => (evs G cs es r t).bind fun xs t1 => if okLen xs.length then .ok (.lst xs) t1 else .bad) r t := by first | (rw [ev_lst]; done) | (rw [ev_lst]; rfl)
@[simp] theorem x_ev_call (i : Nat) (es ks : Es) : ev G cs (.call i es ks) r t = (fun r t => (evs G cs es r t).bind fun xs t1 => (evs G cs ks r t1).bind fun ys t2 => G.f 0 i xs ys t2) r t := by first | (rw [ev_call]; done) | (rw [ev_call]; rfl)
@[simp] theorem x_ev_blt (b : Blt) (a : E) : ev G cs (.blt b a) r t = (fun r t => (ev G cs a r t).bind fun x t1 => lift (blt1 b x) t1) r t := by first | (rw [ev_blt]; done) | (rw [ev_blt]; rfl)
@[simp] theorem x_ev_isa (a : E) (T : Ty) : ev G cs (.isa a T) r t = (fun r t => (ev G cs a r t).bind fun x t1 => lift ((isaD x T).map D.bl) t1) r t := by first | (rw [ev_isa]; done) | (rw [ev_isa]; rfl)
@[simp] theorem x_ev_get (a k d : E) : ev G cs (.get a k d) r t = (getE (ev G cs a) (ev G cs k) (ev G cs d)) r t := by first | (rw [ev_get]; done) | (rw [ev_get]; rfl)
@[simp] theorem x_ev_rev (a : E) : ev G cs (.rev a) r t = (fun r t => (ev G cs a r t).bind fun x t1 => lift (revD x) t1) r t := by first | (rw [ev_rev]; done) | (rw [ev_rev]; rfl)
@[simp] theorem x_ev_heard (e : E) : ev G cs (.heard e) r t = (fun r t => if decide (2 ≤ G.lv) then heardR (ev G.low cs e (valsR r) t) else .bad) r t := by first | (rw [ev_heard]; done) | (rw [ev_heard]; rfl)
@[simp] theorem x_ev_isx (a : E) (n : Nat) : ev G cs (.isx a n) r t = (fun r t => (ev G cs a r t).bind fun x t1 => lift (isxD x n) t1) r t := by first | (rw [ev_isx]; done) | (rw [ev_isx]; rfl)
@[simp] theorem x_ev_isv (a : E) : ev G cs (.isv a) r t = (fun r t => (ev G cs a r t).bind fun x t1 => lift (isvD x) t1) r t := by first | (rw [ev_isv]; done) | (rw [ev_isv]; rfl)
@[simp] theorem x_ev_dspE (ks : List Str) (es : Es) : ev G cs (.dspE ks es) r t = (dspEE ks (esF G cs es)) r t := by first | (rw [ev_dspE]; done) | (rw [ev_dspE]; rfl)
@[simp] theorem x_evI_keys (a : E) : evI G cs (.keys a) r t = (keysE (ev G cs a)) r t := by first | (rw [evI_keys]; done) | (rw [evI_keys]; rfl)
@[simp] theorem x_ev_tcount (i : Nat) : ev G cs (.tcount i) r t = (tcountE i) r t := by first | (rw [ev_tcount]; done) | (rw [ev_tcount]; rfl)
@[simp] theorem x_ev_tget (i : Nat) (k d : E) : ev G cs (.tget i k d) r t = (tgetE i (ev G cs k) (ev G cs d)) r t := by first | (rw [ev_tget]; done) | (rw [ev_tget]; rfl)
@[simp] theorem x_evO_none : evO G cs .none r t = (fun _ t => .ok none t) r t := by first | (rw [evO_none]; done) | (rw [evO_none]; rfl)
@[simp] theorem x_evO_some (e : E) : evO G cs (.some e) r t = (fun r t => (ev G cs e r t).bind fun x t1 => .ok (some x) t1) r t := by first | (rw [evO_some]; done) | (rw [evO_some]; rfl)
@[simp] theorem x_evs_nil : evs G cs .nil r t = (fun _ t => .ok [] t) r t := by first | (rw [evs_nil]; done) | (rw [evs_nil]; rfl)
@[simp] theorem x_evs_cons (e : E) (es : Es) : evs G cs (.cons e es) r t = (fun r t => (ev G cs e r t).bind fun x t1 => (evs G cs es r t1).bind fun xs t2 => .ok (x :: xs) t2) r t := by first | (rw [evs_cons]; done) | (rw [evs_cons]; rfl)
@[simp] theorem x_evI_val (e : E) : evI G cs (.val e) r t = (evV (ev G cs e)) r t := by first | (rw [evI_val]; done) | (rw [evI_val]; rfl)
@[simp] theorem x_evI_rng1 (a : E) : evI G cs (.rng1 a) r t = (fun r t => (ev G cs a r t).bind fun x t1 => match x with
    | .int j => if okRng j then .ok (rngD 0 j.toNat) t1 else .bad
    | _ => .bad) r t := by first | (rw [evI_rng1]; done) | (rw [evI_rng1]; rfl)
@[simp] theorem x_evI_rng2 (a b : E) : evI G cs (.rng2 a b) r t = (fun r t => (ev G cs a r t).bind fun x t1 => (ev G cs b r t1).bind fun y t2 => match x, y with
    | .int i, .int j => if okRng i && okRng j then .ok (rngD i (j - i).toNat) t2 else .bad
    | _, _ => .bad) r t := by first | (rw [evI_rng2]; done) | (rw [evI_rng2]; rfl)
@[simp] theorem x_evI_zip (a b : E) : evI G cs (.zip a b) r t = (zipE (ev G cs a) (ev G cs b)) r t := by first | (rw [evI_zip]; done) | (rw [evI_zip]; rfl)
@[simp] theorem x_evI_zipN (a b : E) : evI G cs (.zipN a b) r t = (zipNE (ev G cs a) (ev G cs b)) r t := by first | (rw [evI_zipN]; done) | (rw [evI_zipN]; rfl)
@[simp] theorem x_evI_enum (a : E) : evI G cs (.enum a) r t = (enumE (ev G cs a)) r t := by first | (rw [evI_enum]; done) | (rw [evI_enum]; rfl)
@[simp] theorem x_evS_asg (tg : Tg) (e : E) : evS G cs (.asg tg e) r t = (fun r t => (ev G cs e r t).bind fun x t1 => Fm.lift ((setT tg x r).map fun r1 => (.nx, r1)) t1) r t := by first | (rw [evS_asg]; done) | (rw [evS_asg]; rfl)
@[simp] theorem x_evS_par (is : List Nat) (es : Es) : evS G cs (.par is es) r t = (parE is (evs G cs es)) r t := by first | (rw [evS_par]; done) | (rw [evS_par]; rfl)
@[simp] theorem x_evS_star (i j : Nat) (e : E) : evS G cs (.star i j e) r t = (starE i j (ev G cs e)) r t := by first | (rw [evS_star]; done) | (rw [evS_star]; rfl)
@[simp] theorem x_evS_aug (i : Nat) (op : Operator) (e : E) : evS G cs (.aug i op e) r t = (augE i op (ev G cs e)) r t := by first | (rw [evS_aug]; done) | (rw [evS_aug]; rfl)
@[simp] theorem x_evS_ret (e : E) : evS G cs (.ret e) r t = (fun r t => (ev G cs e r t).bind fun x t1 => .ok (.ret x, r) t1) r t := by first | (rw [evS_ret]; done) | (rw [evS_ret]; rfl)
@[simp] theorem x_evS_ite (k : E) (a b : Ss) : evS G cs (.ite k a b) r t = (iteS (ev G cs k) (evSs G cs a) (evSs G cs b)) r t := by first | (rw [evS_ite]; done) | (rw [evS_ite]; rfl)
@[simp] theorem x_evS_for (tg : Tg) (it : I) (b : Ss) : evS G cs (.for tg it b) r t = (forE tg (evI G cs it) (evSs G cs b)) r t := by first | (rw [evS_for]; done) | (rw [evS_for]; rfl)
@[simp] theorem x_evS_while (k : E) (b : Ss) : evS G cs (.while k b) r t = (loopW (ev G cs k) (evSs G cs b)) r t := by first | (rw [evS_while]; done) | (rw [evS_while]; rfl)
@[simp] theorem x_evS_exp (e : E) : evS G cs (.exp e) r t = (fun r t => (ev G cs e r t).bind fun _ t1 => .ok (.nx, r) t1) r t := by first | (rw [evS_exp]; done) | (rw [evS_exp]; rfl)
@[simp] theorem x_evS_new (i : Nat) (e : E) : evS G cs (.new i e) r t = (fun r t => (ev G cs e r t).bind fun x t1 => okSet r i (.own x) t1) r t := by first | (rw [evS_new]; done) | (rw [evS_new]; rfl)
@[simp] theorem x_evS_app (i : Nat) (e : E) : evS G cs (.app i e) r t = (appE i (ev G cs e)) r t := by first | (rw [evS_app]; done) | (rw [evS_app]; rfl)
@[simp] theorem x_evS_put (i : Nat) (k e : E) : evS G cs (.put i k e) r t = (putE i (ev G cs k) (ev G cs e)) r t := by first | (rw [evS_put]; done) | (rw [evS_put]; rfl)
@[simp] theorem x_evS_upd (i : Nat) (e : E) : evS G cs (.upd i e) r t = (updE i (ev G cs e)) r t := by first | (rw [evS_upd]; done) | (rw [evS_upd]; rfl)
@[simp] theorem x_evS_putL (i : Nat) (k e : E) : evS G cs (.putL i k e) r t = (putLE i (ev G cs k) (ev G cs e)) r t := by first | (rw [evS_putL]; done) | (rw [evS_putL]; rfl)
@[simp] theorem x_evS_frz (i : Nat) : evS G cs (.frz i) r t = (frzE i) r t := by first | (rw [evS_frz]; done) | (rw [evS_frz]; rfl)
@[simp] theorem x_evS_tcnt (i : Nat) (e : E) : evS G cs (.tcnt i e) r t = (tcntE i (ev G cs e)) r t := by first | (rw [evS_tcnt]; done) | (rw [evS_tcnt]; rfl)
@[simp] theorem x_evS_trst (i : Nat) (k e : E) : evS G cs (.trst i k e) r t = (trstE i (ev G cs k) (ev G cs e)) r t := by first | (rw [evS_trst]; done) | (rw [evS_trst]; rfl)
@[simp] theorem x_evS_brk : evS G cs .brk r t = (fun r t => .ok (.brk, r) t) r t := by first | (rw [evS_brk]; done) | (rw [evS_brk]; rfl)
@[simp] theorem x_evS_cont : evS G cs .cont r t = (fun r t => .ok (.cont, r) t) r t := by first | (rw [evS_cont]; done) | (rw [evS_cont]; rfl)
@[simp] theorem x_evS_raise (n : Nat) (x : Str) : evS G cs (.raise n x) r t = (fun _ t => .exc n t) r t := by first | (rw [evS_raise]; done) | (rw [evS_raise]; rfl)
@[simp] theorem x_evSs_nil : evSs G cs .nil r t = (nilE) r t := by first | (rw [evSs_nil]; done) | (rw [evSs_nil]; rfl)
@[simp] theorem x_evSs_cons (s : S) (q : Ss) : evSs G cs (.cons s q) r t = consE (evS G cs s) (evSs G cs q) r t := by rw [evSs_cons]
end
section
variable {f g : Rho → Tw → Res (Fl × Rho)} {fa fb fc : Rho → Tw → Res D} {fs : Rho → Tw → Res (List D)} {fo fp : Rho → Tw → Res (Option D)} {r : Rho} {t : Tw}
@[simp] theorem x_chainE (o1 o2 : CmpOp) (fa fb fc : Rho → Tw → Res D) (r : Rho) (t : Tw) : chainE o1 o2 fa fb fc r t = ( (fa r t).bind fun x t1 => (fb r t1).bind fun y t2 => match cmpD o1 x y with
    | some (.bl true) => (fc r t2).bind fun z t3 => Fm.lift (cmpD o2 y z) t3
    | some (.bl false) => .ok (.bl false) t2
    | _ => .bad) := rfl
@[simp] theorem x_andE (fa fb : Rho → Tw → Res D) (r : Rho) (t : Tw) : andE fa fb r t = ( (fa r t).bind fun x t1 => match truD x with
    | some true => fb r t1
    | some false => .ok x t1
    | none => .bad) := rfl
@[simp] theorem x_orE (fa fb : Rho → Tw → Res D) (r : Rho) (t : Tw) : orE fa fb r t = ( (fa r t).bind fun x t1 => match truD x with
    | some true => .ok x t1
    | some false => fb r t1
    | none => .bad) := rfl
@[simp] theorem x_iteE (fc fa fb : Rho → Tw → Res D) (r : Rho) (t : Tw) : iteE fc fa fb r t = ( (fc r t).bind fun x t1 => match truD x with
    | some true => fa r t1
    | some false => fb r t1
    | none => .bad) := rfl
@[simp] theorem x_cutE (fa : Rho → Tw → Res D) (fl fh : Rho → Tw → Res (Option D)) (r : Rho) (t : Tw) : cutE fa fl fh r t = ( (fa r t).bind fun x t1 => (fl r t1).bind fun l t2 => (Fm.lift (optI l) t2).bind fun l t2 => (fh r t2).bind fun h t3 => (Fm.lift (optI h) t3).bind fun h t3 => Fm.lift (cutD x l h) t3) := rfl
@[simp] theorem x_getE (fa fb fc : Rho → Tw → Res D) (r : Rho) (t : Tw) : getE fa fb fc r t = ( (fa r t).bind fun x t1 => match x with
    | .dct kvs => (fb r t1).bind fun y t2 => (fc r t2).bind fun z t3 => (match keyD y with
      | some k => .ok ((lookD kvs k).getD z) t3
      | none => .bad)
    | _ => .bad) := rfl
@[simp] theorem x_evV (f : Rho → Tw → Res D) (r : Rho) (t : Tw) : evV f r t = ( (f r t).bind fun x t1 => match x with
    | .tup xs => .ok xs t1
    | .lst xs => .ok xs t1
    | .str x => .ok (strD x) t1
    | _ => .bad) := rfl
@[simp] theorem x_zipE (fa fb : Rho → Tw → Res D) (r : Rho) (t : Tw) : zipE fa fb r t = ( (fa r t).bind fun x t1 => (fb r t1).bind fun y t2 => match x, y with
    | .tup xs, .tup ys => .ok (zipD xs ys) t2
    | .lst xs, .lst ys => .ok (zipD xs ys) t2
    | _, _ => .bad) := rfl
@[simp] theorem x_enumE (fa : Rho → Tw → Res D) (r : Rho) (t : Tw) : enumE fa r t = ( (fa r t).bind fun x t1 => match x with
    | .lst xs => .ok (enumD 0 xs) t1
    | _ => .bad) := rfl
@[simp] theorem x_turnE (tg : Tg) (vs : List Nat) (fc : Rho → Tw → Res (Option D)) (fe : Rho → Tw → Res D) (r : Rho) (d : D) (t : Tw) : turnE tg vs fc fe r d t = ( match setT tg d (wipeR r vs) with
        | some r2 => (fc r2 t).bind fun o t => match o with
          | none => (fe r2 t).bind fun x t => .ok (some x) t
          | some y => match truD y with
            | some true => (fe r2 t).bind fun x t => .ok (some x) t
            | some false => .ok none t
            | none => .bad
        | none => .bad) := rfl
@[simp] theorem x_zipNE (fa fb : Rho → Tw → Res D) (r : Rho) (t : Tw) : zipNE fa fb r t = ( (fa r t).bind fun x t1 => (fb r t1).bind fun y t2 => match x, y with
    | .tup xs, .tup ys => .ok (zipD xs ys) t2
    | _, _ => .bad) := rfl
@[simp] theorem x_compE (tg : Tg) (vs : List Nat) (fi : Rho → Tw → Res (List D)) (fc : Rho → Tw → Res (Option D)) (fe : Rho → Tw → Res D) (r : Rho) (t : Tw) : compE tg vs fi fc fe r t = (
  (fi r t).bind fun xs t1 => if okLen xs.length then (compL (turnE tg vs fc fe r) xs t1).bind fun ys t2 => .ok (.lst ys) t2 else .bad) := rfl
@[simp] theorem x_nilE (r : Rho) (t : Tw) : nilE r t = ( .ok (.nx, r) t) := rfl
@[simp] theorem x_consE (f g : Rho → Tw → Res (Fl × Rho)) (r : Rho) (t : Tw) : consE f g r t = ( (f r t).bind fun p t1 => match p with
    | (.nx, r1) => g r1 t1
    | q => .ok q t1) := rfl
@[simp] theorem x_iteS (fc : Rho → Tw → Res D) (f g : Rho → Tw → Res (Fl × Rho)) (r : Rho) (t : Tw) : iteS fc f g r t = ( (fc r t).bind fun x t1 => match truD x with
    | some true => f r t1
    | some false => g r t1
    | none => .bad) := rfl
@[simp] theorem x_parE (is : List Nat) (fs : Rho → Tw → Res (List D)) (r : Rho) (t : Tw) : parE is fs r t = ( (fs r t).bind fun xs t1 => Fm.lift ((setAll is xs r).map fun r1 => (.nx, r1)) t1) := rfl
@[simp] theorem x_frzE (i : Nat) (r : Rho) (t : Tw) : frzE i r t = ( match r[i]? with
    | some (.own d) => .ok (.nx, r.set i (.val d)) t
    | some (.val _) => .ok (.nx, r) t
    | _ => .bad) := rfl
@[simp] theorem x_appE (i : Nat) (fa : Rho → Tw → Res D) (r : Rho) (t : Tw) : appE i fa r t = ( match r[i]? with
    | some (.own (.lst xs)) => (fa r t).bind fun x t1 => if decide (xs.length < 16777216) then .ok (.nx, r.set i (.own (.lst (xs ++ [x])))) t1 else .bad
    | _ => .bad) := rfl
@[simp] theorem x_putE (i : Nat) (fk fa : Rho → Tw → Res D) (r : Rho) (t : Tw) : putE i fk fa r t = ( match r[i]? with
    | some (.own (.dct kvs)) => (fa r t).bind fun x t1 => (fk r t1).bind fun y t2 => (match keyD y with
      | some k => if decide (kvs.length < 16777216) then .ok (.nx, r.set i (.own (.dct (putD kvs k x)))) t2 else .bad
      | none => .bad)
    | _ => .bad) := rfl
@[simp] theorem x_putLE (i : Nat) (fk fa : Rho → Tw → Res D) (r : Rho) (t : Tw) : putLE i fk fa r t = ( match r[i]? with
    | some (.own (.lst xs)) => (fa r t).bind fun x t1 => (fk r t1).bind fun y t2 => (match y with
      | .int j => (match L2.ixN xs.length j with
        | some n => .ok (.nx, r.set i (.own (.lst (xs.set n x)))) t2
        | none => .bad)
      | _ => .bad)
    | _ => .bad) := rfl
@[simp] theorem x_augE (i : Nat) (op : Operator) (fa : Rho → Tw → Res D) (r : Rho) (t : Tw) : augE i op fa r t = ( match r[i]? with
    | some (.val x) => (fa r t).bind fun y t1 => match x, y with
      | .int _, .int _ => Fm.lift ((binD op x y).map fun z => (.nx, r.set i (.val z))) t1
      | _, _ => .bad
    | _ => .bad) := rfl
@[simp] theorem x_forE (tg : Tg) (fi : Rho → Tw → Res (List D)) (f : Rho → Tw → Res (Fl × Rho)) (r : Rho) (t : Tw) : forE tg fi f r t = ( (fi r t).bind fun xs t1 => loopF (fun d r t => match setT tg d r with
    | some r1 => f r1 t
    | none => .bad) xs r t1) := rfl
@[simp] theorem x_starE (i j : Nat) (fa : Rho → Tw → Res D) (r : Rho) (t : Tw) : starE i j fa r t = ( (fa r t).bind fun x t1 => match x with
    | .tup (y :: ys) => if decide (i < r.length) && decide (j < r.length) && decide (ys.length < 16384) then .ok (.nx, (r.set i (.val y)).set j (.val (.lst ys))) t1 else .bad
    | _ => .bad) := rfl
@[simp] theorem x_tcountE (i : Nat) (r : Rho) (t : Tw) : tcountE i r t = ( match r[i]? with
    | some (.val .tok) => .ok (.int t.count) t
    | _ => .bad) := rfl
@[simp] theorem x_tgetE (i : Nat) (fk fd : Rho → Tw → Res D) (r : Rho) (t : Tw) : tgetE i fk fd r t = ( match r[i]? with
    | some (.val .tok) => (fk r t).bind fun y t1 => (fd r t1).bind fun z t2 => (match y, z with
      | .int a, .int b => .ok (.int ((lkT t2.rests a).getD b)) t2
      | _, _ => .bad)
    | _ => .bad) := rfl
@[simp] theorem x_tcntE (i : Nat) (fa : Rho → Tw → Res D) (r : Rho) (t : Tw) : tcntE i fa r t = ( match r[i]? with
    | some (.val .tok) => (fa r t).bind fun x t1 => (match x with
      | .int c => .ok (.nx, r) { t1 with count := c }
      | _ => .bad)
    | _ => .bad) := rfl
@[simp] theorem x_trstE (i : Nat) (fk fa : Rho → Tw → Res D) (r : Rho) (t : Tw) : trstE i fk fa r t = ( match r[i]? with
    | some (.val .tok) => (fa r t).bind fun x t1 => (fk r t1).bind fun y t2 => (match x, y with
      | .int v, .int a => if decide (t2.rests.length < 1000000) then .ok (.nx, r) { t2 with rests := putT t2.rests a v } else .bad
      | _, _ => .bad)
    | _ => .bad) := rfl
@[simp] theorem x_updE (i : Nat) (fa : Rho → Tw → Res D) (r : Rho) (t : Tw) : updE i fa r t = ( match r[i]? with
    | some (.own (.dct kvs)) => (fa r t).bind fun x t1 => (match x with
      | .dct more => if decide (kvs.length + more.length ≤ 16777216) then .ok (.nx, r.set i (.own (.dct (joinD kvs more)))) t1 else .bad
      | _ => .bad)
    | _ => .bad) := rfl
@[simp] theorem x_dspEE (ks : List Str) (fs : List (Rho → Tw → Res D)) (r : Rho) (t : Tw) : dspEE ks fs r t = ( (evL fs r t).bind fun xs t1 => if decide (xs.length ≤ 15) && decide (xs.length = ks.length) && decide (0 < xs.length) then .ok (.dct (mergeD [] (ks.zip xs))) t1 else .bad) := rfl
@[simp] theorem x_keysE (fa : Rho → Tw → Res D) (r : Rho) (t : Tw) : keysE fa r t = ( (fa r t).bind fun x t1 => match x with
    | .dct kvs => .ok (kvs.map fun p => kD p.1) t1
    | _ => .bad) := rfl
end
section
variable {i j : Int} {x y : Str} {xs ys : List D} {b : Bool} {d e : D} {kvs : List (Key × D)}
@[simp] theorem x_cst0 : Cst.d .non = .non := rfl
@[simp] theorem x_cst1 : Cst.d (.bl b) = .bl b := rfl
@[simp] theorem x_cst2 : Cst.d (.int i) = .int i := rfl
@[simp] theorem x_cst3 : Cst.d (.str x) = .str x := rfl
@[simp] theorem x_bAdd : binD .Add d e = addD d e := rfl
@[simp] theorem x_bSub : binD .Sub d e = subD d e := rfl
@[simp] theorem x_bMul : binD .Mult d e = mulD d e := rfl
@[simp] theorem x_bDiv : binD .FloorDiv d e = fdivD d e := rfl
@[simp] theorem x_bMod : binD .Mod d e = modD d e := rfl
@[simp] theorem x_bPow : binD .Pow d e = powD d e := rfl
@[simp] theorem x_bShl : binD .LShift d e = shlD d e := rfl
@[simp] theorem x_addi : addD (.int i) (.int j) = some (.int (i + j)) := rfl
@[simp] theorem x_addt : addD (.tup xs) (.tup ys) = if okLen (xs.length + ys.length) then some (.tup (xs ++ ys)) else none := rfl
@[simp] theorem x_adds : addD (.str x) (.str y) = if okLen (x.length + y.length) then some (.str (x ++ y)) else none := rfl
@[simp] theorem x_cat : catD (.lst xs) (.lst ys) = if okLen (xs.length + ys.length) then some (.lst (xs ++ ys)) else none := rfl
@[simp] theorem x_sub : subD (.int i) (.int j) = some (.int (i - j)) := rfl
@[simp] theorem x_mul : mulD (.int i) (.int j) = if okMul i j then some (.int (i * j)) else none := rfl
@[simp] theorem x_fdiv : fdivD (.int i) (.int j) = if okDiv j then some (.int (i.fdiv j)) else none := rfl
@[simp] theorem x_mod : modD (.int i) (.int j) = if j = 0 then none else some (.int (i.fmod j)) := rfl
@[simp] theorem x_pow : powD (.int i) (.int j) = if okPow i j then some (.int (i ^ j.toNat)) else none := rfl
@[simp] theorem x_shl : shlD (.int i) (.int j) = if okPow i j then some (.int (i * 2 ^ j.toNat)) else none := rfl
@[simp] theorem x_neg : negD (.int i) = some (.int (-i)) := rfl
@[simp] theorem x_tru0 : truD .non = some false := rfl
@[simp] theorem x_tru1 : truD (.bl b) = some b := rfl
@[simp] theorem x_tru2 : truD (.int i) = some (i != 0) := rfl
@[simp] theorem x_tru3 : truD (.tup xs) = some (!xs.isEmpty) := rfl
@[simp] theorem x_tru4 : truD (.lst xs) = some (!xs.isEmpty) := rfl
@[simp] theorem x_tru6 : truD (.str x) = if okLen x.length then some ((x.length : Int) != 0) else none := rfl
@[simp] theorem x_not : notD d = (truD d).map fun b => .bl (!b) := rfl
@[simp] theorem x_ceq : cmpD .Eq d e = eqOp d e := rfl
@[simp] theorem x_cne : cmpD .NotEq d e = neOp d e := rfl
@[simp] theorem x_clt : cmpD .Lt d e = ltOp d e := rfl
@[simp] theorem x_cle : cmpD .LtE d e = leOp d e := rfl
@[simp] theorem x_cgt : cmpD .Gt d e = gtOp d e := rfl
@[simp] theorem x_cge : cmpD .GtE d e = geOp d e := rfl
@[simp] theorem x_cis : cmpD .Is d .non = some (.bl (isN d)) := rfl
@[simp] theorem x_cisn : cmpD .IsNot d .non = some (.bl (!isN d)) := rfl
@[simp] theorem x_cin : cmpD .In d e = (inB d e).map .bl := rfl
@[simp] theorem x_cnin : cmpD .NotIn d e = (inB d e).map fun r => .bl (!r) := rfl
@[simp] theorem x_lt : ltOp (.int i) (.int j) = some (.bl (decide (i < j))) := rfl
@[simp] theorem x_le : leOp (.int i) (.int j) = some (.bl (decide (i ≤ j))) := rfl
@[simp] theorem x_gt : gtOp (.int i) (.int j) = some (.bl (decide (j < i))) := rfl
@[simp] theorem x_ge : geOp (.int i) (.int j) = some (.bl (decide (j ≤ i))) := rfl
@[simp] theorem x_isn0 : isN .non = true := rfl
@[simp] theorem x_isn1 : isN (.bl b) = false := rfl
@[simp] theorem x_isn2 : isN (.int i) = false := rfl
@[simp] theorem x_isn3 : isN (.str x) = false := rfl
@[simp] theorem x_isn4 : isN (.tup xs) = false := rfl
@[simp] theorem x_isn5 : isN (.lst xs) = false := rfl
@[simp] theorem x_len1 : blt1 .len (.tup xs) = some (.int xs.length) := rfl
@[simp] theorem x_len2 : blt1 .len (.lst xs) = some (.int xs.length) := rfl
@[simp] theorem x_len3 : blt1 .len (.str x) = if okLen x.length then some (.int x.length) else none := rfl
@[simp] theorem x_tup1 : blt1 .tuple (.lst xs) = some (.tup xs) := rfl
@[simp] theorem x_tup2 : blt1 .tuple (.tup xs) = some (.tup xs) := rfl
@[simp] theorem x_lst1 : blt1 .list (.lst xs) = some (.lst xs) := rfl
@[simp] theorem x_lst2 : blt1 .list (.tup xs) = some (.lst xs) := rfl
@[simp] theorem x_abs1 : blt1 .abs (.int i) = some (.int (if i < 0 then -i else i)) := rfl
@[simp] theorem x_ixt : ixD (.tup xs) (.int i) = L2.atI xs i := rfl
@[simp] theorem x_ixl : ixD (.lst xs) (.int i) = L2.atI xs i := rfl
@[simp] theorem x_ixs : ixD (.str x) (.int i) = if okLen x.length then (L2.atI x.cps.toList i).map fun c => .str ⟨#[c]⟩ else none := rfl
@[simp] theorem x_rev1 : revD (.tup xs) = some (.tup xs.reverse) := rfl
@[simp] theorem x_rev2 : revD (.lst xs) = some (.lst xs.reverse) := rfl
@[simp] theorem x_opt0 : optI none = some none := rfl
@[simp] theorem x_opt1 : optI (some (.int i)) = some (some i) := rfl
@[simp] theorem x_cutt {l h : Option Int} : cutD (.tup xs) l h = some (.tup (cutL xs l h)) := rfl
@[simp] theorem x_cutl {l h : Option Int} : cutD (.lst xs) l h = some (.lst (cutL xs l h)) := rfl
@[simp] theorem x_isa_int_non : isaD .non .int = some false := rfl
@[simp] theorem x_isa_int_bl : isaD (.bl b) .int = some true := rfl
@[simp] theorem x_isa_int_int : isaD (.int i) .int = some true := rfl
@[simp] theorem x_isa_int_str : isaD (.str x) .int = some false := rfl
@[simp] theorem x_isa_int_tup : isaD (.tup xs) .int = some false := rfl
@[simp] theorem x_isa_int_lst : isaD (.lst xs) .int = some false := rfl
@[simp] theorem x_isa_bool_non : isaD .non .bool = some false := rfl
@[simp] theorem x_isa_bool_bl : isaD (.bl b) .bool = some true := rfl
@[simp] theorem x_isa_bool_int : isaD (.int i) .bool = some false := rfl
@[simp] theorem x_isa_bool_str : isaD (.str x) .bool = some false := rfl
@[simp] theorem x_isa_bool_tup : isaD (.tup xs) .bool = some false := rfl
@[simp] theorem x_isa_bool_lst : isaD (.lst xs) .bool = some false := rfl
@[simp] theorem x_isa_str_non : isaD .non .str = some false := rfl
@[simp] theorem x_isa_str_bl : isaD (.bl b) .str = some false := rfl
@[simp] theorem x_isa_str_int : isaD (.int i) .str = some false := rfl
@[simp] theorem x_isa_str_str : isaD (.str x) .str = some true := rfl
@[simp] theorem x_isa_str_tup : isaD (.tup xs) .str = some false := rfl
@[simp] theorem x_isa_str_lst : isaD (.lst xs) .str = some false := rfl
@[simp] theorem x_isa_tuple_non : isaD .non .tuple = some false := rfl
@[simp] theorem x_isa_tuple_bl : isaD (.bl b) .tuple = some false := rfl
@[simp] theorem x_isa_tuple_int : isaD (.int i) .tuple = some false := rfl
@[simp] theorem x_isa_tuple_str : isaD (.str x) .tuple = some false := rfl
@[simp] theorem x_isa_tuple_tup : isaD (.tup xs) .tuple = some true := rfl
@[simp] theorem x_isa_tuple_lst : isaD (.lst xs) .tuple = some false := rfl
@[simp] theorem x_isa_list_non : isaD .non .list = some false := rfl
@[simp] theorem x_isa_list_bl : isaD (.bl b) .list = some false := rfl
@[simp] theorem x_isa_list_int : isaD (.int i) .list = some false := rfl
@[simp] theorem x_isa_list_str : isaD (.str x) .list = some false := rfl
@[simp] theorem x_isa_list_tup : isaD (.tup xs) .list = some false := rfl
@[simp] theorem x_isa_list_lst : isaD (.lst xs) .list = some true := rfl
end
@[simp] theorem x_setN {i : Nat} {d : D} {r : Rho} : setT (.name i) d r = if decide (i < r.length) then some (r.set i (.val d)) else none := rfl
@[simp] theorem x_setT {ts : Tgs} {xs : List D} {r : Rho} : setT (.tup ts) (.tup xs) r = setTs ts xs r := rfl
@[simp] theorem x_set0 {r : Rho} : setTs .nil [] r = some r := rfl
@[simp] theorem x_set1 {t : Tg} {ts : Tgs} {x : D} {xs : List D} {r : Rho} : setTs (.cons t ts) (x :: xs) r = (setT t x r).bind fun r1 => setTs ts xs r1 := rfl
@[simp] theorem x_all0 {r : Rho} : setAll [] [] r = some r := rfl
@[simp] theorem x_all1 {i : Nat} {is : List Nat} {d : D} {ds : List D} {r : Rho} : setAll (i :: is) (d :: ds) r = if decide (i < r.length) then setAll is ds (r.set i (.val d)) else none := rfl
@[simp] theorem x_okSet {r : Rho} {i : Nat} {s : Sl} {t : Tw} : okSet r i s t = if decide (i < r.length) then .ok (.nx, r.set i s) t else .bad := rfl
@[simp] theorem x_startR {N : List Str} {ds : List D} : startR N ds = ds.map .val ++ List.replicate (N.length - ds.length) .un := rfl
@[simp] theorem x_startL {N : List Str} {ns : List Int} : startL N ns = (startR N [.scr ns]).set 1 (.val .tok) := rfl
@[simp] theorem x_ret0 {d : D} {r : Rho} {t : Tw} : retD (.ok (.ret d, r) t) = .ok d t := rfl
@[simp] theorem x_ret1 {r : Rho} {t : Tw} : retD (.ok (.nx, r) t) = .ok .non t := rfl
@[simp] theorem x_ret2 {n : Nat} {t : Tw} : retD (.exc n t) = .exc n t := rfl
@[simp] theorem x_loop0 {f : D → Rho → Tw → Res (Fl × Rho)} {r : Rho} {t : Tw} : loopF f [] r t = .ok (.nx, r) t := rfl
@[simp] theorem x_comp0 {f : D → Tw → Res (Option D)} {t : Tw} : compL f [] t = .ok [] t := rfl
@[simp] theorem x_wipe0 {r : Rho} : wipeR r [] = r := rfl
@[simp] theorem x_wipe1 {r : Rho} {v : Nat} {vs : List Nat} : wipeR r (v :: vs) = (wipeR r vs).set v .un := rfl
@[simp] theorem x_cons0 {xs : List D} : consO none xs = xs := rfl
@[simp] theorem x_cons1 {x : D} {xs : List D} : consO (some x) xs = x :: xs := rfl
@[simp] theorem x_ok0 : okLen 0 = true := rfl
@[simp] theorem x_ok1 : okLen 1 = true := rfl
@[simp] theorem x_ok2 : okLen 2 = true := rfl
@[simp] theorem x_ok3 : okLen 3 = true := rfl
@[simp] theorem x_ok4 : okLen 4 = true := rfl
@[simp] theorem x_ok5 : okLen 5 = true := rfl
@[simp] theorem x_ok6 : okLen 6 = true := rfl
@[simp] theorem x_ok7 : okLen 7 = true := rfl
@[simp] theorem x_ok8 : okLen 8 = true := rfl
@[simp] theorem x_ok9 : okLen 9 = true := rfl
@[simp] theorem x_ok10 : okLen 10 = true := rfl
@[simp] theorem x_ok11 : okLen 11 = true := rfl
@[simp] theorem x_ok12 : okLen 12 = true := rfl
@[simp] theorem x_ok13 : okLen 13 = true := rfl
@[simp] theorem x_ok14 : okLen 14 = true := rfl
@[simp] theorem x_ok15 : okLen 15 = true := rfl
@[simp] theorem x_ok16 : okLen 16 = true := rfl
@[simp] theorem x_ok17 : okLen 17 = true := rfl
@[simp] theorem x_ok18 : okLen 18 = true := rfl
@[simp] theorem x_ok19 : okLen 19 = true := rfl
@[simp] theorem x_ok20 : okLen 20 = true := rfl
@[simp] theorem x_ok21 : okLen 21 = true := rfl
@[simp] theorem x_ok22 : okLen 22 = true := rfl
@[simp] theorem x_ok23 : okLen 23 = true := rfl
@[simp] theorem x_ok24 : okLen 24 = true := rfl
@[simp] theorem x_ok25 : okLen 25 = true := rfl
@[simp] theorem x_ok26 : okLen 26 = true := rfl
@[simp] theorem x_ok27 : okLen 27 = true := rfl
@[simp] theorem x_ok28 : okLen 28 = true := rfl
@[simp] theorem x_ok29 : okLen 29 = true := rfl
@[simp] theorem x_ok30 : okLen 30 = true := rfl
@[simp] theorem x_ok31 : okLen 31 = true := rfl
@[simp] theorem x_ok32 : okLen 32 = true := rfl
@[simp] theorem x_ok33 : okLen 33 = true := rfl
@[simp] theorem x_ok34 : okLen 34 = true := rfl
@[simp] theorem x_ok35 : okLen 35 = true := rfl
@[simp] theorem x_ok36 : okLen 36 = true := rfl
@[simp] theorem x_ok37 : okLen 37 = true := rfl
@[simp] theorem x_ok38 : okLen 38 = true := rfl
@[simp] theorem x_ok39 : okLen 39 = true := rfl
@[simp] theorem x_ok40 : okLen 40 = true := rfl
@[simp] theorem x_ok41 : okLen 41 = true := rfl
@[simp] theorem x_ok42 : okLen 42 = true := rfl
@[simp] theorem x_ok43 : okLen 43 = true := rfl
@[simp] theorem x_ok44 : okLen 44 = true := rfl
@[simp] theorem x_ok45 : okLen 45 = true := rfl
@[simp] theorem x_ok46 : okLen 46 = true := rfl
@[simp] theorem x_ok47 : okLen 47 = true := rfl
@[simp] theorem x_ok48 : okLen 48 = true := rfl
@[simp] theorem x_ok49 : okLen 49 = true := rfl
@[simp] theorem x_ok50 : okLen 50 = true := rfl
@[simp] theorem x_ok51 : okLen 51 = true := rfl
@[simp] theorem x_ok52 : okLen 52 = true := rfl
@[simp] theorem x_ok53 : okLen 53 = true := rfl
@[simp] theorem x_ok54 : okLen 54 = true := rfl
@[simp] theorem x_ok55 : okLen 55 = true := rfl
@[simp] theorem x_ok56 : okLen 56 = true := rfl
@[simp] theorem x_ok57 : okLen 57 = true := rfl
@[simp] theorem x_ok58 : okLen 58 = true := rfl
@[simp] theorem x_ok59 : okLen 59 = true := rfl
@[simp] theorem x_ok60 : okLen 60 = true := rfl
@[simp] theorem x_ok61 : okLen 61 = true := rfl
@[simp] theorem x_ok62 : okLen 62 = true := rfl
@[simp] theorem x_ok63 : okLen 63 = true := rfl
/-- the first part first -/
@[simp ↓] theorem x_bind {α β : Type} (m : Res α) (f : α → Tw → Res β) : m.bind f = match m with
  | .ok a t => f a t
  | .exc n t => .exc n t
  | .bad => .bad := by cases m <;> rfl
/-- calls of a level -/
theorem gam_at {p : Pg} {ns : List Int} {k j : Nat} {sh : Sh} (h : p.tb.sh[j]? = some sh) (xs ys : List D) (t : Tw) : (gam p ns k).f 0 j xs ys t = callF p ns k sh.fn (xs ++ ys ++ sh.dfl.map Cst.d) t := by
  show (match p.tb.sh[j]? with
    | some sh => _
    | none => _) = _
  rw [h]
  rfl

end Fm

/-! ### plain lemmas: equality, loops, comprehensions, draws -/
namespace Fm
open PySem
section
variable {i j : Int} {a b : Bool} {x y : Str}
@[simp] theorem x_eqi : eqOp (.int i) (.int j) = some (.bl (decide (i = j))) := by
  by_cases h : i = j <;> simp [eqOp, okEq, lay, dep, D.py, PyData.canLay0, PyData.depth, eqD, PyData.eqv, h]
@[simp] theorem x_nei : neOp (.int i) (.int j) = some (.bl (!decide (i = j))) := by
  by_cases h : i = j <;> simp [neOp, okEq, lay, dep, D.py, PyData.canLay0, PyData.depth, eqD, PyData.eqv, h]
@[simp] theorem x_eqb : eqOp (.bl a) (.bl b) = some (.bl (a == b)) := by
  simp [eqOp, okEq, lay, dep, D.py, PyData.canLay0, PyData.depth, eqD, PyData.eqv]
@[simp] theorem x_eqD_s : eqD (.str x) (.str y) = (x == y) := by
  simp [eqD, D.py, PyData.eqv]
@[simp] theorem x_lay_s : lay (.str x) = PyData.strOk x := by
  simp [lay, D.py, PyData.canLay0]
@[simp] theorem x_lay_i : lay (.int i) = true := by
  simp [lay, D.py, PyData.canLay0]
@[simp] theorem x_dep_s : dep (.str x) = 0 := by
  simp [dep, D.py, PyData.depth]
theorem x_eqs (h1 : PyData.strOk x = true) (h2 : PyData.strOk y = true) : eqOp (.str x) (.str y) = some (.bl (x == y)) := by
  simp [eqOp, okEq, h1, h2]
theorem x_ins (h : PyData.strOk x = true) {ys : List Str} (h2 : ys.all PyData.strOk = true) : inB (.str x) (.tup (ys.map .str)) = some (ys.any fun z => z == x) := by
  have e : ((ys.map D.str).all lay) = true := by
    rw [List.all_map]
    simpa [Function.comp] using h2
  simp only [inB, x_lay_s, h, e, x_dep_s, List.any_map, Function.comp_def, x_eqD_s]
  simp
end
theorem x_eq0 {xs : List D} (h : lay (.tup xs) = true) : eqOp (.tup xs) (.tup []) = some (.bl xs.isEmpty) := by
  have e : dep (.tup []) = 1 := by simp [dep, D.py, pys, PyData.depth, PyData.depthAll]
  have l : lay (.tup []) = true := by simp [lay, D.py, pys, PyData.canLay0, PyData.canLayAll0]
  have m : min (dep (.tup xs)) 1 ≤ 190 := Nat.le_trans (Nat.min_le_right ..) (by omega)
  simp only [eqOp, okEq, h, l, e, m, decide_true, Bool.and_self, if_true]
  cases xs <;> simp [eqD, D.py, pys, PyData.eqv, PyData.eqvAll]
@[simp] theorem x_ev_dsp {G : Gam} {cs : Nat → D} {r : Rho} {t : Tw} (kvs : List (Str × Cst)) : ev G cs (.dsp kvs) r t = if decide (kvs.length ≤ 15) then .ok (.dct (mergeD [] (kvs.map fun p => (p.1, p.2.d)))) t else .bad := by rw [ev_dsp]
/-! ### loops, comprehensions -/
theorem loopF_inv {f : D → Rho → Tw → Res (Fl × Rho)} (I : Rho → Tw → Prop) : ∀ (xs : List D) (r : Rho) (t : Tw), I r t → (∀ d ∈ xs, ∀ r t, I r t → ∃ r' t', f d r t = .ok (.nx, r') t' ∧ I r' t') → ∃ r' t', loopF f xs r t = .ok (.nx, r') t' ∧ I r' t'
  | [], r, t, h, _ => ⟨r, t, rfl, h⟩
  | d :: ds, r, t, h, hf => by
    obtain ⟨r1, t1, e, h1⟩ := hf d (List.mem_cons_self ..) r t h
    obtain ⟨r2, t2, e2, h2⟩ := loopF_inv I ds r1 t1 h1 fun d' m => hf d' (List.mem_cons_of_mem _ m)
    exact ⟨r2, t2, by rw [loopF, e]; exact e2, h2⟩
theorem compL_map {f : D → Tw → Res (Option D)} (g : D → D) {t : Tw} : ∀ (xs : List D), (∀ d ∈ xs, f d t = .ok (some (g d)) t) → compL f xs t = .ok (xs.map g) t
  | [], _ => rfl
  | d :: ds, h => by
    rw [compL, h d (List.mem_cons_self ..)]
    simp only
    rw [compL_map g ds fun d' m => h d' (List.mem_cons_of_mem _ m)]
    rfl
/-- turns that draw: each gives what Z tells -/
theorem compL_inv {f : D → Tw → Res (Option D)} (I : Nat → Tw → Prop) (Z : D → Prop) : ∀ (xs : List D) (t : Tw) (n : Nat), I (n + xs.length) t → (∀ d ∈ xs, ∀ n t, I (n + 1) t → ∃ x t', f d t = .ok (some x) t' ∧ Z x ∧ I n t') → ∃ ys t', compL f xs t = .ok ys t' ∧ ys.length = xs.length ∧ (∀ y ∈ ys, Z y) ∧ I n t'
  | [], t, n, h, _ => ⟨[], t, rfl, rfl, fun _ m => (List.not_mem_nil m).elim, h⟩
  | d :: ds, t, n, h, hf => by
    obtain ⟨x, t1, e, z, h1⟩ := hf d (List.mem_cons_self ..) (n + ds.length) t (by rw [List.length_cons] at h; exact h)
    obtain ⟨ys, t2, e2, l, z2, h2⟩ := compL_inv I Z ds t1 n h1 fun d' m => hf d' (List.mem_cons_of_mem _ m)
    refine ⟨x :: ys, t2, ?_, by rw [List.length_cons, l, List.length_cons], fun y m => ?_, h2⟩
    · rw [compL, e]
      simp only
      rw [e2]
      rfl
    · rcases List.mem_cons.mp m with rfl | m
      · exact z
      · exact z2 y m
theorem comp_map {G : Gam} {cs : Nat → D} {own : List (Str × Nat)} {elt : E} {tg : Tg} {it : I} {cd : O} {r : Rho} {t : Tw} {xs : List D} (g : D → D) (hi : evI G cs it r t = .ok xs t) (hl : okLen xs.length = true) (h : ∀ d ∈ xs, turnE tg (own.map (·.2)) (evO G cs cd) (ev G cs elt) r d t = .ok (some (g d)) t) : ev G cs (.comp own elt tg it cd) r t = .ok (.lst (xs.map g)) t := by
  rw [ev_comp]
  unfold compE
  rw [hi, Res.bind_ok, hl, if_pos rfl, compL_map g xs h]
  rfl
theorem comp_inv {G : Gam} {cs : Nat → D} {own : List (Str × Nat)} {elt : E} {tg : Tg} {it : I} {cd : O} {r : Rho} {t t1 : Tw} {xs : List D} {n : Nat} (I : Nat → Tw → Prop) (Z : D → Prop) (hi : evI G cs it r t = .ok xs t1) (hl : okLen xs.length = true) (h0 : I (n + xs.length) t1)
    (h : ∀ d ∈ xs, ∀ n t, I (n + 1) t → ∃ x t', turnE tg (own.map (·.2)) (evO G cs cd) (ev G cs elt) r d t = .ok (some x) t' ∧ Z x ∧ I n t') : ∃ ys t', ev G cs (.comp own elt tg it cd) r t = .ok (.lst ys) t' ∧ ys.length = xs.length ∧ (∀ y ∈ ys, Z y) ∧ I n t' := by
  obtain ⟨ys, t', e, q⟩ := compL_inv I Z xs t1 n h0 h
  refine ⟨ys, t', ?_, q⟩
  rw [ev_comp]
  unfold compE
  rw [hi, Res.bind_ok, hl, if_pos rfl, e]
  rfl
theorem bls_map : ∀ (xs : List D) (g : D → Bool), bls (xs.map fun d => .bl (g d)) = some (xs.map g)
  | [], _ => rfl
  | x :: xs, g => by simp [bls, bls_map xs g]
theorem x_all {xs : List D} {g : D → Bool} : blt1 .all (.lst (xs.map fun d => .bl (g d))) = some (.bl (xs.all g)) := by
  simp [blt1, bls_map]
/-! ### sizes -/
theorem log2_lt' {n k : Nat} (h : n < 2 ^ k) (hk : 0 < k) : n.log2 < k := by
  by_cases z : n = 0
  · subst z
    simpa using hk
  · exact (Nat.log2_lt z).mpr h
theorem okMul_of {i j : Int} {k l : Nat} (h1 : i.natAbs < 2 ^ k) (h2 : j.natAbs < 2 ^ l) (hk : 0 < k) (hl : 0 < l) (h : k + l ≤ 1000000) : okMul i j = true := by
  have := log2_lt' h1 hk
  have := log2_lt' h2 hl
  simp only [okMul, decide_eq_true_eq]
  omega
theorem okDiv_of {j : Int} {k : Nat} (h0 : j ≠ 0) (h1 : j.natAbs < 2 ^ k) (hk : 0 < k) (h : k ≤ 9000) : okDiv j = true := by
  have := log2_lt' h1 hk
  simp only [okDiv, Bool.and_eq_true, decide_eq_true_eq]
  omega
theorem fmod_rng {i m : Int} (h : 0 < m) : 0 ≤ i.fmod m ∧ i.fmod m < m := ⟨Int.fmod_nonneg_of_pos _ h, Int.fmod_lt_of_pos _ h⟩
/-! ### draws -/
def goodT (t : Tw) : Prop := 0 ≤ t.count ∧ t.rests.length ≤ t.count.toNat
/-- n draws may be made -/
def rm (n : Nat) (t : Tw) : Prop := goodT t ∧ t.count + n ≤ 900000
theorem rm.le {n m : Nat} {t : Tw} (h : rm n t) (l : m ≤ n) : rm m t := ⟨h.1, by have := h.2; omega⟩
def drawB : Ss := .cons (.tcnt 1 (.bin .Add (.tcount 1) (.cst (.int 1)))) (.cons (.asg (.name 3) (.ite (.var 0) (.bin .Mod (.tcount 1) (.blt .len (.var 0))) (.cst (.int 0)))) (.cons (.asg (.name 4) (.tget 1 (.var 3) (.ite (.var 0) (.ix (.var 0) (.var 3)) (.cst (.int 0))))) (.cons (.ite (.cmp .GtE (.var 4) (.bin .Pow (.cst (.int 10)) (.cst (.int 18)))) (.cons (.trst 1 (.var 3) (.bin .FloorDiv (.var 4) (.var 2))) (.cons (.ret (.bin .Mod (.var 4) (.var 2))) .nil)) .nil) (.cons (.asg (.name 5) (.bin .Mod (.bin .Add (.var 4) (.bin .Mult (.cst (.int 104729)) (.tcount 1))) (.cst (.int 4294967291)))) (.cons (.asg (.name 5) (.bin .Mod (.bin .Pow (.var 5) (.cst (.int 5))) (.cst (.int 4294967279)))) (.cons (.ret (.bin .Mod (.bin .FloorDiv (.bin .Mod (.bin .Add (.bin .Mult (.bin .FloorDiv (.var 5) (.cst (.int 64))) (.cst (.int 69621))) (.var 5)) (.cst (.int 4294967231))) (.cst (.int 8))) (.var 2))) .nil))))))
theorem draw_tail {G : Gam} {cs : Nat → D} {sc : D} {m at_ rest : Int} {t : Tw} {n : Nat} (hm : 0 < m) (hm2 : m < 1048576) (h : goodT t) (hc : t.count + n ≤ 900000) (hr : t.rests.length < t.count.toNat) :
    ∃ v t', retD (evSs G cs (.cons (.ite (.cmp .GtE (.var 4) (.bin .Pow (.cst (.int 10)) (.cst (.int 18)))) (.cons (.trst 1 (.var 3) (.bin .FloorDiv (.var 4) (.var 2))) (.cons (.ret (.bin .Mod (.var 4) (.var 2))) .nil)) .nil) (.cons (.asg (.name 5) (.bin .Mod (.bin .Add (.var 4) (.bin .Mult (.cst (.int 104729)) (.tcount 1))) (.cst (.int 4294967291)))) (.cons (.asg (.name 5) (.bin .Mod (.bin .Pow (.var 5) (.cst (.int 5))) (.cst (.int 4294967279)))) (.cons (.ret (.bin .Mod (.bin .FloorDiv (.bin .Mod (.bin .Add (.bin .Mult (.bin .FloorDiv (.var 5) (.cst (.int 64))) (.cst (.int 69621))) (.var 5)) (.cst (.int 4294967231))) (.cst (.int 8))) (.var 2))) .nil)))) [.val sc, .val .tok, .val (.int m), .val (.int at_), .val (.int rest), .un] t) = .ok (.int v) t' ∧ 0 ≤ v ∧ v < m ∧ rm n t' := by
  obtain ⟨g1, g2⟩ := h
  have p1 : okPow 10 18 = true := by decide
  have e18 : (10 : Int) ^ (18 : Int).toNat = 1000000000000000000 := by decide
  have d1 : okDiv m = true := okDiv_of (k := 20) (by omega) (by omega) (by omega) (by omega)
  have m0 : m ≠ 0 := by omega
  have l1 : t.rests.length < 1000000 := by omega
  have c1 : t.count.natAbs < 2 ^ 20 := by omega
  have k1 : okMul 104729 t.count = true := okMul_of (k := 17) (l := 20) (by decide) c1 (by omega) (by omega) (by omega)
  by_cases hb : 1000000000000000000 ≤ rest
  · refine ⟨rest.fmod m, { t with rests := putT t.rests at_ (rest.fdiv m) }, ?_, (fmod_rng hm).1, (fmod_rng hm).2, ⟨g1, ?_⟩, hc⟩
    · simp [p1, e18, hb, d1, m0, l1]
    · have := putT_len t.rests at_ (rest.fdiv m)
      show (putT t.rests at_ (rest.fdiv m)).length ≤ t.count.toNat
      omega
  · have q1 := fmod_rng (i := rest + 104729 * t.count) (m := 4294967291) (by omega)
    generalize hn1 : (rest + 104729 * t.count).fmod 4294967291 = n1 at q1
    have p2 : okPow n1 5 = true := by
      simp only [okPow, Bool.and_eq_true, decide_eq_true_eq]
      refine ⟨⟨by omega, by omega⟩, ?_⟩
      have : (2 : Nat) ^ 64 = 18446744073709551616 := by decide
      omega
    have q2 := fmod_rng (i := n1 ^ (5 : Int).toNat) (m := 4294967279) (by omega)
    generalize hn2 : (n1 ^ (5 : Int).toNat).fmod 4294967279 = n2 at q2
    have q3 : 0 ≤ n2.fdiv 64 ∧ n2.fdiv 64 < 2 ^ 32 := by
      rw [Int.fdiv_eq_ediv_of_nonneg _ (by omega)]
      omega
    have k2 : okMul (n2.fdiv 64) 69621 = true := okMul_of (k := 32) (l := 17) (by omega) (by decide) (by omega) (by omega) (by omega)
    have d2 : okDiv 64 = true := okDiv_of (k := 20) (by omega) (by omega) (by omega) (by omega)
    have d3 : okDiv 8 = true := okDiv_of (k := 20) (by omega) (by omega) (by omega) (by omega)
    refine ⟨(((n2.fdiv 64 * 69621 + n2).fmod 4294967231).fdiv 8).fmod m, t, ?_, (fmod_rng hm).1, (fmod_rng hm).2, ⟨g1, g2⟩, hc⟩
    · simp [p1, e18, hb, d1, m0, l1, k1, hn1, p2, hn2, k2, d2, d3]
      simp at hn2
      simp [hn2, k2, d3, m0]
theorem draw_ev {G : Gam} {cs : Nat → D} {ns : List Int} {m : Int} {t : Tw} {n : Nat} (hm : 0 < m) (hm2 : m < 1048576) (h : rm (n + 1) t) :
    ∃ v t', retD (evSs G cs drawB [.val (.scr ns), .val .tok, .val (.int m), .un, .un, .un] t) = .ok (.int v) t' ∧ 0 ≤ v ∧ v < m ∧ rm n t' := by
  obtain ⟨⟨g1, g2⟩, g3⟩ := h
  have G' : goodT { t with count := t.count + 1 } := ⟨by show 0 ≤ t.count + 1; omega, by show t.rests.length ≤ (t.count + 1).toNat; omega⟩
  have c' : t.count + 1 + n ≤ 900000 := by omega
  have r' : t.rests.length < (t.count + 1).toNat := by omega
  cases ns with
  | nil =>
    obtain ⟨v, t', e, q⟩ := draw_tail (G := G) (cs := cs) (sc := .scr []) (at_ := 0) (rest := (lkT t.rests 0).getD 0) (t := { t with count := t.count + 1 }) hm hm2 G' c' r'
    refine ⟨v, t', ?_, q⟩
    rw [← e]
    unfold drawB
    rw [x_evSs_cons]
    simp [truD]
  | cons a as =>
    have q := fmod_rng (i := t.count + 1) (m := ((a :: as).length : Int)) (by simp)
    generalize hk : (t.count + 1).fmod ((a :: as).length : Int) = k at q
    obtain ⟨w, ew⟩ : ∃ w, L2.atI (a :: as) k = some w := by
      unfold L2.atI L2.ixN
      rw [if_pos q.1, if_pos q.2]
      exact ⟨_, List.getElem?_eq_getElem (by omega)⟩
    obtain ⟨v, t', e, q2⟩ := draw_tail (G := G) (cs := cs) (sc := .scr (a :: as)) (at_ := k) (rest := (lkT t.rests k).getD w) (t := { t with count := t.count + 1 }) hm hm2 G' c' r'
    refine ⟨v, t', ?_, q2⟩
    rw [← e]
    unfold drawB
    have nz : ((a :: as).length : Int) ≠ 0 := by simp; omega
    rw [x_evSs_cons]
    simp only [List.length_cons, Int.natCast_add, Int.natCast_one] at hk nz
    simp [truD, blt1, lenD, hk, ixD, ew, nz]
end Fm

/-! ### more plain lemmas -/
namespace Fm
open PySem
/-- a comprehension with a test -/
theorem compL_filt {f : D → Tw → Res (Option D)} (c : D → Bool) (g : D → D) {t : Tw} : ∀ (xs : List D), (∀ d ∈ xs, f d t = .ok (if c d then some (g d) else none) t) → compL f xs t = .ok ((xs.filter c).map g) t
  | [], _ => rfl
  | d :: ds, h => by
    rw [compL, h d (List.mem_cons_self ..)]
    simp only
    rw [compL_filt c g ds fun d' m => h d' (List.mem_cons_of_mem _ m)]
    cases e : c d <;> simp [List.filter_cons, e, consO]
theorem comp_filt {G : Gam} {cs : Nat → D} {own : List (Str × Nat)} {elt : E} {tg : Tg} {it : I} {cd : O} {r : Rho} {t : Tw} {xs : List D} (c : D → Bool) (g : D → D) (hi : evI G cs it r t = .ok xs t) (hl : okLen xs.length = true) (h : ∀ d ∈ xs, turnE tg (own.map (·.2)) (evO G cs cd) (ev G cs elt) r d t = .ok (if c d then some (g d) else none) t) : ev G cs (.comp own elt tg it cd) r t = .ok (.lst ((xs.filter c).map g)) t := by
  rw [ev_comp]
  unfold compE
  rw [hi, Res.bind_ok, hl, if_pos rfl, compL_filt c g xs h]
  rfl
/-- a loop that ends at the first item that is not as it must be -/
theorem loopF_find {f : D → Rho → Tw → Res (Fl × Rho)} {t : Tw} {v : D} (P : D → Bool) (I : Rho → Prop) : ∀ (xs : List D) (r : Rho), I r → (∀ d ∈ xs, ∀ r, I r → (P d = true → ∃ r', f d r t = .ok (.nx, r') t ∧ I r') ∧ (P d = false → ∃ r', f d r t = .ok (.ret v, r') t)) →
    (xs.all P = true → ∃ r', loopF f xs r t = .ok (.nx, r') t ∧ I r') ∧ (xs.all P = false → ∃ r', loopF f xs r t = .ok (.ret v, r') t)
  | [], r, h, _ => ⟨fun _ => ⟨r, rfl, h⟩, fun h => by simp at h⟩
  | d :: ds, r, h, hf => by
    obtain ⟨h1, h2⟩ := hf d (List.mem_cons_self ..) r h
    cases e : P d with
    | true =>
      obtain ⟨r1, e1, i1⟩ := h1 e
      obtain ⟨g1, g2⟩ := loopF_find P I ds r1 i1 fun d' m => hf d' (List.mem_cons_of_mem _ m)
      refine ⟨fun ha => ?_, fun ha => ?_⟩
      · obtain ⟨r2, e2, i2⟩ := g1 (by simpa [e] using ha)
        exact ⟨r2, by rw [loopF, e1]; exact e2, i2⟩
      · obtain ⟨r2, e2⟩ := g2 (by simpa [e] using ha)
        exact ⟨r2, by rw [loopF, e1]; exact e2⟩
    | false =>
      obtain ⟨r1, e1⟩ := h2 e
      refine ⟨fun ha => by simp [e] at ha, fun _ => ⟨r1, by rw [loopF, e1]; rfl⟩⟩
/-- turns that draw, whatever they leave -/
theorem loopF_ix {f : D → Rho → Tw → Res (Fl × Rho)} (I : Nat → Rho → Tw → Prop) : ∀ (xs : List D) (r : Rho) (t : Tw) (n : Nat), I (n + xs.length) r t → (∀ d ∈ xs, ∀ n r t, I (n + 1) r t → ∃ r' t', f d r t = .ok (.nx, r') t' ∧ I n r' t') → ∃ r' t', loopF f xs r t = .ok (.nx, r') t' ∧ I n r' t'
  | [], r, t, n, h, _ => ⟨r, t, rfl, h⟩
  | d :: ds, r, t, n, h, hf => by
    obtain ⟨r1, t1, e, h1⟩ := hf d (List.mem_cons_self ..) (n + ds.length) r t (by rw [List.length_cons] at h; exact h)
    obtain ⟨r2, t2, e2, h2⟩ := loopF_ix I ds r1 t1 n h1 fun d' m => hf d' (List.mem_cons_of_mem _ m)
    exact ⟨r2, t2, by rw [loopF, e]; exact e2, h2⟩
theorem seq_nx {G : Gam} {cs : Nat → D} {s : S} {q : Ss} {r r1 : Rho} {t t1 : Tw} (h : evS G cs s r t = .ok (.nx, r1) t1) : evSs G cs (.cons s q) r t = evSs G cs q r1 t1 := by
  rw [x_evSs_cons, x_consE, h]
  rfl
theorem seq_ret {G : Gam} {cs : Nat → D} {s : S} {q : Ss} {r r1 : Rho} {t t1 : Tw} {d : D} (h : evS G cs s r t = .ok (.ret d, r1) t1) : evSs G cs (.cons s q) r t = .ok (.ret d, r1) t1 := by
  rw [x_evSs_cons, x_consE, h]
  rfl
/-! ### == -/
theorem x_eqL0 {xs : List D} (h : lay (.lst xs) = true) : eqOp (.lst xs) (.lst []) = some (.bl xs.isEmpty) := by
  have e : dep (.lst []) = 1 := by simp [dep, D.py, pys, PyData.depth, PyData.depthAll]
  have l : lay (.lst []) = true := by simp [lay, D.py, pys, PyData.canLay0, PyData.canLayAll0]
  have m : min (dep (.lst xs)) 1 ≤ 190 := Nat.le_trans (Nat.min_le_right ..) (by omega)
  simp only [eqOp, okEq, h, l, e, m, decide_true, Bool.and_self, if_true]
  cases xs <;> simp [eqD, D.py, pys, PyData.eqv, PyData.eqvAll]
theorem x_neL0 {xs : List D} (h : lay (.lst xs) = true) : neOp (.lst xs) (.lst []) = some (.bl (!xs.isEmpty)) := by
  have e : dep (.lst []) = 1 := by simp [dep, D.py, pys, PyData.depth, PyData.depthAll]
  have l : lay (.lst []) = true := by simp [lay, D.py, pys, PyData.canLay0, PyData.canLayAll0]
  have m : min (dep (.lst xs)) 1 ≤ 190 := Nat.le_trans (Nat.min_le_right ..) (by omega)
  simp only [neOp, okEq, h, l, e, m, decide_true, Bool.and_self, if_true]
  cases xs <;> simp [eqD, D.py, pys, PyData.eqv, PyData.eqvAll]
theorem x_ne0 {xs : List D} (h : lay (.tup xs) = true) : neOp (.tup xs) (.tup []) = some (.bl (!xs.isEmpty)) := by
  have e : dep (.tup []) = 1 := by simp [dep, D.py, pys, PyData.depth, PyData.depthAll]
  have l : lay (.tup []) = true := by simp [lay, D.py, pys, PyData.canLay0, PyData.canLayAll0]
  have m : min (dep (.tup xs)) 1 ≤ 190 := Nat.le_trans (Nat.min_le_right ..) (by omega)
  simp only [neOp, okEq, h, l, e, m, decide_true, Bool.and_self, if_true]
  cases xs <;> simp [eqD, D.py, pys, PyData.eqv, PyData.eqvAll]
/-- two fractions -/
theorem x_eqf (a b c d : Int) : eqOp (.tup [.int a, .int b]) (.tup [.int c, .int d]) = some (.bl (decide (a = c ∧ b = d))) := by
  simp [eqOp, okEq, lay, dep, D.py, pys, PyData.canLay0, PyData.canLayAll0, PyData.depth, PyData.depthAll, eqD, PyData.eqv, PyData.eqvAll]
  by_cases h : a = c <;> by_cases h2 : b = d <;> simp [h, h2]
theorem x_nef (a b c d : Int) : neOp (.tup [.int a, .int b]) (.tup [.int c, .int d]) = some (.bl (!decide (a = c ∧ b = d))) := by
  simp [neOp, okEq, lay, dep, D.py, pys, PyData.canLay0, PyData.canLayAll0, PyData.depth, PyData.depthAll, eqD, PyData.eqv, PyData.eqvAll]
  by_cases h : a = c <;> by_cases h2 : b = d <;> simp [h, h2]
/-! ### ints in order -/
theorem srtI_strict {xs : List Int} (h : xs.Nodup) : (srtI xs).Pairwise (· < ·) := by
  have h1 := srtI_sorted xs
  have h2 : (srtI xs).Nodup := (srtI_perm xs).nodup_iff.mpr h
  have := List.Pairwise.and h1 h2
  exact this.imp fun ⟨a, b⟩ => by omega
/-! ### dicts -/
theorem putD_len (kvs : List (Key × D)) (k : Key) (d : D) : (putD kvs k d).length ≤ kvs.length + 1 := by
  unfold putD
  split <;> simp
theorem putD_keys (kvs : List (Key × D)) (k : Key) (d : D) : (putD kvs k d).map (·.1) = if kvs.any (fun kv => decide (kv.1 = k)) then kvs.map (·.1) else kvs.map (·.1) ++ [k] := by
  unfold putD
  split
  · rw [List.map_map]
    refine List.map_congr_left fun p _ => ?_
    simp only [Function.comp]
    split <;> rfl
  · simp
theorem putD_nodup {kvs : List (Key × D)} (h : (kvs.map (·.1)).Nodup) (k : Key) (d : D) : ((putD kvs k d).map (·.1)).Nodup := by
  rw [putD_keys]
  split
  · exact h
  · rename_i h2
    refine List.nodup_append.mpr ⟨h, by simp, fun a ha b hb e => ?_⟩
    have hb : b = k := by simpa using hb
    subst e
    subst hb
    obtain ⟨p, hp, e⟩ := List.mem_map.mp ha
    exact h2 (List.any_eq_true.mpr ⟨p, hp, by simp [e]⟩)
theorem putD_mem {kvs : List (Key × D)} {k : Key} {d : D} {p : Key × D} (h : p ∈ putD kvs k d) : p ∈ kvs ∨ p = (k, d) := by
  unfold putD at h
  split at h
  · obtain ⟨q, hq, e⟩ := List.mem_map.mp h
    split at e
    · rename_i e2
      right
      rw [← e, e2]
    · left
      rw [← e]
      exact hq
  · rcases List.mem_append.mp h with h | h
    · exact .inl h
    · exact .inr (by simpa using h)
theorem lookD_some {kvs : List (Key × D)} {k : Key} (h : k ∈ kvs.map (·.1)) : ∃ d, lookD kvs k = some d ∧ (k, d) ∈ kvs := by
  unfold lookD
  obtain ⟨p, hp, e⟩ := List.mem_map.mp h
  have hs : (kvs.find? fun kv => decide (kv.1 = k)).isSome := List.find?_isSome.mpr ⟨p, hp, by simp [e]⟩
  obtain ⟨q, hq⟩ := Option.isSome_iff_exists.mp hs
  refine ⟨q.2, by rw [hq]; rfl, ?_⟩
  have h1 := List.find?_some hq
  have h2 := List.mem_of_find?_eq_some hq
  have h1 : q.1 = k := of_decide_eq_true h1
  rw [← h1]
  exact h2
theorem keysI_map : ∀ {kvs : List (Key × D)} {ns : List Int}, kvs.map (·.1) = ns.map Sum.inl → keysI kvs = some ns
  | [], [], _ => rfl
  | [], _ :: _, h => by cases h
  | _ :: _, [], h => by cases h
  | (k, d) :: kvs, n :: ns, h => by
    simp only [List.map_cons, List.cons.injEq] at h
    obtain ⟨rfl, h2⟩ := h
    simp [keysI, keysI_map h2]
theorem for_ev {G : Gam} {cs : Nat → D} {tg : Tg} {it : I} {b : Ss} {r : Rho} {t t1 : Tw} {xs : List D} (hi : evI G cs it r t = .ok xs t1) : evS G cs (.for tg it b) r t = loopF (fun d r t => match setT tg d r with
    | some r1 => evSs G cs b r1 t
    | none => .bad) xs r t1 := by
  rw [evS_for]
  unfold forE
  rw [hi]
  rfl
end Fm

namespace Lw
open PySem PySem.Spec PyProof.Rows L2 Fm
def top (i : Nat) : Stmt := PySem.Challenge.pw_formclear_k22_parts.main.body.getD i (.Pass ⟨0, 0, 0, 0⟩)
def i_is_whole : Nat := 0
def b_is_whole : Ss := (.cons (.ite (.or (.not (.isa (.var 0) .int)) (.isa (.var 0) .bool)) (.cons (.ret (.cst (.bl false))) .nil) .nil) (.cons (.ret (.or (.cmp .Is (.var 1) (.cst .non)) (.cmp .GtE (.var 0) (.var 1)))) .nil))
def f_is_whole : Fd := ⟨["thing", "least"], ["thing", "least"], b_is_whole⟩
def b_greatest_1 : Ss := (.cons (.par [0, 1] (.cons (.var 1) (.cons (.bin .Mod (.var 0) (.var 1)) .nil))) .nil)
def i_greatest : Nat := 1
def b_greatest : Ss := (.cons (.par [0, 1] (.cons (.blt .abs (.var 0)) (.cons (.blt .abs (.var 1)) .nil))) (.cons (.while (.cmp .Gt (.var 1) (.cst (.int 0))) b_greatest_1) (.cons (.ret (.var 0)) .nil)))
def f_greatest : Fd := ⟨["one", "other"], ["one", "other"], b_greatest⟩
def i_is_fraction : Nat := 2
def b_is_fraction : Ss := (.cons (.ite (.or (.not (.isa (.var 0) .tuple)) (.or (.cmp .NotEq (.blt .len (.var 0)) (.cst (.int 2))) (.or (.not (.call 0 (.cons (.ix (.var 0) (.cst (.int 0))) .nil) .nil)) (.not (.call 1 (.cons (.ix (.var 0) (.cst (.int 1))) .nil) (.cons (.cst (.int 1)) .nil)))))) (.cons (.ret (.cst (.bl false))) .nil) .nil) (.cons (.ret (.cmp .Eq (.call 2 (.cons (.ix (.var 0) (.cst (.int 0))) (.cons (.ix (.var 0) (.cst (.int 1))) .nil)) .nil) (.cst (.int 1)))) .nil))
def f_is_fraction : Fd := ⟨["thing"], ["thing"], b_is_fraction⟩
def i_is_name : Nat := 3
def b_is_name : Ss := (.cons (.ret (.and (.isa (.var 0) .str) (.and (.chain .LtE .LtE (.cst (.int 1)) (.blt .len (.var 0)) (.cst (.int 8))) (.blt .all (.comp [("mark", 1)] (.cmp .In (.var 1) (.glob 0)) (.name 1) (.val (.var 0)) .none))))) .nil)
def f_is_name : Fd := ⟨["thing"], ["thing", "mark"], b_is_name⟩
def i_is_formula : Nat := 4
def b_is_formula : Ss := (.cons (.ite (.or (.not (.isa (.var 0) .tuple)) (.or (.cmp .Eq (.var 0) (.tup .nil)) (.not (.isa (.ix (.var 0) (.cst (.int 0))) .str)))) (.cons (.ret (.cst (.bl false))) .nil) .nil) (.cons (.star 1 2 (.var 0)) (.cons (.ite (.cmp .In (.var 1) (.tup (.cons (.cst (.str "num")) (.cons (.cst (.str "name")) .nil)))) (.cons (.ret (.and (.cmp .Eq (.blt .len (.var 2)) (.cst (.int 1))) (.ite (.cmp .Eq (.var 1) (.cst (.str "num"))) (.call 3 (.cons (.ix (.var 2) (.cst (.int 0))) .nil) .nil) (.call 4 (.cons (.ix (.var 2) (.cst (.int 0))) .nil) .nil)))) .nil) .nil) (.cons (.ite (.cmp .In (.var 1) (.glob 1)) (.cons (.ite (.or (.cmp .NotEq (.blt .len (.var 2)) (.cst (.int 1))) (.or (.not (.isa (.ix (.var 2) (.cst (.int 0))) .tuple)) (.cmp .Lt (.blt .len (.ix (.var 2) (.cst (.int 0)))) (.cst (.int 2))))) (.cons (.ret (.cst (.bl false))) .nil) .nil) (.cons (.ret (.blt .all (.comp [("part", 3)] (.call 5 (.cons (.var 3) .nil) .nil) (.name 3) (.val (.ix (.var 2) (.cst (.int 0)))) .none))) .nil)) .nil) (.cons (.ite (.cmp .Eq (.var 1) (.cst (.str "pow"))) (.cons (.ret (.and (.cmp .Eq (.blt .len (.var 2)) (.cst (.int 2))) (.and (.call 5 (.cons (.ix (.var 2) (.cst (.int 0))) .nil) .nil) (.call 1 (.cons (.ix (.var 2) (.cst (.int 1))) .nil) (.cons (.cst (.int 0)) .nil))))) .nil) .nil) (.cons (.asg (.name 4) (.get (.dsp [("div", (.int 2)), ("abs", (.int 1)), ("root", (.int 1))]) (.var 1) (.neg (.cst (.int 1))))) (.cons (.ret (.and (.cmp .Eq (.blt .len (.var 2)) (.var 4)) (.blt .all (.comp [("part", 3)] (.call 5 (.cons (.var 3) .nil) .nil) (.name 3) (.val (.var 2)) .none)))) .nil)))))))
def f_is_formula : Fd := ⟨["thing"], ["thing", "word", "rest", "part", "size"], b_is_formula⟩
def i_parts_of : Nat := 5
def b_parts_of : Ss := (.cons (.star 1 2 (.var 0)) (.cons (.ite (.cmp .In (.var 1) (.tup (.cons (.cst (.str "num")) (.cons (.cst (.str "name")) .nil)))) (.cons (.ret (.tup .nil)) .nil) .nil) (.cons (.ite (.cmp .In (.var 1) (.glob 1)) (.cons (.ret (.ix (.var 2) (.cst (.int 0)))) .nil) .nil) (.cons (.ret (.ite (.cmp .Eq (.var 1) (.cst (.str "pow"))) (.tup (.cons (.ix (.var 2) (.cst (.int 0))) .nil)) (.blt .tuple (.var 2)))) .nil))))
def f_parts_of : Fd := ⟨["formula"], ["formula", "word", "rest"], b_parts_of⟩
def i_with_parts : Nat := 6
def b_with_parts : Ss := (.cons (.star 2 3 (.var 0)) (.cons (.ite (.cmp .In (.var 2) (.tup (.cons (.cst (.str "num")) (.cons (.cst (.str "name")) .nil)))) (.cons (.ret (.var 0)) .nil) .nil) (.cons (.ite (.cmp .In (.var 2) (.glob 1)) (.cons (.ret (.tup (.cons (.var 2) (.cons (.var 1) .nil)))) .nil) .nil) (.cons (.ret (.ite (.cmp .Eq (.var 2) (.cst (.str "pow"))) (.tup (.cons (.var 2) (.cons (.ix (.var 1) (.cst (.int 0))) (.cons (.ix (.var 3) (.cst (.int 1))) .nil)))) (.bin .Add (.tup (.cons (.var 2) .nil)) (.var 1)))) .nil))))
def f_with_parts : Fd := ⟨["formula", "parts"], ["formula", "parts", "word", "rest"], b_with_parts⟩
def b_part_at_1 : Ss := (.cons (.asg (.name 3) (.call 6 (.cons (.var 0) .nil) .nil)) (.cons (.ite (.or (.not (.call 1 (.cons (.var 2) .nil) (.cons (.cst (.int 0)) .nil))) (.cmp .GtE (.var 2) (.blt .len (.var 3)))) (.cons (.raise 5 "no such path") .nil) .nil) (.cons (.asg (.name 0) (.ix (.var 3) (.var 2))) .nil)))
def i_part_at : Nat := 7
def b_part_at : Ss := (.cons (.for (.name 2) (.val (.var 1)) b_part_at_1) (.cons (.ret (.var 0)) .nil))
def f_part_at : Fd := ⟨["formula", "path"], ["formula", "path", "step", "some"], b_part_at⟩
def i_with_part : Nat := 8
def b_with_part : Ss := (.cons (.exp (.call 7 (.cons (.var 0) (.cons (.var 1) .nil)) .nil)) (.cons (.ite (.cmp .Eq (.var 1) (.tup .nil)) (.cons (.ret (.var 2)) .nil) .nil) (.cons (.new 3 (.blt .list (.call 6 (.cons (.var 0) .nil) .nil))) (.cons (.putL 3 (.ix (.var 1) (.cst (.int 0))) (.call 8 (.cons (.ix (.bor 3) (.ix (.var 1) (.cst (.int 0)))) (.cons (.cut (.var 1) (.some (.cst (.int 1))) .none) (.cons (.var 2) .nil))) .nil)) (.cons (.ret (.call 9 (.cons (.var 0) (.cons (.blt .tuple (.bor 3)) .nil)) .nil)) .nil)))))
def f_with_part : Fd := ⟨["formula", "path", "other"], ["formula", "path", "other", "some"], b_with_part⟩
def i__law_draw : Nat := 9
def b__law_draw : Ss := (.cons (.tcnt 1 (.bin .Add (.tcount 1) (.cst (.int 1)))) (.cons (.asg (.name 3) (.ite (.var 0) (.bin .Mod (.tcount 1) (.blt .len (.var 0))) (.cst (.int 0)))) (.cons (.asg (.name 4) (.tget 1 (.var 3) (.ite (.var 0) (.ix (.var 0) (.var 3)) (.cst (.int 0))))) (.cons (.ite (.cmp .GtE (.var 4) (.bin .Pow (.cst (.int 10)) (.cst (.int 18)))) (.cons (.trst 1 (.var 3) (.bin .FloorDiv (.var 4) (.var 2))) (.cons (.ret (.bin .Mod (.var 4) (.var 2))) .nil)) .nil) (.cons (.asg (.name 5) (.bin .Mod (.bin .Add (.var 4) (.bin .Mult (.cst (.int 104729)) (.tcount 1))) (.cst (.int 4294967291)))) (.cons (.asg (.name 5) (.bin .Mod (.bin .Pow (.var 5) (.cst (.int 5))) (.cst (.int 4294967279)))) (.cons (.ret (.bin .Mod (.bin .FloorDiv (.bin .Mod (.bin .Add (.bin .Mult (.bin .FloorDiv (.var 5) (.cst (.int 64))) (.cst (.int 69621))) (.var 5)) (.cst (.int 4294967231))) (.cst (.int 8))) (.var 2))) .nil)))))))
def f__law_draw : Fd := ⟨["script", "town", "many"], ["script", "town", "many", "at", "rest", "number"], b__law_draw⟩
def b__law_frac_1 : Ss := (.cons (.par [2, 3] (.cons (.var 3) (.cons (.bin .Mod (.var 2) (.var 3)) .nil))) .nil)
def i__law_frac : Nat := 10
def b__law_frac : Ss := (.cons (.par [2, 3] (.cons (.blt .abs (.var 0)) (.cons (.blt .abs (.var 1)) .nil))) (.cons (.while (.cmp .Gt (.var 3) (.cst (.int 0))) b__law_frac_1) (.cons (.asg (.name 2) (.ite (.cmp .Gt (.var 1) (.cst (.int 0))) (.var 2) (.bin .Sub (.cst (.int 0)) (.var 2)))) (.cons (.ret (.tup (.cons (.bin .FloorDiv (.var 0) (.var 2)) (.cons (.bin .FloorDiv (.var 1) (.var 2)) .nil)))) .nil))))
def f__law_frac : Fd := ⟨["top", "bottom"], ["top", "bottom", "one", "other"], b__law_frac⟩
def i__law_a_frac : Nat := 11
def b__law_a_frac : Ss := (.cons (.ret (.call 10 (.cons (.bin .Sub (.call 11 (.cons (.var 0) (.cons (.var 1) (.cons (.bin .Add (.bin .Mult (.cst (.int 2)) (.var 2)) (.cst (.int 1))) .nil))) .nil) (.var 2)) (.cons (.bin .Add (.cst (.int 1)) (.call 11 (.cons (.var 0) (.cons (.var 1) (.cons (.cst (.int 3)) .nil))) .nil)) .nil)) .nil)) .nil)
def f__law_a_frac : Fd := ⟨["script", "town", "size"], ["script", "town", "size"], b__law_a_frac⟩
def i__law_a_formula : Nat := 12
def b__law_a_formula : Ss := (.cons (.ite (.or (.cmp .Eq (.var 2) (.cst (.int 0))) (.cmp .Eq (.call 11 (.cons (.var 0) (.cons (.var 1) (.cons (.cst (.int 5)) .nil))) .nil) (.cst (.int 0)))) (.cons (.asg (.name 4) (.call 11 (.cons (.var 0) (.cons (.var 1) (.cons (.cst (.int 3)) .nil))) .nil)) (.cons (.ite (.cmp .Eq (.var 4) (.cst (.int 0))) (.cons (.ret (.tup (.cons (.cst (.str "num")) (.cons (.call 12 (.cons (.var 0) (.cons (.var 1) (.cons (.cst (.int 4)) .nil))) .nil) .nil)))) .nil) .nil) (.cons (.ret (.tup (.cons (.cst (.str "name")) (.cons (.ix (.cst (.str "xy")) (.bin .Sub (.var 4) (.cst (.int 1)))) .nil)))) .nil))) .nil) (.cons (.asg (.name 5) (.ix (.var 3) (.call 11 (.cons (.var 0) (.cons (.var 1) (.cons (.blt .len (.var 3)) .nil))) .nil))) (.cons (.ite (.cmp .In (.var 5) (.tup (.cons (.cst (.str "add")) (.cons (.cst (.str "mul")) .nil)))) (.cons (.asg (.name 6) (.bin .Add (.cst (.int 2)) (.call 11 (.cons (.var 0) (.cons (.var 1) (.cons (.cst (.int 2)) .nil))) .nil))) (.cons (.ret (.tup (.cons (.var 5) (.cons (.blt .tuple (.comp [("k", 7)] (.call 13 (.cons (.var 0) (.cons (.var 1) (.cons (.bin .Sub (.var 2) (.cst (.int 1))) (.cons (.var 3) .nil)))) .nil) (.name 7) (.rng1 (.var 6)) .none)) .nil)))) .nil)) .nil) (.cons (.asg (.name 8) (.call 13 (.cons (.var 0) (.cons (.var 1) (.cons (.bin .Sub (.var 2) (.cst (.int 1))) (.cons (.var 3) .nil)))) .nil)) (.cons (.ite (.cmp .Eq (.var 5) (.cst (.str "pow"))) (.cons (.ret (.tup (.cons (.cst (.str "pow")) (.cons (.var 8) (.cons (.call 11 (.cons (.var 0) (.cons (.var 1) (.cons (.cst (.int 4)) .nil))) .nil) .nil))))) .nil) .nil) (.cons (.ite (.cmp .Eq (.var 5) (.cst (.str "div"))) (.cons (.ret (.tup (.cons (.cst (.str "div")) (.cons (.var 8) (.cons (.call 13 (.cons (.var 0) (.cons (.var 1) (.cons (.bin .Sub (.var 2) (.cst (.int 1))) (.cons (.var 3) .nil)))) .nil) .nil))))) .nil) .nil) (.cons (.ret (.tup (.cons (.var 5) (.cons (.var 8) .nil)))) .nil)))))))
def f__law_a_formula : Fd := ⟨["script", "town", "deep", "words"], ["script", "town", "deep", "words", "turn", "word", "size", "k", "one"], b__law_a_formula⟩
def b__law_parts_1 : Ss := (.cons (.asg (.name 2) (.cat (.var 2) (.comp [("path", 5), ("one", 6)] (.tup (.cons (.bin .Add (.tup (.cons (.var 3) .nil)) (.var 5)) (.cons (.var 6) .nil))) (.tup (.cons (.name 5) (.cons (.name 6) .nil))) (.val (.call 14 (.cons (.var 4) .nil) .nil)) .none))) .nil)
def i__law_parts : Nat := 13
def b__law_parts : Ss := (.cons (.asg (.name 1) (.lst .nil)) (.cons (.ite (.cmp .In (.ix (.var 0) (.cst (.int 0))) (.tup (.cons (.cst (.str "add")) (.cons (.cst (.str "mul")) .nil)))) (.cons (.asg (.name 1) (.blt .list (.ix (.var 0) (.cst (.int 1))))) .nil) (.cons (.ite (.cmp .In (.ix (.var 0) (.cst (.int 0))) (.tup (.cons (.cst (.str "div")) (.cons (.cst (.str "abs")) (.cons (.cst (.str "root")) .nil))))) (.cons (.asg (.name 1) (.blt .list (.cut (.var 0) (.some (.cst (.int 1))) .none))) .nil) (.cons (.ite (.cmp .Eq (.ix (.var 0) (.cst (.int 0))) (.cst (.str "pow"))) (.cons (.asg (.name 1) (.lst (.cons (.ix (.var 0) (.cst (.int 1))) .nil))) .nil) .nil) .nil)) .nil)) (.cons (.asg (.name 2) (.lst (.cons (.tup (.cons (.tup .nil) (.cons (.var 0) .nil))) .nil))) (.cons (.for (.tup (.cons (.name 3) (.cons (.name 4) .nil))) (.enum (.var 1)) b__law_parts_1) (.cons (.ret (.var 2)) .nil)))))
def f__law_parts : Fd := ⟨["formula"], ["formula", "inner_ones", "found", "place", "part", "path", "one"], b__law_parts⟩
def b_law_3 : Ss := (.cons (.ite (.and (.cmp .NotEq (.cut (.var 11) .none (.some (.blt .len (.var 8)))) (.var 8)) (.and (.cmp .NotEq (.cut (.var 8) .none (.some (.blt .len (.var 11)))) (.var 11)) (.cmp .NotEq (.var 12) (.call 7 (.cons (.var 4) (.cons (.var 11) .nil)) .nil)))) (.cons (.ret (.cst (.bl false))) .nil) .nil) .nil)
def b_law_2 : Ss := (.cons (.asg (.name 10) (.call 8 (.cons (.var 4) (.cons (.var 8) (.cons (.var 5) .nil))) .nil)) (.cons (.ite (.or (.cmp .NotEq (.call 7 (.cons (.var 4) (.cons (.var 8) .nil)) .nil) (.var 9)) (.or (.cmp .NotEq (.call 7 (.cons (.var 10) (.cons (.var 8) .nil)) .nil) (.var 5)) (.not (.call 5 (.cons (.var 10) .nil) .nil)))) (.cons (.ret (.cst (.bl false))) .nil) .nil) (.cons (.for (.tup (.cons (.name 11) (.cons (.name 12) .nil))) (.val (.call 14 (.cons (.var 10) .nil) .nil)) b_law_3) (.cons (.ite (.cmp .NotEq (.call 8 (.cons (.var 10) (.cons (.var 8) (.cons (.var 9) .nil))) .nil) (.var 4)) (.cons (.ret (.cst (.bl false))) .nil) .nil) .nil))))
def b_law_4 : Ss := (.cons (.ite (.cmp .NotIn (.bin .Add (.var 8) (.tup (.cons (.var 13) .nil))) (.var 7)) (.cons (.ite (.cmp .NotEq (.heard (.call 7 (.cons (.var 4) (.cons (.bin .Add (.var 8) (.tup (.cons (.var 13) .nil))) .nil)) .nil)) (.tup (.cons (.cst (.str "no path")) .nil))) (.cons (.ret (.cst (.bl false))) .nil) .nil) (.cons (.ite (.cmp .NotEq (.heard (.call 8 (.cons (.var 4) (.cons (.bin .Add (.var 8) (.tup (.cons (.var 13) .nil))) (.cons (.var 5) .nil))) .nil)) (.tup (.cons (.cst (.str "no path")) .nil))) (.cons (.ret (.cst (.bl false))) .nil) .nil) .nil)) .nil) .nil)
def b_law_1 : Ss := (.cons (.asg (.name 3) (.lst (.cons (.cst (.str "add")) (.cons (.cst (.str "mul")) (.cons (.cst (.str "pow")) (.cons (.cst (.str "div")) (.cons (.cst (.str "abs")) (.cons (.cst (.str "root")) .nil)))))))) (.cons (.asg (.tup (.cons (.name 4) (.cons (.name 5) .nil))) (.tup (.cons (.call 13 (.cons (.var 0) (.cons (.var 1) (.cons (.cst (.int 3)) (.cons (.var 3) .nil)))) .nil) (.cons (.call 13 (.cons (.var 0) (.cons (.var 1) (.cons (.cst (.int 1)) (.cons (.var 3) .nil)))) .nil) .nil)))) (.cons (.asg (.name 6) (.call 14 (.cons (.var 4) .nil) .nil)) (.cons (.asg (.name 7) (.comp [("path", 8), ("part", 9)] (.var 8) (.tup (.cons (.name 8) (.cons (.name 9) .nil))) (.val (.var 6)) .none)) (.cons (.for (.tup (.cons (.name 8) (.cons (.name 9) .nil))) (.val (.var 6)) b_law_2) (.cons (.asg (.name 8) (.ix (.var 7) (.call 11 (.cons (.var 0) (.cons (.var 1) (.cons (.blt .len (.var 7)) .nil))) .nil))) (.cons (.for (.name 13) (.val (.tup (.cons (.cst (.int 0)) (.cons (.cst (.int 1)) (.cons (.cst (.int 2)) (.cons (.cst (.int 3)) (.cons (.neg (.cst (.int 1))) .nil))))))) b_law_4) .nil)))))))
def b_law : Ss := (.cons (.for (.name 2) (.rng1 (.cst (.int 4))) b_law_1) (.cons (.ret (.cst (.bl true))) .nil))
def n_law : List Str := ["script", "town", "k", "words", "one", "two", "every", "paths", "path", "part", "fresh", "place", "mine", "step"]
def s0 : Sh := ⟨"is_whole", 1, [], [.non], 0⟩
def s1 : Sh := ⟨"is_whole", 1, ["least"], [], 0⟩
def s2 : Sh := ⟨"greatest", 2, [], [], 1⟩
def s3 : Sh := ⟨"is_fraction", 1, [], [], 2⟩
def s4 : Sh := ⟨"is_name", 1, [], [], 3⟩
def s5 : Sh := ⟨"is_formula", 1, [], [], 4⟩
def s6 : Sh := ⟨"parts_of", 1, [], [], 5⟩
def s7 : Sh := ⟨"part_at", 2, [], [], 7⟩
def s8 : Sh := ⟨"with_part", 3, [], [], 8⟩
def s9 : Sh := ⟨"with_parts", 2, [], [], 6⟩
def s10 : Sh := ⟨"_law_frac", 2, [], [], 10⟩
def s11 : Sh := ⟨"_law_draw", 3, [], [], 9⟩
def s12 : Sh := ⟨"_law_a_frac", 3, [], [], 11⟩
def s13 : Sh := ⟨"_law_a_formula", 4, [], [], 12⟩
def s14 : Sh := ⟨"_law_parts", 1, [], [], 13⟩
def shs : List Sh := [s0, s1, s2, s3, s4, s5, s6, s7, s8, s9, s10, s11, s12, s13, s14]
def exs : List (Nat × Str) := [(0, "NoRoot"), (1, "NoForm"), (2, "ByNought"), (3, "NoQuotient"), (4, "NoName"), (5, "NoPath"), (6, "Spent"), (7, "BadWord"), (8, "NoText")]
abbrev hd : Bool := true
def cst : List (Str × D) := [("LETTERS", (D.str "abcdefghijklmnopqrstuvwxyz")), ("MANY", (D.tup [(D.str "add"), (D.str "mul")]))]
def fs : List Fd := [f_is_whole, f_greatest, f_is_fraction, f_is_name, f_is_formula, f_parts_of, f_with_parts, f_part_at, f_with_part, f__law_draw, f__law_frac, f__law_a_frac, f__law_a_formula, f__law_parts]
abbrev tb : Tb := ⟨shs, cst.map (·.1), exs, hd⟩
abbrev p : Pg := ⟨tb, fs.map .df, csOf cst⟩
def d_is_whole : He.DefD := ⟨("is_whole", none), "is_whole", "is_whole", defArgs (top 12), defBody (top 12), defScope (top 12), [], [("least", .non)]⟩
def d_greatest : He.DefD := ⟨("greatest", none), "greatest", "greatest", defArgs (top 13), defBody (top 13), defScope (top 13), [], []⟩
def d_is_fraction : He.DefD := ⟨("is_fraction", none), "is_fraction", "is_fraction", defArgs (top 14), defBody (top 14), defScope (top 14), [], []⟩
def d_is_name : He.DefD := ⟨("is_name", none), "is_name", "is_name", defArgs (top 17), defBody (top 17), defScope (top 17), [], []⟩
def d_is_formula : He.DefD := ⟨("is_formula", none), "is_formula", "is_formula", defArgs (top 20), defBody (top 20), defScope (top 20), [], []⟩
def d_parts_of : He.DefD := ⟨("parts_of", none), "parts_of", "parts_of", defArgs (top 21), defBody (top 21), defScope (top 21), [], []⟩
def d_with_parts : He.DefD := ⟨("with_parts", none), "with_parts", "with_parts", defArgs (top 22), defBody (top 22), defScope (top 22), [], []⟩
def d_part_at : He.DefD := ⟨("part_at", none), "part_at", "part_at", defArgs (top 23), defBody (top 23), defScope (top 23), [], []⟩
def d_with_part : He.DefD := ⟨("with_part", none), "with_part", "with_part", defArgs (top 24), defBody (top 24), defScope (top 24), [], []⟩
def d__law_draw : He.DefD := ⟨("_law_draw", none), "_law_draw", "_law_draw", defArgs (top 27), defBody (top 27), defScope (top 27), [], []⟩
def d__law_frac : He.DefD := ⟨("_law_frac", none), "_law_frac", "_law_frac", defArgs (top 29), defBody (top 29), defScope (top 29), [], []⟩
def d__law_a_frac : He.DefD := ⟨("_law_a_frac", none), "_law_a_frac", "_law_a_frac", defArgs (top 30), defBody (top 30), defScope (top 30), [], []⟩
def d__law_a_formula : He.DefD := ⟨("_law_a_formula", none), "_law_a_formula", "_law_a_formula", defArgs (top 31), defBody (top 31), defScope (top 31), [], []⟩
def d__law_parts : He.DefD := ⟨("_law_parts", none), "_law_parts", "_law_parts", defArgs (top 32), defBody (top 32), defScope (top 32), [], []⟩
def d__law_begun : He.DefD := ⟨("_law_begun", none), "_law_begun", "_law_begun", defArgs (top 28), defBody (top 28), defScope (top 28), [], []⟩
def d_law : He.DefD := ⟨("law", none), "law", "law", defArgs (top 33), defBody (top 33), defScope (top 33), [], []⟩
def d__law_heard : He.DefD := ⟨("_law_heard", none), "_law_heard", "_law_heard", defArgs (top 26), defBody (top 26), defScope (top 26), [], []⟩
def fn : List He.DefD := [d_is_whole, d_greatest, d_is_fraction, d_is_name, d_is_formula, d_parts_of, d_with_parts, d_part_at, d_with_part, d__law_draw, d__law_frac, d__law_a_frac, d__law_a_formula, d__law_parts, d__law_begun, d_law, d__law_heard]
abbrev fa : List He.Fa := faOf fn exs hd
theorem chk : okDefs tb fs fn = true := by decide +kernel
theorem chkL : okLaw tb n_law b_law d_law d__law_begun = true := by decide +kernel
theorem chkH : okHeard d__law_heard exs = true := by decide +kernel
theorem hear : hd = true → HearIs fn exs d__law_heard 16 := fun _ => ⟨rfl, chkH, fun _ _ _ _ _ _ us hl => match us, hl with | [_], _ => rfl⟩
theorem bn0 {K : PySem.W.Frag} {mg : Str → Option Value} {fd : FuncData} (F : FunD K d_is_whole.name d_is_whole.qual d_is_whole.params d_is_whole.body d_is_whole.scope (d_is_whole.dvs K) (d_is_whole.kws K) (He.fAd K d_is_whole.at_) fd) (g : mg "is_whole" = some (.ref (He.fAd K d_is_whole.at_))) : Bnd K mg s0 (He.fAd K d_is_whole.at_) fd ["thing", "least"] := by
  refine ⟨g, F.kp, rfl, fun _ => ?_, fun z => absurd rfl z⟩
  exact FunD.binds0 (ps := ["thing", "least"]) F 1 (by simp [He.DefD.kws, d_is_whole]) rfl fun D doc pm an cdv ct us ks h1 h2 => match us, ks, h1, h2 with | [_], [_], _, _ => ⟨_, _, _, _, _, _, rfl, rfl, rfl⟩
theorem bn1 {K : PySem.W.Frag} {mg : Str → Option Value} {fd : FuncData} (F : FunD K d_is_whole.name d_is_whole.qual d_is_whole.params d_is_whole.body d_is_whole.scope (d_is_whole.dvs K) (d_is_whole.kws K) (He.fAd K d_is_whole.at_) fd) (g : mg "is_whole" = some (.ref (He.fAd K d_is_whole.at_))) : Bnd K mg s1 (He.fAd K d_is_whole.at_) fd ["thing", "least"] := by
  refine ⟨g, F.kp, rfl, fun z => absurd z (by decide), fun _ => ?_⟩
  obtain ⟨mv, h⟩ := FunD.kbinds0 (ps := ["thing", "least"]) F 1 ["least"] [] (fun vs _ zs => vs ++ zs ++ []) (by simp [He.DefD.kws, d_is_whole]) (fun q hq => by cases hq) (fun r1 _ r3 => (r1.append r3).append .nil) fun D doc pm an cdv ct us mv ws h1 h2 h3 => match us, mv, ws, h1, h2, h3 with | [_], [], [_], _, _, _ => (by show bindArgs _ _ = pure _; rfl)
  exact ⟨_, h⟩
theorem bn2 {K : PySem.W.Frag} {mg : Str → Option Value} {fd : FuncData} (F : FunD K d_greatest.name d_greatest.qual d_greatest.params d_greatest.body d_greatest.scope (d_greatest.dvs K) (d_greatest.kws K) (He.fAd K d_greatest.at_) fd) (g : mg "greatest" = some (.ref (He.fAd K d_greatest.at_))) : Bnd K mg s2 (He.fAd K d_greatest.at_) fd ["one", "other"] := by
  exact ⟨g, F.kp, rfl, fun _ => ⟨[], .nil, FunD.bindsN (ps := ["one", "other"]) F fun _ _ _ _ _ _ us hl => match us, hl with | [_, _], _ => rfl⟩, fun z => absurd rfl z⟩
theorem bn3 {K : PySem.W.Frag} {mg : Str → Option Value} {fd : FuncData} (F : FunD K d_is_fraction.name d_is_fraction.qual d_is_fraction.params d_is_fraction.body d_is_fraction.scope (d_is_fraction.dvs K) (d_is_fraction.kws K) (He.fAd K d_is_fraction.at_) fd) (g : mg "is_fraction" = some (.ref (He.fAd K d_is_fraction.at_))) : Bnd K mg s3 (He.fAd K d_is_fraction.at_) fd ["thing"] := by
  exact ⟨g, F.kp, rfl, fun _ => ⟨[], .nil, FunD.bindsN (ps := ["thing"]) F fun _ _ _ _ _ _ us hl => match us, hl with | [_], _ => rfl⟩, fun z => absurd rfl z⟩
theorem bn4 {K : PySem.W.Frag} {mg : Str → Option Value} {fd : FuncData} (F : FunD K d_is_name.name d_is_name.qual d_is_name.params d_is_name.body d_is_name.scope (d_is_name.dvs K) (d_is_name.kws K) (He.fAd K d_is_name.at_) fd) (g : mg "is_name" = some (.ref (He.fAd K d_is_name.at_))) : Bnd K mg s4 (He.fAd K d_is_name.at_) fd ["thing"] := by
  exact ⟨g, F.kp, rfl, fun _ => ⟨[], .nil, FunD.bindsN (ps := ["thing"]) F fun _ _ _ _ _ _ us hl => match us, hl with | [_], _ => rfl⟩, fun z => absurd rfl z⟩
theorem bn5 {K : PySem.W.Frag} {mg : Str → Option Value} {fd : FuncData} (F : FunD K d_is_formula.name d_is_formula.qual d_is_formula.params d_is_formula.body d_is_formula.scope (d_is_formula.dvs K) (d_is_formula.kws K) (He.fAd K d_is_formula.at_) fd) (g : mg "is_formula" = some (.ref (He.fAd K d_is_formula.at_))) : Bnd K mg s5 (He.fAd K d_is_formula.at_) fd ["thing"] := by
  exact ⟨g, F.kp, rfl, fun _ => ⟨[], .nil, FunD.bindsN (ps := ["thing"]) F fun _ _ _ _ _ _ us hl => match us, hl with | [_], _ => rfl⟩, fun z => absurd rfl z⟩
theorem bn6 {K : PySem.W.Frag} {mg : Str → Option Value} {fd : FuncData} (F : FunD K d_parts_of.name d_parts_of.qual d_parts_of.params d_parts_of.body d_parts_of.scope (d_parts_of.dvs K) (d_parts_of.kws K) (He.fAd K d_parts_of.at_) fd) (g : mg "parts_of" = some (.ref (He.fAd K d_parts_of.at_))) : Bnd K mg s6 (He.fAd K d_parts_of.at_) fd ["formula"] := by
  exact ⟨g, F.kp, rfl, fun _ => ⟨[], .nil, FunD.bindsN (ps := ["formula"]) F fun _ _ _ _ _ _ us hl => match us, hl with | [_], _ => rfl⟩, fun z => absurd rfl z⟩
theorem bn7 {K : PySem.W.Frag} {mg : Str → Option Value} {fd : FuncData} (F : FunD K d_part_at.name d_part_at.qual d_part_at.params d_part_at.body d_part_at.scope (d_part_at.dvs K) (d_part_at.kws K) (He.fAd K d_part_at.at_) fd) (g : mg "part_at" = some (.ref (He.fAd K d_part_at.at_))) : Bnd K mg s7 (He.fAd K d_part_at.at_) fd ["formula", "path"] := by
  exact ⟨g, F.kp, rfl, fun _ => ⟨[], .nil, FunD.bindsN (ps := ["formula", "path"]) F fun _ _ _ _ _ _ us hl => match us, hl with | [_, _], _ => rfl⟩, fun z => absurd rfl z⟩
theorem bn8 {K : PySem.W.Frag} {mg : Str → Option Value} {fd : FuncData} (F : FunD K d_with_part.name d_with_part.qual d_with_part.params d_with_part.body d_with_part.scope (d_with_part.dvs K) (d_with_part.kws K) (He.fAd K d_with_part.at_) fd) (g : mg "with_part" = some (.ref (He.fAd K d_with_part.at_))) : Bnd K mg s8 (He.fAd K d_with_part.at_) fd ["formula", "path", "other"] := by
  exact ⟨g, F.kp, rfl, fun _ => ⟨[], .nil, FunD.bindsN (ps := ["formula", "path", "other"]) F fun _ _ _ _ _ _ us hl => match us, hl with | [_, _, _], _ => rfl⟩, fun z => absurd rfl z⟩
theorem bn9 {K : PySem.W.Frag} {mg : Str → Option Value} {fd : FuncData} (F : FunD K d_with_parts.name d_with_parts.qual d_with_parts.params d_with_parts.body d_with_parts.scope (d_with_parts.dvs K) (d_with_parts.kws K) (He.fAd K d_with_parts.at_) fd) (g : mg "with_parts" = some (.ref (He.fAd K d_with_parts.at_))) : Bnd K mg s9 (He.fAd K d_with_parts.at_) fd ["formula", "parts"] := by
  exact ⟨g, F.kp, rfl, fun _ => ⟨[], .nil, FunD.bindsN (ps := ["formula", "parts"]) F fun _ _ _ _ _ _ us hl => match us, hl with | [_, _], _ => rfl⟩, fun z => absurd rfl z⟩
theorem bn10 {K : PySem.W.Frag} {mg : Str → Option Value} {fd : FuncData} (F : FunD K d__law_frac.name d__law_frac.qual d__law_frac.params d__law_frac.body d__law_frac.scope (d__law_frac.dvs K) (d__law_frac.kws K) (He.fAd K d__law_frac.at_) fd) (g : mg "_law_frac" = some (.ref (He.fAd K d__law_frac.at_))) : Bnd K mg s10 (He.fAd K d__law_frac.at_) fd ["top", "bottom"] := by
  exact ⟨g, F.kp, rfl, fun _ => ⟨[], .nil, FunD.bindsN (ps := ["top", "bottom"]) F fun _ _ _ _ _ _ us hl => match us, hl with | [_, _], _ => rfl⟩, fun z => absurd rfl z⟩
theorem bn11 {K : PySem.W.Frag} {mg : Str → Option Value} {fd : FuncData} (F : FunD K d__law_draw.name d__law_draw.qual d__law_draw.params d__law_draw.body d__law_draw.scope (d__law_draw.dvs K) (d__law_draw.kws K) (He.fAd K d__law_draw.at_) fd) (g : mg "_law_draw" = some (.ref (He.fAd K d__law_draw.at_))) : Bnd K mg s11 (He.fAd K d__law_draw.at_) fd ["script", "town", "many"] := by
  exact ⟨g, F.kp, rfl, fun _ => ⟨[], .nil, FunD.bindsN (ps := ["script", "town", "many"]) F fun _ _ _ _ _ _ us hl => match us, hl with | [_, _, _], _ => rfl⟩, fun z => absurd rfl z⟩
theorem bn12 {K : PySem.W.Frag} {mg : Str → Option Value} {fd : FuncData} (F : FunD K d__law_a_frac.name d__law_a_frac.qual d__law_a_frac.params d__law_a_frac.body d__law_a_frac.scope (d__law_a_frac.dvs K) (d__law_a_frac.kws K) (He.fAd K d__law_a_frac.at_) fd) (g : mg "_law_a_frac" = some (.ref (He.fAd K d__law_a_frac.at_))) : Bnd K mg s12 (He.fAd K d__law_a_frac.at_) fd ["script", "town", "size"] := by
  exact ⟨g, F.kp, rfl, fun _ => ⟨[], .nil, FunD.bindsN (ps := ["script", "town", "size"]) F fun _ _ _ _ _ _ us hl => match us, hl with | [_, _, _], _ => rfl⟩, fun z => absurd rfl z⟩
theorem bn13 {K : PySem.W.Frag} {mg : Str → Option Value} {fd : FuncData} (F : FunD K d__law_a_formula.name d__law_a_formula.qual d__law_a_formula.params d__law_a_formula.body d__law_a_formula.scope (d__law_a_formula.dvs K) (d__law_a_formula.kws K) (He.fAd K d__law_a_formula.at_) fd) (g : mg "_law_a_formula" = some (.ref (He.fAd K d__law_a_formula.at_))) : Bnd K mg s13 (He.fAd K d__law_a_formula.at_) fd ["script", "town", "deep", "words"] := by
  exact ⟨g, F.kp, rfl, fun _ => ⟨[], .nil, FunD.bindsN (ps := ["script", "town", "deep", "words"]) F fun _ _ _ _ _ _ us hl => match us, hl with | [_, _, _, _], _ => rfl⟩, fun z => absurd rfl z⟩
theorem bn14 {K : PySem.W.Frag} {mg : Str → Option Value} {fd : FuncData} (F : FunD K d__law_parts.name d__law_parts.qual d__law_parts.params d__law_parts.body d__law_parts.scope (d__law_parts.dvs K) (d__law_parts.kws K) (He.fAd K d__law_parts.at_) fd) (g : mg "_law_parts" = some (.ref (He.fAd K d__law_parts.at_))) : Bnd K mg s14 (He.fAd K d__law_parts.at_) fd ["formula"] := by
  exact ⟨g, F.kp, rfl, fun _ => ⟨[], .nil, FunD.bindsN (ps := ["formula"]) F fun _ _ _ _ _ _ us hl => match us, hl with | [_], _ => rfl⟩, fun z => absurd rfl z⟩
@[simp] theorem g0 {ns : List Int} {k : Nat} (xs ys : List D) (t : Tw) : (gam p ns k).f 0 0 xs ys t = callF p ns k i_is_whole (xs ++ ys ++ [D.non]) t := gam_at (sh := s0) rfl xs ys t
@[simp] theorem g1 {ns : List Int} {k : Nat} (xs ys : List D) (t : Tw) : (gam p ns k).f 0 1 xs ys t = callF p ns k i_is_whole (xs ++ ys ++ []) t := gam_at (sh := s1) rfl xs ys t
@[simp] theorem g2 {ns : List Int} {k : Nat} (xs ys : List D) (t : Tw) : (gam p ns k).f 0 2 xs ys t = callF p ns k i_greatest (xs ++ ys ++ []) t := gam_at (sh := s2) rfl xs ys t
@[simp] theorem g3 {ns : List Int} {k : Nat} (xs ys : List D) (t : Tw) : (gam p ns k).f 0 3 xs ys t = callF p ns k i_is_fraction (xs ++ ys ++ []) t := gam_at (sh := s3) rfl xs ys t
@[simp] theorem g4 {ns : List Int} {k : Nat} (xs ys : List D) (t : Tw) : (gam p ns k).f 0 4 xs ys t = callF p ns k i_is_name (xs ++ ys ++ []) t := gam_at (sh := s4) rfl xs ys t
@[simp] theorem g5 {ns : List Int} {k : Nat} (xs ys : List D) (t : Tw) : (gam p ns k).f 0 5 xs ys t = callF p ns k i_is_formula (xs ++ ys ++ []) t := gam_at (sh := s5) rfl xs ys t
@[simp] theorem g6 {ns : List Int} {k : Nat} (xs ys : List D) (t : Tw) : (gam p ns k).f 0 6 xs ys t = callF p ns k i_parts_of (xs ++ ys ++ []) t := gam_at (sh := s6) rfl xs ys t
@[simp] theorem g7 {ns : List Int} {k : Nat} (xs ys : List D) (t : Tw) : (gam p ns k).f 0 7 xs ys t = callF p ns k i_part_at (xs ++ ys ++ []) t := gam_at (sh := s7) rfl xs ys t
@[simp] theorem g8 {ns : List Int} {k : Nat} (xs ys : List D) (t : Tw) : (gam p ns k).f 0 8 xs ys t = callF p ns k i_with_part (xs ++ ys ++ []) t := gam_at (sh := s8) rfl xs ys t
@[simp] theorem g9 {ns : List Int} {k : Nat} (xs ys : List D) (t : Tw) : (gam p ns k).f 0 9 xs ys t = callF p ns k i_with_parts (xs ++ ys ++ []) t := gam_at (sh := s9) rfl xs ys t
@[simp] theorem g10 {ns : List Int} {k : Nat} (xs ys : List D) (t : Tw) : (gam p ns k).f 0 10 xs ys t = callF p ns k i__law_frac (xs ++ ys ++ []) t := gam_at (sh := s10) rfl xs ys t
@[simp] theorem g11 {ns : List Int} {k : Nat} (xs ys : List D) (t : Tw) : (gam p ns k).f 0 11 xs ys t = callF p ns k i__law_draw (xs ++ ys ++ []) t := gam_at (sh := s11) rfl xs ys t
@[simp] theorem g12 {ns : List Int} {k : Nat} (xs ys : List D) (t : Tw) : (gam p ns k).f 0 12 xs ys t = callF p ns k i__law_a_frac (xs ++ ys ++ []) t := gam_at (sh := s12) rfl xs ys t
@[simp] theorem g13 {ns : List Int} {k : Nat} (xs ys : List D) (t : Tw) : (gam p ns k).f 0 13 xs ys t = callF p ns k i__law_a_formula (xs ++ ys ++ []) t := gam_at (sh := s13) rfl xs ys t
@[simp] theorem g14 {ns : List Int} {k : Nat} (xs ys : List D) (t : Tw) : (gam p ns k).f 0 14 xs ys t = callF p ns k i__law_parts (xs ++ ys ++ []) t := gam_at (sh := s14) rfl xs ys t
theorem u_is_whole {ns : List Int} {k : Nat} (ds : List D) (t : Tw) : callF p ns (k + 1) i_is_whole ds t = retD (evSs (gam p ns k) (csOf cst) b_is_whole (startR ["thing", "least"] ds) t) := callF_df (i := 0) (f := f_is_whole) rfl ds t
theorem u_greatest {ns : List Int} {k : Nat} (ds : List D) (t : Tw) : callF p ns (k + 1) i_greatest ds t = retD (evSs (gam p ns k) (csOf cst) b_greatest (startR ["one", "other"] ds) t) := callF_df (i := 1) (f := f_greatest) rfl ds t
theorem u_is_fraction {ns : List Int} {k : Nat} (ds : List D) (t : Tw) : callF p ns (k + 1) i_is_fraction ds t = retD (evSs (gam p ns k) (csOf cst) b_is_fraction (startR ["thing"] ds) t) := callF_df (i := 2) (f := f_is_fraction) rfl ds t
theorem u_is_name {ns : List Int} {k : Nat} (ds : List D) (t : Tw) : callF p ns (k + 1) i_is_name ds t = retD (evSs (gam p ns k) (csOf cst) b_is_name (startR ["thing", "mark"] ds) t) := callF_df (i := 3) (f := f_is_name) rfl ds t
theorem u_is_formula {ns : List Int} {k : Nat} (ds : List D) (t : Tw) : callF p ns (k + 1) i_is_formula ds t = retD (evSs (gam p ns k) (csOf cst) b_is_formula (startR ["thing", "word", "rest", "part", "size"] ds) t) := callF_df (i := 4) (f := f_is_formula) rfl ds t
theorem u_parts_of {ns : List Int} {k : Nat} (ds : List D) (t : Tw) : callF p ns (k + 1) i_parts_of ds t = retD (evSs (gam p ns k) (csOf cst) b_parts_of (startR ["formula", "word", "rest"] ds) t) := callF_df (i := 5) (f := f_parts_of) rfl ds t
theorem u_with_parts {ns : List Int} {k : Nat} (ds : List D) (t : Tw) : callF p ns (k + 1) i_with_parts ds t = retD (evSs (gam p ns k) (csOf cst) b_with_parts (startR ["formula", "parts", "word", "rest"] ds) t) := callF_df (i := 6) (f := f_with_parts) rfl ds t
theorem u_part_at {ns : List Int} {k : Nat} (ds : List D) (t : Tw) : callF p ns (k + 1) i_part_at ds t = retD (evSs (gam p ns k) (csOf cst) b_part_at (startR ["formula", "path", "step", "some"] ds) t) := callF_df (i := 7) (f := f_part_at) rfl ds t
theorem u_with_part {ns : List Int} {k : Nat} (ds : List D) (t : Tw) : callF p ns (k + 1) i_with_part ds t = retD (evSs (gam p ns k) (csOf cst) b_with_part (startR ["formula", "path", "other", "some"] ds) t) := callF_df (i := 8) (f := f_with_part) rfl ds t
theorem u__law_draw {ns : List Int} {k : Nat} (ds : List D) (t : Tw) : callF p ns (k + 1) i__law_draw ds t = retD (evSs (gam p ns k) (csOf cst) b__law_draw (startR ["script", "town", "many", "at", "rest", "number"] ds) t) := callF_df (i := 9) (f := f__law_draw) rfl ds t
theorem u__law_frac {ns : List Int} {k : Nat} (ds : List D) (t : Tw) : callF p ns (k + 1) i__law_frac ds t = retD (evSs (gam p ns k) (csOf cst) b__law_frac (startR ["top", "bottom", "one", "other"] ds) t) := callF_df (i := 10) (f := f__law_frac) rfl ds t
theorem u__law_a_frac {ns : List Int} {k : Nat} (ds : List D) (t : Tw) : callF p ns (k + 1) i__law_a_frac ds t = retD (evSs (gam p ns k) (csOf cst) b__law_a_frac (startR ["script", "town", "size"] ds) t) := callF_df (i := 11) (f := f__law_a_frac) rfl ds t
theorem u__law_a_formula {ns : List Int} {k : Nat} (ds : List D) (t : Tw) : callF p ns (k + 1) i__law_a_formula ds t = retD (evSs (gam p ns k) (csOf cst) b__law_a_formula (startR ["script", "town", "deep", "words", "turn", "word", "size", "k", "one"] ds) t) := callF_df (i := 12) (f := f__law_a_formula) rfl ds t
theorem u__law_parts {ns : List Int} {k : Nat} (ds : List D) (t : Tw) : callF p ns (k + 1) i__law_parts ds t = retD (evSs (gam p ns k) (csOf cst) b__law_parts (startR ["formula", "inner_ones", "found", "place", "part", "path", "one"] ds) t) := callF_df (i := 13) (f := f__law_parts) rfl ds t
@[simp] theorem c_LETTERS : csOf cst 0 = (D.str "abcdefghijklmnopqrstuvwxyz") := rfl
@[simp] theorem c_MANY : csOf cst 1 = (D.tup [(D.str "add"), (D.str "mul")]) := rfl
theorem so : ShOk p fn := by
  refine ⟨fun K mg ffd hf hg j sh e => ?_⟩
  match j, e with
  | 0, e =>
    cases e
    exact ⟨.df f_is_whole, rfl, bn0 (hf 0 d_is_whole rfl) (hg 0 d_is_whole rfl)⟩
  | 1, e =>
    cases e
    exact ⟨.df f_is_whole, rfl, bn1 (hf 0 d_is_whole rfl) (hg 0 d_is_whole rfl)⟩
  | 2, e =>
    cases e
    exact ⟨.df f_greatest, rfl, bn2 (hf 1 d_greatest rfl) (hg 1 d_greatest rfl)⟩
  | 3, e =>
    cases e
    exact ⟨.df f_is_fraction, rfl, bn3 (hf 2 d_is_fraction rfl) (hg 2 d_is_fraction rfl)⟩
  | 4, e =>
    cases e
    exact ⟨.df f_is_name, rfl, bn4 (hf 3 d_is_name rfl) (hg 3 d_is_name rfl)⟩
  | 5, e =>
    cases e
    exact ⟨.df f_is_formula, rfl, bn5 (hf 4 d_is_formula rfl) (hg 4 d_is_formula rfl)⟩
  | 6, e =>
    cases e
    exact ⟨.df f_parts_of, rfl, bn6 (hf 5 d_parts_of rfl) (hg 5 d_parts_of rfl)⟩
  | 7, e =>
    cases e
    exact ⟨.df f_part_at, rfl, bn7 (hf 7 d_part_at rfl) (hg 7 d_part_at rfl)⟩
  | 8, e =>
    cases e
    exact ⟨.df f_with_part, rfl, bn8 (hf 8 d_with_part rfl) (hg 8 d_with_part rfl)⟩
  | 9, e =>
    cases e
    exact ⟨.df f_with_parts, rfl, bn9 (hf 6 d_with_parts rfl) (hg 6 d_with_parts rfl)⟩
  | 10, e =>
    cases e
    exact ⟨.df f__law_frac, rfl, bn10 (hf 10 d__law_frac rfl) (hg 10 d__law_frac rfl)⟩
  | 11, e =>
    cases e
    exact ⟨.df f__law_draw, rfl, bn11 (hf 9 d__law_draw rfl) (hg 9 d__law_draw rfl)⟩
  | 12, e =>
    cases e
    exact ⟨.df f__law_a_frac, rfl, bn12 (hf 11 d__law_a_frac rfl) (hg 11 d__law_a_frac rfl)⟩
  | 13, e =>
    cases e
    exact ⟨.df f__law_a_formula, rfl, bn13 (hf 12 d__law_a_formula rfl) (hg 12 d__law_a_formula rfl)⟩
  | 14, e =>
    cases e
    exact ⟨.df f__law_parts, rfl, bn14 (hf 13 d__law_parts rfl) (hg 13 d__law_parts rfl)⟩
  | n + 15, e => simp [shs] at e
abbrev R : PySem.W.OpenRow := PySem.W.OpenLaw.row PySem.Challenge.rw_formclear_k22_parts
abbrev hk : PySem.W.Hook := He.hookX 6 fa fn [] (tfOf hd) (exB hd exs cst)
def ob (s : PySem.W.SharedT) : He.AlX := He.obsX 6 fa fn [] (tfOf hd) (exB hd exs cst) (HandSHeadRun.getT s)
def loose : List Str := ["FormError", "NoRoot", "NoForm", "ByNought", "NoQuotient", "NoName", "NoPath", "Spent", "BadWord", "NoText", "is_whole", "greatest", "is_fraction", "LETTERS", "is_name", "MANY", "is_formula", "parts_of", "with_parts", "part_at", "with_part", "_law_heard", "_law_draw", "_law_begun", "_law_frac", "_law_a_frac", "_law_a_formula", "_law_parts"]
theorem ob_eq (s : PySem.W.SharedT) : ob s = hk.obs s.abs := He.obsX_eq (HandSHeadRun.getT_eq s)
theorem run (w : World) : HandSHeadRun.RunEq R (PySem.W.view R.prog [33]) hk ob 4000 loose w := by
  intro os
  kernel_rfl
theorem fin (k : Nat) (hk1 : 1 ≤ k) (hk2 : k + 1 ≤ 230) (hev : ∀ ns : List Int, ns.length ≤ 63 → (∀ z ∈ ns, Builtin.Int.intBits z ≤ 1048576) → ∃ r t, evSs (gam p ns k) (csOf cst) b_law (startL n_law ns) ⟨0, []⟩ = .ok (.ret (.bl true), r) t) : PySem.Challenge.rw_formclear_k22_parts.Holds := by
  open PySem PySem.W PySem.Calls in
  w_on; o_law
  refine HandSHeadRun.head_any (r := R) (q := view R.prog [33]) (H := hk) (ob := ob) (M := 4000) (loose := loose) (d := HandSHeadRun.topDef R.prog 33) (kwd := []) ob_eq
    (by kernel_rfl) (fun s => by kernel_rfl) run (by kernel_rfl) (by kernel_rfl) (by kernel_rfl) (by rfl) (by first | assumption | decide +kernel) (by decide +kernel) ⟨rfl, rfl, rfl, rfl, rfl, by decide +kernel⟩ ?hw ?hc
  case hw => w_witness2
  case hc =>
    refine LamX.walk_ofTsE (l := PySem.Challenge.rw_formclear_k22_parts) (n := 63) (k := k + 1) (x := "script") (CX := fun w => CX (PySem.Challenge.rw_formclear_k22_parts).prog w) rfl (by decide) (by kernel_rfl) ((show Room 230 callerA from ⟨rfl, by decide, by decide⟩).mono hk2) ?F (fun w H s e s' z => cx_no z)
    intro w mg f h Y G hmg0
    obtain ⟨K, KX, c⟩ := Y
    have hmg : mg ("law" : PySem.Str) = some (.ref f) := by
      have e : (HandSHeadRun.topDef R.prog 33).name = ("law" : PySem.Str) := by kernel_rfl
      rw [← e]
      exact hmg0
    exact ⟨K, KX, lawAt KX G c chk so (iL := 15) (iB := 14) (dL := d_law) (dB := d__law_begun) rfl rfl hear (d0 := fn.headD d_law) rfl chkL hmg (fun _ _ _ _ _ _ us hl => match us, hl with | [_], _ => rfl) (fun _ _ _ _ _ _ us hl => match us, hl with | [], _ => rfl) hk1 hev⟩
end Lw

/-! ### whole numbers, fractions, draws: what the defs tell -/
namespace Lw
open PySem Fm
section
variable {ns : List Int} {t : Tw} {k : Nat}
theorem up1 (h : 1 ≤ k) : ∃ j, k = j + 1 := ⟨k - 1, by omega⟩
def isW : D → Bool
  | .int _ => true
  | _ => false
/-- data with no town, no script at the top -/
def pla : D → Bool
  | .tok => false
  | .scr _ => false
  | .dct _ => false
  | .dcn _ => false
  | .exc _ => false
  | _ => true
theorem e_is_whole (hk : 1 ≤ k) (x : D) (h : pla x = true) : callF p ns k i_is_whole [x, .non] t = .ok (.bl (isW x)) t := by
  obtain ⟨k, rfl⟩ := up1 hk
  rw [u_is_whole]
  cases x <;> first | (cases h; done) | simp [b_is_whole, isW]
def isWL (l : Int) : D → Bool
  | .int i => decide (l ≤ i)
  | _ => false
theorem e_is_wholeL (hk : 1 ≤ k) (x : D) (l : Int) (h : pla x = true) : callF p ns k i_is_whole [x, .int l] t = .ok (.bl (isWL l x)) t := by
  obtain ⟨k, rfl⟩ := up1 hk
  rw [u_is_whole]
  cases x <;> first | (cases h; done) | simp [b_is_whole, isWL]
theorem gcd_mod (a b : Int) : Int.gcd b (a % b) = Int.gcd a b := by
  have h := Int.gcd_add_mul_left_right b (a % b) (a / b)
  rw [Int.emod_add_mul_ediv] at h
  rw [← h, Int.gcd_comm]
/-- one, other = other, one % other, while there is an other -/
theorem gr_loop {c : Rho → Tw → Res D} {f : Rho → Tw → Res (Fl × Rho)} (mk : Int → Int → Rho) (hc : ∀ a b : Int, c (mk a b) t = .ok (.bl (decide (0 < b))) t)
    (hf : ∀ a b : Int, 0 < b → f (mk a b) t = .ok (.nx, mk b (a.fmod b)) t) :
    ∀ (n : Nat) (a b : Int), 0 ≤ a → 0 ≤ b → b.toNat ≤ n → loopW c f (mk a b) t = .ok (.nx, mk (Int.gcd a b) 0) t := by
  intro n
  induction n with
  | zero =>
    intro a b ha hb hn
    obtain rfl : b = 0 := by omega
    rw [loopW_eq, hc]
    have : (a.natAbs : Int) = a := by omega
    simp [this]
  | succ n ih =>
    intro a b ha hb hn
    rw [loopW_eq, hc]
    by_cases h : 0 < b
    · simp [h, hf a b h]
      have h1 := fmod_rng (i := a) h
      rw [ih b (a.fmod b) hb h1.1 (by omega)]
      have : Int.gcd b (a.fmod b) = Int.gcd a b := by
        rw [Int.fmod_eq_emod_of_nonneg a hb]
        exact gcd_mod a b
      rw [this]
    · obtain rfl : b = 0 := by omega
      have : (a.natAbs : Int) = a := by omega
      simp [this]
theorem abs_ite (a : Int) : (if a < 0 then -a else a) = (a.natAbs : Int) := by
  split <;> omega
theorem e_greatest (hk : 1 ≤ k) (a b : Int) : callF p ns k i_greatest [.int a, .int b] t = .ok (.int (Int.gcd a b)) t := by
  obtain ⟨k, rfl⟩ := up1 hk
  rw [u_greatest]
  simp [b_greatest, abs_ite]
  have hl := gr_loop (t := t) (c := ev (gam p ns k) (csOf cst) (.cmp .Gt (.var 1) (.cst (.int 0)))) (f := evSs (gam p ns k) (csOf cst) b_greatest_1) (fun a b => [.val (.int a), .val (.int b)]) (fun a b => by simp) (fun a b h => by
    have : b ≠ 0 := by omega
    simp [b_greatest_1, this]) b.natAbs a.natAbs b.natAbs (by omega) (by omega) (by omega)
  rw [hl]
  simp [Int.gcd]
mutual
/-- good data -/
def gd : D → Bool
  | .non => true
  | .bl _ => true
  | .int _ => true
  | .str x => PyData.strOk x && decide (x.length ≤ 1000)
  | .tup xs => decide (xs.length ≤ 1000) && gds xs
  | .lst xs => decide (xs.length ≤ 1000) && gds xs
  | _ => false
def gds : List D → Bool
  | [] => true
  | x :: xs => gd x && gds xs
end
theorem gd_pla {x : D} (h : gd x = true) : pla x = true := by
  cases x <;> first | rfl | (simp [gd] at h)
mutual
theorem gd_lay : ∀ {x : D}, gd x = true → lay x = true
  | .non, _ => by simp [lay, D.py, PyData.canLay0]
  | .bl _, _ => by simp [lay, D.py, PyData.canLay0]
  | .int _, _ => by simp [lay, D.py, PyData.canLay0]
  | .str x, h => by
    simp [gd] at h
    simp [lay, D.py, PyData.canLay0, h.1]
  | .tup xs, h => by
    simp only [gd, Bool.and_eq_true] at h
    have := gds_lay h.2
    simp [lay, D.py, PyData.canLay0, this]
  | .lst xs, h => by
    simp only [gd, Bool.and_eq_true] at h
    have := gds_lay h.2
    simp [lay, D.py, PyData.canLay0, this]
  | .dct _, h => by simp [gd] at h
  | .tok, h => by simp [gd] at h
  | .scr _, h => by simp [gd] at h
  | .exc _, h => by simp [gd] at h
  | .dcn _, h => by simp [gd] at h
theorem gds_lay : ∀ {xs : List D}, gds xs = true → PyData.canLayAll0 (pys xs) = true
  | [], _ => by simp [pys, PyData.canLayAll0]
  | x :: xs, h => by
    simp only [gds, Bool.and_eq_true] at h
    have h1 := gd_lay h.1
    have h2 := gds_lay h.2
    unfold lay at h1
    simp [pys, PyData.canLayAll0, h1, h2]
end
theorem gds_mem : ∀ {xs : List D}, gds xs = true → ∀ x ∈ xs, gd x = true
  | [], _, _, m => (List.not_mem_nil m).elim
  | x :: xs, h, y, m => by
    simp only [gds, Bool.and_eq_true] at h
    rcases List.mem_cons.mp m with rfl | m
    · exact h.1
    · exact gds_mem h.2 y m
theorem gds_of : ∀ {ps : List D}, (∀ x ∈ ps, gd x = true) → gds ps = true
  | [], _ => rfl
  | x :: ps, h => by
    simp only [gds, Bool.and_eq_true]
    exact ⟨h x List.mem_cons_self, gds_of fun y hy => h y (List.mem_cons_of_mem _ hy)⟩
theorem dep_mem : ∀ {xs : List D} {x : D}, x ∈ xs → dep x ≤ PyData.depthAll (pys xs)
  | [], _, m => (List.not_mem_nil m).elim
  | y :: ys, x, m => by
    simp only [pys, PyData.depthAll]
    rcases List.mem_cons.mp m with rfl | m
    · exact Nat.le_max_left ..
    · exact Nat.le_trans (dep_mem m) (Nat.le_max_right ..)
theorem dep_all : ∀ {ps : List D} {n : Nat}, (∀ x ∈ ps, dep x ≤ n) → PyData.depthAll (pys ps) ≤ n
  | [], n, _ => by simp [pys, PyData.depthAll]
  | x :: ps, n, h => by
    simp only [pys, PyData.depthAll]
    exact Nat.max_le.mpr ⟨h x List.mem_cons_self, dep_all fun y hy => h y (List.mem_cons_of_mem _ hy)⟩
theorem dep_tup {xs : List D} : dep (.tup xs) = PyData.depthAll (pys xs) + 1 := by
  simp [dep, D.py, PyData.depth]
theorem dep_lst {xs : List D} : dep (.lst xs) = PyData.depthAll (pys xs) + 1 := by
  simp [dep, D.py, PyData.depth]
theorem dep_int (i : Int) : dep (.int i) = 0 := by simp [dep, D.py, PyData.depth]
def isFr : D → Bool
  | .tup [.int a, .int b] => decide (1 ≤ b) && (Int.gcd a b == 1)
  | _ => false
@[simp] theorem at0 {α : Type} (x : α) (xs : List α) : L2.atI (x :: xs) 0 = some x := by
  simp [L2.atI, L2.ixN]
@[simp] theorem at1 {α : Type} (x y : α) (xs : List α) : L2.atI (x :: y :: xs) 1 = some y := by
  unfold L2.atI L2.ixN
  rw [if_pos (by omega), if_pos (by simp only [List.length_cons]; omega)]
  rfl
theorem e_is_fraction (hk : 2 ≤ k) (x : D) (h : gd x = true) : callF p ns k i_is_fraction [x] t = .ok (.bl (isFr x)) t := by
  obtain ⟨k, rfl⟩ := up1 (show 1 ≤ k by omega)
  have hk : 1 ≤ k := by omega
  rw [u_is_fraction]
  cases x with
  | tup xs =>
    match xs, h with
    | [], _ => simp [b_is_fraction, isFr]
    | [a], _ => simp [b_is_fraction, isFr]
    | [a, b], h =>
      simp only [gd, gds, Bool.and_eq_true] at h
      have ha := e_is_whole (ns := ns) (t := t) hk a (gd_pla h.2.1)
      have hb := e_is_wholeL (ns := ns) (t := t) hk b 1 (gd_pla h.2.2.1)
      simp [b_is_fraction, ha, hb]
      cases a <;> simp [isW, isFr]
      cases b <;> simp [isWL, isFr]
      rename_i a b
      by_cases hb : 1 ≤ b
      · have : ¬ b < 1 := by omega
        simp [hb, this, e_greatest hk]
        rw [Bool.eq_iff_iff]
        simp
        try omega
      · simp [hb]
    | a :: b :: c :: r, _ =>
      have : ¬ ((r.length : Int) + 1 + 1 + 1 = 2) := by
        omega
      simp [b_is_fraction, isFr, this]
  | _ => first | (simp [gd] at h; done) | simp [b_is_fraction, isFr]
variable {sc : List Int} {n : Nat}
theorem e_draw (hk : 1 ≤ k) (m : Int) (hm : 0 < m) (hm2 : m < 1048576) (h : rm (n + 1) t) : ∃ v t', callF p ns k i__law_draw [.scr sc, .tok, .int m] t = .ok (.int v) t' ∧ 0 ≤ v ∧ v < m ∧ rm n t' := by
  obtain ⟨k, rfl⟩ := up1 hk
  obtain ⟨v, t', e, q⟩ := draw_ev (G := gam p ns k) (cs := csOf cst) (ns := sc) hm hm2 h
  refine ⟨v, t', ?_, q⟩
  rw [u__law_draw]
  exact e
/-- a fraction's two numbers -/
abbrev fr (a b : Int) : D := .tup [.int a, .int b]
theorem e_frac (hk : 1 ≤ k) (a b : Int) (hb : 1 ≤ b) (hb2 : b < 2 ^ 8999) : callF p ns k i__law_frac [.int a, .int b] t = .ok (fr (a / Int.gcd a b) (b / Int.gcd a b)) t := by
  obtain ⟨k, rfl⟩ := up1 hk
  have hg : 0 < Int.gcd a b := Int.gcd_pos_of_ne_zero_right a (by omega)
  have hgb : (Int.gcd a b : Int) ≤ b := Int.le_of_dvd (by omega) (Int.gcd_dvd_right _ _)
  rw [u__law_frac]
  have hl := gr_loop (t := t) (c := ev (gam p ns k) (csOf cst) (.cmp .Gt (.var 3) (.cst (.int 0)))) (f := evSs (gam p ns k) (csOf cst) b__law_frac_1) (fun x y => [.val (.int a), .val (.int b), .val (.int x), .val (.int y)]) (fun a b => by simp) (fun a b h => by
    have : b ≠ 0 := by omega
    simp [b__law_frac_1, this]) b.natAbs a.natAbs b.natAbs (by omega) (by omega) (by omega)
  have hgg : Int.gcd (a.natAbs : Int) (b.natAbs : Int) = Int.gcd a b := by simp [Int.gcd]
  rw [hgg] at hl
  have hd : okDiv (Int.gcd a b : Int) = true := okDiv_of (k := 8999) (by omega) (by
    have : ((Int.gcd a b : Int).natAbs : Int) < ((2 ^ 8999 : Nat) : Int) := by
      rw [Int.natAbs_natCast]
      exact Int.lt_of_le_of_lt hgb (by simpa using hb2)
    exact_mod_cast this) (by omega) (by omega)
  have h0 : 0 < b := by omega
  simp only [b__law_frac, x_startR, x_evSs_cons, x_consE]
  simp [abs_ite, hl, h0, hd, Int.fdiv_eq_ediv_of_nonneg]
/-- a small fraction -/
structure SmF (s x y : Int) : Prop where
  g : Int.gcd x y = 1
  lo : 1 ≤ y
  hi : y ≤ 3
  num : -s ≤ x ∧ x ≤ s
theorem SmF.isFr {s x y : Int} (h : SmF s x y) : isFr (fr x y) = true := by
  simp [Lw.isFr, h.g, h.lo]
theorem smF_of {s a b : Int} (ha : -s ≤ a ∧ a ≤ s) (hb : 1 ≤ b ∧ b ≤ 3) : SmF s (a / Int.gcd a b) (b / Int.gcd a b) := by
  have hg : 0 < Int.gcd a b := Int.gcd_pos_of_ne_zero_right a (by omega)
  have hg' : (0 : Int) < Int.gcd a b := by omega
  have hgb : (Int.gcd a b : Int) ≤ b := Int.le_of_dvd (by omega) (Int.gcd_dvd_right _ _)
  obtain ⟨q, hq⟩ := Int.gcd_dvd_left a b
  have e : a / Int.gcd a b = q := by
    have : a = q * (Int.gcd a b : Int) := by rw [Int.mul_comm]; exact hq
    calc a / (Int.gcd a b : Int) = (q * (Int.gcd a b : Int)) / (Int.gcd a b : Int) := by rw [← this]
      _ = q := Int.mul_ediv_cancel _ (by omega)
  refine ⟨Int.gcd_ediv_gcd_ediv_gcd hg, Int.le_ediv_of_mul_le (by omega) (by omega), ?_, ?_⟩
  · have := Int.ediv_le_self (a := b) (Int.gcd a b : Int) (by omega)
    omega
  · rw [e]
    have hq : a = (Int.gcd a b : Int) * q := hq
    generalize (Int.gcd a b : Int) = g at *
    constructor
    · by_cases h : q < 0
      · have : g * q ≤ 1 * q := Int.mul_le_mul_of_nonpos_right (by omega) (by omega)
        omega
      · omega
    · by_cases h : 0 < q
      · have : 1 * q ≤ g * q := Int.mul_le_mul_of_nonneg_right (by omega) (by omega)
        omega
      · omega
theorem e_a_frac (hk : 2 ≤ k) (s : Int) (hs : 0 ≤ s ∧ s ≤ 1000) (h : rm (n + 2) t) : ∃ x y t', callF p ns k i__law_a_frac [.scr sc, .tok, .int s] t = .ok (fr x y) t' ∧ SmF s x y ∧ rm n t' := by
  obtain ⟨k, rfl⟩ := up1 (show 1 ≤ k by omega)
  have hk : 1 ≤ k := by omega
  obtain ⟨v, t1, e1, a1, b1, h1⟩ := e_draw (ns := ns) (sc := sc) hk (2 * s + 1) (by omega) (by omega) (show rm (n + 1 + 1) t from h)
  obtain ⟨u, t2, e2, a2, b2, h2⟩ := e_draw (ns := ns) (sc := sc) hk 3 (by omega) (by omega) h1
  have e3 := e_frac (ns := ns) (t := t2) hk (v - s) (1 + u) (by omega) (by
    have : (1 + u : Int) < 2 ^ 3 := by omega
    exact Int.lt_of_lt_of_le this (by exact_mod_cast Nat.pow_le_pow_right (n := 2) (by omega) (show 3 ≤ 8999 by omega)))
  refine ⟨_, _, t2, ?_, smF_of (s := s) (a := v - s) (b := 1 + u) (by omega) (by omega), h2⟩
  have om : okMul 2 s = true := okMul_of (k := 2) (l := 10) (by decide) (by omega) (by omega) (by omega) (by omega)
  rw [u__law_a_frac]
  simp [b__law_a_frac, om, e1, e2, e3]
end
end Lw

/-! ### formulas, their parts, their paths: plain -/
namespace Lw
open PySem Fm
/-- a formula of two or three parts -/
inductive Fo where
  | num (a b : Int)
  | nam (x : Str)
  | m2 (m : Bool) (a b : Fo)
  | m3 (m : Bool) (a b c : Fo)
  | pow (a : Fo) (e : Int)
  | div (a b : Fo)
  | one (m : Bool) (a : Fo)
instance : Inhabited Fo := ⟨.num 0 1⟩
def wM (m : Bool) : Str := if m then "mul" else "add"
def wO (m : Bool) : Str := if m then "root" else "abs"
def Fo.d : Fo → D
  | .num a b => .tup [.str "num", .tup [.int a, .int b]]
  | .nam x => .tup [.str "name", .str x]
  | .m2 m a b => .tup [.str (wM m), .tup [a.d, b.d]]
  | .m3 m a b c => .tup [.str (wM m), .tup [a.d, b.d, c.d]]
  | .pow a e => .tup [.str "pow", a.d, .int e]
  | .div a b => .tup [.str "div", a.d, b.d]
  | .one m a => .tup [.str (wO m), a.d]
def Fo.kids : Fo → List Fo
  | .num _ _ => []
  | .nam _ => []
  | .m2 _ a b => [a, b]
  | .m3 _ a b c => [a, b, c]
  | .pow a _ => [a]
  | .div a b => [a, b]
  | .one _ a => [a]
def Fo.set : Fo → Nat → Fo → Fo
  | .m2 m a b, i, o => if i = 0 then .m2 m o b else if i = 1 then .m2 m a o else .m2 m a b
  | .m3 m a b c, i, o => if i = 0 then .m3 m o b c else if i = 1 then .m3 m a o c else if i = 2 then .m3 m a b o else .m3 m a b c
  | .pow a e, i, o => if i = 0 then .pow o e else .pow a e
  | .div a b, i, o => if i = 0 then .div o b else if i = 1 then .div a o else .div a b
  | .one m a, i, o => if i = 0 then .one m o else .one m a
  | f, _, _ => f
def Fo.kid (f : Fo) (s : Int) : Option Fo := if 0 ≤ s then f.kids[s.toNat]? else none
def Fo.at? : List Int → Fo → Option Fo
  | [], f => some f
  | s :: p, f => match f.kid s with
    | some g => Fo.at? p g
    | none => none
def Fo.put : List Int → Fo → Fo → Fo
  | [], _, o => o
  | s :: p, f, o => match f.kid s with
    | some g => f.set s.toNat (Fo.put p g o)
    | none => f
def Fo.h : Fo → Nat
  | .num _ _ => 0
  | .nam _ => 0
  | .m2 _ a b => max a.h b.h + 1
  | .m3 _ a b c => max (max a.h b.h) c.h + 1
  | .pow a _ => a.h + 1
  | .div a b => max a.h b.h + 1
  | .one _ a => a.h + 1
def Fo.ok : Fo → Prop
  | .num a b => 1 ≤ b ∧ Int.gcd a b = 1
  | .nam x => x = "x" ∨ x = "y"
  | .m2 _ a b => a.ok ∧ b.ok
  | .m3 _ a b c => a.ok ∧ b.ok ∧ c.ok
  | .pow a e => a.ok ∧ 0 ≤ e
  | .div a b => a.ok ∧ b.ok
  | .one _ a => a.ok
def shq (i : Int) (l : List (List Int × Fo)) : List (List Int × Fo) := l.map fun q => (i :: q.1, q.2)
def Fo.all : Fo → List (List Int × Fo)
  | .num a b => [([], .num a b)]
  | .nam x => [([], .nam x)]
  | .m2 m a b => ([], .m2 m a b) :: (shq 0 a.all ++ shq 1 b.all)
  | .m3 m a b c => ([], .m3 m a b c) :: (shq 0 a.all ++ shq 1 b.all ++ shq 2 c.all)
  | .pow a e => ([], .pow a e) :: shq 0 a.all
  | .div a b => ([], .div a b) :: (shq 0 a.all ++ shq 1 b.all)
  | .one m a => ([], .one m a) :: shq 0 a.all
/-! ### a part set, told again -/
theorem set_kid {f g : Fo} {s : Int} (h : f.kid s = some g) (o : Fo) (r : Int) : (f.set s.toNat o).kid r = if r = s then some o else f.kid r := by
  unfold Fo.kid at h ⊢
  split at h
  · rename_i hs
    obtain ⟨n, rfl⟩ : ∃ n : Nat, s = n := ⟨s.toNat, by omega⟩
    by_cases hr : 0 ≤ r
    · obtain ⟨m, rfl⟩ : ∃ m : Nat, r = m := ⟨r.toNat, by omega⟩
      simp only [hr, if_true, Int.toNat_natCast] at h ⊢
      have e : ((m : Int) = (n : Int)) = (m = n) := propext (by omega)
      simp only [e]
      cases f with
      | num a b => simp [Fo.kids] at h
      | nam x => simp [Fo.kids] at h
      | m2 q a b =>
        match n, h with
        | 0, _ => match m with
          | 0 => simp [Fo.set, Fo.kids]
          | m + 1 => simp [Fo.set, Fo.kids]
        | 1, _ => match m with
          | 0 => simp [Fo.set, Fo.kids]
          | 1 => simp [Fo.set, Fo.kids]
          | m + 2 => simp [Fo.set, Fo.kids]
        | n + 2, h => simp [Fo.kids] at h
      | m3 q a b c =>
        match n, h with
        | 0, _ => match m with
          | 0 => simp [Fo.set, Fo.kids]
          | m + 1 => simp [Fo.set, Fo.kids]
        | 1, _ => match m with
          | 0 => simp [Fo.set, Fo.kids]
          | 1 => simp [Fo.set, Fo.kids]
          | m + 2 => simp [Fo.set, Fo.kids]
        | 2, _ => match m with
          | 0 => simp [Fo.set, Fo.kids]
          | 1 => simp [Fo.set, Fo.kids]
          | 2 => simp [Fo.set, Fo.kids]
          | m + 3 => simp [Fo.set, Fo.kids]
        | n + 3, h => simp [Fo.kids] at h
      | pow a e =>
        match n, h with
        | 0, _ => match m with
          | 0 => simp [Fo.set, Fo.kids]
          | m + 1 => simp [Fo.set, Fo.kids]
        | n + 1, h => simp [Fo.kids] at h
      | div a b =>
        match n, h with
        | 0, _ => match m with
          | 0 => simp [Fo.set, Fo.kids]
          | m + 1 => simp [Fo.set, Fo.kids]
        | 1, _ => match m with
          | 0 => simp [Fo.set, Fo.kids]
          | 1 => simp [Fo.set, Fo.kids]
          | m + 2 => simp [Fo.set, Fo.kids]
        | n + 2, h => simp [Fo.kids] at h
      | one q a =>
        match n, h with
        | 0, _ => match m with
          | 0 => simp [Fo.set, Fo.kids]
          | m + 1 => simp [Fo.set, Fo.kids]
        | n + 1, h => simp [Fo.kids] at h
    · have : r ≠ (n : Int) := by omega
      simp [hr, this]
  · cases h
/-- cases of a part -/
theorem kid_cases {f g : Fo} {s : Int} {φ : Fo → Int → Fo → Prop} (h : f.kid s = some g) (h1 : ∀ m a b, φ (.m2 m a b) 0 a) (h2 : ∀ m a b, φ (.m2 m a b) 1 b) (h3 : ∀ m a b c, φ (.m3 m a b c) 0 a) (h4 : ∀ m a b c, φ (.m3 m a b c) 1 b) (h5 : ∀ m a b c, φ (.m3 m a b c) 2 c)
    (h6 : ∀ a e, φ (.pow a e) 0 a) (h7 : ∀ a b, φ (.div a b) 0 a) (h8 : ∀ a b, φ (.div a b) 1 b) (h9 : ∀ m a, φ (.one m a) 0 a) : φ f s g := by
  unfold Fo.kid at h
  split at h
  · rename_i hs
    obtain ⟨n, rfl⟩ : ∃ n : Nat, s = n := ⟨s.toNat, by omega⟩
    simp only [Int.toNat_natCast] at h
    cases f with
    | num a b => simp [Fo.kids] at h
    | nam x => simp [Fo.kids] at h
    | m2 q a b =>
      match n, h with
      | 0, h => cases h; exact h1 q _ b
      | 1, h => cases h; exact h2 q a _
      | n + 2, h => simp [Fo.kids] at h
    | m3 q a b c =>
      match n, h with
      | 0, h => cases h; exact h3 q _ b c
      | 1, h => cases h; exact h4 q a _ c
      | 2, h => cases h; exact h5 q a b _
      | n + 3, h => simp [Fo.kids] at h
    | pow a e =>
      match n, h with
      | 0, h => cases h; exact h6 _ e
      | n + 1, h => simp [Fo.kids] at h
    | div a b =>
      match n, h with
      | 0, h => cases h; exact h7 _ b
      | 1, h => cases h; exact h8 a _
      | n + 2, h => simp [Fo.kids] at h
    | one q a =>
      match n, h with
      | 0, h => cases h; exact h9 q _
      | n + 1, h => simp [Fo.kids] at h
  · cases h
theorem set_same {f g : Fo} {s : Int} (h : f.kid s = some g) (o : Fo) : (f.set s.toNat o).set s.toNat g = f := by
  refine kid_cases (φ := fun f s g => (f.set s.toNat o).set s.toNat g = f) h ?_ ?_ ?_ ?_ ?_ ?_ ?_ ?_ ?_ <;> intros <;> simp [Fo.set]
theorem set_ok {f g o : Fo} {s : Int} (h : f.kid s = some g) (hf : f.ok) (ho : o.ok) : (f.set s.toNat o).ok := by
  refine kid_cases (φ := fun f s g => f.ok → (f.set s.toNat o).ok) h ?_ ?_ ?_ ?_ ?_ ?_ ?_ ?_ ?_ hf <;> intros <;> simp_all [Fo.set, Fo.ok]
theorem kid_ok {f g : Fo} {s : Int} (h : f.kid s = some g) (hf : f.ok) : g.ok := by
  refine kid_cases (φ := fun f s g => f.ok → g.ok) h ?_ ?_ ?_ ?_ ?_ ?_ ?_ ?_ ?_ hf <;> intros <;> simp_all [Fo.ok]
theorem kid_h {f g : Fo} {s : Int} (h : f.kid s = some g) : g.h + 1 ≤ f.h := by
  refine kid_cases (φ := fun f s g => g.h + 1 ≤ f.h) h ?_ ?_ ?_ ?_ ?_ ?_ ?_ ?_ ?_ <;> intros <;> simp only [Fo.h] <;> omega
theorem set_h {f g o : Fo} {s : Int} (h : f.kid s = some g) : (f.set s.toNat o).h ≤ max f.h (o.h + 1) := by
  refine kid_cases (φ := fun f s g => (f.set s.toNat o).h ≤ max f.h (o.h + 1)) h (fun m a b => ?_) (fun m a b => ?_) (fun m a b c => ?_) (fun m a b c => ?_) (fun m a b c => ?_) (fun a e => ?_) (fun a b => ?_) (fun a b => ?_) (fun m a => ?_)
  · show (Fo.m2 m o b).h ≤ _
    simp only [Fo.h]
    omega
  · show (Fo.m2 m a o).h ≤ _
    simp only [Fo.h]
    omega
  · show (Fo.m3 m o b c).h ≤ _
    simp only [Fo.h]
    omega
  · show (Fo.m3 m a o c).h ≤ _
    simp only [Fo.h]
    omega
  · show (Fo.m3 m a b o).h ≤ _
    simp only [Fo.h]
    omega
  · show (Fo.pow o e).h ≤ _
    simp only [Fo.h]
    omega
  · show (Fo.div o b).h ≤ _
    simp only [Fo.h]
    omega
  · show (Fo.div a o).h ≤ _
    simp only [Fo.h]
    omega
  · show (Fo.one m o).h ≤ _
    simp only [Fo.h]
    omega
/-! ### paths -/
theorem at_put : ∀ {p : List Int} {f g o : Fo}, Fo.at? p f = some g → Fo.at? p (Fo.put p f o) = some o
  | [], _, _, _, _ => rfl
  | s :: p, f, g, o, h => by
    simp only [Fo.at?, Fo.put] at h ⊢
    cases e : f.kid s with
    | none => simp [e] at h
    | some q =>
      simp only [e] at h ⊢
      rw [set_kid e]
      simp [at_put h]
theorem put_put : ∀ {p : List Int} {f g o : Fo}, Fo.at? p f = some g → Fo.put p (Fo.put p f o) g = f
  | [], f, g, o, h => by
    simp only [Fo.at?, Option.some.injEq] at h
    simp [Fo.put, h]
  | s :: p, f, g, o, h => by
    simp only [Fo.at?, Fo.put] at h ⊢
    cases e : f.kid s with
    | none => simp [e] at h
    | some q =>
      simp only [e] at h ⊢
      rw [set_kid e]
      simp [put_put h, set_same e]
theorem at_other : ∀ {p q : List Int} {f g o m : Fo}, Fo.at? p f = some g → Fo.at? q (Fo.put p f o) = some m → q.take p.length ≠ p → p.take q.length ≠ q → Fo.at? q f = some m
  | [], q, _, _, _, _, _, _, h, _ => (h rfl).elim
  | _ :: _, [], _, _, _, _, _, _, _, h => (h rfl).elim
  | s :: p, r :: q, f, g, o, m, h, h2, h3, h4 => by
    simp only [Fo.at?, Fo.put] at h h2 ⊢
    cases e : f.kid s with
    | none => simp [e] at h
    | some k =>
      simp only [e] at h h2
      rw [set_kid e] at h2
      by_cases hr : r = s
      · subst hr
        simp only [if_true] at h2
        rw [e]
        exact at_other h h2 (fun z => h3 (by simp [z])) fun z => h4 (by simp [z])
      · simpa only [hr, if_false] using h2
theorem put_ok : ∀ {p : List Int} {f g o : Fo}, Fo.at? p f = some g → f.ok → o.ok → (Fo.put p f o).ok
  | [], _, _, _, _, _, h => h
  | s :: p, f, g, o, h, hf, ho => by
    simp only [Fo.at?, Fo.put] at h ⊢
    cases e : f.kid s with
    | none => simp [e] at h
    | some q =>
      simp only [e] at h ⊢
      exact set_ok e hf (put_ok h (kid_ok e hf) ho)
theorem put_h : ∀ {p : List Int} {f g o : Fo}, Fo.at? p f = some g → (Fo.put p f o).h ≤ f.h + o.h
  | [], f, _, o, _ => by simp [Fo.put]
  | s :: p, f, g, o, h => by
    simp only [Fo.at?, Fo.put] at h ⊢
    cases e : f.kid s with
    | none => simp [e] at h
    | some q =>
      simp only [e] at h ⊢
      have h1 := set_h (o := Fo.put p q o) e
      have h2 := put_h (o := o) h
      have h3 := kid_h e
      omega
theorem at_len : ∀ {p : List Int} {f g : Fo}, Fo.at? p f = some g → p.length ≤ f.h
  | [], _, _, _ => Nat.zero_le _
  | s :: p, f, g, h => by
    simp only [Fo.at?] at h
    cases e : f.kid s with
    | none => simp [e] at h
    | some q =>
      simp only [e] at h
      have h1 := kid_h e
      have h2 := at_len h
      rw [List.length_cons]
      omega
theorem at_ok : ∀ {p : List Int} {f g : Fo}, Fo.at? p f = some g → f.ok → g.ok ∧ g.h ≤ f.h
  | [], _, _, h, hf => by
    cases h
    exact ⟨hf, Nat.le_refl _⟩
  | s :: p, f, g, h, hf => by
    simp only [Fo.at?] at h
    cases e : f.kid s with
    | none => simp [e] at h
    | some q =>
      simp only [e] at h
      have h1 := kid_h e
      have h2 := at_ok h (kid_ok e hf)
      exact ⟨h2.1, by omega⟩
theorem mem_shq {i : Int} {l : List (List Int × Fo)} {p : List Int} {g : Fo} : (p, g) ∈ shq i l ↔ ∃ q, p = i :: q ∧ (q, g) ∈ l := by
  unfold shq
  constructor
  · intro h
    obtain ⟨⟨q, g'⟩, m, e⟩ := List.mem_map.mp h
    cases e
    exact ⟨q, rfl, m⟩
  · rintro ⟨q, rfl, m⟩
    exact List.mem_map.mpr ⟨(q, g), m, rfl⟩
theorem mem_all : ∀ {f : Fo} {p : List Int} {g : Fo}, (p, g) ∈ f.all ↔ Fo.at? p f = some g := by
  intro f
  induction f with
  | num a b =>
    intro p g
    cases p with
    | nil => simp [Fo.all, Fo.at?, eq_comm]
    | cons s p => simp [Fo.all, Fo.at?, Fo.kid, Fo.kids]
  | nam x =>
    intro p g
    cases p with
    | nil => simp [Fo.all, Fo.at?, eq_comm]
    | cons s p => simp [Fo.all, Fo.at?, Fo.kid, Fo.kids]
  | m2 m a b iha ihb =>
    intro p g
    cases p with
    | nil =>
      simp only [Fo.all, Fo.at?, List.mem_cons, List.mem_append, mem_shq, Prod.mk.injEq, true_and, reduceCtorEq, false_and, exists_false, or_false, Option.some.injEq]
      exact ⟨Eq.symm, Eq.symm⟩
    | cons s p =>
      simp only [Fo.all, Fo.at?, List.mem_cons, List.mem_append, mem_shq, Prod.mk.injEq, reduceCtorEq, false_and, false_or, List.cons.injEq]
      by_cases h0 : s = 0
      · subst h0
        simp [Fo.kid, Fo.kids, iha]
      · by_cases h1 : s = 1
        · subst h1
          simp [Fo.kid, Fo.kids, ihb]
        · have : (Fo.m2 m a b).kid s = none := by
            unfold Fo.kid
            split
            · rw [List.getElem?_eq_none]
              simp [Fo.kids]
              omega
            · rfl
          simp [this, h0, h1]
  | m3 m a b c iha ihb ihc =>
    intro p g
    cases p with
    | nil =>
      simp only [Fo.all, Fo.at?, List.mem_cons, List.mem_append, mem_shq, Prod.mk.injEq, true_and, reduceCtorEq, false_and, exists_false, or_false, Option.some.injEq]
      exact ⟨Eq.symm, Eq.symm⟩
    | cons s p =>
      simp only [Fo.all, Fo.at?, List.mem_cons, List.mem_append, mem_shq, Prod.mk.injEq, reduceCtorEq, false_and, false_or, List.cons.injEq]
      by_cases h0 : s = 0
      · subst h0
        simp [Fo.kid, Fo.kids, iha]
      · by_cases h1 : s = 1
        · subst h1
          simp [Fo.kid, Fo.kids, ihb]
        · by_cases h2 : s = 2
          · subst h2
            simp [Fo.kid, Fo.kids, ihc]
          · have : (Fo.m3 m a b c).kid s = none := by
              unfold Fo.kid
              split
              · rw [List.getElem?_eq_none]
                simp [Fo.kids]
                omega
              · rfl
            simp [this, h0, h1, h2]
  | pow a e iha =>
    intro p g
    cases p with
    | nil =>
      simp only [Fo.all, Fo.at?, List.mem_cons, List.mem_append, mem_shq, Prod.mk.injEq, true_and, reduceCtorEq, false_and, exists_false, or_false, Option.some.injEq]
      exact ⟨Eq.symm, Eq.symm⟩
    | cons s p =>
      simp only [Fo.all, Fo.at?, List.mem_cons, List.mem_append, mem_shq, Prod.mk.injEq, reduceCtorEq, false_and, false_or, List.cons.injEq]
      by_cases h0 : s = 0
      · subst h0
        simp [Fo.kid, Fo.kids, iha]
      · have : (Fo.pow a e).kid s = none := by
          unfold Fo.kid
          split
          · rw [List.getElem?_eq_none]
            simp [Fo.kids]
            omega
          · rfl
        simp [this, h0]
  | div a b iha ihb =>
    intro p g
    cases p with
    | nil =>
      simp only [Fo.all, Fo.at?, List.mem_cons, List.mem_append, mem_shq, Prod.mk.injEq, true_and, reduceCtorEq, false_and, exists_false, or_false, Option.some.injEq]
      exact ⟨Eq.symm, Eq.symm⟩
    | cons s p =>
      simp only [Fo.all, Fo.at?, List.mem_cons, List.mem_append, mem_shq, Prod.mk.injEq, reduceCtorEq, false_and, false_or, List.cons.injEq]
      by_cases h0 : s = 0
      · subst h0
        simp [Fo.kid, Fo.kids, iha]
      · by_cases h1 : s = 1
        · subst h1
          simp [Fo.kid, Fo.kids, ihb]
        · have : (Fo.div a b).kid s = none := by
            unfold Fo.kid
            split
            · rw [List.getElem?_eq_none]
              simp [Fo.kids]
              omega
            · rfl
          simp [this, h0, h1]
  | one m a iha =>
    intro p g
    cases p with
    | nil =>
      simp only [Fo.all, Fo.at?, List.mem_cons, List.mem_append, mem_shq, Prod.mk.injEq, true_and, reduceCtorEq, false_and, exists_false, or_false, Option.some.injEq]
      exact ⟨Eq.symm, Eq.symm⟩
    | cons s p =>
      simp only [Fo.all, Fo.at?, List.mem_cons, List.mem_append, mem_shq, Prod.mk.injEq, reduceCtorEq, false_and, false_or, List.cons.injEq]
      by_cases h0 : s = 0
      · subst h0
        simp [Fo.kid, Fo.kids, iha]
      · have : (Fo.one m a).kid s = none := by
          unfold Fo.kid
          split
          · rw [List.getElem?_eq_none]
            simp [Fo.kids]
            omega
          · rfl
        simp [this, h0]
theorem all_len : ∀ f : Fo, f.all.length ≤ 4 ^ (f.h + 1) := by
  have key : ∀ a b : Nat, a ≤ b → 4 ^ (a + 1) ≤ 4 ^ (b + 1) := fun a b h => Nat.pow_le_pow_right (by decide) (by omega)
  have one : ∀ n : Nat, 1 ≤ 4 ^ (n + 1) := fun n => Nat.one_le_pow _ _ (by decide)
  intro f
  induction f with
  | num a b => simp [Fo.all, Fo.h]
  | nam x => simp [Fo.all, Fo.h]
  | m2 m a b ha hb =>
    have k1 := key a.h (max a.h b.h) (Nat.le_max_left ..)
    have k2 := key b.h (max a.h b.h) (Nat.le_max_right ..)
    have k3 := one (max a.h b.h)
    simp only [Fo.all, Fo.h, shq, List.length_cons, List.length_append, List.length_map]
    rw [Nat.pow_succ 4 (max a.h b.h + 1)]
    omega
  | m3 m a b c ha hb hc =>
    have k1 := key a.h (max (max a.h b.h) c.h) (by omega)
    have k2 := key b.h (max (max a.h b.h) c.h) (by omega)
    have k4 := key c.h (max (max a.h b.h) c.h) (by omega)
    have k3 := one (max (max a.h b.h) c.h)
    simp only [Fo.all, Fo.h, shq, List.length_cons, List.length_append, List.length_map]
    rw [Nat.pow_succ 4 (max (max a.h b.h) c.h + 1)]
    omega
  | pow a e ha =>
    have k3 := one a.h
    simp only [Fo.all, Fo.h, shq, List.length_cons, List.length_append, List.length_map]
    rw [Nat.pow_succ 4 (a.h + 1)]
    omega
  | div a b ha hb =>
    have k1 := key a.h (max a.h b.h) (Nat.le_max_left ..)
    have k2 := key b.h (max a.h b.h) (Nat.le_max_right ..)
    have k3 := one (max a.h b.h)
    simp only [Fo.all, Fo.h, shq, List.length_cons, List.length_append, List.length_map]
    rw [Nat.pow_succ 4 (max a.h b.h + 1)]
    omega
  | one m a ha =>
    have k3 := one a.h
    simp only [Fo.all, Fo.h, shq, List.length_cons, List.length_append, List.length_map]
    rw [Nat.pow_succ 4 (a.h + 1)]
    omega
end Lw

/-! ### formulas: what the defs tell -/
namespace Lw
open PySem Fm
section
variable {ns : List Int} {t : Tw} {k : Nat}
theorem nn1 : inB (.str "num") (.tup [.str "num", .str "name"]) = some true := by kernel_rfl
theorem nn2 : inB (.str "name") (.tup [.str "num", .str "name"]) = some true := by kernel_rfl
theorem nn3 (m : Bool) : inB (.str (wM m)) (.tup [.str "num", .str "name"]) = some false := by cases m <;> kernel_rfl
theorem nn4 : inB (.str "pow") (.tup [.str "num", .str "name"]) = some false := by kernel_rfl
theorem nn5 : inB (.str "div") (.tup [.str "num", .str "name"]) = some false := by kernel_rfl
theorem nn6 (m : Bool) : inB (.str (wO m)) (.tup [.str "num", .str "name"]) = some false := by cases m <;> kernel_rfl
theorem am1 : inB (.str "num") (.tup [.str "add", .str "mul"]) = some false := by kernel_rfl
theorem am2 : inB (.str "name") (.tup [.str "add", .str "mul"]) = some false := by kernel_rfl
theorem am3 (m : Bool) : inB (.str (wM m)) (.tup [.str "add", .str "mul"]) = some true := by cases m <;> kernel_rfl
theorem am4 : inB (.str "pow") (.tup [.str "add", .str "mul"]) = some false := by kernel_rfl
theorem am5 : inB (.str "div") (.tup [.str "add", .str "mul"]) = some false := by kernel_rfl
theorem am6 (m : Bool) : inB (.str (wO m)) (.tup [.str "add", .str "mul"]) = some false := by cases m <;> kernel_rfl
theorem pw1 : eqOp (.str "num") (.str "pow") = some (.bl false) := by kernel_rfl
theorem pw2 : eqOp (.str "name") (.str "pow") = some (.bl false) := by kernel_rfl
theorem pw3 (m : Bool) : eqOp (.str (wM m)) (.str "pow") = some (.bl false) := by cases m <;> kernel_rfl
theorem pw4 : eqOp (.str "pow") (.str "pow") = some (.bl true) := by kernel_rfl
theorem pw5 : eqOp (.str "div") (.str "pow") = some (.bl false) := by kernel_rfl
theorem pw6 (m : Bool) : eqOp (.str (wO m)) (.str "pow") = some (.bl false) := by cases m <;> kernel_rfl
theorem nu1 : eqOp (.str "num") (.str "num") = some (.bl true) := by kernel_rfl
theorem nu2 : eqOp (.str "name") (.str "num") = some (.bl false) := by kernel_rfl
theorem dr1 : inB (.str "num") (.tup [.str "div", .str "abs", .str "root"]) = some false := by kernel_rfl
theorem dr2 : inB (.str "name") (.tup [.str "div", .str "abs", .str "root"]) = some false := by kernel_rfl
theorem dr4 : inB (.str "pow") (.tup [.str "div", .str "abs", .str "root"]) = some false := by kernel_rfl
theorem dr5 : inB (.str "div") (.tup [.str "div", .str "abs", .str "root"]) = some true := by kernel_rfl
theorem dr6 (m : Bool) : inB (.str (wO m)) (.tup [.str "div", .str "abs", .str "root"]) = some true := by cases m <;> kernel_rfl
theorem okS {n : Nat} (h : n ≤ 16777216 := by decide) : okLen n = true := by
  simp only [okLen, decide_eq_true_eq]
  exact h
theorem cut1 {α : Type} (x : α) (xs : List α) : cutL (x :: xs) (some 1) none = xs := by
  unfold cutL HT.sIx
  simp
/-! ### parts_of, with_parts -/
theorem e_parts_of (hk : 1 ≤ k) (f : Fo) : callF p ns k i_parts_of [f.d] t = .ok (.tup (f.kids.map Fo.d)) t := by
  obtain ⟨k, rfl⟩ := up1 hk
  rw [u_parts_of]
  cases f <;> simp [b_parts_of, Fo.d, Fo.kids, nn1, nn2, nn3, nn4, nn5, nn6, am3, am4, am5, am6, pw4, pw5, pw6, okLen]
theorem e_with_parts (hk : 1 ≤ k) {f g o : Fo} {s : Int} (h : f.kid s = some g) : callF p ns k i_with_parts [f.d, .tup ((f.kids.map Fo.d).set s.toNat o.d)] t = .ok (f.set s.toNat o).d t := by
  obtain ⟨k, rfl⟩ := up1 hk
  rw [u_with_parts]
  refine kid_cases (φ := fun f s g => retD (evSs (gam p ns k) (csOf cst) b_with_parts (startR ["formula", "parts", "word", "rest"] [f.d, .tup ((f.kids.map Fo.d).set s.toNat o.d)]) t) = .ok (f.set s.toNat o).d t) h ?_ ?_ ?_ ?_ ?_ ?_ ?_ ?_ ?_ <;> intros <;>
    simp [b_with_parts, Fo.d, Fo.kids, Fo.set, nn1, nn2, nn3, nn4, nn5, nn6, am3, am4, am5, am6, pw4, pw5, pw6, okLen]
end
end Lw

/-! ### formulas: paths -/
namespace Lw
open PySem Fm
section
variable {ns : List Int} {t : Tw} {k : Nat}
abbrev pd (q : List Int) : D := .tup (q.map D.int)
theorem gd_pd {q : List Int} (h : q.length ≤ 1000) : gd (pd q) = true := by
  simp only [gd, Bool.and_eq_true, decide_eq_true_eq, List.length_map]
  refine ⟨h, gds_of fun x hx => ?_⟩
  obtain ⟨i, _, rfl⟩ := List.mem_map.mp hx
  rfl
theorem lay_pd : ∀ q : List Int, PyData.canLayAll0 (pys (q.map D.int)) = true
  | [] => by simp [pys, PyData.canLayAll0]
  | i :: q => by
    have := lay_pd q
    simp [pys, PyData.canLayAll0, D.py, PyData.canLay0, this]
theorem lay_pd' (q : List Int) : lay (pd q) = true := by
  simp only [lay, D.py, PyData.canLay0]
  exact lay_pd q
theorem dep_pd (q : List Int) : dep (pd q) ≤ 1 := by
  rw [dep_tup]
  have : PyData.depthAll (pys (q.map D.int)) ≤ 0 := dep_all fun x hx => by
    obtain ⟨i, _, rfl⟩ := List.mem_map.mp hx
    rw [dep_int]
    exact Nat.le_refl _
  omega
theorem eqv_pd : ∀ q r : List Int, PyData.eqvAll (pys (q.map D.int)) (pys (r.map D.int)) = decide (q = r)
  | [], [] => by simp [pys, PyData.eqvAll]
  | [], _ :: _ => by simp [pys, PyData.eqvAll]
  | _ :: _, [] => by simp [pys, PyData.eqvAll]
  | i :: q, j :: r => by
    have := eqv_pd q r
    simp [pys, PyData.eqvAll, D.py, PyData.eqv, this, Bool.beq_eq_decide_eq]
theorem eqD_pd (q r : List Int) : eqD (pd q) (pd r) = decide (q = r) := by
  simp only [eqD, D.py, PyData.eqv]
  exact eqv_pd q r
theorem ne_pd (q r : List Int) : neOp (pd q) (pd r) = some (.bl (!decide (q = r))) := by
  have h : okEq (pd q) (pd r) = true := by
    have := dep_pd q
    simp only [okEq, lay_pd', Bool.and_eq_true, decide_eq_true_eq, true_and, and_self]
    omega
  rw [neOp, h, if_pos rfl, eqD_pd]
theorem eq0_pd (q : List Int) : eqOp (pd q) (.tup []) = some (.bl q.isEmpty) := by
  rw [x_eq0 (lay_pd' q)]
  simp
theorem kid_in {f g : Fo} {s : Int} (h : f.kid s = some g) : 0 ≤ s ∧ s < f.kids.length ∧ f.kids[s.toNat]? = some g := by
  unfold Fo.kid at h
  split at h
  · rename_i hs
    have := (List.getElem?_eq_some_iff.mp h).1
    exact ⟨hs, by omega, h⟩
  · cases h
theorem kid_no {f : Fo} {s : Int} (h : f.kid s = none) : ¬ (0 ≤ s ∧ s < f.kids.length) := fun ⟨h1, h2⟩ => by
  unfold Fo.kid at h
  rw [if_pos h1, List.getElem?_eq_getElem (by omega)] at h
  cases h
theorem atI_kid {f g : Fo} {s : Int} (h : f.kid s = some g) : L2.atI (f.kids.map Fo.d) s = some g.d := by
  obtain ⟨h1, h2, h3⟩ := kid_in h
  unfold L2.atI L2.ixN
  rw [if_pos h1, if_pos (by rw [List.length_map]; exact h2)]
  show (f.kids.map Fo.d)[s.toNat]? = _
  rw [List.getElem?_map, h3]
  rfl
theorem ixN_kid {f g : Fo} {s : Int} (h : f.kid s = some g) : L2.ixN f.kids.length s = some s.toNat := by
  obtain ⟨h1, h2, h3⟩ := kid_in h
  unfold L2.ixN
  rw [if_pos h1, if_pos h2]
theorem pa_step (hk : 1 ≤ k) (f : Fo) (s : Int) (a b : Sl) : evSs (gam p ns k) (csOf cst) b_part_at_1 [.val f.d, a, .val (.int s), b] t = match f.kid s with
    | some g => .ok (.nx, [.val g.d, a, .val (.int s), .val (.tup (f.kids.map Fo.d))]) t
    | none => .exc 5 t := by
  have e1 := e_parts_of (ns := ns) (t := t) hk f
  have e2 := e_is_wholeL (ns := ns) (t := t) hk (.int s) 0 rfl
  cases h : f.kid s with
  | some g =>
    obtain ⟨h1, h2, h3⟩ := kid_in h
    have hn : ¬ ((f.kids.length : Int) ≤ s) := by omega
    simp [b_part_at_1, e1, e2, isWL, h1, hn, atI_kid h]
  | none =>
    have hn := kid_no h
    by_cases h1 : 0 ≤ s
    · have h2 : (f.kids.length : Int) ≤ s := by omega
      simp [b_part_at_1, e1, e2, isWL, h1, h2]
    · simp [b_part_at_1, e1, e2, isWL, h1]
theorem pa_loop (hk : 1 ≤ k) (a : Sl) : ∀ (q : List Int) (f : Fo) (b c : Sl), (∀ g, Fo.at? q f = some g → ∃ b' c', loopF (fun d r t => match setT (.name 2) d r with
    | some r1 => evSs (gam p ns k) (csOf cst) b_part_at_1 r1 t
    | none => .bad) (q.map D.int) [.val f.d, a, b, c] t = .ok (.nx, [.val g.d, a, b', c']) t) ∧ (Fo.at? q f = none → loopF (fun d r t => match setT (.name 2) d r with
    | some r1 => evSs (gam p ns k) (csOf cst) b_part_at_1 r1 t
    | none => .bad) (q.map D.int) [.val f.d, a, b, c] t = .exc 5 t)
  | [], f, b, c => by
    refine ⟨fun g h => ?_, fun h => ?_⟩
    · cases h
      exact ⟨b, c, rfl⟩
    · cases h
  | s :: q, f, b, c => by
    have e := pa_step (ns := ns) (t := t) hk f s a c
    simp only [Fo.at?]
    cases hs : f.kid s with
    | none =>
      rw [hs] at e
      refine ⟨fun g h => (by cases h), fun _ => ?_⟩
      simp [loopF, e]
    | some g0 =>
      rw [hs] at e
      obtain ⟨i1, i2⟩ := pa_loop hk a q g0 (.val (.int s)) (.val (.tup (f.kids.map Fo.d)))
      refine ⟨fun g h => ?_, fun h => ?_⟩
      · obtain ⟨b', c', e2⟩ := i1 g h
        refine ⟨b', c', ?_⟩
        simp [loopF, e]
        simpa using e2
      · have e2 := i2 h
        simp [loopF, e]
        simpa using e2
theorem seq_exc {G : Gam} {cs : Nat → D} {s : S} {q : Ss} {r : Rho} {t t1 : Tw} {n : Nat} (h : evS G cs s r t = .exc n t1) : evSs G cs (.cons s q) r t = .exc n t1 := by
  rw [evSs_cons]
  unfold consE
  rw [h]
  rfl
theorem e_part_at (hk : 2 ≤ k) {f g : Fo} {q : List Int} (h : Fo.at? q f = some g) : callF p ns k i_part_at [f.d, pd q] t = .ok g.d t := by
  obtain ⟨k, rfl⟩ := up1 (show 1 ≤ k by omega)
  rw [u_part_at]
  obtain ⟨b, c, e⟩ := (pa_loop (ns := ns) (t := t) (k := k) (by omega) (.val (pd q)) q f .un .un).1 g h
  have e1 : evS (gam p ns k) (csOf cst) (.for (.name 2) (.val (.var 1)) b_part_at_1) [.val f.d, .val (pd q), .un, .un] t = .ok (.nx, [.val g.d, .val (pd q), b, c]) t := by
    rw [for_ev (xs := q.map D.int) (t1 := t) (by simp)]
    exact e
  show retD (evSs (gam p ns k) (csOf cst) (.cons (.for (.name 2) (.val (.var 1)) b_part_at_1) (.cons (.ret (.var 0)) .nil)) [.val f.d, .val (pd q), .un, .un] t) = _
  rw [seq_nx e1]
  simp
theorem e_part_no (hk : 2 ≤ k) {f : Fo} {q : List Int} (h : Fo.at? q f = none) : callF p ns k i_part_at [f.d, pd q] t = .exc 5 t := by
  obtain ⟨k, rfl⟩ := up1 (show 1 ≤ k by omega)
  rw [u_part_at]
  have e := (pa_loop (ns := ns) (t := t) (k := k) (by omega) (.val (pd q)) q f .un .un).2 h
  have e1 : evS (gam p ns k) (csOf cst) (.for (.name 2) (.val (.var 1)) b_part_at_1) [.val f.d, .val (pd q), .un, .un] t = .exc 5 t := by
    rw [for_ev (xs := q.map D.int) (t1 := t) (by simp)]
    exact e
  show retD (evSs (gam p ns k) (csOf cst) (.cons (.for (.name 2) (.val (.var 1)) b_part_at_1) (.cons (.ret (.var 0)) .nil)) [.val f.d, .val (pd q), .un, .un] t) = _
  rw [seq_exc e1]
  rfl
theorem e_with_no (hk : 3 ≤ k) {f : Fo} {q : List Int} (o : D) (h : Fo.at? q f = none) : callF p ns k i_with_part [f.d, pd q, o] t = .exc 5 t := by
  obtain ⟨k, rfl⟩ := up1 (show 1 ≤ k by omega)
  rw [u_with_part]
  have e := e_part_no (ns := ns) (t := t) (k := k) (by omega) h
  simp [b_with_part, e]
theorem e_with_part : ∀ (k : Nat) (q : List Int) (f g o : Fo), q.length + 3 ≤ k → Fo.at? q f = some g → callF p ns k i_with_part [f.d, pd q, o.d] t = .ok (Fo.put q f o).d t := by
  intro k
  induction k with
  | zero => intro q f g o hk; omega
  | succ k ih =>
    intro q f g o hk h
    rw [u_with_part]
    have e := e_part_at (ns := ns) (t := t) (k := k) (by omega) h
    have e0 := eq0_pd q
    cases q with
    | nil =>
      simp at e e0
      simp [b_with_part, e, e0, Fo.put]
    | cons s q =>
      simp at e e0
      simp only [Fo.at?] at h
      cases hs : f.kid s with
      | none => simp [hs] at h
      | some g0 =>
        simp only [hs] at h
        have e1 := e_parts_of (ns := ns) (t := t) (k := k) (by omega) f
        have e2 := ih q g0 g o (by simp at hk; omega) h
        have e3 := e_with_parts (ns := ns) (t := t) (k := k) (by omega) (o := Fo.put q g0 o) hs
        simp [b_with_part, e, e0, e1, atI_kid hs, cut1, e2, ixN_kid hs, e3, Fo.put, hs]
end
end Lw

/-! ### formulas: is_formula, all parts -/
namespace Lw
open PySem Fm
section
variable {ns : List Int} {t : Tw} {k : Nat}
theorem sM (m : Bool) : PyData.strOk (wM m) = true ∧ (wM m).length ≤ 1000 := by cases m <;> decide +kernel
theorem sO (m : Bool) : PyData.strOk (wO m) = true ∧ (wO m).length ≤ 1000 := by cases m <;> decide +kernel
theorem sW : (PyData.strOk "num" = true ∧ ("num" : Str).length ≤ 1000) ∧ (PyData.strOk "name" = true ∧ ("name" : Str).length ≤ 1000) ∧ (PyData.strOk "pow" = true ∧ ("pow" : Str).length ≤ 1000) ∧ (PyData.strOk "div" = true ∧ ("div" : Str).length ≤ 1000) ∧ (PyData.strOk "x" = true ∧ ("x" : Str).length ≤ 1000) ∧ (PyData.strOk "y" = true ∧ ("y" : Str).length ≤ 1000) := by decide +kernel
theorem gdF : ∀ {f : Fo}, f.ok → gd f.d = true := by
  intro f
  obtain ⟨w1, w2, w3, w4, w5, w6⟩ := sW
  induction f with
  | num a b => intro _; simp [Fo.d, gd, gds, w1]
  | nam x =>
    intro h
    rcases h with rfl | rfl <;> simp [Fo.d, gd, gds, w2, w5, w6]
  | m2 m a b ha hb => intro h; simp [Fo.d, gd, gds, sM, ha h.1, hb h.2]
  | m3 m a b c ha hb hc => intro h; simp [Fo.d, gd, gds, sM, ha h.1, hb h.2.1, hc h.2.2]
  | pow a e ha => intro h; simp [Fo.d, gd, gds, w3, ha h.1]
  | div a b ha hb => intro h; simp [Fo.d, gd, gds, w4, ha h.1, hb h.2]
  | one m a ha => intro h; simp [Fo.d, gd, gds, sO, ha h]
theorem depF : ∀ f : Fo, dep f.d ≤ 2 * f.h + 2 := by
  intro f
  induction f with
  | num a b => simp [Fo.d, Fo.h, dep, D.py, pys, PyData.depth, PyData.depthAll]
  | nam x => simp [Fo.d, Fo.h, dep, D.py, pys, PyData.depth, PyData.depthAll]
  | m2 m a b ha hb =>
    simp only [dep] at ha hb
    simp only [Fo.d, Fo.h, dep, D.py, pys, PyData.depth, PyData.depthAll]
    omega
  | m3 m a b c ha hb hc =>
    simp only [dep] at ha hb hc
    simp only [Fo.d, Fo.h, dep, D.py, pys, PyData.depth, PyData.depthAll]
    omega
  | pow a e ha =>
    simp only [dep] at ha
    simp only [Fo.d, Fo.h, dep, D.py, pys, PyData.depth, PyData.depthAll]
    omega
  | div a b ha hb =>
    simp only [dep] at ha hb
    simp only [Fo.d, Fo.h, dep, D.py, pys, PyData.depth, PyData.depthAll]
    omega
  | one m a ha =>
    simp only [dep] at ha
    simp only [Fo.d, Fo.h, dep, D.py, pys, PyData.depth, PyData.depthAll]
    omega
theorem ne_self {d : D} (h : lay d = true) (hd : dep d ≤ 190) : neOp d d = some (.bl false) := by
  have e : eqD d d = true := PySem.SeqAt.eqv_refl _ h
  have o : okEq d d = true := by
    simp only [okEq, h, Bool.and_eq_true, decide_eq_true_eq, true_and, and_self]
    omega
  rw [neOp, o, if_pos rfl, e]
  rfl
theorem neF {f : Fo} (h : f.ok) (hh : f.h ≤ 90) : neOp f.d f.d = some (.bl false) := ne_self (gd_lay (gdF h)) (by have := depF f; omega)
theorem e0F {f : Fo} (h : f.ok) : eqOp f.d (.tup []) = some (.bl false) := by
  have l := gd_lay (gdF h)
  cases f <;> (simp only [Fo.d] at l ⊢; rw [x_eq0 l]; rfl)
theorem in_xy {x : Str} (h : x = "x" ∨ x = "y") : inB (.str x) (.str "abcdefghijklmnopqrstuvwxyz") = some true ∧ strD x = [.str x] ∧ x.length = 1 := by
  rcases h with rfl | rfl
  · exact ⟨by kernel_rfl, by kernel_rfl, by kernel_rfl⟩
  · exact ⟨by kernel_rfl, by kernel_rfl, by kernel_rfl⟩
theorem al1 : blt1 .all (.lst [.bl true]) = some (.bl true) := rfl
theorem al2 : blt1 .all (.lst [.bl true, .bl true]) = some (.bl true) := rfl
theorem al3 : blt1 .all (.lst [.bl true, .bl true, .bl true]) = some (.bl true) := rfl
theorem e_is_nameX (hk : 1 ≤ k) {x : Str} (h : x = "x" ∨ x = "y") : callF p ns k i_is_name [.str x] t = .ok (.bl true) t := by
  obtain ⟨k, rfl⟩ := up1 hk
  rw [u_is_name]
  obtain ⟨h1, h2, h3⟩ := in_xy h
  have hc := comp_map (G := gam p ns k) (cs := csOf cst) (own := [("mark", 1)]) (elt := .cmp .In (.var 1) (.glob 0)) (tg := .name 1) (it := .val (.var 0)) (cd := .none) (r := [.val (.str x), .un]) (t := t) (xs := [.str x]) (fun _ => .bl true) (by simp [h2]) (okS (by simp)) (fun d m => by
    obtain rfl := List.mem_singleton.mp m
    simp [h1])
  simp [b_is_name, h3, okLen, hc, al1, al2, al3]
theorem parts_all {r : Rho} {it : I} {xs : List D} (hr : 3 < r.length) (hi : evI (gam p ns k) (csOf cst) it r t = .ok xs t) (hl : xs.length ≤ 1000) (ih : ∀ x ∈ xs, callF p ns k i_is_formula [x] t = .ok (.bl true) t) :
    ev (gam p ns k) (csOf cst) (.comp [("part", 3)] (.call 5 (.cons (.var 3) .nil) .nil) (.name 3) it .none) r t = .ok (.lst (xs.map fun x => .bl true)) t := by
  refine comp_map (fun x => .bl true) hi (okS (by omega)) fun d m => ?_
  simp [hr, ih d m]
theorem look_w : (lookD (mergeD [] [("div", .int 2), ("abs", .int 1), ("root", .int 1)]) (.inr "div")).getD (.int (-1)) = .int 2 := by rfl
theorem look_o (m : Bool) : (lookD (mergeD [] [("div", .int 2), ("abs", .int 1), ("root", .int 1)]) (.inr (wO m))).getD (.int (-1)) = .int 1 := by cases m <;> rfl
theorem e_is_formula : ∀ (f : Fo) (k : Nat), f.ok → f.h + 3 ≤ k → callF p ns k i_is_formula [f.d] t = .ok (.bl true) t := by
  intro f
  induction f with
  | num a b =>
    intro k h hk
    obtain ⟨k, rfl⟩ := up1 (show 1 ≤ k by omega)
    have e0 := e0F h
    have e1 := e_is_fraction (ns := ns) (t := t) (k := k) (by omega) (.tup [.int a, .int b]) (by simp [gd, gds])
    have e2 : isFr (.tup [.int a, .int b]) = true := by simpa [isFr] using (show 1 ≤ b ∧ Int.gcd a b = 1 from h)
    rw [e2] at e1
    rw [u_is_formula]
    simp only [Fo.d] at e0 ⊢
    simp [b_is_formula, e0, nn1, nu1, e1]
  | nam x =>
    intro k h hk
    obtain ⟨k, rfl⟩ := up1 (show 1 ≤ k by omega)
    have e0 := e0F h
    have e1 := e_is_nameX (ns := ns) (t := t) (k := k) (by omega) h
    rw [u_is_formula]
    simp only [Fo.d] at e0 ⊢
    simp [b_is_formula, e0, nn2, nu2, e1]
  | m2 m a b ha hb =>
    intro k h hk
    obtain ⟨k, rfl⟩ := up1 (show 1 ≤ k by omega)
    have e0 := e0F h
    simp only [Fo.h] at hk
    have e1 := ha k h.1 (by omega)
    have e2 := hb k h.2 (by omega)
    rw [u_is_formula]
    simp only [Fo.d] at e0 ⊢
    have hc := parts_all (ns := ns) (t := t) (k := k) (r := [.val (.tup [.str (wM m), .tup [a.d, b.d]]), .val (.str (wM m)), .val (.lst [.tup [a.d, b.d]]), .un, .un]) (it := .val (.ix (.var 2) (.cst (.int 0)))) (xs := [a.d, b.d]) (by simp) (by simp) (by simp) (by simp [e1, e2])
    simp [b_is_formula, e0, nn3, am3, hc, al1, al2, al3]
  | m3 m a b c ha hb hc =>
    intro k h hk
    obtain ⟨k, rfl⟩ := up1 (show 1 ≤ k by omega)
    have e0 := e0F h
    simp only [Fo.h] at hk
    have e1 := ha k h.1 (by omega)
    have e2 := hb k h.2.1 (by omega)
    have e3 := hc k h.2.2 (by omega)
    rw [u_is_formula]
    simp only [Fo.d] at e0 ⊢
    have hc := parts_all (ns := ns) (t := t) (k := k) (r := [.val (.tup [.str (wM m), .tup [a.d, b.d, c.d]]), .val (.str (wM m)), .val (.lst [.tup [a.d, b.d, c.d]]), .un, .un]) (it := .val (.ix (.var 2) (.cst (.int 0)))) (xs := [a.d, b.d, c.d]) (by simp) (by simp) (by simp) (by simp [e1, e2, e3])
    simp [b_is_formula, e0, nn3, am3, hc, al1, al2, al3]
  | pow a e ha =>
    intro k h hk
    obtain ⟨k, rfl⟩ := up1 (show 1 ≤ k by omega)
    have e0 := e0F h
    simp only [Fo.h] at hk
    have e1 := ha k h.1 (by omega)
    have e2 := e_is_wholeL (ns := ns) (t := t) (k := k) (by omega) (.int e) 0 rfl
    rw [show isWL 0 (.int e) = true from by simpa [isWL] using h.2] at e2
    rw [u_is_formula]
    simp only [Fo.d] at e0 ⊢
    simp [b_is_formula, e0, nn4, am4, pw4, e1, e2]
  | div a b ha hb =>
    intro k h hk
    obtain ⟨k, rfl⟩ := up1 (show 1 ≤ k by omega)
    have e0 := e0F h
    simp only [Fo.h] at hk
    have e1 := ha k h.1 (by omega)
    have e2 := hb k h.2 (by omega)
    rw [u_is_formula]
    simp only [Fo.d] at e0 ⊢
    have hc := parts_all (ns := ns) (t := t) (k := k) (r := [.val (.tup [.str "div", a.d, b.d]), .val (.str "div"), .val (.lst [a.d, b.d]), .un, .val (.int 2)]) (it := .val (.var 2)) (xs := [a.d, b.d]) (by simp) (by simp) (by simp) (by simp [e1, e2])
    simp [b_is_formula, e0, nn5, am5, pw5, keyD, look_w, hc, al1, al2, al3]
  | one m a ha =>
    intro k h hk
    obtain ⟨k, rfl⟩ := up1 (show 1 ≤ k by omega)
    have e0 := e0F h
    simp only [Fo.h] at hk
    have e1 := ha k h (by omega)
    rw [u_is_formula]
    simp only [Fo.d] at e0 ⊢
    have hc := parts_all (ns := ns) (t := t) (k := k) (r := [.val (.tup [.str (wO m), a.d]), .val (.str (wO m)), .val (.lst [a.d]), .un, .val (.int 1)]) (it := .val (.var 2)) (xs := [a.d]) (by simp) (by simp) (by simp) (by simp [e1])
    simp [b_is_formula, e0, nn6, am6, pw6, keyD, look_o, hc, al1, al2, al3]
end
end Lw

/-! ### formulas: all parts -/
namespace Lw
open PySem Fm
section
variable {ns : List Int} {t : Tw} {k : Nat}
abbrev pr (q : List Int × Fo) : D := .tup [pd q.1, q.2.d]
def kidsAll : Nat → List Fo → List (List Int × Fo)
  | _, [] => []
  | j, g :: gs => shq (j : Nat) g.all ++ kidsAll (j + 1) gs
theorem all_eq (f : Fo) : f.all = ([], f) :: kidsAll 0 f.kids := by
  cases f <;> simp [Fo.all, Fo.kids, kidsAll]
def tk (j : Int) (d : D) : D := match d with
  | .tup [.tup p, o] => .tup [.tup (.int j :: p), o]
  | d => d
theorem tk_all (j : Int) (l : List (List Int × Fo)) : (l.map pr).map (tk j) = (shq j l).map pr := by
  simp [shq, List.map_map, Function.comp_def, tk]
theorem kid_lt {f g : Fo} (h : g ∈ f.kids) : g.h + 1 ≤ f.h := by
  cases f <;> simp only [Fo.kids, List.mem_cons, List.not_mem_nil, or_false] at h <;> simp only [Fo.h]
  case m2 => rcases h with rfl | rfl <;> omega
  case m3 => rcases h with rfl | rfl | rfl <;> omega
  case pow => subst h; omega
  case div => rcases h with rfl | rfl <;> omega
  case one => subst h; omega
theorem step_ev {g : Fo} {j : Nat} {acc : List D} {x y a b : Sl} (hg : g.h ≤ 8) (hacc : acc.length ≤ 1000000) (e : callF p ns k i__law_parts [g.d] t = .ok (.lst (g.all.map pr)) t) :
    evSs (gam p ns k) (csOf cst) b__law_parts_1 [x, y, .val (.lst acc), .val (.int j), .val g.d, a, b] t = .ok (.nx, [x, y, .val (.lst (acc ++ (shq j g.all).map pr)), .val (.int j), .val g.d, a, b]) t := by
  have hl : g.all.length ≤ 262144 := Nat.le_trans (all_len g) (Nat.le_trans (Nat.pow_le_pow_right (by decide) (show g.h + 1 ≤ 9 by omega)) (by decide))
  have hc := comp_map (G := gam p ns k) (cs := csOf cst) (own := [("path", 5), ("one", 6)]) (elt := .tup (.cons (.bin .Add (.tup (.cons (.var 3) .nil)) (.var 5)) (.cons (.var 6) .nil))) (tg := .tup (.cons (.name 5) (.cons (.name 6) .nil))) (it := .val (.call 14 (.cons (.var 4) .nil) .nil)) (cd := .none)
    (r := [x, y, .val (.lst acc), .val (.int j), .val g.d, a, b]) (t := t) (xs := g.all.map pr) (tk j) (by simp [e]) (okS (by rw [List.length_map]; omega)) (fun d m => by
      obtain ⟨⟨q, o⟩, hq, rfl⟩ := List.mem_map.mp m
      have hq := at_len (mem_all.mp hq)
      have ok : 1 + q.length ≤ 16777216 := by omega
      simp [tk, okLen, ok])
  rw [tk_all] at hc
  have o2 : okLen (acc.length + (shq j g.all).length) = true := okS (by simp only [shq, List.length_map]; omega)
  simp [b__law_parts_1, hc, o2]
theorem loop_ev {x y : Sl} (gs : List Fo) : ∀ (j : Nat) (acc : List D) (u v a b : Sl), (∀ g ∈ gs, g.h ≤ 8 ∧ callF p ns k i__law_parts [g.d] t = .ok (.lst (g.all.map pr)) t) → acc.length + gs.length * 262144 ≤ 1000000 →
    ∃ u' v', loopF (fun d r t => match setT (.tup (.cons (.name 3) (.cons (.name 4) .nil))) d r with
    | some r1 => evSs (gam p ns k) (csOf cst) b__law_parts_1 r1 t
    | none => .bad) (enumD j (gs.map Fo.d)) [x, y, .val (.lst acc), u, v, a, b] t = .ok (.nx, [x, y, .val (.lst (acc ++ (kidsAll j gs).map pr)), u', v', a, b]) t := by
  induction gs with
  | nil =>
    intro j acc u v a b _ _
    exact ⟨u, v, by simp [enumD, loopF, kidsAll]⟩
  | cons g gs ih =>
    intro j acc u v a b h hl
    obtain ⟨h1, h2⟩ := h g List.mem_cons_self
    rw [List.length_cons] at hl
    have hal : g.all.length ≤ 262144 := Nat.le_trans (all_len g) (Nat.le_trans (Nat.pow_le_pow_right (by decide) (show g.h + 1 ≤ 9 by omega)) (by decide))
    have e1 := step_ev (x := x) (y := y) (a := a) (b := b) (j := j) (acc := acc) h1 (by omega) h2
    obtain ⟨u', v', e2⟩ := ih (j + 1) (acc ++ (shq j g.all).map pr) (.val (.int j)) (.val g.d) a b (fun g' hg => h g' (List.mem_cons_of_mem _ hg)) (by simp only [List.length_append, shq, List.length_map]; omega)
    refine ⟨u', v', ?_⟩
    have e3 : acc ++ (kidsAll j (g :: gs)).map pr = acc ++ (shq j g.all).map pr ++ (kidsAll (j + 1) gs).map pr := by
      rw [kidsAll, List.map_append, List.append_assoc]
    rw [e3, List.map_cons, enumD, loopF]
    have e4 : setT (.tup (.cons (.name 3) (.cons (.name 4) .nil))) (.tup [.int (j : Nat), g.d]) [x, y, .val (.lst acc), u, v, a, b] = some [x, y, .val (.lst acc), .val (.int (j : Nat)), .val g.d, a, b] := rfl
    simp only [e4, e1, Res.bind_ok]
    exact e2
def partsA : S := .ite (.cmp .In (.ix (.var 0) (.cst (.int 0))) (.tup (.cons (.cst (.str "add")) (.cons (.cst (.str "mul")) .nil)))) (.cons (.asg (.name 1) (.blt .list (.ix (.var 0) (.cst (.int 1))))) .nil) (.cons (.ite (.cmp .In (.ix (.var 0) (.cst (.int 0))) (.tup (.cons (.cst (.str "div")) (.cons (.cst (.str "abs")) (.cons (.cst (.str "root")) .nil))))) (.cons (.asg (.name 1) (.blt .list (.cut (.var 0) (.some (.cst (.int 1))) .none))) .nil) (.cons (.ite (.cmp .Eq (.ix (.var 0) (.cst (.int 0))) (.cst (.str "pow"))) (.cons (.asg (.name 1) (.lst (.cons (.ix (.var 0) (.cst (.int 1))) .nil))) .nil) .nil) .nil)) .nil)
theorem partsA_ev (f : Fo) : evS (gam p ns k) (csOf cst) partsA [.val f.d, .val (.lst []), .un, .un, .un, .un, .un] t = .ok (.nx, [.val f.d, .val (.lst (f.kids.map Fo.d)), .un, .un, .un, .un, .un]) t := by
  cases f <;> simp [partsA, Fo.d, Fo.kids, am1, am2, am3, am4, am5, am6, dr1, dr2, dr4, dr5, dr6, pw1, pw2, pw4, cut1, okLen]
theorem e_parts : ∀ (n : Nat) (f : Fo) (k : Nat), f.h ≤ n → f.h ≤ 8 → f.h + 1 ≤ k → callF p ns k i__law_parts [f.d] t = .ok (.lst (f.all.map pr)) t := by
  intro n
  induction n with
  | zero =>
    intro f k h1 h2 h3
    obtain ⟨k, rfl⟩ := up1 (show 1 ≤ k by omega)
    rw [u__law_parts]
    obtain ⟨u, v, e⟩ := loop_ev (ns := ns) (t := t) (k := k) (x := .val f.d) (y := .val (.lst (f.kids.map Fo.d))) f.kids 0 [pr ([], f)] .un .un .un .un (fun g hg => by have := kid_lt hg; omega) (by cases f <;> simp [Fo.kids])
    show retD (evSs (gam p ns k) (csOf cst) (.cons (.asg (.name 1) (.lst .nil)) (.cons partsA (.cons (.asg (.name 2) (.lst (.cons (.tup (.cons (.tup .nil) (.cons (.var 0) .nil))) .nil))) (.cons (.for (.tup (.cons (.name 3) (.cons (.name 4) .nil))) (.enum (.var 1)) b__law_parts_1) (.cons (.ret (.var 2)) .nil))))) [.val f.d, .un, .un, .un, .un, .un, .un] t) = _
    rw [seq_nx (r1 := [.val f.d, .val (.lst []), .un, .un, .un, .un, .un]) (t1 := t) (by simp [okLen]), seq_nx (partsA_ev f), seq_nx (r1 := [.val f.d, .val (.lst (f.kids.map Fo.d)), .val (.lst [pr ([], f)]), .un, .un, .un, .un]) (t1 := t) (by simp [okLen])]
    rw [seq_nx (r1 := [.val f.d, .val (.lst (f.kids.map Fo.d)), .val (.lst ([pr ([], f)] ++ (kidsAll 0 f.kids).map pr)), u, v, .un, .un]) (t1 := t) (by rw [for_ev (xs := enumD 0 (f.kids.map Fo.d)) (t1 := t) (by simp)]; exact e)]
    rw [all_eq f]
    simp
  | succ n ih =>
    intro f k h1 h2 h3
    obtain ⟨k, rfl⟩ := up1 (show 1 ≤ k by omega)
    rw [u__law_parts]
    obtain ⟨u, v, e⟩ := loop_ev (ns := ns) (t := t) (k := k) (x := .val f.d) (y := .val (.lst (f.kids.map Fo.d))) f.kids 0 [pr ([], f)] .un .un .un .un (fun g hg => by
      have := kid_lt hg
      exact ⟨by omega, ih g k (by omega) (by omega) (by omega)⟩) (by cases f <;> simp [Fo.kids])
    show retD (evSs (gam p ns k) (csOf cst) (.cons (.asg (.name 1) (.lst .nil)) (.cons partsA (.cons (.asg (.name 2) (.lst (.cons (.tup (.cons (.tup .nil) (.cons (.var 0) .nil))) .nil))) (.cons (.for (.tup (.cons (.name 3) (.cons (.name 4) .nil))) (.enum (.var 1)) b__law_parts_1) (.cons (.ret (.var 2)) .nil))))) [.val f.d, .un, .un, .un, .un, .un, .un] t) = _
    rw [seq_nx (r1 := [.val f.d, .val (.lst []), .un, .un, .un, .un, .un]) (t1 := t) (by simp [okLen]), seq_nx (partsA_ev f), seq_nx (r1 := [.val f.d, .val (.lst (f.kids.map Fo.d)), .val (.lst [pr ([], f)]), .un, .un, .un, .un]) (t1 := t) (by simp [okLen])]
    rw [seq_nx (r1 := [.val f.d, .val (.lst (f.kids.map Fo.d)), .val (.lst ([pr ([], f)] ++ (kidsAll 0 f.kids).map pr)), u, v, .un, .un]) (t1 := t) (by rw [for_ev (xs := enumD 0 (f.kids.map Fo.d)) (t1 := t) (by simp)]; exact e)]
    rw [all_eq f]
    simp
end
end Lw

/-! ### drawn formulas -/
namespace Lw
open PySem Fm
section
variable {ns sc : List Int} {t : Tw} {k n : Nat}
/-- what a drawn formula is -/
def Zf (d : Nat) (x : D) : Prop := ∃ f : Fo, x = f.d ∧ f.ok ∧ f.h ≤ d
theorem z_num {d : Nat} {x y : Int} (h : isFr (.tup [.int x, .int y]) = true) : Zf d (.tup [.str "num", .tup [.int x, .int y]]) := by
  refine ⟨.num x y, rfl, ?_, Nat.zero_le _⟩
  simpa [isFr, Fo.ok] using h
theorem z_name {d : Nat} {x : Str} (h : x = "x" ∨ x = "y") : Zf d (.tup [.str "name", .str x]) := ⟨.nam x, rfl, h, Nat.zero_le _⟩
theorem z_many {d : Nat} {w : Str} {ps : List D} (hw : w = "add" ∨ w = "mul") (h : ∀ x ∈ ps, Zf d x) (h2 : 2 ≤ ps.length) (h3 : ps.length ≤ 3) : Zf (d + 1) (.tup [.str w, .tup ps]) := by
  obtain ⟨m, rfl⟩ : ∃ m, w = wM m := by
    rcases hw with rfl | rfl
    · exact ⟨false, rfl⟩
    · exact ⟨true, rfl⟩
  match ps, h2, h3 with
  | [a, b], _, _ =>
    obtain ⟨f, rfl, f1, f2⟩ := h a (by simp)
    obtain ⟨g, rfl, g1, g2⟩ := h b (by simp)
    exact ⟨.m2 m f g, rfl, ⟨f1, g1⟩, by simp only [Fo.h]; omega⟩
  | [a, b, c], _, _ =>
    obtain ⟨f, rfl, f1, f2⟩ := h a (by simp)
    obtain ⟨g, rfl, g1, g2⟩ := h b (by simp)
    obtain ⟨q, rfl, q1, q2⟩ := h c (by simp)
    exact ⟨.m3 m f g q, rfl, ⟨f1, g1, q1⟩, by simp only [Fo.h]; omega⟩
theorem z_pow {d : Nat} {a : D} {v : Int} (h : Zf d a) (hv : 0 ≤ v) : Zf (d + 1) (.tup [.str "pow", a, .int v]) := by
  obtain ⟨f, rfl, f1, f2⟩ := h
  exact ⟨.pow f v, rfl, ⟨f1, hv⟩, by simp only [Fo.h]; omega⟩
theorem z_div {d : Nat} {a b : D} (h : Zf d a) (h' : Zf d b) : Zf (d + 1) (.tup [.str "div", a, b]) := by
  obtain ⟨f, rfl, f1, f2⟩ := h
  obtain ⟨g, rfl, g1, g2⟩ := h'
  exact ⟨.div f g, rfl, ⟨f1, g1⟩, by simp only [Fo.h]; omega⟩
theorem z_one {d : Nat} {w : Str} {a : D} (hw : w = "abs" ∨ w = "root") (h : Zf d a) : Zf (d + 1) (.tup [.str w, a]) := by
  obtain ⟨f, rfl, f1, f2⟩ := h
  rcases hw with rfl | rfl
  · exact ⟨.one false f, rfl, f1, by simp only [Fo.h]; omega⟩
  · exact ⟨.one true f, rfl, f1, by simp only [Fo.h]; omega⟩
def wordsL : List D := [.str "add", .str "mul", .str "pow", .str "div", .str "abs", .str "root"]
def B : Nat → Nat
  | 0 => 4
  | d + 1 => 3 + 3 * B d
theorem B_pos : ∀ d, 4 ≤ B d
  | 0 => Nat.le_refl _
  | d + 1 => by
    have := B_pos d
    simp only [B]
    omega
def leafB : Ss := .cons (.asg (.name 4) (.call 11 (.cons (.var 0) (.cons (.var 1) (.cons (.cst (.int 3)) .nil))) .nil)) (.cons (.ite (.cmp .Eq (.var 4) (.cst (.int 0))) (.cons (.ret (.tup (.cons (.cst (.str "num")) (.cons (.call 12 (.cons (.var 0) (.cons (.var 1) (.cons (.cst (.int 4)) .nil))) .nil) .nil)))) .nil) .nil) (.cons (.ret (.tup (.cons (.cst (.str "name")) (.cons (.ix (.cst (.str "xy")) (.bin .Sub (.var 4) (.cst (.int 1)))) .nil)))) .nil))
theorem leaf_ev {d : D} (hk : 2 ≤ k) (h : rm (n + 3) t) : ∃ f r' t', evSs (gam p ns k) (csOf cst) leafB [.val (.scr sc), .val .tok, .val d, .val (.lst wordsL), .un, .un, .un, .un, .un] t = .ok (.ret f, r') t' ∧ (∀ d, Zf d f) ∧ rm n t' := by
  obtain ⟨v, t1, e1, a1, b1, h1⟩ := e_draw (ns := ns) (sc := sc) (show 1 ≤ k by omega) 3 (by omega) (by omega) (show rm (n + 2 + 1) t from h)
  have hv : v = 0 ∨ v = 1 ∨ v = 2 := by omega
  rcases hv with rfl | rfl | rfl
  · obtain ⟨x, y, t2, e2, f2, h2⟩ := e_a_frac (ns := ns) (sc := sc) hk 4 (by omega) h1
    exact ⟨_, _, t2, by simp [leafB, e1, e2]; rfl, fun d => z_num f2.isFr, h2⟩
  · have ex : ixD (.str "xy") (.int 0) = some (.str "x") := by kernel_rfl
    exact ⟨_, _, t1, by simp only [leafB, x_evSs_cons, x_consE, x_evS_asg]; simp [e1, ex, -x_ixs]; rfl, fun d => z_name (.inl rfl), h1.le (by omega)⟩
  · have ex : ixD (.str "xy") (.int 1) = some (.str "y") := by kernel_rfl
    exact ⟨_, _, t1, by simp only [leafB, x_evSs_cons, x_consE, x_evS_asg]; simp [e1, ex, -x_ixs]; rfl, fun d => z_name (.inr rfl), h1.le (by omega)⟩
def restB : Ss := .cons (.asg (.name 5) (.ix (.var 3) (.call 11 (.cons (.var 0) (.cons (.var 1) (.cons (.blt .len (.var 3)) .nil))) .nil))) (.cons (.ite (.cmp .In (.var 5) (.tup (.cons (.cst (.str "add")) (.cons (.cst (.str "mul")) .nil)))) (.cons (.asg (.name 6) (.bin .Add (.cst (.int 2)) (.call 11 (.cons (.var 0) (.cons (.var 1) (.cons (.cst (.int 2)) .nil))) .nil))) (.cons (.ret (.tup (.cons (.var 5) (.cons (.blt .tuple (.comp [("k", 7)] (.call 13 (.cons (.var 0) (.cons (.var 1) (.cons (.bin .Sub (.var 2) (.cst (.int 1))) (.cons (.var 3) .nil)))) .nil) (.name 7) (.rng1 (.var 6)) .none)) .nil)))) .nil)) .nil) (.cons (.asg (.name 8) (.call 13 (.cons (.var 0) (.cons (.var 1) (.cons (.bin .Sub (.var 2) (.cst (.int 1))) (.cons (.var 3) .nil)))) .nil)) (.cons (.ite (.cmp .Eq (.var 5) (.cst (.str "pow"))) (.cons (.ret (.tup (.cons (.cst (.str "pow")) (.cons (.var 8) (.cons (.call 11 (.cons (.var 0) (.cons (.var 1) (.cons (.cst (.int 4)) .nil))) .nil) .nil))))) .nil) .nil) (.cons (.ite (.cmp .Eq (.var 5) (.cst (.str "div"))) (.cons (.ret (.tup (.cons (.cst (.str "div")) (.cons (.var 8) (.cons (.call 13 (.cons (.var 0) (.cons (.var 1) (.cons (.bin .Sub (.var 2) (.cst (.int 1))) (.cons (.var 3) .nil)))) .nil) .nil))))) .nil) .nil) (.cons (.ret (.tup (.cons (.var 5) (.cons (.var 8) .nil)))) .nil)))))
theorem okr2 (z : Nat) (hz : z ≤ 1) : okRng (2 + (z : Int)) = true := by
  have h1 : z = 0 ∨ z = 1 := by omega
  rcases h1 with rfl | rfl <;> decide +kernel
theorem rng_n (z : Nat) : (rngD 0 z).length = z := by simp [rngD]
theorem len6 : (wordsL.length : Int) = 6 := rfl
theorem rest_many {d : Nat} {v : Int} {t1 : Tw} (hk : 1 ≤ k) (ih : ∀ (n : Nat) (t : Tw), rm (n + B d) t → ∃ f t', callF p ns k i__law_a_formula [.scr sc, .tok, .int d, .lst wordsL] t = .ok f t' ∧ Zf d f ∧ rm n t') (e1 : callF p ns k i__law_draw [.scr sc, .tok, .int 6] t = .ok (.int v) t1) (h1 : rm (n + (1 + 3 * B d)) t1) (w : Str) (hw2 : w = "add" ∨ w = "mul") (ea : L2.atI wordsL v = some (.str w)) (ei : inB (.str w) (.tup [.str "add", .str "mul"]) = some true) : ∃ f r' t', evSs (gam p ns k) (csOf cst) restB [.val (.scr sc), .val .tok, .val (.int (d + 1)), .val (.lst wordsL), .un, .un, .un, .un, .un] t = .ok (.ret f, r') t' ∧ Zf (d + 1) f ∧ rm n t' := by
  have hB := B_pos d
  have hw := len6
  obtain ⟨u, t2, e2, a2, b2, h2⟩ := e_draw (ns := ns) (sc := sc) (t := t1) hk 2 (by omega) (by omega) (show rm (n + 3 * B d + 1) t1 from h1.le (by omega))
  obtain ⟨c, hc⟩ : ∃ c, c = 2 + u := ⟨_, rfl⟩
  have okr : okRng c = true := by
    have := okr2 u.toNat (by omega)
    rw [hc]
    have e : ((u.toNat : Nat) : Int) = u := by omega
    rw [e] at this
    exact this
  have hc2 : 2 ≤ c.toNat ∧ c.toNat ≤ 3 := by omega
  have hi : evI (gam p ns k) (csOf cst) (.rng1 (.var 6)) [.val (.scr sc), .val .tok, .val (.int (d + 1)), .val (.lst wordsL), .un, .val (.str w), .val (.int c), .un, .un] t2 = .ok (rngD 0 c.toNat) t2 := by simp [okr]
  have tn : ∀ x : D, ∀ (q : Nat) (t : Tw), rm (n + (q + 1) * B d) t → ∃ y t', turnE (.name 7) (([("k", 7)] : List (Str × Nat)).map (·.2)) (evO (gam p ns k) (csOf cst) .none) (ev (gam p ns k) (csOf cst) (.call 13 (.cons (.var 0) (.cons (.var 1) (.cons (.bin .Sub (.var 2) (.cst (.int 1))) (.cons (.var 3) .nil)))) .nil)) [.val (.scr sc), .val .tok, .val (.int (d + 1)), .val (.lst wordsL), .un, .val (.str w), .val (.int c), .un, .un] x t = .ok (some y) t' ∧ Zf d y ∧ rm (n + q * B d) t' := by
    intro x q t hq
    obtain ⟨f, t', e, zf, h'⟩ := ih (n + q * B d) t (by
      have : (q + 1) * B d = q * B d + B d := Nat.succ_mul ..
      rw [this] at hq
      exact hq.le (by omega))
    exact ⟨f, t', by simp [e], zf, h'⟩
  have h0 : rm (n + (0 + (rngD 0 c.toNat).length) * B d) t2 := by
    rw [rng_n, Nat.zero_add]
    refine h2.le ?_
    have : c.toNat * B d ≤ 3 * B d := Nat.mul_le_mul_right _ hc2.2
    omega
  obtain ⟨ys, t3, e3, l3, z3, h3⟩ := comp_inv (n := 0) (own := [("k", 7)]) (fun m t => rm (n + m * B d) t) (Zf d) hi (by rw [rng_n]; exact okS (by omega)) h0 (fun x m q t hq => tn x q t hq)
  have h3' : rm n t3 := by
    have : n + 0 * B d = n := by omega
    rw [this] at h3
    exact h3
  refine ⟨.tup [.str w, .tup ys], [.val (.scr sc), .val .tok, .val (.int (d + 1)), .val (.lst wordsL), .un, .val (.str w), .val (.int c), .un, .un], t3, ?_, z_many hw2 z3 (by rw [l3, rng_n]; omega) (by rw [l3, rng_n]; omega), h3'⟩
  generalize hr : ([.val (.scr sc), .val .tok, .val (.int (d + 1)), .val (.lst wordsL), .un, .val (.str w), .val (.int c), .un, .un] : Rho) = r at e3 ⊢
  have s3 : evS (gam p ns k) (csOf cst) (.ret (.tup (.cons (.var 5) (.cons (.blt .tuple (.comp [("k", 7)] (.call 13 (.cons (.var 0) (.cons (.var 1) (.cons (.bin .Sub (.var 2) (.cst (.int 1))) (.cons (.var 3) .nil)))) .nil) (.name 7) (.rng1 (.var 6)) .none)) .nil)))) r t2 = .ok (.ret (.tup [.str w, .tup ys]), r) t3 := by
    have v5 : ev (gam p ns k) (csOf cst) (.var 5) r t2 = .ok (.str w) t2 := by rw [← hr]; simp
    have v6 := e3
    rw [evS_ret]
    simp only [x_ev_tup, x_evs_cons, x_evs_nil, v5, x_ev_blt, v6, Res.bind_ok, x_tup1, lift_some]
    rfl
  unfold restB
  rw [seq_nx (r1 := [.val (.scr sc), .val .tok, .val (.int (d + 1)), .val (.lst wordsL), .un, .val (.str w), .un, .un, .un]) (t1 := t1) (by simp [hw, e1, ea])]
  refine seq_ret ?_
  have s1 : evS (gam p ns k) (csOf cst) (.asg (.name 6) (.bin .Add (.cst (.int 2)) (.call 11 (.cons (.var 0) (.cons (.var 1) (.cons (.cst (.int 2)) .nil))) .nil))) [.val (.scr sc), .val .tok, .val (.int (d + 1)), .val (.lst wordsL), .un, .val (.str w), .un, .un, .un] t1 = .ok (.nx, r) t2 := by
    rw [← hr, hc]
    simp [e2]
  rw [evS_ite, iteS]
  simp only [x_ev_cmp, x_ev_var, x_ev_tup, x_evs_cons, x_evs_nil, x_ev_cst]
  simp [ei, -x_evSs_cons]
  rw [seq_nx s1]
  exact seq_ret s3
theorem rest_pow {d : Nat} {v : Int} {t1 : Tw} (hk : 1 ≤ k) (ih : ∀ (n : Nat) (t : Tw), rm (n + B d) t → ∃ f t', callF p ns k i__law_a_formula [.scr sc, .tok, .int d, .lst wordsL] t = .ok f t' ∧ Zf d f ∧ rm n t') (e1 : callF p ns k i__law_draw [.scr sc, .tok, .int 6] t = .ok (.int v) t1) (h1 : rm (n + (1 + 3 * B d)) t1) (ea : L2.atI wordsL v = some (.str "pow")) : ∃ f r' t', evSs (gam p ns k) (csOf cst) restB [.val (.scr sc), .val .tok, .val (.int (d + 1)), .val (.lst wordsL), .un, .un, .un, .un, .un] t = .ok (.ret f, r') t' ∧ Zf (d + 1) f ∧ rm n t' := by
  have hB := B_pos d
  have hw := len6
  have ei : inB (.str "pow") (.tup [.str "add", .str "mul"]) = some false := by kernel_rfl
  have ep : eqOp (.str "pow") (.str "pow") = some (.bl true) := by kernel_rfl
  obtain ⟨f, t2, e2, z2, h2⟩ := ih (n + 2 * B d) t1 (h1.le (by omega))
  obtain ⟨u, t3, e3, a3, b3, h3⟩ := e_draw (ns := ns) (sc := sc) (t := t2) hk 4 (by omega) (by omega) (show rm (n + 2 * B d - 1 + 1) t2 from h2.le (by omega))
  refine ⟨.tup [.str "pow", f, .int u], [.val (.scr sc), .val .tok, .val (.int (d + 1)), .val (.lst wordsL), .un, .val (.str "pow"), .un, .un, .val f], t3, ?_, z_pow z2 a3, h3.le (by omega)⟩
  simp [restB, hw, e1, ea, ei, e2, ep, e3]
theorem rest_div {d : Nat} {v : Int} {t1 : Tw} (hk : 1 ≤ k) (ih : ∀ (n : Nat) (t : Tw), rm (n + B d) t → ∃ f t', callF p ns k i__law_a_formula [.scr sc, .tok, .int d, .lst wordsL] t = .ok f t' ∧ Zf d f ∧ rm n t') (e1 : callF p ns k i__law_draw [.scr sc, .tok, .int 6] t = .ok (.int v) t1) (h1 : rm (n + (1 + 3 * B d)) t1) (ea : L2.atI wordsL v = some (.str "div")) : ∃ f r' t', evSs (gam p ns k) (csOf cst) restB [.val (.scr sc), .val .tok, .val (.int (d + 1)), .val (.lst wordsL), .un, .un, .un, .un, .un] t = .ok (.ret f, r') t' ∧ Zf (d + 1) f ∧ rm n t' := by
  have hB := B_pos d
  have hw := len6
  have ei : inB (.str "div") (.tup [.str "add", .str "mul"]) = some false := by kernel_rfl
  have ep : eqOp (.str "div") (.str "pow") = some (.bl false) := by kernel_rfl
  have eq : eqOp (.str "div") (.str "div") = some (.bl true) := by kernel_rfl
  obtain ⟨f, t2, e2, z2, h2⟩ := ih (n + 2 * B d) t1 (h1.le (by omega))
  obtain ⟨g, t3, e3, z3, h3⟩ := ih (n + B d) t2 (h2.le (by omega))
  refine ⟨.tup [.str "div", f, g], [.val (.scr sc), .val .tok, .val (.int (d + 1)), .val (.lst wordsL), .un, .val (.str "div"), .un, .un, .val f], t3, ?_, z_div z2 z3, h3.le (by omega)⟩
  simp [restB, hw, e1, ea, ei, e2, ep, eq, e3]
theorem rest_one {d : Nat} {v : Int} {t1 : Tw} (hk : 1 ≤ k) (ih : ∀ (n : Nat) (t : Tw), rm (n + B d) t → ∃ f t', callF p ns k i__law_a_formula [.scr sc, .tok, .int d, .lst wordsL] t = .ok f t' ∧ Zf d f ∧ rm n t') (e1 : callF p ns k i__law_draw [.scr sc, .tok, .int 6] t = .ok (.int v) t1) (h1 : rm (n + (1 + 3 * B d)) t1) (w : Str) (hw2 : w = "abs" ∨ w = "root") (ea : L2.atI wordsL v = some (.str w)) (ei : inB (.str w) (.tup [.str "add", .str "mul"]) = some false) (ep : eqOp (.str w) (.str "pow") = some (.bl false)) (eq : eqOp (.str w) (.str "div") = some (.bl false)) : ∃ f r' t', evSs (gam p ns k) (csOf cst) restB [.val (.scr sc), .val .tok, .val (.int (d + 1)), .val (.lst wordsL), .un, .un, .un, .un, .un] t = .ok (.ret f, r') t' ∧ Zf (d + 1) f ∧ rm n t' := by
  have hB := B_pos d
  have hw := len6
  obtain ⟨f, t2, e2, z2, h2⟩ := ih (n + 2 * B d) t1 (h1.le (by omega))
  refine ⟨.tup [.str w, f], [.val (.scr sc), .val .tok, .val (.int (d + 1)), .val (.lst wordsL), .un, .val (.str w), .un, .un, .val f], t2, ?_, z_one hw2 z2, h2.le (by omega)⟩
  simp [restB, hw, e1, ea, ei, e2, ep, eq]
theorem rest_ev {d : Nat} (hk : 1 ≤ k) (ih : ∀ (n : Nat) (t : Tw), rm (n + B d) t → ∃ f t', callF p ns k i__law_a_formula [.scr sc, .tok, .int d, .lst wordsL] t = .ok f t' ∧ Zf d f ∧ rm n t') (h : rm (n + (2 + 3 * B d)) t) : ∃ f r' t', evSs (gam p ns k) (csOf cst) restB [.val (.scr sc), .val .tok, .val (.int (d + 1)), .val (.lst wordsL), .un, .un, .un, .un, .un] t = .ok (.ret f, r') t' ∧ Zf (d + 1) f ∧ rm n t' := by
  obtain ⟨v, t1, e1, a1, b1, h1⟩ := e_draw (ns := ns) (sc := sc) hk 6 (by omega) (by omega) (show rm (n + (1 + 3 * B d) + 1) t from h.le (by omega))
  have hv : v = 0 ∨ v = 1 ∨ v = 2 ∨ v = 3 ∨ v = 4 ∨ v = 5 := by omega
  rcases hv with rfl | rfl | rfl | rfl | rfl | rfl
  · exact rest_many hk ih e1 h1 "add" (.inl rfl) rfl (by kernel_rfl)
  · exact rest_many hk ih e1 h1 "mul" (.inr rfl) rfl (by kernel_rfl)
  · exact rest_pow hk ih e1 h1 rfl
  · exact rest_div hk ih e1 h1 rfl
  · exact rest_one hk ih e1 h1 "abs" (.inl rfl) rfl (by kernel_rfl) (by kernel_rfl) (by kernel_rfl)
  · exact rest_one hk ih e1 h1 "root" (.inr rfl) rfl (by kernel_rfl) (by kernel_rfl) (by kernel_rfl)
theorem e_formula : ∀ (d k n : Nat) (t : Tw), d + 4 ≤ k → rm (n + B d) t → ∃ f t', callF p ns k i__law_a_formula [.scr sc, .tok, .int d, .lst wordsL] t = .ok f t' ∧ Zf d f ∧ rm n t' := by
  intro d
  induction d with
  | zero =>
    intro k n t hk h
    obtain ⟨k, rfl⟩ := up1 (show 1 ≤ k by omega)
    obtain ⟨f, r', t', e, z, h'⟩ := leaf_ev (ns := ns) (sc := sc) (d := .int 0) (show 2 ≤ k by omega) (h.le (show n + 3 ≤ n + B 0 by simp [B]))
    refine ⟨f, t', ?_, z 0, h'⟩
    rw [u__law_a_formula]
    have hb : b__law_a_formula = .cons (.ite (.or (.cmp .Eq (.var 2) (.cst (.int 0))) (.cmp .Eq (.call 11 (.cons (.var 0) (.cons (.var 1) (.cons (.cst (.int 5)) .nil))) .nil) (.cst (.int 0)))) leafB .nil) restB := rfl
    simp only [hb, x_startR, x_evSs_cons, x_consE, x_evS_ite, x_iteS]
    simp [e]
  | succ d ih =>
    intro k n t hk h
    obtain ⟨k, rfl⟩ := up1 (show 1 ≤ k by omega)
    have hB := B_pos d
    obtain ⟨v, t1, e1, a1, b1, h1⟩ := e_draw (ns := ns) (sc := sc) (show 1 ≤ k by omega) 5 (by omega) (by omega) (show rm (n + (2 + 3 * B d) + 1) t from h.le (by simp only [B]; omega))
    have hd : ¬ (((d : Int) + 1) = 0) := by omega
    by_cases hv : v = 0
    · subst hv
      obtain ⟨f, r', t', e, z, h'⟩ := leaf_ev (ns := ns) (sc := sc) (t := t1) (d := .int (d + 1)) (show 2 ≤ k by omega) (h1.le (show n + 3 ≤ _ by omega))
      refine ⟨f, t', ?_, z _, h'⟩
      rw [u__law_a_formula]
      have hb : b__law_a_formula = .cons (.ite (.or (.cmp .Eq (.var 2) (.cst (.int 0))) (.cmp .Eq (.call 11 (.cons (.var 0) (.cons (.var 1) (.cons (.cst (.int 5)) .nil))) .nil) (.cst (.int 0)))) leafB .nil) restB := rfl
      simp only [hb, x_startR, x_evSs_cons, x_consE, x_evS_ite, x_iteS]
      simp [hd, e1, e]
    · have hv' : (v == 0) = false := by simpa using hv
      obtain ⟨f, r', t', e, z, h'⟩ := rest_ev (ns := ns) (sc := sc) (t := t1) (k := k) (show 1 ≤ k by omega) (fun n t => ih k n t (by omega)) h1
      refine ⟨f, t', ?_, z, h'⟩
      rw [u__law_a_formula]
      have hb : b__law_a_formula = .cons (.ite (.or (.cmp .Eq (.var 2) (.cst (.int 0))) (.cmp .Eq (.call 11 (.cons (.var 0) (.cons (.var 1) (.cons (.cst (.int 5)) .nil))) .nil) (.cst (.int 0)))) leafB .nil) restB := rfl
      simp only [hb, x_startR, x_evSs_cons, x_consE, x_evS_ite, x_iteS]
      simp [hd, e1, hv', hv, e]
end
end Lw

namespace Lw
open PySem Fm
section
variable {ns : List Int} {t : Tw} {n : Nat}
abbrev R22 (ns : List Int) (b2 b3 b4 b5 b6 b7 b8 b9 b10 b11 b12 b13 : Sl) : Rho := [.val (.scr ns), .val .tok, b2, b3, b4, b5, b6, b7, b8, b9, b10, b11, b12, b13]
theorem cut_to (q : List Int) (v : Nat) : cutL (q.map D.int) none (some (v : Int)) = (q.take v).map D.int := by
  unfold cutL
  rw [HT.sIx_nat, HT.sIx_none, List.drop_zero, Nat.sub_zero, ← List.map_take, List.length_map]
  by_cases h : v ≤ q.length
  · rw [Nat.min_eq_left h]
  · rw [Nat.min_eq_right (by omega), List.take_of_length_le (Nat.le_refl _), List.take_of_length_le (by omega)]
theorem ne_cut (q r : List Int) : neOp (.tup (cutL (q.map D.int) none (some ((r.length : Nat) : Int)))) (pd r) = some (.bl (!decide (q.take r.length = r))) := by
  rw [cut_to]
  exact ne_pd _ _
theorem t3_ev {one two g m : Fo} {q q' : List Int} {b2 b3 b5 b6 b7 b9 b10 b13 : Sl} (h1 : Fo.at? q one = some g) (h2 : Fo.at? q' (Fo.put q one two) = some m) (hm : m.ok) (hh : m.h ≤ 90) :
    evSs (gam p ns 60) (csOf cst) b_law_3 (R22 ns b2 b3 (.val one.d) b5 b6 b7 (.val (pd q)) b9 b10 (.val (pd q')) (.val m.d) b13) t = .ok (.nx, R22 ns b2 b3 (.val one.d) b5 b6 b7 (.val (pd q)) b9 b10 (.val (pd q')) (.val m.d) b13) t := by
  have n1 := ne_cut q' q
  have n2 := ne_cut q q'
  by_cases c1 : q'.take q.length = q
  · simp [b_law_3, n1, c1]
  · by_cases c2 : q.take q'.length = q'
    · simp [b_law_3, n1, n2, c1, c2]
    · have e := e_part_at (ns := ns) (t := t) (k := 60) (by omega) (at_other h1 h2 c1 c2)
      have n3 := neF hm hh
      simp [b_law_3, n1, n2, c1, c2, e, n3]
theorem t2_ev {one two g : Fo} {q : List Int} {b2 b3 b6 b7 b10 b11 b12 b13 : Sl} (h1 : Fo.at? q one = some g) (o1 : one.ok) (o2 : two.ok) (l1 : one.h ≤ 3) (l2 : two.h ≤ 1) :
    ∃ a10 a11 a12, evSs (gam p ns 60) (csOf cst) b_law_2 (R22 ns b2 b3 (.val one.d) (.val two.d) b6 b7 (.val (pd q)) (.val g.d) b10 b11 b12 b13) t = .ok (.nx, R22 ns b2 b3 (.val one.d) (.val two.d) b6 b7 (.val (pd q)) (.val g.d) a10 a11 a12 b13) t := by
  have lq := at_len h1
  obtain ⟨og, lg⟩ := at_ok h1 o1
  have of_ := put_ok h1 o1 o2
  have lf := put_h (o := two) h1
  have e1 := e_with_part (ns := ns) (t := t) 60 q one g two (by omega) h1
  have e2 := e_part_at (ns := ns) (t := t) (k := 60) (by omega) h1
  have e3 := e_part_at (ns := ns) (t := t) (k := 60) (by omega) (at_put (o := two) h1)
  have e4 := e_is_formula (ns := ns) (t := t) (Fo.put q one two) 60 of_ (by omega)
  have e5 := e_parts (ns := ns) (t := t) 8 (Fo.put q one two) 60 (by omega) (by omega) (by omega)
  have e6 := e_with_part (ns := ns) (t := t) 60 q (Fo.put q one two) two g (by omega) (at_put h1)
  rw [put_put h1] at e6
  have n1 := neF og (by omega)
  have n2 := neF o2 (by omega)
  have n3 := neF o1 (by omega)
  obtain ⟨r', t', el, ⟨a11, a12, rfl⟩, ht⟩ := loopF_inv (f := fun d r t => match setT (.tup (.cons (.name 11) (.cons (.name 12) .nil))) d r with
    | some r1 => evSs (gam p ns 60) (csOf cst) b_law_3 r1 t
    | none => .bad) (I := fun r t' => (∃ a11 a12, r = R22 ns b2 b3 (.val one.d) (.val two.d) b6 b7 (.val (pd q)) (.val g.d) (.val (Fo.put q one two).d) a11 a12 b13) ∧ t' = t) ((Fo.put q one two).all.map pr) (R22 ns b2 b3 (.val one.d) (.val two.d) b6 b7 (.val (pd q)) (.val g.d) (.val (Fo.put q one two).d) b11 b12 b13) t ⟨⟨_, _, rfl⟩, rfl⟩ (by
      intro d hd r t' ⟨⟨a11, a12, hr⟩, ht⟩
      subst hr ht
      obtain ⟨⟨q', m⟩, hq, rfl⟩ := List.mem_map.mp hd
      have h2 := mem_all.mp hq
      obtain ⟨om, lm⟩ := at_ok h2 of_
      exact ⟨_, _, t3_ev h1 h2 om (show m.h ≤ 90 by omega), ⟨_, _, rfl⟩, rfl⟩)
  rw [ht] at el
  refine ⟨.val (Fo.put q one two).d, a11, a12, ?_⟩
  unfold b_law_2
  rw [seq_nx (r1 := R22 ns b2 b3 (.val one.d) (.val two.d) b6 b7 (.val (pd q)) (.val g.d) (.val (Fo.put q one two).d) b11 b12 b13) (t1 := t) (by simp [e1])]
  rw [seq_nx (r1 := R22 ns b2 b3 (.val one.d) (.val two.d) b6 b7 (.val (pd q)) (.val g.d) (.val (Fo.put q one two).d) b11 b12 b13) (t1 := t) (by simp [e2, e3, e4, n1, n2])]
  rw [seq_nx (by rw [for_ev (xs := (Fo.put q one two).all.map pr) (t1 := t) (by simp [e5])]; exact el)]
  simp [e6, n3]
theorem in_paths (r : List Int) (ps : List (List Int)) : inB (pd r) (.lst (ps.map pd)) = some (decide (r ∈ ps)) := by
  have h1 : (ps.map pd).all lay = true := by
    rw [List.all_map]
    exact List.all_eq_true.mpr fun q _ => lay_pd' q
  have h2 : dep (pd r) ≤ 190 := Nat.le_trans (dep_pd r) (by decide)
  simp only [inB, lay_pd', h1, h2, decide_true, Bool.and_self, if_true, List.any_map, Function.comp_def, eqD_pd]
  congr 1
  rw [Bool.eq_iff_iff]
  simp
theorem np_self : neOp (.tup [.str "no path"]) (.tup [.str "no path"]) = some (.bl false) := by kernel_rfl
theorem t4_gen {one two : Fo} {q : List Int} {s : Int} {pl : D} {b2 b3 b6 b9 b10 b11 b12 : Sl} {b : Bool} (lq : q.length ≤ 100) (i1 : inB (.tup (q.map D.int ++ [.int s])) pl = some b) (h : b = false → Fo.at? (q ++ [s]) one = none) :
    evSs (gam p ns 60) (csOf cst) b_law_4 (R22 ns b2 b3 (.val one.d) (.val two.d) b6 (.val pl) (.val (pd q)) b9 b10 b11 b12 (.val (.int s))) t = .ok (.nx, R22 ns b2 b3 (.val one.d) (.val two.d) b6 (.val pl) (.val (pd q)) b9 b10 b11 b12 (.val (.int s))) t := by
  have ok1 : okLen (q.length + 1) = true := okS (by omega)
  have ok2 : okLen 1 = true := okS
  cases b with
  | true => simp [b_law_4, ok1, ok2, i1]
  | false =>
    have h := h rfl
    have ea : pd (q ++ [s]) = .tup (q.map D.int ++ [.int s]) := by simp
    have e1 := e_part_no (ns := ns) (t := t) (k := 58) (by omega) h
    have e2 := e_with_no (ns := ns) (t := t) (k := 58) (by omega) two.d h
    rw [ea] at e1 e2
    have hn : neOp (.tup [.str (hWord 5)]) (.tup [.str "no path"]) = some (.bl false) := np_self
    have hr : heardR (.exc 5 t) = .ok (.tup [.str (hWord 5)]) t := rfl
    simp [b_law_4, ok1, ok2, i1, valsR, e1, e2, hr, hn]
theorem t4_ev {one two g : Fo} {q : List Int} {s : Int} {b2 b3 b6 b9 b10 b11 b12 : Sl} (h1 : Fo.at? q one = some g) (l1 : one.h ≤ 3) :
    evSs (gam p ns 60) (csOf cst) b_law_4 (R22 ns b2 b3 (.val one.d) (.val two.d) b6 (.val (.lst ((one.all.map (·.1)).map pd))) (.val (pd q)) b9 b10 b11 b12 (.val (.int s))) t = .ok (.nx, R22 ns b2 b3 (.val one.d) (.val two.d) b6 (.val (.lst ((one.all.map (·.1)).map pd))) (.val (pd q)) b9 b10 b11 b12 (.val (.int s))) t := by
  have lq := at_len h1
  have i1 := in_paths (q ++ [s]) (one.all.map (·.1))
  rw [show pd (q ++ [s]) = .tup (q.map D.int ++ [.int s]) by simp] at i1
  refine t4_gen (by omega) i1 fun z => ?_
  have z := of_decide_eq_false z
  cases h : Fo.at? (q ++ [s]) one with
  | none => rfl
  | some m => exact absurd (List.mem_map.mpr ⟨(q ++ [s], m), mem_all.mpr h, rfl⟩) z
theorem step_loop {one two g : Fo} {q : List Int} {b2 b3 b6 b9 b10 b11 b12 b13 : Sl} (h1 : Fo.at? q one = some g) (l1 : one.h ≤ 3) :
    ∃ a13, evS (gam p ns 60) (csOf cst) (.for (.name 13) (.val (.tup (.cons (.cst (.int 0)) (.cons (.cst (.int 1)) (.cons (.cst (.int 2)) (.cons (.cst (.int 3)) (.cons (.neg (.cst (.int 1))) .nil))))))) b_law_4) (R22 ns b2 b3 (.val one.d) (.val two.d) b6 (.val (.lst ((one.all.map (·.1)).map pd))) (.val (pd q)) b9 b10 b11 b12 b13) t = .ok (.nx, R22 ns b2 b3 (.val one.d) (.val two.d) b6 (.val (.lst ((one.all.map (·.1)).map pd))) (.val (pd q)) b9 b10 b11 b12 a13) t := by
  rw [for_ev (xs := [.int 0, .int 1, .int 2, .int 3, .int (-1)]) (t1 := t) (by simp [okLen])]
  obtain ⟨r', t', el, ⟨a13, rfl⟩, ht⟩ := loopF_inv (f := fun d r t => match setT (.name 13) d r with
    | some r1 => evSs (gam p ns 60) (csOf cst) b_law_4 r1 t
    | none => .bad) (I := fun r t' => (∃ a13, r = R22 ns b2 b3 (.val one.d) (.val two.d) b6 (.val (.lst ((one.all.map (·.1)).map pd))) (.val (pd q)) b9 b10 b11 b12 a13) ∧ t' = t) [.int 0, .int 1, .int 2, .int 3, .int (-1)] (R22 ns b2 b3 (.val one.d) (.val two.d) b6 (.val (.lst ((one.all.map (·.1)).map pd))) (.val (pd q)) b9 b10 b11 b12 b13) t ⟨⟨_, rfl⟩, rfl⟩ (by
      intro d hd r t' ⟨⟨a13, hr⟩, ht⟩
      subst hr ht
      obtain ⟨s, rfl⟩ : ∃ s, d = .int s := by
        simp only [List.mem_cons, List.not_mem_nil, or_false] at hd
        rcases hd with rfl | rfl | rfl | rfl | rfl <;> exact ⟨_, rfl⟩
      exact ⟨_, _, t4_ev h1 l1, ⟨_, rfl⟩, rfl⟩)
  rw [ht] at el
  exact ⟨a13, el⟩
theorem part_loop {one two : Fo} {b2 b3 b7 b8 b9 b10 b11 b12 b13 : Sl} (o1 : one.ok) (o2 : two.ok) (l1 : one.h ≤ 3) (l2 : two.h ≤ 1) :
    ∃ a8 a9 a10 a11 a12, evS (gam p ns 60) (csOf cst) (.for (.tup (.cons (.name 8) (.cons (.name 9) .nil))) (.val (.var 6)) b_law_2) (R22 ns b2 b3 (.val one.d) (.val two.d) (.val (.lst (one.all.map pr))) b7 b8 b9 b10 b11 b12 b13) t = .ok (.nx, R22 ns b2 b3 (.val one.d) (.val two.d) (.val (.lst (one.all.map pr))) b7 a8 a9 a10 a11 a12 b13) t := by
  rw [for_ev (xs := one.all.map pr) (t1 := t) (by simp)]
  obtain ⟨r', t', el, ⟨a8, a9, a10, a11, a12, rfl⟩, ht⟩ := loopF_inv (f := fun d r t => match setT (.tup (.cons (.name 8) (.cons (.name 9) .nil))) d r with
    | some r1 => evSs (gam p ns 60) (csOf cst) b_law_2 r1 t
    | none => .bad) (I := fun r t' => (∃ a8 a9 a10 a11 a12, r = R22 ns b2 b3 (.val one.d) (.val two.d) (.val (.lst (one.all.map pr))) b7 a8 a9 a10 a11 a12 b13) ∧ t' = t) (one.all.map pr) (R22 ns b2 b3 (.val one.d) (.val two.d) (.val (.lst (one.all.map pr))) b7 b8 b9 b10 b11 b12 b13) t ⟨⟨_, _, _, _, _, rfl⟩, rfl⟩ (by
      intro d hd r t' ⟨⟨a8, a9, a10, a11, a12, hr⟩, ht⟩
      subst hr ht
      obtain ⟨⟨q, g⟩, hq, rfl⟩ := List.mem_map.mp hd
      obtain ⟨c10, c11, c12, e⟩ := t2_ev (ns := ns) (t := t') (b2 := b2) (b3 := b3) (b6 := .val (.lst (one.all.map pr))) (b7 := b7) (b10 := a10) (b11 := a11) (b12 := a12) (b13 := b13) (mem_all.mp hq) o1 o2 l1 l2
      exact ⟨_, _, e, ⟨_, _, _, _, _, rfl⟩, rfl⟩)
  rw [ht] at el
  exact ⟨a8, a9, a10, a11, a12, el⟩
theorem t1_ev {b2 b3 b4 b5 b6 b7 b8 b9 b10 b11 b12 b13 : Sl} (h : rm (n + 200) t) : ∃ a3 a4 a5 a6 a7 a8 a9 a10 a11 a12 a13 t', evSs (gam p ns 60) (csOf cst) b_law_1 (R22 ns b2 b3 b4 b5 b6 b7 b8 b9 b10 b11 b12 b13) t = .ok (.nx, R22 ns b2 a3 a4 a5 a6 a7 a8 a9 a10 a11 a12 a13) t' ∧ rm n t' := by
  obtain ⟨d1, t1, e1, ⟨one, rfl, o1, l1⟩, h1⟩ := e_formula (ns := ns) (sc := ns) 3 60 (n + 30) t (by omega) (h.le (by show n + 30 + 147 ≤ n + 200; omega))
  obtain ⟨d2, t2, e2, ⟨two, rfl, o2, l2⟩, h2⟩ := e_formula (ns := ns) (sc := ns) 1 60 (n + 1) t1 (by omega) (h1.le (by show n + 1 + 15 ≤ n + 30; omega))
  have e1 : callF p ns 60 i__law_a_formula [.scr ns, .tok, .int 3, .lst [.str "add", .str "mul", .str "pow", .str "div", .str "abs", .str "root"]] t = .ok one.d t1 := e1
  have e2 : callF p ns 60 i__law_a_formula [.scr ns, .tok, .int 1, .lst [.str "add", .str "mul", .str "pow", .str "div", .str "abs", .str "root"]] t1 = .ok two.d t2 := e2
  have e3 := e_parts (ns := ns) (t := t2) 8 one 60 (by omega) (by omega) (by omega)
  have al := all_len one
  have al2 : one.all.length ≤ 256 := Nat.le_trans al (Nat.le_trans (Nat.pow_le_pow_right (by decide) (show one.h + 1 ≤ 4 by omega)) (by decide))
  have al1 : 1 ≤ one.all.length := by rw [all_eq]; simp
  obtain ⟨v, t3, e4, v1, v2, h3⟩ := e_draw (ns := ns) (sc := ns) (k := 60) (n := n) (t := t2) (by omega) (one.all.length : Int) (by omega) (by omega) h2
  obtain ⟨q, hq, ev_⟩ : ∃ q, q ∈ one.all ∧ L2.atI ((one.all.map (·.1)).map pd) v = some (pd q.1) := by
    refine ⟨one.all[v.toNat]'(by omega), List.getElem_mem _, ?_⟩
    unfold L2.atI L2.ixN
    rw [if_pos v1, if_pos (by simp; omega)]
    show ((one.all.map (·.1)).map pd)[v.toNat]? = _
    rw [List.getElem?_map, List.getElem?_map, List.getElem?_eq_getElem (by omega)]
    rfl
  have hc := comp_map (G := gam p ns 60) (cs := csOf cst) (own := [("path", 8), ("part", 9)]) (elt := .var 8) (tg := .tup (.cons (.name 8) (.cons (.name 9) .nil))) (it := .val (.var 6)) (cd := .none) (r := R22 ns b2 (.val (.lst [.str "add", .str "mul", .str "pow", .str "div", .str "abs", .str "root"])) (.val one.d) (.val two.d) (.val (.lst (one.all.map pr))) b7 b8 b9 b10 b11 b12 b13) (t := t2) (xs := one.all.map pr) (fun d => match d with
    | .tup [a, _] => a
    | d => d) (by simp) (okS (by rw [List.length_map]; omega)) (fun d m => by
      obtain ⟨q, _, rfl⟩ := List.mem_map.mp m
      simp)
  have hm : (one.all.map pr).map (fun d => match d with
    | .tup [a, _] => a
    | d => d) = (one.all.map (·.1)).map pd := by simp [List.map_map, Function.comp_def]
  rw [hm] at hc
  obtain ⟨a8, a9, a10, a11, a12, e5⟩ := part_loop (ns := ns) (t := t2) (b2 := b2) (b3 := .val (.lst [.str "add", .str "mul", .str "pow", .str "div", .str "abs", .str "root"])) (b7 := .val (.lst ((one.all.map (·.1)).map pd))) (b8 := b8) (b9 := b9) (b10 := b10) (b11 := b11) (b12 := b12) (b13 := b13) o1 o2 l1 l2
  obtain ⟨a13, e6⟩ := step_loop (ns := ns) (t := t3) (two := two) (b2 := b2) (b3 := .val (.lst [.str "add", .str "mul", .str "pow", .str "div", .str "abs", .str "root"])) (b6 := .val (.lst (one.all.map pr))) (b9 := a9) (b10 := a10) (b11 := a11) (b12 := a12) (b13 := b13) (mem_all.mp (show (q.1, q.2) ∈ one.all from hq)) l1
  refine ⟨.val (.lst [.str "add", .str "mul", .str "pow", .str "div", .str "abs", .str "root"]), .val one.d, .val two.d, .val (.lst (one.all.map pr)), .val (.lst ((one.all.map (·.1)).map pd)), .val (pd q.1), a9, a10, a11, a12, a13, t3, ?_, h3⟩
  unfold b_law_1
  rw [seq_nx (r1 := R22 ns b2 (.val (.lst [.str "add", .str "mul", .str "pow", .str "div", .str "abs", .str "root"])) b4 b5 b6 b7 b8 b9 b10 b11 b12 b13) (t1 := t) (by simp [okLen])]
  rw [seq_nx (r1 := R22 ns b2 (.val (.lst [.str "add", .str "mul", .str "pow", .str "div", .str "abs", .str "root"])) (.val one.d) (.val two.d) b6 b7 b8 b9 b10 b11 b12 b13) (t1 := t2) (by simp [e1, e2, okLen])]
  rw [seq_nx (r1 := R22 ns b2 (.val (.lst [.str "add", .str "mul", .str "pow", .str "div", .str "abs", .str "root"])) (.val one.d) (.val two.d) (.val (.lst (one.all.map pr))) b7 b8 b9 b10 b11 b12 b13) (t1 := t2) (by simp [e3])]
  rw [seq_nx (r1 := R22 ns b2 (.val (.lst [.str "add", .str "mul", .str "pow", .str "div", .str "abs", .str "root"])) (.val one.d) (.val two.d) (.val (.lst (one.all.map pr))) (.val (.lst ((one.all.map (·.1)).map pd))) b8 b9 b10 b11 b12 b13) (t1 := t2) (by rw [evS_asg]; simp only [hc, Res.bind_ok]; rfl)]
  rw [seq_nx e5]
  have hlen : (((one.all.map (·.1)).map pd).length : Int) = (one.all.length : Int) := by simp
  rw [seq_nx (r1 := R22 ns b2 (.val (.lst [.str "add", .str "mul", .str "pow", .str "div", .str "abs", .str "root"])) (.val one.d) (.val two.d) (.val (.lst (one.all.map pr))) (.val (.lst ((one.all.map (·.1)).map pd))) (.val (pd q.1)) a9 a10 a11 a12 b13) (t1 := t3) (by
    generalize (one.all.map (·.1)).map pd = L at ev_ hlen ⊢
    simp [hlen, e4, ev_])]
  rw [seq_nx e6]
  simp
theorem hev (ns : List Int) : ∃ r t, evSs (gam p ns 60) (csOf cst) b_law (startL n_law ns) ⟨0, []⟩ = .ok (.ret (.bl true), r) t := by
  obtain ⟨r', t', e, hI⟩ := loopF_ix (I := fun m r t => (∃ b2 b3 b4 b5 b6 b7 b8 b9 b10 b11 b12 b13, r = R22 ns b2 b3 b4 b5 b6 b7 b8 b9 b10 b11 b12 b13) ∧ rm (m * 200) t) (rngD 0 4) (R22 ns .un .un .un .un .un .un .un .un .un .un .un .un) ⟨0, []⟩ 0 ⟨⟨_, _, _, _, _, _, _, _, _, _, _, _, rfl⟩, ⟨Int.le_refl _, Nat.le_refl _⟩, by decide⟩ (f := fun d r t => match setT (.name 2) d r with
    | some r1 => evSs (gam p ns 60) (csOf cst) b_law_1 r1 t
    | none => .bad) (by
      intro d hd m r t ⟨⟨b2, b3, b4, b5, b6, b7, b8, b9, b10, b11, b12, b13, hr⟩, h⟩
      subst hr
      obtain ⟨a3, a4, a5, a6, a7, a8, a9, a10, a11, a12, a13, t', e, h'⟩ := t1_ev (ns := ns) (t := t) (n := m * 200) (b2 := .val d) (b3 := b3) (b4 := b4) (b5 := b5) (b6 := b6) (b7 := b7) (b8 := b8) (b9 := b9) (b10 := b10) (b11 := b11) (b12 := b12) (b13 := b13) (h.le (by omega))
      exact ⟨_, t', e, ⟨_, _, _, _, _, _, _, _, _, _, _, _, rfl⟩, h'⟩)
  have hs : startL n_law ns = R22 ns .un .un .un .un .un .un .un .un .un .un .un .un := rfl
  rw [hs]
  unfold b_law
  have e2 : evS (gam p ns 60) (csOf cst) (.for (.name 2) (.rng1 (.cst (.int 4))) b_law_1) (R22 ns .un .un .un .un .un .un .un .un .un .un .un .un) ⟨0, []⟩ = .ok (.nx, r') t' := by
    rw [for_ev (xs := rngD 0 4) (t1 := ⟨0, []⟩) (by
      have : okRng 4 = true := by decide +kernel
      simp [this])]
    exact e
  rw [seq_nx e2]
  exact ⟨r', t', by simp⟩
end
end Lw
theorem PySem.Challenge.cw_formclear_k22_parts_holds : PySem.Challenge.rw_formclear_k22_parts.Holds := by
  exact Lw.fin 60 (by omega) (by omega) (fun ns _ _ => Lw.hev ns)

